import PyProof.Rows.All
import Wide.All
import OpenK.AllK
import Wide.FinOn
import HandS.ForMost
import HandS.Exc
import PyProof.MinMaxWalk
import HandS.Lambda
import HandS.Flow
import HandS.TupAny
import HandS.TupMul
import HandS.IsInst
import HandS.SortRule
import HandS.NamedTupSort
import HandS.TupSets
import HandS.SetFor
import KE.DataMinMax
import KE.OsSetLaws
import HandS.List
import HandS.Style
import KE.KRevSl
import PyProof.StrOps2
import HandS.RaiseMore
import PyProof.ReprLen
import HandS.Zip
import HandS.Walk
import KE.GoesEnum
import HandS.ExcOwn
import HandS.Defaults
import KE.KExcSuper
import KE.KExcIs
import HandS.TryMany
import KE.DataMinKey
import HandS.SortKw
import HandS.Iter
import KE.LtData
import HandS.Comp
import HandS.EndTab
import KE.KStateDown
import HandS.Words
import HandS.Head0
import HandS.Head1
import HandS.Head2
import HandS.HeadEnd
import HandS.HeadHook1
import HandS.HeadHook2
import HandS.HeadHook4
import Lean
import HandS.WordsExc
import HandS.Codes
import PySem.Challenge.RW_byhalves_k04_each_part_rounded_by_itself
section
set_option Elab.async false
set_option linter.all false
/-! The own domain: data D, heap LH, syntax E S, the evaluator. -/
noncomputable section
namespace Ev
open PySem

inductive D where
  | non | bl (b : Bool) | int (i : Int) | str (x : Str)
  | tup (xs : List D) | lst (xs : List D)
  /-- the script -/
  | scr (xs : List Int)
  /-- a list or instance that is changed: its place in LH -/
  | loc (l : Nat)
  /-- a def as a value -/
  | fn (f : Nat)

inductive O where
  | lst (xs : List D)
  | ins (c : Nat) (fs : List (Nat × D))

abbrev LH := List O
abbrev Env := List (Option D)

inductive R (α : Type) where
  | ok (a : α) (L : LH)
  | exc (c : Nat) (w : D) (L : LH)
  | bad

def R.bind {α β : Type} : R α → (α → LH → R β) → R β
  | .ok a L, f => f a L
  | .exc c w L, _ => .exc c w L
  | .bad, _ => .bad
/-- an exception may not leave -/
def R.nox {α : Type} : R α → R α
  | .ok a L => .ok a L
  | .exc _ _ _ => .bad
  | .bad => .bad
@[simp] theorem R.bind_ok {α β : Type} (a : α) (L : LH) (f : α → LH → R β) : (R.ok a L).bind f = f a L := rfl
@[simp] theorem R.bind_exc {α β : Type} (c w L) (f : α → LH → R β) : (R.exc c w L).bind f = .exc c w L := rfl
@[simp] theorem R.bind_bad {α β : Type} (f : α → LH → R β) : (R.bad).bind f = .bad := rfl
@[simp] theorem R.nox_ok {α : Type} (a : α) (L : LH) : (R.ok a L).nox = .ok a L := rfl

inductive Bo where | add | sub | mul | fdiv | mod | pow
inductive Co where | lt | le | gt | ge | eq | ne | is | isnot | in_ | notin
inductive ItK where | seq | rng | enum | zip
inductive Tg where | nm (i : Nat) | tp (is : List Nat)
inductive Ty where | int | bool | str | tuple | list
  deriving DecidableEq
inductive BI where | len | int | tuple | list | max | min | abs | all | any | sum | repr | sorted | str
  deriving DecidableEq

/-- comparisons besides: [] not in a list of data, a changed list and [], tuples of ints -/
inductive Co2 where | notinD | inD | neL | ltT
  deriving DecidableEq

inductive E where
  | var (i : Nat) | con (d : D)
  | bin (o : Bo) (a b : E) | neg (a : E) | not (a : E)
  | cmp (o : Co) (a b : E) | chain (o o' : Co) (a b c : E)
  | and (a b : E) | or (a b : E) | ife (c a b : E)
  | tup (es : List E) | lst (es : List E) | mlst (es : List E)
  | idx (a b : E) | slice (kl kh : Bool) (a lo hi : E)
  | call (f : Nat) (es : List E)
  | bi (b : BI) (es : List E)
  | isin (a : E) (ts : List Ty)
  /-- mu: the list is changed later -/
  | lc (mu : Bool) (vs : List Nat) (t : Tg) (k : ItK) (es : List E) (cond elt : E)
  /-- .. over a list that is changed elsewhere -/
  | lcl (mu : Bool) (vs : List Nat) (t : Tg) (e cond elt : E)
  | lc2 (mu : Bool) (vs vs1 : List Nat) (t : Tg) (k : ItK) (es : List E) (cond : E) (t1 : Tg) (k1 : ItK) (es1 : List E) (cond1 elt : E)
  | app (o a : E)
  | lam (f : Nat) (body : E)
  | thunk
  /-- the exception's what; isinstance of it: i: its name's slot -/
  | xwhat (i : Nat) | xis (i c : Nat) | xisV (i : Nat)
  /-- a[::-1] -/
  | rev (a : E)
  /-- len(set(a)) -/
  | lenset (a : E)
  /-- min(a, key=lambda p: body), i: p's slot -/
  | mink (i : Nat) (body a : E)
  | cmp2 (o : Co2) (a b : E)
  /-- min(a), a list of tuples of ints -/
  | mint (a : E)
  /-- o.f; C(..), its __init__: f; o.m(..), the def of each class -/
  | attr (o : E) (f : Nat)
  | new (c f : Nat) (es : List E)
  | meth (o : E) (ms : List (Nat × Nat)) (es : List E)
  /-- list(a), a list that is changed; a.extend(b) -/
  | mlist (a : E)
  | ext (o a : E)

/-- a target of an unpacking: a name, an attribute of what stands at a name -/
inductive Ta where
  | nm (i : Nat) | at_ (i : Nat) (cs : List Nat) (f : Nat)

mutual
inductive S where
  | set (t : Tg) (e : E)
  | par (is : List Nat) (es : List E)
  | setI (o i v : E)
  | setA (cs : List Nat) (o : E) (f : Nat) (v : E)
  | unp (ts : List Ta) (e : E)
  | aug (i : Nat) (o : Bo) (e : E)
  | ife (c : E) (a b : List S)
  | for_ (t : Tg) (k : ItK) (es : List E) (body : List S)
  | forl (t : Tg) (e : E) (body : List S)
  | whl (n : Env → LH → Nat) (c : E) (body : List S)
  | ret (e : E) | retN
  | expr (e : E)
  | pass | brk | cont
  | raise (c : Nat) (e : E)
  | try_ (body : List S) (hs : Hs)
/-- except clauses: the class, the name's slot, the suite -/
inductive Hs where
  | nil
  | cons (c : Nat) (slot : Option Nat) (body : List S) (hs : Hs)
end

structure Cf where
  call : Nat → List D → LH → R D
  callL : Nat → (LH → R D) → LH → R D
  thunk : Option (LH → R D)
  cur : Option (Nat × D)

def truth : D → Option Bool
  | .non => some false
  | .bl b => some b
  | .int i => some (i != 0)
  | .str x => some ((x.length : Int) != 0)
  | .tup xs => some (!xs.isEmpty)
  | .lst xs => some (!xs.isEmpty)
  | .scr xs => some (!xs.isEmpty)
  | _ => none

mutual

def eqv : D → D → Bool
  | .non, .non => true
  | .bl a, .bl b => a == b
  | .bl a, .int j => (if a then 1 else 0) == j
  | .int i, .bl b => i == (if b then 1 else 0)
  | .int i, .int j => i == j
  | .str x, .str y => x == y
  | .lst xs, .lst ys => eqvs xs ys
  | .tup xs, .tup ys => eqvs xs ys
  | _, _ => false
def eqvs : List D → List D → Bool
  | [], [] => true
  | x :: xs, y :: ys => eqv x y && eqvs xs ys
  | _, _ => false
end


/-! ### data: what == and repr look at -/
mutual
def isData : D → Bool
  | .non => true | .bl _ => true | .int _ => true | .str x => PyData.strOk x
  | .tup xs => areData xs | .lst xs => areData xs | .scr _ => false
  | .loc _ => false | .fn _ => false
def areData : List D → Bool
  | [] => true
  | x :: xs => isData x && areData xs
end
mutual
def dep : D → Nat
  | .tup xs => deps xs + 1 | .lst xs => deps xs + 1 | .scr _ => 1
  | _ => 0
def deps : List D → Nat
  | [] => 0
  | x :: xs => max (dep x) (deps xs)
end
mutual
def py : D → PyData
  | .non => .none | .bl b => .bool b | .int i => .int i | .str x => .str x
  | .tup xs => .tuple (pys xs) | .lst xs => .list (pys xs) | .scr xs => .list (xs.map .int)
  | .loc _ => .none | .fn _ => .none
def pys : List D → List PyData
  | [] => []
  | x :: xs => py x :: pys xs
end

mutual
def wide : D → Nat
  | .non => 4 | .bl _ => 5 | .int i => if i.natAbs.log2 < 1920 then 2 + i.natAbs.log2 else 100000000 | .str x => 10 * x.length + 2
  | .tup xs => wides xs + 4 | .lst xs => wides xs + 4 | .scr _ => 100000000
  | .loc _ => 100000000 | .fn _ => 100000000
def wides : List D → Nat
  | [] => 0
  | x :: xs => wide x + 2 + wides xs
end
/-- x == y, where it is told -/
def eqD : D → D → Option Bool
  | .non, .non => some true | .non, .int _ => some false | .int _, .non => some false | .non, .bl _ => some false | .bl _, .non => some false
  | .non, .str _ => some false | .str _, .non => some false
  | .int i, .int j => some (i == j) | .bl a, .bl b => some (a == b) | .str a, .str b => some (a == b)
  | .int _, .str _ => some false | .str _, .int _ => some false | .bl _, .str _ => some false | .str _, .bl _ => some false
  | .scr xs, .lst [] => some xs.isEmpty
  | x, y => if isData x && isData y && decide (min (dep x) (dep y) ≤ 60) then some (eqv x y) else none

def size16 : Nat := 16777216

/-! ### operations on values -/
def intsOf : List D → Option (List Int)
  | [] => some []
  | .int i :: r => (intsOf r).map (i :: ·)
  | _ => none
def blsOf : List D → Option (List Bool)
  | [] => some []
  | .bl i :: r => (blsOf r).map (i :: ·)
  | _ => none
def small64 (i : Int) : Bool := decide (-18446744073709551616 < i) && decide (i < 18446744073709551616)

/-- x * k -/
def repS (x : Str) (k : Int) : Str := if (k == 1 || x.length == 0) = true then x else ⟨(List.replicate k.toNat x.cps).foldl (· ++ ·) #[]⟩
def binD (o : Bo) (x y : D) : Option D :=
  match o, x, y with
  | .add, .int i, .int j => some (.int (i + j))
  | .add, .tup xs, .tup ys => if xs.length + ys.length ≤ size16 then some (.tup (xs ++ ys)) else none
  | .add, .lst xs, .lst ys => if xs.length + ys.length ≤ size16 then some (.lst (xs ++ ys)) else none
  | .add, .str a, .str b => if a.length + b.length ≤ size16 then some (.str (a ++ b)) else none
  | .sub, .int i, .int j => some (.int (i - j))
  | .mul, .int i, .int j => if small64 i || small64 j then some (.int (i * j)) else none
  | .mul, .tup xs, .int k => if xs.length ≤ 1000 && decide (-1000 ≤ k) && decide (k ≤ 1000) then some (.tup (List.replicate k.toNat xs).flatten) else none
  | .mul, .lst xs, .int k => if xs.length ≤ 1000 && decide (-1000 ≤ k) && decide (k ≤ 1000) then some (.lst (List.replicate k.toNat xs).flatten) else none
  | .mul, .str x, .int k => if x.length ≤ 1000 && decide (1 ≤ k) && decide (k ≤ 1000) then some (.str (repS x k)) else none
  | .fdiv, .int i, .int j => if decide (0 < j) && decide (j < 1073741824) then some (.int (i / j)) else none
  | .mod, .int i, .int j => if decide (0 < j) then some (.int (i % j)) else none
  | .pow, .int i, .int j => if decide (0 ≤ j) && decide (j ≤ 1000) && small64 i then some (.int (i ^ j.toNat)) else none
  | _, _, _ => none

def flatD : D → Bool
  | .non => true | .bl _ => true | .int _ => true | .str _ => true
  | _ => false
/-- x in ys -/
def inD (x : D) (ys : List D) : Option Bool := if flatD x && ys.all flatD then some (ys.any fun y => eqv y x) else none

def cmpD (o : Co) (x y : D) : Option Bool :=
  match o, x, y with
  | .lt, .int i, .int j => some (decide (i < j))
  | .le, .int i, .int j => some (decide (i ≤ j))
  | .gt, .int i, .int j => some (decide (j < i))
  | .ge, .int i, .int j => some (decide (j ≤ i))
  | .eq, x, y => eqD x y
  | .ne, x, y => (eqD x y).map (!·)
  | .is, x, .non => some (match x with | .non => true | _ => false)
  | .isnot, x, .non => some (match x with | .non => false | _ => true)
  | .in_, x, .tup ys => inD x ys
  | .in_, x, .lst ys => inD x ys
  | .notin, x, .tup ys => (inD x ys).map (!·)
  | .notin, x, .lst ys => (inD x ys).map (!·)
  | _, _, _ => none

def idxD (L : LH) (x y : D) : Option D :=
  match x, y with
  | .tup xs, .int i => L2.atI xs i
  | .lst xs, .int i => L2.atI xs i
  | .scr xs, .int i => (L2.atI xs i).map .int
  | .loc l, .int i => match L[l]? with
    | some (.lst xs) => L2.atI xs i
    | _ => none
  | .str z, .int i => (L2.atI z.cps.toList i).map fun c => .str ⟨#[c]⟩
  | _, _ => none

/-- a slice's bound: none where it is left out -/
def bnd : Bool → D → Option (Option Int)
  | false, _ => some none
  | true, .int i => some (some i)
  | true, _ => none
def cutL {α : Type} (xs : List α) (lo hi : Option Int) : List α := (xs.drop (HT.sIx xs.length 0 lo)).take (HT.sIx xs.length xs.length hi - HT.sIx xs.length 0 lo)
def sliceD (x : D) (l h : Option Int) : Option D :=
  match x with
  | .tup xs => some (.tup (cutL xs l h))
  | .lst xs => some (.lst (cutL xs l h))
  | _ => none

def maxL : Int → List Int → Int
  | m, [] => m
  | m, x :: r => maxL (if x > m then x else m) r
def minL : Int → List Int → Int
  | m, [] => m
  | m, x :: r => minL (if x < m then x else m) r
def lenD (L : LH) : D → Option Nat
  | .tup xs => some xs.length
  | .lst xs => some xs.length
  | .scr xs => some xs.length
  | .str x => some x.length
  | .loc l => match L[l]? with
    | some (.lst xs) => some xs.length
    | _ => none
  | _ => none
/-- the items of a list or tuple as ints -/
def asInts (L : LH) : D → Option (List Int)
  | .lst xs => intsOf xs
  | .scr xs => some xs
  | .loc l => match L[l]? with
    | some (.lst xs) => intsOf xs
    | _ => none
  | _ => none
/-- tuples of ints -/
def tipsOf : List D → Option (List (List Int))
  | [] => some []
  | .tup xs :: r => match intsOf xs, tipsOf r with
    | some n, some ns => some (n :: ns)
    | _, _ => none
  | _ => none
def tupI (ns : List Int) : D := .tup (ns.map .int)
def leT (a b : List Int) : Bool := !HT.lexLt b a
def sortTD (xs : List D) : Option D := match tipsOf xs with
  | some ([] :: r) => some (.lst ((([] :: r).mergeSort leT).map tupI))
  | _ => none
def biD (b : BI) (xs : List D) (L : LH) : Option D :=
  match b, xs with
  | .len, [x] => (lenD L x).map fun n => .int n
  | .int, [.int i] => some (.int i)
  | .int, [.bl k] => some (.int (if k then 1 else 0))
  | .tuple, [.tup xs] => some (.tup xs)
  | .tuple, [.lst xs] => some (.tup xs)
  | .tuple, [.loc l] => match L[l]? with
    | some (.lst xs) => some (.tup xs)
    | _ => none
  | .list, [.tup xs] => some (.lst xs)
  | .list, [.lst xs] => some (.lst xs)
  | .max, [.int i, .int j] => some (.int (if j > i then j else i))
  | .min, [.int i, .int j] => some (.int (if j < i then j else i))
  | .max, [x] => match asInts L x with
    | some (i :: r) => some (.int (maxL i r))
    | _ => none
  | .min, [x] => match asInts L x with
    | some (i :: r) => some (.int (minL i r))
    | _ => none
  | .abs, [.int i] => some (.int (if i < 0 then -i else i))
  | .all, [.lst xs] => (blsOf xs).map fun bs => .bl (bs.all id)
  | .any, [.lst xs] => (blsOf xs).map fun bs => .bl (bs.any id)
  | .sum, [x] => (asInts L x).map fun ns => .int ns.sum
  | .str, [.int i] => if decide (i.natAbs.log2 < 1920) && decide ((toString i : Str).length ≤ size16) then some (.str (toString i)) else none
  | .str, [.str x] => some (.str x)
  | .sorted, [.lst xs] => sortTD xs
  | .repr, [x] => if isData x && decide (wide x ≤ size16) && decide (dep x ≤ 60) then some (.str (py x).shown) else none
  | _, _ => none

def isTy : D → Ty → Bool
  | .int _, .int => true
  | .bl _, .int => true
  | .bl _, .bool => true
  | .str _, .str => true
  | .tup _, .tuple => true
  | .lst _, .list => true
  | _, _ => false
def isinD (x : D) (ts : List Ty) : Option Bool :=
  match x with
  | .loc _ => none
  | .fn _ => none
  | .scr _ => none
  | x => some (ts.any (isTy x))

/-! ### walks -/
def rngL (a b : Int) : List D := (List.range (b - a).toNat).map fun (i : Nat) => .int (a + i)
def rngC (a c : Int) (n : Nat) : List D := (List.range n).map fun (i : Nat) => .int (a + i * c)
def okR (i : Int) : Bool := decide (-1000000000 ≤ i) && decide (i ≤ 1000000000)
def pairsE : Nat → List D → List D
  | _, [] => []
  | n, x :: r => .tup [.int n, x] :: pairsE (n + 1) r
def pairsZ : List D → List D → List D
  | x :: r, y :: t => .tup [x, y] :: pairsZ r t
  | _, _ => []
def pairs3 : List D → List D → List D → List D
  | x :: r, y :: t, z :: u => .tup [x, y, z] :: pairs3 r t u
  | _, _, _ => []
def itemsD : D → Option (List D)
  | .tup xs => some xs
  | .lst xs => some xs
  | .scr xs => some (xs.map .int)
  | _ => none
def itD (k : ItK) (xs : List D) : Option (List D) :=
  match k, xs with
  | .seq, [x] => itemsD x
  | .rng, [.int a] => if okR a && decide (a ≤ size16) then some (rngL 0 a) else none
  | .rng, [.int a, .int b] => if okR a && okR b && decide (b - a ≤ size16) then some (rngL a b) else none
  | .rng, [.int a, .int b, .int c] => if okR a && okR b && decide (a - b ≤ size16) && decide (c = -1) then some (rngC a (-1) (a - b).toNat) else none
  | .enum, [.tup xs] => some (pairsE 0 xs)
  | .enum, [.lst xs] => some (pairsE 0 xs)
  | .zip, [.tup xs, .tup ys] => some (pairsZ xs ys)
  | .zip, [.lst xs, .lst ys] => some (pairsZ xs ys)
  | .zip, [.tup xs, .tup ys, .tup zs] => if xs.length = ys.length && xs.length = zs.length then some (pairs3 xs ys zs) else none
  | _, _ => none

def putMany : List Nat → List D → Env → Option Env
  | [], [], env => some env
  | i :: is, d :: ds, env => putMany is ds (env.set i (some d))
  | _, _, _ => none
def Tg.put : Tg → D → Env → Option Env
  | .nm i, d, env => some (env.set i (some d))
  | .tp is, .tup ds, env => putMany is ds env
  | _, _, _ => none
def Tg.slots : Tg → List Nat
  | .nm i => [i]
  | .tp is => is
def wipeE (env : Env) : List Nat → Env
  | [] => env
  | v :: vs => (wipeE env vs).set v none
def opt {α : Type} (o : Option α) (L : LH) : R α :=
  match o with
  | some a => .ok a L
  | none => .bad
@[simp] theorem opt_some {α : Type} (a : α) (L : LH) : opt (some a) L = .ok a L := rfl
@[simp] theorem opt_none {α : Type} (L : LH) : (opt none L : R α) = .bad := rfl

/-- the place of a changed list -/
def lstAt (L : LH) : D → Option Nat
  | .loc l => match L[l]? with
    | some (.lst _) => some l
    | _ => none
  | _ => none
/-- a bound: an int where it stands, nothing where it does not -/
def bndR (kl : Bool) (f : Env → LH → R D) : Env → LH → R (Option Int) := fun env L => (f env L).bind fun x L => opt (bnd kl x) L
/-- [elt for t in items if cond] -/
def lcGo (put : D → Env → Option Env) (cond elt : Env → LH → R D) (env : Env) : List D → LH → R (List D)
  | [], L => .ok [] L
  | x :: r, L => match put x env with
    | none => .bad
    | some env1 => (cond env1 L).bind fun b L1 => match truth b with
      | some true => (elt env1 L1).bind fun y L2 => (lcGo put cond elt env r L2).bind fun ys L3 => .ok (y :: ys) L3
      | some false => lcGo put cond elt env r L1
      | none => .bad

/-- [elt for t in items if cond for t1 in items1 if cond1] -/
def lc2Go (put : D → Env → Option Env) (cond : Env → LH → R D) (fi1 : Env → LH → R (List D)) (vs1 : List Nat) (put1 : D → Env → Option Env) (cond1 elt : Env → LH → R D) (env : Env) : List D → LH → R (List D)
  | [], L => .ok [] L
  | x :: r, L => match put x env with
    | none => .bad
    | some env1 => (cond env1 L).bind fun b L1 => match truth b with
      | some true => (fi1 env1 L1).bind fun items L2 => (lcGo put1 cond1 elt (wipeE env1 vs1) items L2).bind fun ys L3 => (lc2Go put cond fi1 vs1 put1 cond1 elt env r L3).bind fun zs L4 => .ok (ys ++ zs) L4
      | some false => lc2Go put cond fi1 vs1 put1 cond1 elt env r L1
      | none => .bad
/-- the items of a list that may be changed, read one by one -/
def lcLive (put : D → Env → Option Env) (cond elt : Env → LH → R D) (env : Env) (l : Nat) : Nat → Nat → LH → R (List D)
  | 0, _, _ => .bad
  | n + 1, i, L => match L[l]? with
    | some (.lst ds) => match ds[i]? with
      | none => .ok [] L
      | some x => match put x env with
        | none => .bad
        | some env1 => (cond env1 L).bind fun b L1 => match truth b with
          | some true => (elt env1 L1).bind fun y L2 => (lcLive put cond elt env l n (i + 1) L2).bind fun ys L3 => .ok (y :: ys) L3
          | some false => lcLive put cond elt env l n (i + 1) L1
          | none => .bad
    | _ => .bad
def lenL (L : LH) (l : Nat) : Nat := match L[l]? with
  | some (.lst ds) => ds.length
  | _ => 0
def locOf : D → Option Nat
  | .loc l => some l
  | _ => none
def lcEnd (mu : Bool) (ys : List D) (L : LH) : R D := if mu then .ok (.loc L.length) (L ++ [.lst ys]) else .ok (.lst ys) L
/-- a key: an int, a row of ints -/
abbrev Ky := Int × List Int
def kyD (k : Ky) : D := .tup [.int k.1, .tup (k.2.map .int)]
def ltK (a b : Ky) : Bool := if a.1 = b.1 then HT.lexLt a.2 b.2 else decide (a.1 < b.1)
def kyOf : D → Option Ky
  | .tup [.int a, .tup xs] => (intsOf xs).map fun ns => (a, ns)
  | _ => none
/-- the keys of the items, made where nothing is changed -/
def keysGo (fb : D → LH → R D) (L : LH) : List D → Option (List Ky)
  | [] => some []
  | d :: r => match fb d L with
    | .ok kd L' => match kyOf kd, keysGo fb L r with
      | some k, some ks => by
        classical
        exact if L' = L then some (k :: ks) else none
      | _, _ => none
    | _ => none
/-- the least key's place, of like ones the first -/
def bestK (ks : List Ky) : Nat := argBest (fun a b => ltK (ks.getD a (0, [])) (ks.getD b (0, []))) (ks.length - 1)
def tipsB : List D → Bool
  | [] => true
  | .tup xs :: r => (intsOf xs).isSome && tipsB r
  | _ => false
def minkF (i : Nat) (fa fe : Env → LH → R D) : Env → LH → R D := fun env L => (fa env L).bind fun x L => match x with
  | .lst ds => if tipsB ds && !ds.isEmpty then (match keysGo (fun d L => fe (env.set i (some d)) L) L ds with
    | some ks => .ok (ds.getD (bestK ks) .non) L
    | none => .bad) else .bad
  | _ => .bad
def cmp2D (o : Co2) (x y : D) (L : LH) : Option Bool :=
  match o, x, y with
  | .notinD, .lst [], .lst ds => if areData ds then some (!(ds.any fun d => eqv d (.lst []))) else none
  | .inD, .lst [], .lst ds => if areData ds then some (ds.any fun d => eqv d (.lst [])) else none
  | .neL, .loc l, .lst [] => match L[l]? with
    | some (.lst ds) => if areData ds then some (!ds.isEmpty) else none
    | _ => none
  | .ltT, .tup xs, .tup ys => match intsOf xs, intsOf ys with
    | some a, some b => some (HT.lexLt a b)
    | _, _ => none
  | _, _, _ => none
/-- the least tuple's place, of like ones the first -/
def bestT (nss : List (List Int)) : Nat := argBest (fun a b => HT.lexLt (nss.getD a []) (nss.getD b [])) (nss.length - 1)
def mintL (ds : List D) : Option D := match tipsOf ds with
  | some (n :: ns) => some (ds.getD (bestT (n :: ns)) .non)
  | _ => none
def mintD (L : LH) : D → Option D
  | .lst ds => mintL ds
  | .loc l => match L[l]? with
    | some (.lst ds) => mintL ds
    | _ => none
  | _ => none
def lensetD : D → Option D
  | .tup xs => match intsOf xs with
    | some ns => if ns.length ≤ 4000 then some (.int (ns.eraseDups.length : Nat)) else none
    | none => none
  | .lst xs => match intsOf xs with
    | some ns => if ns.length ≤ 4000 then some (.int (ns.eraseDups.length : Nat)) else none
    | none => none
  | _ => none
/-- instances -/
def attrD (L : LH) (x : D) (f : Nat) : Option D := match x with
  | .loc l => match L[l]? with
    | some (.ins _ fs) => fs.lookup f
    | _ => none
  | _ => none
def methAt (L : LH) (x : D) (ms : List (Nat × Nat)) : Option Nat := match x with
  | .loc l => match L[l]? with
    | some (.ins c _) => ms.lookup c
    | _ => none
  | _ => none
def putFd (f : Nat) (v : D) : List (Nat × D) → List (Nat × D)
  | [] => [(f, v)]
  | (g, x) :: r => if g = f then (g, v) :: r else (g, x) :: putFd f v r
def setAt (L : LH) (x : D) (cs : List Nat) (f : Nat) (v : D) : Option LH := match x with
  | .loc l => match L[l]? with
    | some (.ins c fs) => if cs.contains c && decide (fs.length < 100) then some (L.set l (.ins c (putFd f v fs))) else none
    | _ => none
  | _ => none
def newEnd (l : Nat) : D → LH → R D
  | .non, L => .ok (.loc l) L
  | _, _ => .bad
def putTa : List Ta → List D → Env → LH → Option (Env × LH)
  | [], [], env, L => some (env, L)
  | .nm i :: ts, d :: ds, env, L => putTa ts ds (env.set i (some d)) L
  | .at_ i cs f :: ts, d :: ds, env, L => match env[i]? with
    | some (some x) => match setAt L x cs f d with
      | some L => putTa ts ds env L
      | none => none
    | _ => none
  | _, _, _, _ => none
/-- the items that list(a) takes -/
def itemsL (L : LH) : D → Option (List D)
  | .tup xs => some xs
  | .lst xs => some xs
  | .loc l => match L[l]? with
    | some (.lst xs) => some xs
    | _ => none
  | _ => none
def unpD : D → Option (List D)
  | .tup ds => some ds
  | _ => none
mutual
def evE (C : Cf) : E → Env → LH → R D
  | .var i, env, L => match env[i]? with
    | some (some d) => .ok d L
    | _ => .bad
  | .con d, _, L => .ok d L
  | .bin o a b, env, L => (evE C a env L).bind fun x L => (evE C b env L).bind fun y L => opt (binD o x y) L
  | .neg a, env, L => (evE C a env L).bind fun x L => match x with
    | .int i => .ok (.int (-i)) L
    | _ => .bad
  | .not a, env, L => (evE C a env L).bind fun x L => opt ((truth x).map fun b => .bl (!b)) L
  | .cmp o a b, env, L => (evE C a env L).bind fun x L => (evE C b env L).bind fun y L => opt ((cmpD o x y).map .bl) L
  | .chain o o' a b c, env, L => (evE C a env L).bind fun x L => (evE C b env L).bind fun y L => match cmpD o x y with
    | some true => (evE C c env L).bind fun z L => opt ((cmpD o' y z).map .bl) L
    | some false => .ok (.bl false) L
    | none => .bad
  | .and a b, env, L => (evE C a env L).bind fun x L => match truth x with
    | some true => evE C b env L
    | some false => .ok x L
    | none => .bad
  | .or a b, env, L => (evE C a env L).bind fun x L => match truth x with
    | some true => .ok x L
    | some false => evE C b env L
    | none => .bad
  | .ife c a b, env, L => (evE C c env L).bind fun x L => match truth x with
    | some true => evE C a env L
    | some false => evE C b env L
    | none => .bad
  | .tup es, env, L => (evEs C es env L).bind fun xs L => if xs.length ≤ size16 then .ok (.tup xs) L else .bad
  | .lst es, env, L => (evEs C es env L).bind fun xs L => if xs.length ≤ size16 then .ok (.lst xs) L else .bad
  | .mlst es, env, L => (evEs C es env L).bind fun xs L => if xs.length ≤ size16 then .ok (.loc L.length) (L ++ [.lst xs]) else .bad
  | .idx a b, env, L => (evE C a env L).bind fun x L => (evE C b env L).bind fun y L => opt (idxD L x y) L
  | .slice kl kh a lo hi, env, L => (evE C a env L).bind fun x L => (bndR kl (evE C lo) env L).bind fun l L => (bndR kh (evE C hi) env L).bind fun h L => opt (sliceD x l h) L
  | .call f es, env, L => (evEs C es env L).bind fun xs L => C.call f xs L
  | .bi b es, env, L => (evEs C es env L).bind fun xs L => opt (biD b xs L) L
  | .isin a ts, env, L => (evE C a env L).bind fun x L => opt ((isinD x ts).map .bl) L
  | .lc mu vs t k es cond elt, env, L => (evEs C es env L).bind fun xs L => match itD k xs with
    | none => .bad
    | some items => if items.length ≤ size16 then ((lcGo t.put (evE C cond) (evE C elt) (wipeE env vs) items L).nox).bind fun ys L => lcEnd mu ys L else .bad
  | .lcl mu vs t e cond elt, env, L => (evE C e env L).bind fun x L => (opt (locOf x) L).bind fun l L => if lenL L l < size16 then ((lcLive t.put (evE C cond) (evE C elt) (wipeE env vs) l (lenL L l + 1) 0 L).nox).bind fun ys L => lcEnd mu ys L else .bad
  | .lc2 mu vs vs1 t k es cond t1 k1 es1 cond1 elt, env, L => (evEs C es env L).bind fun xs L => match itD k xs with
    | none => .bad
    | some items => if items.length ≤ size16 then ((lc2Go t.put (evE C cond) (fun env L => (evEs C es1 env L).bind fun xs L => opt (itD k1 xs) L) vs1 t1.put (evE C cond1) (evE C elt) (wipeE env vs) items L).nox).bind fun ys L => if ys.length ≤ size16 then lcEnd mu ys L else .bad else .bad
  | .app o a, env, L => (evE C o env L).bind fun x L => match lstAt L x with
    | none => .bad
    | some l => (evE C a env L).bind fun y L => match L[l]? with
      | some (.lst xs) => if xs.length < size16 then .ok .non (L.set l (.lst (xs ++ [y]))) else .bad
      | _ => .bad
  | .lam f body, env, L => C.callL f (evE C body env) L
  | .thunk, env, L => match env[0]?, C.thunk with
    | some none, some th => th L
    | _, _ => .bad
  | .xwhat i, env, L => match env[i]?, C.cur with
    | some none, some (_, w) => .ok w L
    | _, _ => .bad
  | .xis i c, env, L => match env[i]?, C.cur with
    | some none, some (c', _) => .ok (.bl (c' == c || c == 0)) L
    | _, _ => .bad
  | .rev a, env, L => (evE C a env L).bind fun x L => match x with
    | .tup xs => .ok (.tup xs.reverse) L
    | _ => .bad
  | .lenset a, env, L => (evE C a env L).bind fun x L => opt (lensetD x) L
  | .mink i body a, env, L => minkF i (evE C a) (evE C body) env L
  | .cmp2 o a b, env, L => (evE C a env L).bind fun x L => (evE C b env L).bind fun y L => opt ((cmp2D o x y L).map .bl) L
  | .mint a, env, L => (evE C a env L).bind fun x L => opt (mintD L x) L
  | .xisV i, env, L => match env[i]?, C.cur with
    | some none, some _ => .ok (.bl true) L
    | _, _ => .bad
  | .attr o f, env, L => (evE C o env L).bind fun x L => opt (attrD L x f) L
  | .new c f es, env, L => (evEs C es env L).bind fun xs L => (C.call f (.loc L.length :: xs) (L ++ [.ins c []])).bind (newEnd L.length)
  | .meth o ms es, env, L => (evE C o env L).bind fun x L => (opt (methAt L x ms) L).bind fun f L => (evEs C es env L).bind fun xs L => C.call f (x :: xs) L
  | .mlist a, env, L => (evE C a env L).bind fun x L => (opt (itemsL L x) L).bind fun xs L => if xs.length ≤ size16 then .ok (.loc L.length) (L ++ [.lst xs]) else .bad
  | .ext o a, env, L => (evE C o env L).bind fun x L => match lstAt L x with
    | none => .bad
    | some l => (evE C a env L).bind fun y L => match L[l]?, y with
      | some (.lst xs), .lst ys => if xs.length + ys.length ≤ size16 then .ok .non (L.set l (.lst (xs ++ ys))) else .bad
      | _, _ => .bad
def evEs (C : Cf) : List E → Env → LH → R (List D)
  | [], _, L => .ok [] L
  | e :: es, env, L => (evE C e env L).bind fun x L => (evEs C es env L).bind fun xs L => .ok (x :: xs) L
end

/-! ### statements -/
inductive RS where
  | nx (env : Env) (L : LH) | rt (d : D) (L : LH) | bk (env : Env) (L : LH) | ct (env : Env) (L : LH)
  | exc (c : Nat) (w : D) (env : Env) (L : LH) | bad
def RS.bind : RS → (Env → LH → RS) → RS
  | .nx env L, f => f env L
  | r, _ => r
/-- an expression in a statement -/
def R.st {α : Type} (x : R α) (env : Env) (f : α → LH → RS) : RS :=
  match x with
  | .ok a L => f a L
  | .exc c w L => .exc c w env L
  | .bad => .bad
@[simp] theorem R.st_ok {α : Type} (a : α) (L : LH) (env : Env) (f : α → LH → RS) : (R.ok a L).st env f = f a L := rfl
@[simp] theorem R.st_exc {α : Type} (c w L env) (f : α → LH → RS) : (R.exc c w L).st env f = .exc c w env L := rfl
@[simp] theorem R.st_bad {α : Type} (env : Env) (f : α → LH → RS) : (R.bad).st env f = .bad := rfl
@[simp] theorem RS.bind_nx (env : Env) (L : LH) (f : Env → LH → RS) : (RS.nx env L).bind f = f env L := rfl
@[simp] theorem RS.bind_rt (d : D) (L : LH) (f : Env → LH → RS) : (RS.rt d L).bind f = .rt d L := rfl
@[simp] theorem RS.bind_bk (e : Env) (L : LH) (f : Env → LH → RS) : (RS.bk e L).bind f = .bk e L := rfl
@[simp] theorem RS.bind_ct (e : Env) (L : LH) (f : Env → LH → RS) : (RS.ct e L).bind f = .ct e L := rfl
@[simp] theorem RS.bind_exc (c w e) (L : LH) (f : Env → LH → RS) : (RS.exc c w e L).bind f = .exc c w e L := rfl
@[simp] theorem RS.bind_bad (f : Env → LH → RS) : (RS.bad).bind f = .bad := rfl

def forGo (put : D → Env → Option Env) (body : Env → LH → RS) : List D → Env → LH → RS
  | [], env, L => .nx env L
  | x :: r, env, L => match put x env with
    | none => .bad
    | some env1 => match body env1 L with
      | .nx e l => forGo put body r e l
      | .ct e l => forGo put body r e l
      | .bk e l => .nx e l
      | .rt d l => .rt d l
      | .exc c w e l => .exc c w e l
      | .bad => .bad
def forLive (put : D → Env → Option Env) (body : Env → LH → RS) (l : Nat) : Nat → Nat → Env → LH → RS
  | 0, _, _, _ => .bad
  | n + 1, i, env, L => match L[l]? with
    | some (.lst ds) => match ds[i]? with
      | none => .nx env L
      | some x => match put x env with
        | none => .bad
        | some env1 => match body env1 L with
          | .nx e k => forLive put body l n (i + 1) e k
          | .ct e k => forLive put body l n (i + 1) e k
          | .bk e k => .nx e k
          | .rt d k => .rt d k
          | .exc c w e k => .exc c w e k
          | .bad => .bad
    | _ => .bad
def whGo (cond : Env → LH → R D) (body : Env → LH → RS) : Nat → Env → LH → RS
  | 0, _, _ => .bad
  | n + 1, env, L => (cond env L).st env fun b L1 => match truth b with
    | none => .bad
    | some false => .nx env L1
    | some true => match body env L1 with
      | .nx e l => whGo cond body n e l
      | .ct e l => whGo cond body n e l
      | .bk e l => .nx e l
      | .rt d l => .rt d l
      | .exc c w e l => .exc c w e l
      | .bad => .bad
def setIx (L : LH) (x y v : D) : Option LH :=
  match x, y with
  | .loc l, .int i => match L[l]? with
    | some (.lst xs) => match L2.ixN xs.length i with
      | some j => some (L.set l (.lst (xs.set j v)))
      | none => none
    | _ => none
  | _, _ => none
def sets : List Nat → List D → Env → Env
  | i :: is, d :: ds, env => sets is ds (env.set i (some d))
  | _, _, env => env
def catches (h c : Nat) : Bool := h == 0 || h == c
def wipe1 (env : Env) : Option Nat → Env
  | none => env
  | some i => env.set i none
/-- behind a suite: no exception may leave it, its name is gone -/
def RS.endH (slot : Option Nat) : RS → RS
  | .nx env L => .nx (wipe1 env slot) L
  | .bk env L => .bk (wipe1 env slot) L
  | .ct env L => .ct (wipe1 env slot) L
  | .rt d L => .rt d L
  | _ => .bad

mutual
def exS (C : Cf) : S → Env → LH → RS
  | .set t e, env, L => (evE C e env L).st env fun x L => match t.put x env with
    | some env => .nx env L
    | none => .bad
  | .par is es, env, L => (evEs C es env L).st env fun xs L => if xs.length = is.length then .nx (sets is xs env) L else .bad
  | .setI o i v, env, L => (evE C v env L).st env fun z L => (evE C o env L).st env fun x L => (evE C i env L).st env fun y L => match setIx L x y z with
    | some L => .nx env L
    | none => .bad
  | .setA cs o f v, env, L => (evE C v env L).st env fun z L => (evE C o env L).st env fun x L => match setAt L x cs f z with
    | some L => .nx env L
    | none => .bad
  | .unp ts e, env, L => (evE C e env L).st env fun x L => match unpD x with
    | none => .bad
    | some ds => match putTa ts ds env L with
      | some (env, L) => .nx env L
      | none => .bad
  | .aug i o e, env, L => match env[i]? with
    | some (some (.int x)) => (evE C e env L).st env fun y L => match y with
      | .int y => (match o with
        | .pow => .bad
        | o => match binD o (.int x) (.int y) with
          | some z => .nx (env.set i (some z)) L
          | none => .bad)
      | _ => .bad
    | _ => .bad
  | .ife c a b, env, L => (evE C c env L).st env fun x L => match truth x with
    | some true => exSs C a env L
    | some false => exSs C b env L
    | none => .bad
  | .for_ t k es body, env, L => (evEs C es env L).st env fun xs L => match itD k xs with
    | none => .bad
    | some items => forGo t.put (exSs C body) items env L
  | .forl t e body, env, L => (evE C e env L).st env fun x L => (opt (locOf x) L).st env fun l L => forLive t.put (exSs C body) l (lenL L l + 1) 0 env L
  | .whl n c body, env, L => whGo (evE C c) (exSs C body) (n env L) env L
  | .ret e, env, L => (evE C e env L).st env fun x L => .rt x L
  | .retN, _, L => .rt .non L
  | .expr e, env, L => (evE C e env L).st env fun _ L => .nx env L
  | .pass, env, L => .nx env L
  | .brk, env, L => .bk env L
  | .cont, env, L => .ct env L
  | .raise c e, env, L => (evE C e env L).st env fun w L => .exc c w env L
  | .try_ body hs, env, L => match exSs C body env L with
    | .exc c w env L => exHs C c w env L hs
    | r => r
def exSs (C : Cf) : List S → Env → LH → RS
  | [], env, L => .nx env L
  | s :: ss, env, L => (exS C s env L).bind fun env L => exSs C ss env L
def exHs (C : Cf) (c : Nat) (w : D) (env : Env) (L : LH) : Hs → RS
  | .nil => .exc c w env L
  | .cons h slot body hs => if catches h c then (exSs { C with cur := some (c, w) } body (wipe1 env slot) L).endH slot else exHs C c w env L hs
end

/-- clauses, their suites as functions -/
def exCl (c : Nat) (w : D) (env : Env) (L : LH) : List (Nat × Option Nat × (Nat → D → Env → LH → RS)) → RS
  | [] => .exc c w env L
  | (h, sl, f) :: r => if catches h c then (f c w (wipe1 env sl) L).endH sl else exCl c w env L r
def hsF (C : Cf) : Hs → List (Nat × Option Nat × (Nat → D → Env → LH → RS))
  | .nil => []
  | .cons h sl body hs => (h, sl, fun c w => exSs { C with cur := some (c, w) } body) :: hsF C hs
theorem exHs_eq (C : Cf) (c : Nat) (w : D) (env : Env) (L : LH) : ∀ hs : Hs, exHs C c w env L hs = exCl c w env L (hsF C hs)
  | .nil => by simp only [exHs, hsF, exCl]
  | .cons h sl body hs => by simp only [exHs, hsF, exCl, exHs_eq C c w env L hs]

/-! ### defs -/
structure Fn where
  np : Nat
  nl : Nat
  body : List S
  /-- what the def made of changed objects is dropped at its end -/
  drop : Bool := false
abbrev Tbl := Nat → Option Fn

def startE (nl : Nat) (ds : List D) : Env := ds.map some ++ List.replicate (nl - ds.length) none
mutual
def below (n : Nat) : D → Bool
  | .tup xs => belows n xs | .lst xs => belows n xs
  | .loc l => decide (l < n)
  | _ => true
def belows (n : Nat) : List D → Bool
  | [] => true
  | x :: xs => below n x && belows n xs
end
def O.below (n : Nat) : O → Bool
  | .lst xs => belows n xs
  | .ins _ fs => belows n (fs.map (·.2))
/-- an end of a call: the changed objects that it made are forgotten, where nothing left names them -/
def cutR {α : Type} (nm : α → Bool) (drop : Bool) (L0 : LH) (a : α) (L : LH) : Option LH :=
  if drop then (if nm a && (L.take L0.length).all (O.below L0.length) && decide (L0.length ≤ L.length) then some (L.take L0.length) else none) else some L
def endR (fn : Fn) (L0 : LH) : RS → R D
  | .rt d L => match cutR (below L0.length) fn.drop L0 d L with
    | some L => .ok d L
    | none => .bad
  | .nx _ L => match cutR (below L0.length) fn.drop L0 D.non L with
    | some L => .ok .non L
    | none => .bad
  | .exc c w _ L => match cutR (below L0.length) fn.drop L0 w L with
    | some L => .exc c w L
    | none => .bad
  | _ => .bad

mutual
def callN (T : Tbl) : Nat → Nat → List D → LH → R D
  | 0, _, _, _ => .bad
  | n + 1, f, ds, L => match T f with
    | none => .bad
    | some fn => if ds.length = fn.np then endR fn L (exSs { call := callN T n, callL := callT T n, thunk := none, cur := none } fn.body (startE fn.nl ds) L) else .bad
/-- f(lambda: ..) -/
def callT (T : Tbl) : Nat → Nat → (LH → R D) → LH → R D
  | 0, _, _, _ => .bad
  | n + 1, f, th, L => match T f with
    | none => .bad
    | some fn => if fn.np = 1 then (endR fn L (exSs { call := callN T n, callL := callT T n, thunk := some th, cur := none } fn.body (List.replicate fn.nl none) L)).nox else .bad
end
def cfN (T : Tbl) (n : Nat) : Cf := { call := callN T n, callL := callT T n, thunk := none, cur := none }
theorem callN_succ (T : Tbl) (n f : Nat) (ds : List D) (L : LH) : callN T (n + 1) f ds L = match T f with
    | none => .bad
    | some fn => if ds.length = fn.np then endR fn L (exSs (cfN T n) fn.body (startE fn.nl ds) L) else .bad := by rw [callN]; rfl
end Ev
end
end

section
set_option Elab.async false
set_option linter.all false
set_option maxRecDepth 100000
set_option autoImplicit false
/-! how data and heap stand in the layer's values and heap -/
namespace Ev
open PySem PySem.Spec PyProof.Rows L2

structure G where
  K : PySem.W.Frag
  fad : Nat → Addr
  cad : Nat → Addr
  fld : Nat → Str
  /-- own classes -/
  kad : Nat → Addr
  finj : ∀ i j, fld i = fld j → i = j
  tabs : List (Addr × Str)
  /-- lists under way (a comprehension's): nothing names them -/
  hid : List Addr := []
  /-- an except clause's name: its slot, the exception, what it carries, its dict -/
  pin : Option (Nat × Addr × D × Option Addr) := none
  /-- a def that got a lambda: the lambda, heap and changed objects at the call -/
  amb : Option (Addr × Hp × List Addr) := none
/-- no changed object, none under way -/
def Free (g : G) (m : List Addr) (a : Addr) : Prop := a ∉ m ∧ a ∉ g.hid

mutual
inductive Rep (g : G) (H : Hp) (m : List Addr) : D → V → Prop
  | non : Rep g H m .non .non
  | bl (b : Bool) : Rep g H m (.bl b) (.bl b)
  | int (i : Int) : Rep g H m (.int i) (.int i)
  | str (x : Str) : x.length ≤ sizeLine → Rep g H m (.str x) (.str x)
  | tup {a : Addr} {xs : List V} {ds : List D} : SqT g.K H a xs → xs.length ≤ sizeLine → Reps g H m ds xs → Rep g H m (.tup ds) (.ref a)
  | lst {a : Addr} {xs : List V} {ds : List D} : H a = some (.lst xs) → Free g m a → xs.length ≤ sizeLine → Reps g H m ds xs → Rep g H m (.lst ds) (.ref a)
  | scr {a : Addr} {ns : List Int} : SqL g.K H a (ns.map V.int) → (Free g m a ∨ ∃ (o : Obj) (its : Array Value) (n : Nat), g.K.lookup a = some o ∧ o.cls = .type "list" ∧ o.dict = none ∧ o.data = .seq its n ∧ its.size ≤ sizeLine ∧ Vals (ns.map V.int) its.toList) → ns.length ≤ sizeLine → Rep g H m (.scr ns) (.ref a)
  | loc {l : Nat} {a : Addr} : m[l]? = some a → Rep g H m (.loc l) (.ref a)
  | fn (f : Nat) : Rep g H m (.fn f) (.ref (g.fad f))
inductive Reps (g : G) (H : Hp) (m : List Addr) : List D → List V → Prop
  | nil : Reps g H m [] []
  | cons {d : D} {ds : List D} {v : V} {vs : List V} : Rep g H m d v → Reps g H m ds vs → Reps g H m (d :: ds) (v :: vs)
end

/-- all stands but what is changed; what is new is new -/
structure Ext (H : Hp) (m : List Addr) (H' : Hp) (m' : List Addr) : Prop where
  ex : ∃ e, m' = m ++ e ∧ ∀ p ∈ e, ∀ o, H p = some o → ∃ ps, o = .tbl ps
  keep : ∀ a o, H a = some o → a ∉ m → (∀ ps, o ≠ .tbl ps) → H' a = some o
  tups : ∀ a xs, H a = some (.tup xs) → H' a = some (.tup xs)
  frzs : ∀ a o u, H a = some (.frz o u) → H' a = some (.frz o u)
  dom : ∀ a o, H a = some o → (∀ ps, o ≠ .tbl ps) → ∃ o', H' a = some o' ∧ ∀ ps, o' ≠ .tbl ps

theorem Ext.refl {H : Hp} {m : List Addr} : Ext H m H m := ⟨⟨[], by simp, by simp⟩, fun _ _ h _ _ => h, fun _ _ h => h, fun _ _ _ h => h, fun _ o h t => ⟨o, h, t⟩⟩
theorem Ext.trans {H H1 H2 : Hp} {m m1 m2 : List Addr} (a : Ext H m H1 m1) (b : Ext H1 m1 H2 m2) : Ext H m H2 m2 := by
  obtain ⟨e1, h1, n1⟩ := a.ex
  obtain ⟨e2, h2, n2⟩ := b.ex
  refine ⟨⟨e1 ++ e2, by rw [h2, h1, List.append_assoc], fun p hp => ?_⟩, fun c o h hm ht => ?_, fun c xs h => b.tups c xs (a.tups c xs h), fun c o u h => b.frzs c o u (a.frzs c o u h), fun c o h t => let ⟨o1, h1, t1⟩ := a.dom c o h t; b.dom c o1 h1 t1⟩
  · rcases List.mem_append.mp hp with q | q
    · exact n1 p q
    · intro o e
      by_cases t : ∃ ps, o = .tbl ps
      · exact t
      · obtain ⟨o1, h1, t1⟩ := a.dom p o e (fun ps z => t ⟨ps, z⟩)
        obtain ⟨ps, z⟩ := n2 p q o1 h1
        exact absurd z (t1 ps)
  · have h' := a.keep c o h hm ht
    refine b.keep c o h' (fun q => ?_) ht
    rw [h1] at q
    rcases List.mem_append.mp q with q | q
    · exact hm q
    · obtain ⟨ps, z⟩ := n1 c q o h
      exact ht ps z

theorem Ext.mget {H H' : Hp} {m m' : List Addr} (x : Ext H m H' m') {l : Nat} {a : Addr} (h : m[l]? = some a) : m'[l]? = some a := by
  obtain ⟨e, rfl, _⟩ := x.ex
  rw [List.getElem?_append_left (List.getElem?_eq_some_iff.mp h).1]; exact h
theorem Ext.nmem {H H' : Hp} {m m' : List Addr} (x : Ext H m H' m') {a : Addr} {o : HO} (h : a ∉ m) (hs : H a = some o) (ht : ∀ ps, o ≠ .tbl ps) : a ∉ m' := by
  obtain ⟨e, rfl, n⟩ := x.ex
  intro q
  rcases List.mem_append.mp q with q | q
  · exact h q
  · obtain ⟨ps, z⟩ := n a q o hs
    exact ht ps z
theorem Ext.sqT {K : PySem.W.Frag} {H H' : Hp} {m m' : List Addr} (x : Ext H m H' m') {a : Addr} {xs : List V} (h : SqT K H a xs) : SqT K H' a xs := by
  rcases h with (h | ⟨o, h⟩) | h
  · exact .inl (.inl (x.tups a xs h))
  · exact .inl (.inr ⟨o, x.frzs a o _ h⟩)
  · exact .inr h
theorem Ext.sqL {K : PySem.W.Frag} {H H' : Hp} {m m' : List Addr} (x : Ext H m H' m') {a : Addr} {xs : List V} (hm : a ∉ m) (h : SqL K H a xs) : SqL K H' a xs := by
  rcases h with (h | ⟨o, h⟩) | h
  · exact .inl (.inl (x.keep a _ h hm (fun ps => by simp)))
  · exact .inl (.inr ⟨o, x.frzs a o _ h⟩)
  · exact .inr h


section
variable {g : G} {H H' : Hp} {m m' : List Addr}
theorem Reps.len : ∀ {ds : List D} {vs : List V}, Reps g H m ds vs → ds.length = vs.length
  | [], _, .nil => rfl
  | _ :: _, _, .cons _ t => by simp [Reps.len t]
mutual
theorem Rep.ext (x : Ext H m H' m') : ∀ (d : D) (v : V), Rep g H m d v → Rep g H' m' d v
  | .non, _, h => by cases h; exact .non
  | .bl _, _, h => by cases h; exact .bl _
  | .int _, _, h => by cases h; exact .int _
  | .str _, _, h => by cases h with | str _ z => exact .str _ z
  | .tup ds, _, h => by cases h with | tup h1 z h2 => exact .tup (x.sqT h1) z (Reps.ext x ds _ h2)
  | .lst ds, _, h => by
    cases h with
    | lst h1 hm z h2 => exact .lst (x.keep _ _ h1 hm.1 (fun ps => by simp)) ⟨x.nmem hm.1 h1 (fun ps => by simp), hm.2⟩ z (Reps.ext x ds _ h2)
  | .scr ns, _, h => by
    cases h with
    | scr h1 hm z =>
      rcases h1 with h1 | h1
      · rcases hm with hm | hm
        · refine .scr (x.sqL hm.1 (.inl h1)) (.inl ⟨?_, hm.2⟩) z
          rcases h1 with h1 | ⟨o, h1⟩
          · exact x.nmem hm.1 h1 (fun ps => by simp)
          · exact x.nmem hm.1 h1 (fun ps => by simp)
        · exact .scr (.inr hm) (.inr hm) z
      · exact .scr (.inr h1) (.inr h1) z
  | .loc l, _, h => by cases h with | loc h => exact .loc (x.mget h)
  | .fn _, _, h => by cases h; exact .fn _
theorem Reps.ext (x : Ext H m H' m') : ∀ (ds : List D) (vs : List V), Reps g H m ds vs → Reps g H' m' ds vs
  | [], _, h => by cases h; exact .nil
  | d :: ds, _, h => by cases h with | cons h1 h2 => exact .cons (Rep.ext x d _ h1) (Reps.ext x ds _ h2)
end
theorem Reps.append : ∀ {ds es : List D} {vs ws : List V}, Reps g H m ds vs → Reps g H m es ws → Reps g H m (ds ++ es) (vs ++ ws)
  | [], _, _, _, .nil, h => h
  | _ :: _, _, _, _, .cons a t, h => .cons a (Reps.append t h)
theorem Reps.get : ∀ {ds : List D} {vs : List V} {i : Nat} {d : D}, Reps g H m ds vs → ds[i]? = some d → ∃ v, vs[i]? = some v ∧ Rep g H m d v
  | [], _, _, _, .nil, e => by simp at e
  | _ :: _, _, 0, _, .cons a t, e => by simp at e; subst e; exact ⟨_, rfl, a⟩
  | _ :: _, _, i + 1, _, .cons a t, e => by
    obtain ⟨v, h1, h2⟩ := Reps.get (i := i) t (by simpa using e)
    exact ⟨v, by simpa using h1, h2⟩
theorem Reps.getV : ∀ {ds : List D} {vs : List V} {i : Nat} {v : V}, Reps g H m ds vs → vs[i]? = some v → ∃ d, ds[i]? = some d ∧ Rep g H m d v
  | [], _, _, _, .nil, e => by simp at e
  | _ :: _, _, 0, _, .cons a t, e => by simp at e; subst e; exact ⟨_, rfl, a⟩
  | _ :: _, _, i + 1, _, .cons a t, e => by
    obtain ⟨v, h1, h2⟩ := Reps.getV (i := i) t (by simpa using e)
    exact ⟨v, by simpa using h1, h2⟩
theorem Reps.take : ∀ {ds : List D} {vs : List V} (n : Nat), Reps g H m ds vs → Reps g H m (ds.take n) (vs.take n)
  | [], _, n, .nil => by simp; exact .nil
  | _ :: _, _, 0, .cons _ _ => .nil
  | _ :: _, _, n + 1, .cons a t => .cons a (Reps.take n t)
theorem Reps.drop : ∀ {ds : List D} {vs : List V} (n : Nat), Reps g H m ds vs → Reps g H m (ds.drop n) (vs.drop n)
  | [], _, n, .nil => by simp; exact .nil
  | _ :: _, _, 0, h => h
  | _ :: _, _, n + 1, .cons a t => Reps.drop n t
theorem Reps.set : ∀ {ds : List D} {vs : List V} (n : Nat) {d : D} {v : V}, Reps g H m ds vs → Rep g H m d v → Reps g H m (ds.set n d) (vs.set n v)
  | [], _, n, _, _, .nil, _ => by simp; exact .nil
  | _ :: _, _, 0, _, _, .cons _ t, r => .cons r t
  | _ :: _, _, n + 1, _, _, .cons a t, r => .cons a (Reps.set n t r)
theorem Reps.rep {ds : List D} {vs : List V} (h : Reps g H m ds vs) : ∀ n, Reps g H m (List.replicate n ds).flatten (List.replicate n vs).flatten
  | 0 => .nil
  | n + 1 => by
    simp only [List.replicate_succ, List.flatten_cons]
    exact h.append (Reps.rep h n)
theorem Reps.isEmpty {ds : List D} {vs : List V} (h : Reps g H m ds vs) : ds.isEmpty = vs.isEmpty := by
  cases h <;> rfl
theorem Reps.ints : ∀ (ns : List Int), Reps g H m (ns.map D.int) (ns.map V.int)
  | [] => .nil
  | n :: ns => .cons (.int n) (Reps.ints ns)
theorem Reps.inv1 {d : D} {vs : List V} (h : Reps g H m [d] vs) : ∃ v, vs = [v] ∧ Rep g H m d v := by
  cases h with | cons a t => cases t; exact ⟨_, rfl, a⟩
theorem Reps.inv2 {d e : D} {vs : List V} (h : Reps g H m [d, e] vs) : ∃ v w, vs = [v, w] ∧ Rep g H m d v ∧ Rep g H m e w := by
  cases h with | cons a t => obtain ⟨w, rfl, b⟩ := t.inv1; exact ⟨_, _, rfl, a, b⟩
theorem Reps.inv3 {d e f : D} {vs : List V} (h : Reps g H m [d, e, f] vs) : ∃ v w u, vs = [v, w, u] ∧ Rep g H m d v ∧ Rep g H m e w ∧ Rep g H m f u := by
  cases h with | cons a t => obtain ⟨w, u, rfl, b⟩ := t.inv2; exact ⟨_, _, _, rfl, a, b⟩
theorem intsOf_reps : ∀ {ds : List D} {ns : List Int} {vs : List V}, intsOf ds = some ns → Reps g H m ds vs → vs = ns.map V.int
  | [], ns, _, e, .nil => by simp [intsOf] at e; subst e; rfl
  | .int i :: r, ns, _, e, .cons a t => by
    cases h : intsOf r with
    | none => simp [intsOf, h] at e
    | some ms => simp [intsOf, h] at e; subst e; cases a; simp [intsOf_reps h t]
  | .non :: _, _, _, e, _ => by simp [intsOf] at e
  | .bl _ :: _, _, _, e, _ => by simp [intsOf] at e
  | .str _ :: _, _, _, e, _ => by simp [intsOf] at e
  | .tup _ :: _, _, _, e, _ => by simp [intsOf] at e
  | .lst _ :: _, _, _, e, _ => by simp [intsOf] at e
  | .scr _ :: _, _, _, e, _ => by simp [intsOf] at e
  | .loc _ :: _, _, _, e, _ => by simp [intsOf] at e
  | .fn _ :: _, _, _, e, _ => by simp [intsOf] at e
theorem blsOf_reps : ∀ {ds : List D} {ns : List Bool} {vs : List V}, blsOf ds = some ns → Reps g H m ds vs → vs = ns.map V.bl
  | [], ns, _, e, .nil => by simp [blsOf] at e; subst e; rfl
  | .bl i :: r, ns, _, e, .cons a t => by
    cases h : blsOf r with
    | none => simp [blsOf, h] at e
    | some ms => simp [blsOf, h] at e; subst e; cases a; simp [blsOf_reps h t]
  | .non :: _, _, _, e, _ => by simp [blsOf] at e
  | .int _ :: _, _, _, e, _ => by simp [blsOf] at e
  | .str _ :: _, _, _, e, _ => by simp [blsOf] at e
  | .tup _ :: _, _, _, e, _ => by simp [blsOf] at e
  | .lst _ :: _, _, _, e, _ => by simp [blsOf] at e
  | .scr _ :: _, _, _, e, _ => by simp [blsOf] at e
  | .loc _ :: _, _, _, e, _ => by simp [blsOf] at e
  | .fn _ :: _, _, _, e, _ => by simp [blsOf] at e
end

/-- a changed object at its address -/
def RepF (g : G) (H : Hp) (m : List Addr) : List (Nat × D) → List (Str × V) → Prop
  | [], [] => True
  | (k, d) :: r, (x, v) :: t => g.fld k = x ∧ Rep g H m d v ∧ RepF g H m r t
  | _, _ => False
/-- an instance's class and fields -/
def OkI (g : G) (c : Nat) (fs : List (Nat × D)) : Prop := Cls g.K (g.kad c) ∧ ∀ p ∈ fs, NoAttr g.K (g.kad c) (g.fld p.1)
def RepO (g : G) (H : Hp) (m : List Addr) (o : O) (a : Addr) : Prop :=
  match o with
  | .lst ds => ∃ xs, H a = some (.lst xs) ∧ xs.length ≤ sizeLine ∧ Reps g H m ds xs
  | .ins c fs => ∃ dx xs, H a = some (.ins (g.kad c) dx xs) ∧ RepF g H m fs xs ∧ OkI g c fs
/-- the changed objects -/
structure RelH (g : G) (H : Hp) (L : LH) (m : List Addr) : Prop where
  len : m.length = L.length
  nd : m.Nodup
  objs : ∀ (l : Nat) (o : O), L[l]? = some o → ∃ a, m[l]? = some a ∧ RepO g H m o a
  tabs : LamX.Tabs g.tabs H
  hid : ∀ a ∈ g.hid, a ∉ m ∧ ∃ xs, H a = some (.lst xs)
/-- an exception's own dict -/
def RepX (g : G) (H : Hp) (m : List Addr) (w : D) (d : Option Addr) : Prop :=
  ∃ dd v, d = some dd ∧ H dd = some (.xd [(("what" : Str), v)]) ∧ dd ∉ m ∧ Rep g H m w v
theorem RepX.ext {g : G} {H H' : Hp} {m m' : List Addr} (x : Ext H m H' m') {w : D} {d : Option Addr} : RepX g H m w d → RepX g H' m' w d :=
  fun ⟨dd, v, e1, e2, e3, e4⟩ => ⟨dd, v, e1, x.keep _ _ e2 e3 (fun ps => by simp), x.nmem e3 e2 (fun ps => by simp), Rep.ext x _ _ e4⟩
structure Rel (g : G) (σ : L2.St) (H : Hp) (env : Env) (L : LH) (m : List Addr) : Prop where
  h : RelH g H L m
  len : env.length = σ.length
  vars : ∀ (i : Nat) (d : D), env[i]? = some (some d) → ∃ v, σ[i]? = some (some v) ∧ Rep g H m d v
  pin : ∀ i a w d, g.pin = some (i, a, w, d) → (env[i]? = some none → σ[i]? = some (some (.ref a))) ∧ RepX g H m w d
  amb : ∀ f H0 m0, g.amb = some (f, H0, m0) → (env[0]? = some none → σ[0]? = some (some (.ref f))) ∧ Ext H0 m0 H m

section
variable {g : G} {H H' : Hp} {m m' : List Addr} {L L' : LH} {σ : L2.St} {env : Env}
theorem RepF.ext (x : Ext H m H' m') : ∀ {fs : List (Nat × D)} {xs : List (Str × V)}, RepF g H m fs xs → RepF g H' m' fs xs
  | [], [], _ => trivial
  | (_, d) :: _, (_, _) :: _, ⟨a, b, c⟩ => ⟨a, Rep.ext x d _ b, RepF.ext x c⟩
  | [], _ :: _, h => h
  | _ :: _, [], h => h
theorem Rel.ext (x : Ext H m H' m') (r : Rel g σ H env L m) (h : RelH g H' L' m') : Rel g σ H' env L' m' :=
  ⟨h, r.len, fun i d e => let ⟨v, e1, e2⟩ := r.vars i d e; ⟨v, e1, Rep.ext x d v e2⟩, fun i a w d e => ⟨(r.pin i a w d e).1, (r.pin i a w d e).2.ext x⟩, fun f H0 m0 e => ⟨(r.amb f H0 m0 e).1, (r.amb f H0 m0 e).2.trans x⟩⟩
theorem RelH.at_ (r : RelH g H L m) {l : Nat} {a : Addr} (h : m[l]? = some a) : ∃ o, L[l]? = some o ∧ RepO g H m o a := by
  have hl : l < L.length := by rw [← r.len]; exact (List.getElem?_eq_some_iff.mp h).1
  obtain ⟨b, hb, ro⟩ := r.objs l L[l] (by simp [hl])
  rw [h] at hb; cases hb
  exact ⟨_, by simp [hl], ro⟩
theorem RepO.there {o : O} {a : Addr} (r : RepO g H m o a) : H a ≠ none := by
  cases o with
  | lst ds => obtain ⟨xs, h, _⟩ := r; rw [h]; simp
  | ins c fs => obtain ⟨dx, xs, h, _⟩ := r; rw [h]; simp
theorem RelH.there (r : RelH g H L m) {a : Addr} (h : a ∈ m) : H a ≠ none := by
  obtain ⟨l, hl⟩ := List.mem_iff_getElem?.mp h
  obtain ⟨o, _, ro⟩ := r.at_ hl
  exact ro.there
theorem RelH.fresh (r : RelH g H L m) {p : Addr} (hp : H p = none) : Free g m p := ⟨fun h => r.there h hp, fun h => by
  obtain ⟨_, xs, e⟩ := r.hid p h
  rw [hp] at e; cases e⟩
theorem ext_new {p : Addr} {o : HO} (hp : H p = none) : Ext H m (upd H p o) m :=
  ⟨⟨[], by simp, by simp⟩, fun a u h _ _ => by rw [upd_ne (ne_of_none h hp)]; exact h, fun a u h => by rw [upd_ne (ne_of_none h hp)]; exact h,
    fun a u w h => by rw [upd_ne (ne_of_none h hp)]; exact h, fun a u h t => ⟨u, by rw [upd_ne (ne_of_none h hp)]; exact h, t⟩⟩
theorem tabs_new {T : List (Addr × Str)} {p : Addr} {o : HO} (t : LamX.Tabs T H) (hp : H p = none) : LamX.Tabs T (upd H p o) :=
  t.ext fun b u h => by rw [upd_ne (ne_of_none h hp)]; exact h
theorem RepO.ext {o : O} {a : Addr} (x : Ext H m H' m') (k : ∀ u, H a = some u → H' a = some u) (r : RepO g H m o a) : RepO g H' m' o a := by
  cases o with
  | lst ds => obtain ⟨xs, h, z, q⟩ := r; exact ⟨xs, k _ h, z, Reps.ext x _ _ q⟩
  | ins c fs => obtain ⟨dx, xs, h, q, ok⟩ := r; exact ⟨dx, xs, k _ h, q.ext x, ok⟩
/-- a new thing that is no changed one -/
theorem RelH.new {p : Addr} {o : HO} (r : RelH g H L m) (hp : H p = none) : RelH g (upd H p o) L m :=
  ⟨r.len, r.nd, fun l u e => by
    obtain ⟨a, h1, h2⟩ := r.objs l u e
    exact ⟨a, h1, h2.ext (ext_new hp) fun w q => by rw [upd_ne (ne_of_none q hp)]; exact q⟩, tabs_new r.tabs hp, fun a ha => by
    obtain ⟨h1, xs, h2⟩ := r.hid a ha
    exact ⟨h1, xs, by rw [upd_ne (ne_of_none h2 hp)]; exact h2⟩⟩
/-- a new list that will be changed -/
theorem ext_push {p : Addr} {o : HO} (hp : H p = none) : Ext H m (upd H p o) (m ++ [p]) :=
  let x : Ext H m (upd H p o) m := ext_new hp
  ⟨⟨[p], rfl, fun q hq u e => by rw [List.mem_singleton.mp hq, hp] at e; cases e⟩, x.keep, x.tups, x.frzs, x.dom⟩
theorem RelH.push {p : Addr} {ds : List D} {xs : List V} (r : RelH g H L m) (hp : H p = none) (z : xs.length ≤ sizeLine) (q : Reps g H m ds xs) :
    RelH g (upd H p (.lst xs)) (L ++ [.lst ds]) (m ++ [p]) := by
  have x : Ext H m (upd H p (.lst xs)) (m ++ [p]) := ext_push hp
  refine ⟨by simp [r.len], ?_, fun l u e => ?_, tabs_new r.tabs hp, fun a ha => ?_⟩
  · rw [List.nodup_append]
    exact ⟨r.nd, by simp, fun a ha b hb => by simp at hb; subst hb; intro e; subst e; exact (r.fresh hp).1 ha⟩
  · by_cases hl : l < L.length
    · rw [List.getElem?_append_left hl] at e
      obtain ⟨a, h1, h2⟩ := r.objs l u e
      exact ⟨a, x.mget h1, h2.ext x fun w q => by rw [upd_ne (ne_of_none q hp)]; exact q⟩
    · have hl' : l = L.length := by
        have := (List.getElem?_eq_some_iff.mp e).1
        simp at this; omega
      subst hl'
      simp at e; subst e
      exact ⟨p, by rw [← r.len]; simp, xs, upd_same, z, Reps.ext x _ _ q⟩
  · obtain ⟨h1, xs, h2⟩ := r.hid a ha
    have ne : a ≠ p := ne_of_none h2 hp
    exact ⟨by simp [h1, ne], xs, by rw [upd_ne ne]; exact h2⟩
theorem ext_write {a : Addr} {xs ys : List V} {l : Nat} (h : H a = some (.lst xs)) (ha : a ∈ m) : Ext H m (upd H a (.lst ys)) m :=
  ⟨⟨[], by simp, by simp⟩, fun b u q hb _ => by rw [upd_ne (fun e => hb (by rw [e]; exact ha))]; exact q, fun b u q => by rw [upd_ne (ne_of q h (by simp))]; exact q,
    fun b u w q => by rw [upd_ne (ne_of q h (by simp))]; exact q, fun b u q t => by
      by_cases e : b = a
      · subst e; exact ⟨_, upd_same, fun ps => by simp⟩
      · exact ⟨u, by rw [upd_ne e]; exact q, t⟩⟩
/-- a changed list is changed -/
theorem RelH.write {a : Addr} {xs ys : List V} {l : Nat} {ds : List D} (r : RelH g H L m) (hl : m[l]? = some a) (h : H a = some (.lst xs)) (z : ys.length ≤ sizeLine) (q : Reps g H m ds ys) :
    RelH g (upd H a (.lst ys)) (L.set l (.lst ds)) m := by
  have ha : a ∈ m := List.mem_of_getElem? hl
  have x : Ext H m (upd H a (.lst ys)) m := ext_write (l := l) h ha
  refine ⟨by simp [r.len], r.nd, fun j u e => ?_, ?_, fun b hb => ?_⟩
  · by_cases hj : l = j
    · subst hj
      have hlt : l < L.length := by rw [← r.len]; exact (List.getElem?_eq_some_iff.mp hl).1
      rw [List.getElem?_set_self hlt] at e; cases e
      exact ⟨a, hl, ys, upd_same, z, Reps.ext x _ _ q⟩
    · rw [List.getElem?_set_ne hj] at e
      obtain ⟨b, h1, h2⟩ := r.objs j u e
      have hb : b ≠ a := fun e => by
        subst e
        have i1 := List.getElem?_eq_some_iff.mp hl
        have i2 := List.getElem?_eq_some_iff.mp h1
        exact hj ((List.getElem_inj r.nd).mp (i1.2.trans i2.2.symm))
      exact ⟨b, h1, h2.ext x fun w q => by rw [upd_ne hb]; exact q⟩
  · intro p hp
    obtain ⟨ps, t1, t2, t3⟩ := r.tabs p hp
    refine ⟨ps, by rw [upd_ne (ne_of t1 h (by simp))]; exact t1, t2, fun pos cv hc => ?_⟩
    obtain ⟨c, e1, e2⟩ := t3 pos cv hc
    exact ⟨c, e1, by rw [upd_ne (ne_of e2 h (by simp [LamX.CodeO]))]; exact e2⟩
  · obtain ⟨h1, zs, h2⟩ := r.hid b hb
    have ne : b ≠ a := fun e => h1 (by rw [e]; exact ha)
    exact ⟨h1, zs, by rw [upd_ne ne]; exact h2⟩

/-! ### a list under way -/
abbrev G.more (g : G) (d : Addr) : G := { g with hid := d :: g.hid }
mutual
theorem Rep.hide {d : Addr} (hd : H d = none) : ∀ (x : D) (v : V), Rep g H m x v → Rep (g.more d) H m x v
  | .non, _, h => by cases h; exact .non
  | .bl _, _, h => by cases h; exact .bl _
  | .int _, _, h => by cases h; exact .int _
  | .str _, _, h => by cases h with | str _ z => exact .str _ z
  | .tup ds, _, h => by cases h with | tup h1 z h2 => exact .tup h1 z (Reps.hide hd ds _ h2)
  | .lst ds, _, h => by
    cases h with
    | lst h1 hm z h2 =>
      refine .lst h1 ⟨hm.1, fun q => ?_⟩ z (Reps.hide hd ds _ h2)
      rcases List.mem_cons.mp q with q | q
      · subst q; rw [hd] at h1; cases h1
      · exact hm.2 q
  | .scr ns, _, h => by
    cases h with
    | scr h1 hm z =>
      rcases hm with hm | hm
      · rcases h1 with h1 | h1
        · refine .scr (.inl h1) (.inl ⟨hm.1, fun q => ?_⟩) z
          rcases List.mem_cons.mp q with q | q
          · subst q; rcases h1 with h1 | ⟨o, h1⟩ <;> rw [hd] at h1 <;> cases h1
          · exact hm.2 q
        · exact .scr (.inr h1) (.inr h1) z
      · exact .scr h1 (.inr hm) z
  | .loc l, _, h => by cases h with | loc h => exact .loc h
  | .fn _, _, h => by cases h; exact .fn _
theorem Reps.hide {d : Addr} (hd : H d = none) : ∀ (xs : List D) (vs : List V), Reps g H m xs vs → Reps (g.more d) H m xs vs
  | [], _, h => by cases h; exact .nil
  | x :: xs, _, h => by cases h with | cons h1 h2 => exact .cons (Rep.hide hd x _ h1) (Reps.hide hd xs _ h2)
end
mutual
theorem Rep.show_ {d : Addr} : ∀ (x : D) (v : V), Rep (g.more d) H m x v → Rep g H m x v
  | .non, _, h => by cases h; exact .non
  | .bl _, _, h => by cases h; exact .bl _
  | .int _, _, h => by cases h; exact .int _
  | .str _, _, h => by cases h with | str _ z => exact .str _ z
  | .tup ds, _, h => by cases h with | tup h1 z h2 => exact .tup h1 z (Reps.show_ ds _ h2)
  | .lst ds, _, h => by cases h with | lst h1 hm z h2 => exact .lst h1 ⟨hm.1, fun q => hm.2 (List.mem_cons_of_mem _ q)⟩ z (Reps.show_ ds _ h2)
  | .scr ns, _, h => by cases h with | scr h1 hm z => exact .scr h1 (hm.imp (fun hm => ⟨hm.1, fun q => hm.2 (List.mem_cons_of_mem _ q)⟩) id) z
  | .loc l, _, h => by cases h with | loc h => exact .loc h
  | .fn _, _, h => by cases h; exact .fn _
theorem Reps.show_ {d : Addr} : ∀ (xs : List D) (vs : List V), Reps (g.more d) H m xs vs → Reps g H m xs vs
  | [], _, h => by cases h; exact .nil
  | x :: xs, _, h => by cases h with | cons h1 h2 => exact .cons (Rep.show_ x _ h1) (Reps.show_ xs _ h2)
end
mutual
theorem Rep.fill {d : Addr} {xs ys : List V} (hd : d ∈ g.hid) (h0 : H d = some (.lst xs)) : ∀ (x : D) (v : V), Rep g H m x v → Rep g (upd H d (.lst ys)) m x v
  | .non, _, h => by cases h; exact .non
  | .bl _, _, h => by cases h; exact .bl _
  | .int _, _, h => by cases h; exact .int _
  | .str _, _, h => by cases h with | str _ z => exact .str _ z
  | .tup ds, _, h => by
    cases h with
    | tup h1 z h2 =>
      refine .tup ?_ z (Reps.fill hd h0 ds _ h2)
      rcases h1 with (h1 | ⟨o, h1⟩) | h1
      · exact .inl (.inl (by rw [upd_ne (ne_of h1 h0 (by simp))]; exact h1))
      · exact .inl (.inr ⟨o, by rw [upd_ne (ne_of h1 h0 (by simp))]; exact h1⟩)
      · exact .inr h1
  | .lst ds, _, h => by
    cases h with
    | lst h1 hm z h2 => exact .lst (by rw [upd_ne (fun e => hm.2 (by rw [e]; exact hd))]; exact h1) hm z (Reps.fill hd h0 ds _ h2)
  | .scr ns, _, h => by
    cases h with
    | scr h1 hm z =>
      rcases hm with hm | hm
      · rcases h1 with h1 | h1
        · refine .scr (.inl ?_) (.inl hm) z
          rcases h1 with h1 | ⟨o, h1⟩
          · exact .inl (by rw [upd_ne (fun e => hm.2 (by rw [e]; exact hd))]; exact h1)
          · exact .inr ⟨o, by rw [upd_ne (ne_of h1 h0 (by simp))]; exact h1⟩
        · exact .scr (.inr h1) (.inr h1) z
      · exact .scr (.inr hm) (.inr hm) z
  | .loc l, _, h => by cases h with | loc h => exact .loc h
  | .fn _, _, h => by cases h; exact .fn _
theorem Reps.fill {d : Addr} {xs ys : List V} (hd : d ∈ g.hid) (h0 : H d = some (.lst xs)) : ∀ (ds : List D) (vs : List V), Reps g H m ds vs → Reps g (upd H d (.lst ys)) m ds vs
  | [], _, h => by cases h; exact .nil
  | x :: ds, _, h => by cases h with | cons h1 h2 => exact .cons (Rep.fill hd h0 x _ h1) (Reps.fill hd h0 ds _ h2)
end
theorem RepF.hide {d : Addr} (hd : H d = none) : ∀ {fs : List (Nat × D)} {xs : List (Str × V)}, RepF g H m fs xs → RepF (g.more d) H m fs xs
  | [], [], _ => trivial
  | (_, x) :: _, (_, _) :: _, ⟨a, b, c⟩ => ⟨a, Rep.hide hd x _ b, RepF.hide hd c⟩
  | [], _ :: _, h => h
  | _ :: _, [], h => h
theorem RepF.show_ {d : Addr} : ∀ {fs : List (Nat × D)} {xs : List (Str × V)}, RepF (g.more d) H m fs xs → RepF g H m fs xs
  | [], [], _ => trivial
  | (_, x) :: _, (_, _) :: _, ⟨a, b, c⟩ => ⟨a, Rep.show_ x _ b, RepF.show_ c⟩
  | [], _ :: _, h => h
  | _ :: _, [], h => h
theorem RepF.fill {d : Addr} {zs ys : List V} (hd : d ∈ g.hid) (h0 : H d = some (.lst zs)) : ∀ {fs : List (Nat × D)} {xs : List (Str × V)}, RepF g H m fs xs → RepF g (upd H d (.lst ys)) m fs xs
  | [], [], _ => trivial
  | (_, x) :: _, (_, _) :: _, ⟨a, b, c⟩ => ⟨a, Rep.fill hd h0 x _ b, RepF.fill hd h0 c⟩
  | [], _ :: _, h => h
  | _ :: _, [], h => h
/-- a list laid, under way from now on -/
theorem RelH.hide {d : Addr} (r : RelH g H L m) (hd : H d = none) : RelH (g.more d) (upd H d (.lst [])) L m := by
  have r2 : RelH g (upd H d (.lst [])) L m := r.new hd
  refine ⟨r.len, r.nd, fun l o e => ?_, r2.tabs, fun a ha => ?_⟩
  · obtain ⟨a, h1, h2⟩ := r.objs l o e
    refine ⟨a, h1, ?_⟩
    have x : Ext H m (upd H d (.lst [])) m := ext_new hd
    cases o with
    | lst ds => obtain ⟨xs, e1, z, q⟩ := h2; exact ⟨xs, by rw [upd_ne (ne_of_none e1 hd)]; exact e1, z, Reps.ext x _ _ (Reps.hide hd _ _ q)⟩
    | ins c fs => obtain ⟨dx, xs, e1, q, ok⟩ := h2; exact ⟨dx, xs, by rw [upd_ne (ne_of_none e1 hd)]; exact e1, (RepF.hide hd q).ext x, ok⟩
  · rcases List.mem_cons.mp ha with rfl | ha
    · exact ⟨(r.fresh hd).1, [], upd_same⟩
    · exact r2.hid a ha
theorem RelH.fill {d : Addr} {xs ys : List V} (r : RelH g H L m) (hd : d ∈ g.hid) (h0 : H d = some (.lst xs)) : RelH g (upd H d (.lst ys)) L m := by
  have nd : ∀ a ∈ m, a ≠ d := fun a ha e => (r.hid d hd).1 (by rw [← e]; exact ha)
  refine ⟨r.len, r.nd, fun l o e => ?_, fun p hp => ?_, fun a ha => ?_⟩
  · obtain ⟨a, h1, h2⟩ := r.objs l o e
    refine ⟨a, h1, ?_⟩
    have ne := nd a (List.mem_of_getElem? h1)
    cases o with
    | lst ds => obtain ⟨xs, e1, z, q⟩ := h2; exact ⟨xs, by rw [upd_ne ne]; exact e1, z, Reps.fill hd h0 _ _ q⟩
    | ins c fs => obtain ⟨dx, xs, e1, q, ok⟩ := h2; exact ⟨dx, xs, by rw [upd_ne ne]; exact e1, RepF.fill hd h0 q, ok⟩
  · obtain ⟨ps, t1, t2, t3⟩ := r.tabs p hp
    refine ⟨ps, by rw [upd_ne (ne_of t1 h0 (by simp))]; exact t1, t2, fun pos cv hc => ?_⟩
    obtain ⟨c, e1, e2⟩ := t3 pos cv hc
    exact ⟨c, e1, by rw [upd_ne (ne_of e2 h0 (by simp [LamX.CodeO]))]; exact e2⟩
  · obtain ⟨h1, zs, h2⟩ := r.hid a ha
    by_cases e : a = d
    · subst e; exact ⟨h1, ys, upd_same⟩
    · exact ⟨h1, zs, by rw [upd_ne e]; exact h2⟩
theorem RelH.show_ {d : Addr} (r : RelH (g.more d) H L m) : RelH g H L m := by
  refine ⟨r.len, r.nd, fun l o e => ?_, r.tabs, fun a ha => r.hid a (List.mem_cons_of_mem _ ha)⟩
  obtain ⟨a, h1, h2⟩ := r.objs l o e
  refine ⟨a, h1, ?_⟩
  cases o with
  | lst ds => obtain ⟨xs, e1, z, q⟩ := h2; exact ⟨xs, e1, z, Reps.show_ _ _ q⟩
  | ins c fs => obtain ⟨dx, xs, e1, q, ok⟩ := h2; exact ⟨dx, xs, e1, RepF.show_ q, ok⟩
/-- from ahead of the list's laying -/
theorem Ext.fill {H0 : Hp} {m0 : List Addr} {d : Addr} {o : HO} (x : Ext H0 m0 H m) (hd : H0 d = none) : Ext H0 m0 (upd H d o) m :=
  ⟨x.ex, fun a u h k t => by rw [upd_ne (ne_of_none h hd)]; exact x.keep a u h k t, fun a u h => by rw [upd_ne (ne_of_none h hd)]; exact x.tups a u h,
    fun a u w h => by rw [upd_ne (ne_of_none h hd)]; exact x.frzs a u w h, fun a u h t => by
      rw [upd_ne (ne_of_none h hd)]; exact x.dom a u h t⟩
/-- the list under way is one that will be changed -/
theorem free_thaw {d a : Addr} (h : Free (g.more d) m a) : Free g (m ++ [d]) a := ⟨fun q => by
  rcases List.mem_append.mp q with q | q
  · exact h.1 q
  · exact h.2 (by rw [List.mem_singleton.mp q]; exact List.mem_cons_self), fun q => h.2 (List.mem_cons_of_mem _ q)⟩
mutual
theorem Rep.thaw {d : Addr} : ∀ (x : D) (v : V), Rep (g.more d) H m x v → Rep g H (m ++ [d]) x v
  | .non, _, h => by cases h; exact .non
  | .bl _, _, h => by cases h; exact .bl _
  | .int _, _, h => by cases h; exact .int _
  | .str _, _, h => by cases h with | str _ z => exact .str _ z
  | .tup ds, _, h => by cases h with | tup h1 z h2 => exact .tup h1 z (Reps.thaw ds _ h2)
  | .lst ds, _, h => by cases h with | lst h1 hm z h2 => exact .lst h1 (free_thaw hm) z (Reps.thaw ds _ h2)
  | .scr ns, _, h => by cases h with | scr h1 hm z => exact .scr h1 (hm.imp free_thaw id) z
  | .loc l, _, h => by cases h with | loc h => exact .loc (by rw [List.getElem?_append_left (List.getElem?_eq_some_iff.mp h).1]; exact h)
  | .fn _, _, h => by cases h; exact .fn _
theorem Reps.thaw {d : Addr} : ∀ (xs : List D) (vs : List V), Reps (g.more d) H m xs vs → Reps g H (m ++ [d]) xs vs
  | [], _, h => by cases h; exact .nil
  | x :: xs, _, h => by cases h with | cons h1 h2 => exact .cons (Rep.thaw x _ h1) (Reps.thaw xs _ h2)
end
theorem RepF.thaw {d : Addr} : ∀ {fs : List (Nat × D)} {xs : List (Str × V)}, RepF (g.more d) H m fs xs → RepF g H (m ++ [d]) fs xs
  | [], [], _ => trivial
  | (_, x) :: _, (_, _) :: _, ⟨a, b, c⟩ => ⟨a, Rep.thaw x _ b, RepF.thaw c⟩
  | [], _ :: _, h => h
  | _ :: _, [], h => h
theorem RelH.thaw {d : Addr} {ds : List D} {xs : List V} (nh : d ∉ g.hid) (r : RelH (g.more d) H L m) (h : H d = some (.lst xs)) (z : xs.length ≤ sizeLine) (q : Reps (g.more d) H m ds xs) : RelH g H (L ++ [.lst ds]) (m ++ [d]) := by
  have nd := (r.hid d List.mem_cons_self).1
  refine ⟨by simp [r.len], ?_, fun l o e => ?_, r.tabs, fun a ha => ?_⟩
  · rw [List.nodup_append]
    exact ⟨r.nd, by simp, fun a ha b hb => by simp at hb; subst hb; intro e; subst e; exact nd ha⟩
  · by_cases hl : l < L.length
    · rw [List.getElem?_append_left hl] at e
      obtain ⟨a, h1, h2⟩ := r.objs l o e
      refine ⟨a, by rw [List.getElem?_append_left (List.getElem?_eq_some_iff.mp h1).1]; exact h1, ?_⟩
      cases o with
      | lst ds => obtain ⟨xs, e1, z, q⟩ := h2; exact ⟨xs, e1, z, Reps.thaw _ _ q⟩
      | ins c fs => obtain ⟨dx, xs, e1, q, ok⟩ := h2; exact ⟨dx, xs, e1, RepF.thaw q, ok⟩
    · have hl' : l = L.length := by
        have := (List.getElem?_eq_some_iff.mp e).1
        simp at this; omega
      subst hl'
      simp at e; subst e
      exact ⟨d, by rw [← r.len]; simp, xs, h, z, Reps.thaw _ _ q⟩
  · obtain ⟨h1, ys, h2⟩ := r.hid a (List.mem_cons_of_mem _ ha)
    refine ⟨fun q => ?_, ys, h2⟩
    rcases List.mem_append.mp q with q | q
    · exact h1 q
    · rw [List.mem_singleton.mp q] at ha; exact nh ha
end
end Ev
end

section
set_option Elab.async false
set_option linter.all false
set_option maxRecDepth 100000
set_option autoImplicit false
set_option maxHeartbeats 1000000
/-! expressions: what the evaluator tells is what the machine does -/
namespace Ev
open PySem PySem.Spec PyProof.Rows L2

/-- what is wanted of a result -/
def Out {α β : Type} (g : G) (rep : Hp → List Addr → α → β → Prop) (W : WX) (σ : L2.St) (H : Hp) (m : List Addr) (Q : β → Hp → Prop) : R α → Prop
  | .ok a L => ∀ v H' m', Ext H m H' m' → RelH g H' L m' → rep H' m' a v → Q v H'
  | .exc c w L => ∀ d H' m', Ext H m H' m' → RelH g H' L m' → RepX g H' m' w d → W (.ref (g.cad c)) d σ H'
  | .bad => False
def liftG {α β : Type} (g : G) (rep : Hp → List Addr → α → β → Prop) (W : WX) (f : Env → LH → R α) : L2.St → Hp → (β → Hp → Prop) → Prop := fun σ H Q =>
  ∃ env L m, Rel g σ H env L m ∧ Out g rep W σ H m Q (f env L)
abbrev liftE (g : G) (W : WX) (f : Env → LH → R D) : TE := liftG g (Rep g) W f
abbrev liftA (g : G) (W : WX) (f : Env → LH → R (List D)) : TA := liftG g (Reps g) W f
/-- a test's -/
abbrev liftT (g : G) (W : WX) (f : Env → LH → R Bool) : TT := liftG g (fun _ _ d b => d = b) W f
/-- a value's truth -/
def truR (f : Env → LH → R D) : Env → LH → R Bool := fun env L => (f env L).bind fun x L => opt (truth x) L

section
variable {α β γ δ : Type} {g : G} {W : WX} {σ : L2.St} {H H' : Hp} {m m' : List Addr} {L L' : LH} {env : Env} {rep : Hp → List Addr → α → β → Prop} {rep' : Hp → List Addr → γ → δ → Prop}
theorem Out.ext {Q : β → Hp → Prop} (x : Ext H m H' m') : ∀ {r : R α}, Out g rep W σ H m Q r → Out g rep W σ H' m' Q r
  | .ok a L, h => fun v H2 m2 y r q => h v H2 m2 (x.trans y) r q
  | .exc c w L, h => fun d H2 m2 y r q => h d H2 m2 (x.trans y) r q
  | .bad, h => h
theorem Out.bind {Q : δ → Hp → Prop} {P : β → Hp → Prop} {f : α → LH → R γ} : ∀ {r : R α}, Out g rep' W σ H m Q (r.bind f) →
    (∀ a L1 v H1 m1, Ext H m H1 m1 → RelH g H1 L1 m1 → rep H1 m1 a v → Out g rep' W σ H1 m1 Q (f a L1) → P v H1) → Out g rep W σ H m P r
  | .ok a L, h, k => fun v H1 m1 y r q => k a L v H1 m1 y r q (Out.ext y h)
  | .exc c w L, h, k => fun d H1 m1 y r q => h d H1 m1 y r q
  | .bad, h, k => h
theorem Out.mono {Q P : β → Hp → Prop} : ∀ {r : R α}, Out g rep W σ H m Q r → (∀ v H', Q v H' → P v H') → Out g rep W σ H m P r
  | .ok a L, h, k => fun v H1 m1 y r q => k _ _ (h v H1 m1 y r q)
  | .exc c w L, h, k => h
  | .bad, h, k => h
/-- the end of a step: a value in a heap that stands where it stood, or one more -/
theorem Out.ok_ {Q : β → Hp → Prop} {a : α} {v : β} (h : Out g rep W σ H m Q (.ok a L)) (r : RelH g H L m) (q : rep H m a v) : Q v H := h v H m Ext.refl r q
theorem Out.new_ {Q : β → Hp → Prop} {a : α} {v : β} {p : Addr} {o : HO} (h : Out g rep W σ H m Q (.ok a L)) (r : RelH g H L m) (hp : H p = none) (q : rep (upd H p o) m a v) : Q v (upd H p o) :=
  h v _ m (ext_new hp) (r.new hp) q
end
theorem PE.weak {X : Cx} {e : Expr} {t t' : TE} (h : PE X e t) (w : ∀ σ H Q, t' σ H Q → t σ H Q) : PE X e t' := ⟨fun pins s σ H Q I k => h.run pins s σ H Q I (w σ H Q k)⟩
theorem PA.weak {X : Cx} {e : List Expr} {t t' : TA} (h : PA X e t) (w : ∀ σ H Q, t' σ H Q → t σ H Q) : PA X e t' := ⟨fun pos pins s σ H Q I k => h.run pos pins s σ H Q I (w σ H Q k)⟩
theorem PT.weak {X : Cx} {e : Expr} {t t' : TT} (h : PT X e t) (w : ∀ σ H Q, t' σ H Q → t σ H Q) : PT X e t' := ⟨fun pins s σ H Q I k => h.run pins s σ H Q I (w σ H Q k)⟩
theorem PW.weak {X : Cx} {e : Expr} {t t' : TT} (h : PW X e t) (w : ∀ σ H Q, t' σ H Q → t σ H Q) : PW X e t' := ⟨fun wh pins s σ H Q I k => h.run wh pins s σ H Q I (w σ H Q k)⟩

/-- an operation on two values -/
def Op2 (g : G) (f : D → D → LH → Option D) (r : R2) : Prop := ∀ (x y z : D) (v u : V) (H : Hp) (m : List Addr) (L : LH) (Q : VK), RelH g H L m → Rep g H m x v → Rep g H m y u → f x y L = some z →
  (∀ w, Rep g H m z w → Q w H) → (∀ w p o, H p = none → Rep g (upd H p o) m z w → Q w (upd H p o)) → r v u H Q
section
variable {X : Cx} {g : G} {W : WX} {a b c : Expr} {fa fb fc : Env → LH → R D} {pos : Pos} {es : List Expr} {fs : Env → LH → R (List D)}
theorem fin2 {f : D → D → LH → Option D} {x y : D} {L : LH} {H : Hp} {m : List Addr} {σ : L2.St} {Q : VK} {r : R2} {v u : V} (o : Op2 g f r) (R : RelH g H L m) (rx : Rep g H m x v) (ry : Rep g H m y u) (h : Out g (Rep g) W σ H m Q (opt (f x y L) L)) : r v u H Q := by
  cases e : f x y L with
  | none => rw [e] at h; exact h.elim
  | some z =>
    rw [e] at h
    exact o x y z v u H m L Q R rx ry e (fun w q => h.ok_ R q) fun w p ob hp q => h.new_ R hp q
theorem se_op {op : Operator} {r : R2} {f : D → D → LH → Option D} (ho : OpR X (binaryOp op) r) (o : Op2 g f r) (ha : PE X a (liftE g W fa)) (hb : PE X b (liftE g W fb)) :
    PE X (.BinOp a op b pos) (liftE g W fun env L => (fa env L).bind fun x L => (fb env L).bind fun y L => opt (f x y L) L) := by
  refine PE.weak (pe_op ho ha hb) fun σ H Q ⟨env, L, m, R, h⟩ => ⟨env, L, m, R, h.bind fun x L1 v H1 m1 x1 r1 q1 h1 => ?_⟩
  refine ⟨env, L1, m1, R.ext x1 r1, h1.bind fun y L2 u H2 m2 x2 r2 q2 h2 => ?_⟩
  exact fin2 o r2 (Rep.ext x2 _ _ q1) q2 h2
theorem se_cmp {op : CmpOp} {r : R2} {f : D → D → LH → Option D} (ho : OpR X (compareOp op) r) (o : Op2 g f r) (ha : PE X a (liftE g W fa)) (hb : PE X b (liftE g W fb)) (hm : behindInMarks op b = false) :
    PE X (.Compare a [op] [b] pos) (liftE g W fun env L => (fa env L).bind fun x L => (fb env L).bind fun y L => opt (f x y L) L) := by
  refine PE.weak (pe_cmpR ho ha hb hm) fun σ H Q ⟨env, L, m, R, h⟩ => ⟨env, L, m, R, h.bind fun x L1 v H1 m1 x1 r1 q1 h1 => ?_⟩
  refine ⟨env, L1, m1, R.ext x1 r1, h1.bind fun y L2 u H2 m2 x2 r2 q2 h2 => ?_⟩
  exact fin2 o r2 (Rep.ext x2 _ _ q1) q2 h2
theorem se_ix {r : R2} {f : D → D → LH → Option D} (hr : IxR X r) (o : Op2 g f r) (ha : PE X a (liftE g W fa)) (hb : PE X b (liftE g W fb)) (hs : PlainIx b) :
    PE X (.Subscript a b pos) (liftE g W fun env L => (fa env L).bind fun x L => (fb env L).bind fun y L => opt (f x y L) L) := by
  refine PE.weak (pe_ix hr ha hb hs) fun σ H Q ⟨env, L, m, R, h⟩ => ⟨env, L, m, R, h.bind fun x L1 v H1 m1 x1 r1 q1 h1 => ?_⟩
  refine ⟨env, L1, m1, R.ext x1 r1, h1.bind fun y L2 u H2 m2 x2 r2 q2 h2 => ?_⟩
  exact fin2 o r2 (Rep.ext x2 _ _ q1) q2 h2
theorem se_var {i : Nat} {x : Str} (hN : X.N[i]? = some x) (hv : Vis X.env.scope x) (hd : (x == ("__debug__" : Str)) = false) (hcd : (x == ("__classdict__" : Str)) = false) : PE X (.Name x pos) (liftE g W (fun env L => match env[i]? with | some (some d) => .ok d L | _ => .bad)) := by
  refine PE.weak (pe_var hN hv hd hcd) fun σ H Q ⟨env, L, m, R, h⟩ => ?_
  dsimp only at h
  cases e : env[i]? with
  | none => rw [e] at h; exact h.elim
  | some o =>
    cases o with
    | none => rw [e] at h; exact h.elim
    | some d =>
      rw [e] at h
      obtain ⟨v, e1, q⟩ := R.vars i d e
      exact ⟨v, e1, h.ok_ R.h q⟩
theorem se_con {d : D} {v : V} {e : Expr} (he : PE X e (tC v)) (hr : ∀ H m, Rep g H m d v) : PE X e (liftE g W (fun _ L => .ok d L)) :=
  PE.weak he fun σ H Q ⟨env, L, m, R, h⟩ => h.ok_ R.h (hr H m)
theorem sa_nil : PA X [] (liftA g W fun _ L => .ok [] L) := PA.weak pa_nil fun σ H Q ⟨env, L, m, R, h⟩ => h.ok_ R.h .nil
theorem sa_cons (ha : PE X a (liftE g W fa)) (hr : PA X es (liftA g W fs)) (hs : starEach (a :: es) X.env = (false, eval a X.env) :: starEach es X.env) :
    PA X (a :: es) (liftA g W fun env L => (fa env L).bind fun x L => (fs env L).bind fun xs L => .ok (x :: xs) L) := by
  refine PA.weak (pa_cons ha hr hs) fun σ H Q ⟨env, L, m, R, h⟩ => ⟨env, L, m, R, h.bind fun x L1 v H1 m1 x1 r1 q1 h1 => ?_⟩
  refine ⟨env, L1, m1, R.ext x1 r1, h1.bind fun y L2 u H2 m2 x2 r2 q2 h2 => ?_⟩
  exact h2.ok_ r2 (.cons (Rep.ext x2 _ _ q1) q2)
theorem size16_eq : size16 = sizeLine := by rw [sizeLine_eq]; rfl
theorem se_tup {k : Nat} (ha : PA X es (liftA g W fs)) : PE X (.Tuple es k pos) (liftE g W fun env L => (fs env L).bind fun xs L => if xs.length ≤ size16 then .ok (.tup xs) L else .bad) := by
  refine PE.weak (pe_tup ha) fun σ H Q ⟨env, L, m, R, h⟩ => ⟨env, L, m, R, h.bind fun xs L1 vs H1 m1 x1 r1 q1 h1 => ?_⟩
  by_cases hz : xs.length ≤ size16
  · rw [if_pos hz] at h1
    have hz' : vs.length ≤ sizeLine := by rw [← q1.len, ← size16_eq]; exact hz
    exact ⟨hz', fun p hp => h1.new_ r1 hp (.tup (SqT.of upd_same) hz' (Reps.ext (ext_new hp) _ _ q1))⟩
  · rw [if_neg hz] at h1; exact h1.elim
theorem se_lst (ha : PA X es (liftA g W fs)) : PE X (.List es pos) (liftE g W fun env L => (fs env L).bind fun xs L => if xs.length ≤ size16 then .ok (.lst xs) L else .bad) := by
  refine PE.weak (pe_lst ha) fun σ H Q ⟨env, L, m, R, h⟩ => ⟨env, L, m, R, h.bind fun xs L1 vs H1 m1 x1 r1 q1 h1 => ?_⟩
  by_cases hz : xs.length ≤ size16
  · rw [if_pos hz] at h1
    have hz' : vs.length ≤ sizeLine := by rw [← q1.len, ← size16_eq]; exact hz
    exact ⟨hz', fun p hp => h1.new_ r1 hp (.lst upd_same (r1.fresh hp) hz' (Reps.ext (ext_new hp) _ _ q1))⟩
  · rw [if_neg hz] at h1; exact h1.elim
theorem se_mlst (ha : PA X es (liftA g W fs)) : PE X (.List es pos) (liftE g W fun env L => (fs env L).bind fun xs L => if xs.length ≤ size16 then .ok (.loc L.length) (L ++ [.lst xs]) else .bad) := by
  refine PE.weak (pe_lst ha) fun σ H Q ⟨env, L, m, R, h⟩ => ⟨env, L, m, R, h.bind fun xs L1 vs H1 m1 x1 r1 q1 h1 => ?_⟩
  by_cases hz : xs.length ≤ size16
  · rw [if_pos hz] at h1
    have hz' : vs.length ≤ sizeLine := by rw [← q1.len, ← size16_eq]; exact hz
    exact ⟨hz', fun p hp => h1 _ _ _ (ext_push hp) (r1.push hp hz' q1) (.loc (by rw [← r1.len]; simp))⟩
  · rw [if_neg hz] at h1; exact h1.elim
end

/-! ### truth -/
theorem truth_ok {g : G} {H : Hp} {m : List Addr} {d : D} {v : V} {b : Bool} (r : Rep g H m d v) (h : truth d = some b) : TruV g.K v H b := by
  cases r with
  | non => simp only [truth, Option.some.injEq] at h; exact h.symm
  | bl k => simp only [truth, Option.some.injEq] at h; exact h.symm
  | int i => simp only [truth, Option.some.injEq] at h; exact h.symm
  | str x z => simp only [truth, Option.some.injEq] at h; exact ⟨z, h.symm⟩
  | tup h1 z h2 => simp only [truth, Option.some.injEq] at h; exact .inr (.inl ⟨_, h1, by rw [← h, h2.isEmpty]⟩)
  | lst h1 hm z h2 => simp only [truth, Option.some.injEq] at h; exact .inl ⟨_, SqL.of h1, by rw [← h, h2.isEmpty]⟩
  | scr h1 hm z => simp only [truth, Option.some.injEq] at h; exact .inl ⟨_, h1, by rw [← h]; cases ‹List Int› <;> rfl⟩
  | loc _ => simp [truth] at h
  | fn _ => simp [truth] at h
section
variable {X : Cx} {g : G} {W : WX} {a b c : Expr} {fa fb fc : Env → LH → R D} {pos : Pos} {es rest : List Expr}

theorem tru_ok2 {f : Env → LH → R D} {x : D} {L : LH} {H : Hp} {m : List Addr} {σ : L2.St} {Q : Bool → Hp → Prop} {v : V} (hK : X.K = g.K) (R : RelH g H L m) (rx : Rep g H m x v) (h : Out g (fun _ _ d b => d = b) W σ H m Q (opt (truth x) L)) : ∃ k, TruV X.K v H k ∧ Q k H := by
  cases e : truth x with
  | none => rw [e] at h; exact h.elim
  | some k => rw [e] at h; exact ⟨k, by rw [hK]; exact truth_ok rx e, h.ok_ R rfl⟩
theorem st_val (hK : X.K = g.K) (ha : PE X a (liftE g W fa)) (he : ∀ whole, isTrue a X.env whole = (do let v ← whole; standAt a.pos; holding [v] (truthy v))) : PT X a (liftT g W (truR fa)) := by
  refine PT.weak (pt_truth ha he) fun σ H Q ⟨env, L, m, R, h⟩ => ⟨env, L, m, R, h.bind fun x L1 v H1 m1 x1 r1 q1 h1 => ?_⟩
  exact tru_ok2 (f := fa) hK r1 q1 h1
theorem tfin2 {f : D → D → LH → Option Bool} {x y : D} {L : LH} {H : Hp} {m : List Addr} {σ : L2.St} {Q : Bool → Hp → Prop} {r : R2} {v u : V} (o : Op2 g (fun x y L => (f x y L).map .bl) r) (R : RelH g H L m) (rx : Rep g H m x v) (ry : Rep g H m y u)
    (h : Out g (fun _ _ d b => d = b) W σ H m Q (opt (f x y L) L)) : r v u H fun x H' => ∃ k, x = .bl k ∧ Q k H' := by
  cases e : f x y L with
  | none => rw [e] at h; exact h.elim
  | some z =>
    rw [e] at h
    refine o x y (.bl z) v u H m L _ R rx ry (by simp [e]) (fun w q => ?_) fun w p ob hp q => ?_
    · cases q; exact ⟨z, rfl, h.ok_ R rfl⟩
    · cases q; exact ⟨z, rfl, h.new_ R hp rfl⟩
theorem truR_cmp {f : D → D → LH → Option Bool} : truR (fun env L => (fa env L).bind fun x L => (fb env L).bind fun y L => opt ((f x y L).map .bl) L) = fun env L => (fa env L).bind fun x L => (fb env L).bind fun y L => opt (f x y L) L := by
  funext env L
  simp only [truR]
  cases fa env L with
  | ok x L1 =>
    simp only [R.bind_ok]
    cases fb env L1 with
    | ok y L2 => simp only [R.bind_ok]; cases f x y L2 <;> simp [truth]
    | _ => rfl
  | _ => rfl
theorem st_cmp {op : CmpOp} {r : R2} {f : D → D → LH → Option Bool} (ho : OpR X (compareOp op) r) (o : Op2 g (fun x y L => (f x y L).map .bl) r) (ha : PE X a (liftE g W fa)) (hb : PE X b (liftE g W fb)) (hm : behindInMarks op b = false) :
    PT X (.Compare a [op] [b] pos) (liftT g W (truR fun env L => (fa env L).bind fun x L => (fb env L).bind fun y L => opt ((f x y L).map .bl) L)) := by
  rw [truR_cmp]
  refine PT.weak (pt_cmpR ho ha hb hm) fun σ H Q ⟨env, L, m, R, h⟩ => ⟨env, L, m, R, h.bind fun x L1 v H1 m1 x1 r1 q1 h1 => ?_⟩
  refine ⟨env, L1, m1, R.ext x1 r1, h1.bind fun y L2 u H2 m2 x2 r2 q2 h2 => ?_⟩
  exact tfin2 o r2 (Rep.ext x2 _ _ q1) q2 h2
/-- a op b op' c -/
def chF (f f' : D → D → LH → Option Bool) (fa fb fc : Env → LH → R D) : Env → LH → R D := fun env L => (fa env L).bind fun x L => (fb env L).bind fun y L => match f x y L with
  | some true => (fc env L).bind fun z L => opt ((f' y z L).map .bl) L
  | some false => .ok (.bl false) L
  | none => .bad
theorem chain_core {rp rp' : R2} {f f' : D → D → LH → Option Bool} (o : Op2 g (fun x y L => (f x y L).map .bl) rp) (o' : Op2 g (fun x y L => (f' x y L).map .bl) rp') {σ : L2.St} {H : Hp} {Q : VK}
    (h : liftE g W (chF f f' fa fb fc) σ H Q) : tChain rp rp' (liftE g W fa) (liftE g W fb) (liftE g W fc) σ H Q := by
  obtain ⟨env, L, m, R, h⟩ := h
  refine ⟨env, L, m, R, h.bind fun x L1 v H1 m1 x1 r1 q1 h1 => ?_⟩
  refine ⟨env, L1, m1, R.ext x1 r1, h1.bind fun y L2 u H2 m2 x2 r2 q2 h2 => ?_⟩
  have R2 := (R.ext x1 r1).ext x2 r2
  cases e : f x y L2 with
  | none => rw [e] at h2; exact h2.elim
  | some z =>
    rw [e] at h2
    have key : ∀ H3 m3, Ext H2 m2 H3 m3 → RelH g H3 L2 m3 → (if z = true then liftE g W fc σ H3 fun w' H4 => rp' u w' H4 Q else Q (.bl false) H3) := fun H3 m3 x3 r3 => by
      cases z with
      | false => exact (Out.ext x3 h2).ok_ r3 (.bl false)
      | true =>
        refine ⟨env, L2, m3, R2.ext x3 r3, (Out.ext x3 h2).bind fun c L3 w H4 m4 x4 r4 q4 h4 => ?_⟩
        exact fin2 o' r4 (Rep.ext (x3.trans x4) _ _ q2) q4 h4
    refine o x y (.bl z) v u H2 m2 L2 _ r2 (Rep.ext x2 _ _ q1) q2 (by simp [e]) (fun w q => ?_) fun w p ob hp q => ?_
    · cases q; exact ⟨z, rfl, key H2 m2 Ext.refl r2⟩
    · cases q; exact ⟨z, rfl, key _ m2 (ext_new hp) (r2.new hp)⟩
theorem se_chain {op op' : CmpOp} {r r' : R2} {f f' : D → D → LH → Option Bool} (ho : OpR X (compareOp op) r) (ho' : OpR X (compareOp op') r') (o : Op2 g (fun x y L => (f x y L).map .bl) r) (o' : Op2 g (fun x y L => (f' x y L).map .bl) r')
    (ha : PE X a (liftE g W fa)) (hb : PE X b (liftE g W fb)) (hc : PE X c (liftE g W fc)) (hm : lastMarks [op, op'] [b, c] = false) :
    PE X (.Compare a [op, op'] [b, c] pos) (liftE g W (chF f f' fa fb fc)) :=
  PE.weak (pe_chain ho ho' ha hb hc hm) fun σ H Q h => chain_core o o' h

theorem bl_out {f : Env → LH → R D} (hb : ∀ env L d L', f env L = .ok d L' → ∃ k, d = .bl k) {env : Env} {L : LH} {σ : L2.St} {H : Hp} {m : List Addr} {Q : Bool → Hp → Prop} (h : Out g (fun _ _ d b => d = b) W σ H m Q (truR f env L)) :
    Out g (Rep g) W σ H m (fun v H' => ∃ k, v = .bl k ∧ Q k H') (f env L) := by
  simp only [truR] at h
  cases e : f env L with
  | ok d L' =>
    rw [e] at h
    obtain ⟨k, rfl⟩ := hb env L d L' e
    intro v H' m' x r q
    cases q
    exact ⟨k, rfl, h k H' m' x r rfl⟩
  | exc c w L' => rw [e] at h; exact h
  | bad => rw [e] at h; exact h
theorem chF_bl {f f' : D → D → LH → Option Bool} : ∀ env L d L', chF f f' fa fb fc env L = .ok d L' → ∃ k, d = .bl k := by
  intro env L d L' h
  simp only [chF] at h
  cases e1 : fa env L with
  | ok x L1 =>
    rw [e1] at h; simp only [R.bind_ok] at h
    cases e2 : fb env L1 with
    | ok y L2 =>
      rw [e2] at h; simp only [R.bind_ok] at h
      cases e3 : f x y L2 with
      | none => rw [e3] at h; cases h
      | some z =>
        rw [e3] at h
        cases z with
        | false => cases h; exact ⟨_, rfl⟩
        | true =>
          simp only at h
          cases e4 : fc env L2 with
          | ok z L3 =>
            rw [e4] at h; simp only [R.bind_ok] at h
            cases e5 : f' y z L3 with
            | none => rw [e5] at h; cases h
            | some k => rw [e5] at h; cases h; exact ⟨_, rfl⟩
          | _ => rw [e4] at h; cases h
    | _ => rw [e2] at h; cases h
  | _ => rw [e1] at h; cases h
theorem st_chain {op op' : CmpOp} {r r' : R2} {f f' : D → D → LH → Option Bool} (ho : OpR X (compareOp op) r) (ho' : OpR X (compareOp op') r') (o : Op2 g (fun x y L => (f x y L).map .bl) r) (o' : Op2 g (fun x y L => (f' x y L).map .bl) r')
    (ha : PE X a (liftE g W fa)) (hb : PE X b (liftE g W fb)) (hc : PE X c (liftE g W fc)) (hm : lastMarks [op, op'] [b, c] = false) :
    PT X (.Compare a [op, op'] [b, c] pos) (liftT g W (truR (chF f f' fa fb fc))) :=
  PT.weak (pt_chain ho ho' ha hb hc hm) fun σ H Q ⟨env, L, m, R, h⟩ => chain_core o o' ⟨env, L, m, R, bl_out chF_bl h⟩

/-! ### not, and, or, if -/
def notF (fa : Env → LH → R D) : Env → LH → R D := fun env L => (fa env L).bind fun x L => opt ((truth x).map fun b => .bl (!b)) L
def andF (fa fb : Env → LH → R D) : Env → LH → R D := fun env L => (fa env L).bind fun x L => match truth x with
    | some true => fb env L
    | some false => .ok x L
    | none => .bad
def orF (fa fb : Env → LH → R D) : Env → LH → R D := fun env L => (fa env L).bind fun x L => match truth x with
    | some true => .ok x L
    | some false => fb env L
    | none => .bad
def ifF {α : Type} (fa : Env → LH → R D) (fb fc : Env → LH → R α) : Env → LH → R α := fun env L => (fa env L).bind fun x L => match truth x with
    | some true => fb env L
    | some false => fc env L
    | none => .bad
theorem se_not (hK : X.K = g.K) (ha : PE X a (liftE g W fa)) : PE X (.UnaryOp .Not a pos) (liftE g W (notF fa)) := by
  refine PE.weak (pe_notT ha) fun σ H Q ⟨env, L, m, R, h⟩ => ⟨env, L, m, R, h.bind fun x L1 v H1 m1 x1 r1 q1 h1 => ?_⟩
  cases e : truth x with
  | none => rw [e] at h1; exact h1.elim
  | some k => rw [e] at h1; exact ⟨k, by rw [hK]; exact truth_ok q1 e, h1.ok_ r1 (.bl _)⟩
theorem st_not (ha : PT X a (liftT g W (truR fa))) : PT X (.UnaryOp .Not a pos) (liftT g W (truR (notF fa))) := by
  refine PT.weak (pt_not ha) fun σ H Q ⟨env, L, m, R, h⟩ => ⟨env, L, m, R, ?_⟩
  simp only [truR, notF] at h ⊢
  cases e : fa env L with
  | ok x L1 =>
    rw [e] at h; simp only [Ev.R.bind_ok] at h ⊢
    cases e2 : truth x with
    | none => rw [e2] at h; exact h
    | some k =>
      rw [e2] at h
      intro b H' m' x r q
      subst q
      exact h _ H' m' x r rfl
  | exc c w L1 => rw [e] at h; exact h
  | bad => rw [e] at h; exact h
theorem se_and (hK : X.K = g.K) (ha : PE X a (liftE g W fa)) (hb : PE X (.BoolOp .And (b :: rest) pos) (liftE g W fb)) : PE X (.BoolOp .And (a :: b :: rest) pos) (liftE g W (andF fa fb)) := by
  refine PE.weak (pe_andT ha hb) fun σ H Q ⟨env, L, m, R, h⟩ => ⟨env, L, m, R, h.bind fun x L1 v H1 m1 x1 r1 q1 h1 => ?_⟩
  cases e : truth x with
  | none => rw [e] at h1; exact h1.elim
  | some k =>
    rw [e] at h1
    refine ⟨k, by rw [hK]; exact truth_ok q1 e, ?_⟩
    cases k with
    | true => exact ⟨env, L1, m1, R.ext x1 r1, h1⟩
    | false => exact h1.ok_ r1 q1
theorem se_or (hK : X.K = g.K) (ha : PE X a (liftE g W fa)) (hb : PE X (.BoolOp .Or (b :: rest) pos) (liftE g W fb)) : PE X (.BoolOp .Or (a :: b :: rest) pos) (liftE g W (orF fa fb)) := by
  refine PE.weak (pe_orT ha hb) fun σ H Q ⟨env, L, m, R, h⟩ => ⟨env, L, m, R, h.bind fun x L1 v H1 m1 x1 r1 q1 h1 => ?_⟩
  cases e : truth x with
  | none => rw [e] at h1; exact h1.elim
  | some k =>
    rw [e] at h1
    refine ⟨k, by rw [hK]; exact truth_ok q1 e, ?_⟩
    cases k with
    | true => exact h1.ok_ r1 q1
    | false => exact ⟨env, L1, m1, R.ext x1 r1, h1⟩
/-- a test, then the rest -/
theorem Out.test {γ δ : Type} {rep' : Hp → List Addr → γ → δ → Prop} {Q : δ → Hp → Prop} {P : Bool → Hp → Prop} {σ : L2.St} {H : Hp} {m : List Addr} {env : Env} {L : LH} {k : D → LH → R γ} (R0 : Rel g σ H env L m) (h : Out g rep' W σ H m Q ((fa env L).bind k))
    (h0 : ∀ x L, truth x = none → k x L = .bad) (hk : ∀ x b L1 (v : V) H1 m1, Ext H m H1 m1 → truth x = some b → Rel g σ H1 env L1 m1 → Out g rep' W σ H1 m1 Q (k x L1) → P b H1) : Out g (fun _ _ d b => d = b) W σ H m P (truR fa env L) := by
  simp only [truR]
  cases e : fa env L with
  | ok x L1 =>
    rw [e] at h; simp only [Ev.R.bind_ok] at h ⊢
    cases e2 : truth x with
    | none => rw [h0 x L1 e2] at h; exact h.elim
    | some b =>
      intro b' H1 m1 x1 r1 q
      subst q
      exact hk x _ L1 (V.bl b) H1 m1 x1 e2 (R0.ext x1 r1) (Out.ext x1 h)
  | exc c w L1 => rw [e] at h; exact h
  | bad => rw [e] at h; exact h
theorem se_ife (hc : PT X c (liftT g W (truR fc))) (ha : PE X a (liftE g W fa)) (hb : PE X b (liftE g W fb)) : PE X (.IfExp c a b pos) (liftE g W (ifF fc fa fb)) := by
  refine PE.weak (pe_ifExp hc ha hb) fun σ H Q ⟨env, L, m, R, h⟩ => ⟨env, L, m, R, Out.test R h (fun x L e => by simp only [e]) fun x b L1 v H1 m1 x1 e r1 h1 => ?_⟩
  simp only [e] at h1
  cases b with
  | true => exact ⟨env, L1, m1, r1, h1⟩
  | false => exact ⟨env, L1, m1, r1, h1⟩
theorem sw_and1 (ha : PT X a (liftT g W (truR fa))) : PW X (.BoolOp .And [a] pos) (liftT g W (truR fa)) := pw_and1 ha
theorem sw_or1 (ha : PT X a (liftT g W (truR fa))) : PW X (.BoolOp .Or [a] pos) (liftT g W (truR fa)) := pw_or1 ha
theorem truR_and {env : Env} {L : LH} : truR (andF fa fb) env L = (fa env L).bind fun x L => match truth x with | some true => truR fb env L | some false => .ok false L | none => .bad := by
  simp only [truR, andF]
  cases fa env L with
  | ok x L1 =>
    simp only [Ev.R.bind_ok]
    cases e : truth x with
    | none => rfl
    | some b => cases b <;> simp [e]
  | _ => rfl
theorem truR_or {env : Env} {L : LH} : truR (orF fa fb) env L = (fa env L).bind fun x L => match truth x with | some true => .ok true L | some false => truR fb env L | none => .bad := by
  simp only [truR, orF]
  cases fa env L with
  | ok x L1 =>
    simp only [Ev.R.bind_ok]
    cases e : truth x with
    | none => rfl
    | some b => cases b <;> simp [e]
  | _ => rfl
theorem sw_and (ha : PT X a (liftT g W (truR fa))) (hb : PW X (.BoolOp .And (b :: rest) pos) (liftT g W (truR fb))) : PW X (.BoolOp .And (a :: b :: rest) pos) (liftT g W (truR (andF fa fb))) := by
  refine PW.weak (pw_and ha hb) fun σ H Q ⟨env, L, m, R, h⟩ => ?_
  rw [truR_and] at h
  refine ⟨env, L, m, R, Out.test R h (fun x L e => by simp only [e]) fun x b L1 v H1 m1 x1 e r1 h1 => ?_⟩
  simp only [e] at h1
  cases b with
  | true => exact ⟨env, L1, m1, r1, h1⟩
  | false => exact h1.ok_ r1.h rfl
theorem sw_or (ha : PT X a (liftT g W (truR fa))) (hb : PW X (.BoolOp .Or (b :: rest) pos) (liftT g W (truR fb))) : PW X (.BoolOp .Or (a :: b :: rest) pos) (liftT g W (truR (orF fa fb))) := by
  refine PW.weak (pw_or ha hb) fun σ H Q ⟨env, L, m, R, h⟩ => ?_
  rw [truR_or] at h
  refine ⟨env, L, m, R, Out.test R h (fun x L e => by simp only [e]) fun x b L1 v H1 m1 x1 e r1 h1 => ?_⟩
  simp only [e] at h1
  cases b with
  | true => exact h1.ok_ r1.h rfl
  | false => exact ⟨env, L1, m1, r1, h1⟩
theorem se_neg (ha : PE X a (liftE g W fa)) : PE X (.UnaryOp .USub a pos) (liftE g W fun env L => (fa env L).bind fun x L => match x with
    | .int i => .ok (.int (-i)) L
    | _ => .bad) := by
  refine PE.weak (pe_un un_neg ha) fun σ H Q ⟨env, L, m, R, h⟩ => ⟨env, L, m, R, h.bind fun x L1 v H1 m1 x1 r1 q1 h1 => ?_⟩
  cases q1 with
  | int i => exact ⟨i, rfl, h1.ok_ r1 (.int _)⟩
  | _ => exact h1.elim
end
end Ev
end

section
set_option Elab.async false
set_option linter.all false
set_option maxRecDepth 100000
set_option autoImplicit false
set_option maxHeartbeats 1000000
/-! sorted of tuples of ints, len(set(xs)) -/
namespace Ev
open PySem PySem.Spec PyProof.Rows L2
def TpI (h : Heap) (v : Value) (ns : List Int) : Prop := ∃ a its, v = .ref a ∧ IsTup h a its.toArray ∧ IntsAre its ns
theorem TpI.keeps {h h' : Heap} {v : Value} {ns : List Int} (x : TpI h v ns) (k : ∀ b o, h.get? b = some o → o.cls = .type "tuple" → h'.get? b = some o) : TpI h' v ns := by
  obtain ⟨a, its, e, ⟨o, h1, h2, h3⟩, h4⟩ := x
  exact ⟨a, its, e, ⟨o, k a o h1 h2, h2, h3⟩, h4⟩
section
variable {prog : Program} {w : World} {A : Around} {E : Value → Shared → Prop} {s : Shared}
theorem TpI.looks {M : Model} {h : Heap} {v : Value} {ns : List Int} (x : TpI h v ns) : PySem.W.Looks M h (typeOf v) (.type "tuple") := by
  obtain ⟨a, its, rfl, ⟨o, h1, h2, h3⟩, h4⟩ := x
  exact h2 ▸ (PySem.W.Looks.ld h1).andThen .now
theorem lt_tp {v u : Value} {ns ms : List Int} {Q : Bool → Shared → Prop} (hu : A.units < cLine) (hv : TpI s.heap v ns) (hw : TpI s.heap u ms) (h : Q (HT.lexLt ns ms) s) : wpAny (model prog w) A (keyLt' oneType' v u) Q E s := by
  have tv : PySem.W.Looks (model prog w) s.heap (typeOf v) (.type "tuple") := hv.looks
  obtain ⟨a, its, rfl, ⟨⟨cls, dd, data, sl⟩, ho, hc, n, hd⟩, ia⟩ := hv
  obtain ⟨b, its2, rfl, ⟨⟨cls2, dd2, data2, sl2⟩, ho2, hc2, n2, hd2⟩, ib⟩ := hw
  simp only at hc hd hc2 hd2
  subst hc hd hc2 hd2
  rw [keyLt'_oneType, oneLt'_eq]
  simp only [if_true]
  refine wpAny_bind (wpAny_cRoomFor hu ?_)
  refine wpAny_bind (NtL.csib (E := E) (tv.andThen (PySem.W.Looks.of_pure PySem.F.slot_tuple_lt.lookup)) (PySem.F.slot_tuple_lt.bind _)
    (call_meets PySem.F.slot_tuple_lt ⟨_, ho, rfl⟩ PySem.F.entry_tuple_lt (PySem.F.args_tuple_lt_2 _ _) (HT.tuple_lt_ints a b its.toArray its2.toArray n n2 dd dd2 sl sl2 ns ms (by simpa using ia) (by simpa using ib))
      ⟨ho, ho2, ?_⟩))
  exact wpAny_truthy_bool h
/-- the first one has no item: they are sorted as things of one class -/
theorem kind_tp {vs : List Value} {k : Value → List Int} {Q : SortKind → Shared → Prop} (hv : ∀ v ∈ vs, TpI s.heap v (k v)) {v0 : Value} {r : List Value} (e : vs = v0 :: r) (h0 : k v0 = []) (h : Q oneType' s) : wpAny (model prog w) A (keyKind' vs.toArray) Q E s := by
  have firsts : ∀ (vs : List Value) {Q : List (Option Value) → Shared → Prop}, (∀ v ∈ vs, TpI s.heap v (k v)) → (∀ fs : List (Option Value), (∀ v0 r, vs = v0 :: r → k v0 = [] → ∃ fr, fs = none :: fr) → Q fs s) → wpAny (model prog w) A (vs.mapM firstOfTuple') Q E s := by
    intro vs
    induction vs with
    | nil => intro Q _ h; rw [List.mapM_nil]; exact wpAny_pure (h [] fun _ _ e => by cases e)
    | cons v vs ih =>
      intro Q hv h
      obtain ⟨a, its, e, ⟨o, h1, h2, n, h3⟩, h4⟩ := hv v List.mem_cons_self
      rw [List.mapM_cons]
      refine wpAny_bind ?_
      rw [PySem.W.kas_first_eq]
      refine wpAny_bind ((hv v List.mem_cons_self).looks.here ?_)
      rw [if_neg (by first | decide | simp)]
      subst e
      refine wpAny_bind (listItems_at h1 h3 (wpAny_pure ?_))
      refine wpAny_bind (ih (fun u hu => hv u (List.mem_cons_of_mem _ hu)) fun fs _ => wpAny_pure (h _ fun v1 r1 e1 k1 => ?_))
      obtain ⟨rfl, rfl⟩ := List.cons.inj e1
      rw [k1] at h4
      cases h4
      exact ⟨fs, rfl⟩
  rw [kat_kind_eq, List.mapM_toArray, map_eq_pure_bind]
  refine wpAny_bind (wpAny_bind (firsts vs hv fun fs hf => wpAny_pure ?_))
  obtain ⟨fr, rfl⟩ := hf v0 r e h0
  rw [if_neg (by simp), if_neg (by simp)]
  rw [oneTypeOnly'_eq, List.mapM_toArray, map_eq_pure_bind]
  refine wpAny_bind (wpAny_bind (wpAny_bind (PySem.W.kas_mapM (r := Value.type "tuple") _ (fun v hv' Q' hq => (hv v hv').looks.here hq) (wpAny_pure ?_))))
  subst e
  have hall : ((List.map (fun _ => Value.type "tuple") (v0 :: r)).toArray.all fun x => x == Value.type "tuple") = true := by simp
  have hz : (List.map (fun _ => Value.type "tuple") (v0 :: r)).toArray[0]? = some (Value.type "tuple") := by simp
  rw [hz]
  simp only [hall, if_true]
  exact wpAny_pure (wpAny_pure h)
theorem tp_sortable {a : Addr} {vs : List Value} {k : Value → List Int} (hu : A.units < cLine) (hv : ∀ v ∈ vs, TpI s.heap v (k v)) (ha : ∀ o, s.heap.get? a = some o → o.cls ≠ .type "tuple") {v0 : Value} {r : List Value} (e : vs = v0 :: r) (h0 : k v0 = []) :
    SrtO.SortableO prog w A s a vs fun v u => HT.lexLt (k v) (k u) := by
  intro h' keep
  have hv' : ∀ v ∈ vs, TpI h' v (k v) := fun v hm => (hv v hm).keeps fun b o g c => keep b o (fun z => by subst z; exact ha o g c) g
  refine ⟨oneType', fun Q E hq => kind_tp (s := { s with heap := h' }) hv' e h0 hq, fun p q hp hq => ?_⟩
  exact lt_tp (s := { s with heap := h' }) (Q := fun r s' => s' = { s with heap := h' } ∧ r = HT.lexLt (k p.1) (k q.1)) (E := fun _ _ => False) hu (hv' p.1 hp) (hv' q.1 hq) ⟨rfl, rfl⟩
end
/-- a value's ints, where it is a tuple of ints -/
noncomputable def tpOf (h : Heap) (v : Value) : List Int := by
  classical
  exact if q : ∃ ns, TpI h v ns then q.choose else []
theorem TpI.same {h : Heap} {v : Value} {ns ms : List Int} (x : TpI h v ns) (y : TpI h v ms) : ns = ms := by
  obtain ⟨a, its, rfl, ⟨o, h1, h2, n, h3⟩, h4⟩ := x
  obtain ⟨a', its', e, ⟨o', h1', h2', n', h3'⟩, h4'⟩ := y
  cases e
  rw [h1] at h1'
  cases h1'
  rw [h3] at h3'
  injection h3' with e1 _
  have e2 : its = its' := by simpa using congrArg Array.toList e1
  subst e2
  clear h1 h2 h3 h2' e1
  induction h4 generalizing ms with
  | nil => cases h4'; rfl
  | cons i t _ ih => cases h4' with
    | cons j u q => rw [ih q]
theorem tpOf_eq {h : Heap} {v : Value} {ns : List Int} (x : TpI h v ns) : tpOf h v = ns := by
  have q : ∃ ns, TpI h v ns := ⟨ns, x⟩
  unfold tpOf
  rw [dif_pos q]
  exact q.choose_spec.same x
/-- sorted(xs), xs a list of tuples of ints of which the first has no item -/
def rSortL (K : PySem.W.Frag) : List V → Hp → VK → Prop := fun vs H Q => ∃ (a : Addr) (xs : List V) (nss : List (List Int)), vs = [V.ref a] ∧ SqL K H a xs ∧ xs.length = nss.length ∧ (∀ (i : Nat) (x : V) (ns : List Int), xs[i]? = some x → nss[i]? = some ns → ∃ t, x = V.ref t ∧ SqT K H t (ns.map V.int)) ∧ (∃ r, nss = [] :: r) ∧
  ∀ (zs : List (V × List Int)) p, zs.Perm (xs.zip nss) → (zs.map (·.2)).Pairwise (fun x y => HT.lexLt y x = false) → H p = none → Q (.ref p) (upd H p (.lst (zs.map (·.1))))
theorem vals_at : ∀ {xs : List V} {us : List Value}, Vals xs us → ∀ (i : Nat) (u : Value), us[i]? = some u → ∃ x, xs[i]? = some x ∧ RelV x u
  | _, _, .nil, i, u, h => by simp at h
  | _, _, .cons r t, 0, u, h => by simp at h; exact ⟨_, rfl, h ▸ r⟩
  | _, _, .cons r t, i + 1, u, h => by simp at h; simpa using vals_at t i u h
section
variable {X : Cx}
theorem cr_sortL (hu : X.A.units + 64 < cLine) : CallR X (.builtin "sorted") (rSortL X.K) := by
  intro pins s σ H vs us Q I r h
  obtain ⟨a, xs, nss, rfl, hs, hl, hx, ⟨r0, hr0⟩, q⟩ := h
  obtain ⟨its, rv, hli, hz⟩ := I.list hs
  rw [Vals.ref1 r]
  have le : xs.length = its.length := rv.length
  have tp : ∀ (i : Nat) (v : Value), its[i]? = some v → ∃ x ns, xs[i]? = some x ∧ nss[i]? = some ns ∧ x = bkV v ∧ TpI s.heap v ns := fun i v hv => by
    obtain ⟨x, e1, rx⟩ := vals_at rv i v hv
    have hi : i < nss.length := by
      have := (List.getElem?_eq_some_iff.mp hv).1
      omega
    obtain ⟨t, e, ht⟩ := hx i x nss[i] e1 (List.getElem?_eq_getElem hi)
    subst e
    cases rx
    obtain ⟨its2, rv2, hT, _⟩ := I.tuple ht
    exact ⟨_, _, e1, List.getElem?_eq_getElem hi, rfl, t, its2, rfl, hT, by simpa using rv2.ints⟩
  have tm : ∀ v ∈ its, TpI s.heap v (tpOf s.heap v) := fun v hv => by
    obtain ⟨i, hi, e⟩ := List.mem_iff_getElem.mp hv
    obtain ⟨x, ns, _, _, _, h⟩ := tp i v (by rw [List.getElem?_eq_getElem hi, e])
    rw [tpOf_eq h]; exact h
  have ez : its.map (fun v => (bkV v, tpOf s.heap v)) = xs.zip nss := by
    apply List.ext_getElem?
    intro i
    rw [List.getElem?_map]
    by_cases hi : i < its.length
    · obtain ⟨x, ns, e1, e2, e3, e4⟩ := tp i its[i] (List.getElem?_eq_getElem hi)
      rw [List.getElem?_eq_getElem hi, (List.getElem?_zip_eq_some (z := (x, ns))).mpr ⟨e1, e2⟩, Option.map_some, e3, tpOf_eq e4]
    · rw [List.getElem?_eq_none (by omega), List.getElem?_eq_none (by rw [List.length_zip]; omega)]; rfl
  obtain ⟨v0, vr, ev⟩ : ∃ v0 vr, its = v0 :: vr := by
    cases its with
    | nil => rw [hr0] at hl; simp at le; rw [le] at hl; simp at hl
    | cons v r => exact ⟨v, r, rfl⟩
  have k0 : tpOf s.heap v0 = [] := by
    obtain ⟨x, ns, e1, e2, _, h⟩ := tp 0 v0 (by rw [ev]; rfl)
    rw [hr0] at e2
    cases e2
    exact tpOf_eq h
  refine SrtO.sorted_ord (NtL.swo_lexL (tpOf s.heap)) hli.isList (by rw [← le]; exact hz) (fun _ h₁ b hb kk => ?_) fun out h1 h2 => ?_
  · exact tp_sortable (s := { s with heap := h₁ }) (by show X.A.units + 1 + 1 < cLine; omega) (fun v hm => (tm v hm).keeps fun c o e _ => (kk c o e).2) (fun o e => by rw [hb] at e; cases e; simp [seqObj]) ev k0
  · obtain ⟨ep, he'⟩ := PyProof.Rows.sortedAll_at s.heap its out.toArray
    have h3 : ∀ u ∈ out, ∃ a, u = Value.ref a := fun u hu => by
      obtain ⟨a, _, e, _⟩ := tm u (h2.perm.mem_iff.mp hu)
      exact ⟨a, e⟩
    have hp : (out.map (fun v => (bkV v, tpOf s.heap v))).Perm (xs.zip nss) := ez ▸ h2.perm.map _
    have e1 : (out.map (fun v => (bkV v, tpOf s.heap v))).map (·.1) = out.map bkV := by rw [List.map_map]; rfl
    have lo : out.length = its.length := h2.perm.length_eq
    refine ⟨.ref _, upd H (s.heap.objs.size + 1) (.lst (out.map bkV)), I.laid (t' := s.toks) (fun _ _ => PyProof.Rows.sortedAll_old) (Nat.le_succ _) ⟨by rw [List.length_map, lo, ← le]; exact hz, out, ep, bkV_vals h3, he'⟩, rfl, ?_⟩
    rw [← e1]
    refine q _ _ hp ?_ (I.hok.fresh (Nat.le_succ _))
    rw [List.map_map]
    exact List.pairwise_map.mpr (h1.imp fun {x y} z => z)
end
/-! ### len(set(xs)) -/
theorem oss_nodup : ∀ r : List Int, (PySem.W.ossOf r.reverse).Nodup
  | [] => by simp [PySem.W.ossOf]
  | k :: r => by
    rw [List.reverse_cons, PySem.W.oss_next]
    by_cases hk : k ∈ PySem.W.ossOf r.reverse
    · rw [if_pos hk]; exact oss_nodup r
    · rw [if_neg hk]
      refine List.pairwise_append.mpr ⟨oss_nodup r, by simp, fun a ha b hb e => ?_⟩
      rw [List.mem_singleton.mp hb] at e
      exact hk (e ▸ ha)
theorem dups_count {ns ks : List Int} (nd : ks.Nodup) (hm : ∀ k, decide (k ∈ ns) = true ↔ k ∈ ks) : ks.length = ns.eraseDups.length := by
  rw [← PySem.W.oss_dups]
  have n2 := oss_nodup ns.reverse
  rw [List.reverse_reverse] at n2
  refine ((List.perm_ext_iff_of_nodup nd n2).mpr fun k => ?_).length_eq
  rw [PySem.W.oss_has, ← hm k, decide_eq_true_eq]
def rLenSet (K : PySem.W.Frag) (x : V) (H : Hp) (Q : VK) : Prop := ∃ (l : Addr) (ns : List Int), x = V.ref l ∧ (SqL K H l (ns.map V.int) ∨ SqT K H l (ns.map V.int)) ∧ ns.length ≤ 4000 ∧ Q (.int (ns.eraseDups.length : Nat)) H
section
variable {X : Cx}
theorem pe_lenSetA {a : Expr} {ta : TE} {p p2 q pos : Pos} (hc : X.calm = true) (hg : Gl X "len") (hm : X.mg "len" = none) (hg2 : Gl X "set") (hm2 : X.mg "set" = none) (ha : PE X a ta)
    (na : starEach [a] X.env = (false, eval a X.env) :: starEach [] X.env) : PE X (.Call (.Name "len" p) [.Call (.Name "set" p2) [a] [] q] [] pos) (fun σ H Q => ta σ H fun x H1 => rLenSet X.K x H1 Q) := by
  refine ⟨fun pins s σ H Q I h => ?_⟩
  refine Call_ (ld_blt I hg hm PySem.boot_len ?_)
  refine PyProof.Rows.callWith_builtin1 (PyProof.Rows.args_cons ?_ rfl) rfl rfl
  refine Call_ (ld_blt I hg2 hm2 PyProof.Rows.boot_set ?_)
  refine PyProof.Rows.callWith_type1 (PyProof.Rows.args_cons (thn (ha.run pins s σ H _ I h) fun v s1 ⟨x, H1, I1, r1, q1⟩ => PyProof.Rows.args_nil ?_) na) na rfl
  obtain ⟨l, ns, rfl, hq, hz4, q1⟩ := q1
  cases r1
  have hle := PySem.W.oss_len ns
  have ed : PySem.W.ossOf ns = ns.eraseDups := PySem.W.oss_dups ns
  rcases hq with hq | hq
  · obtain ⟨its, r, pl, hz⟩ := I1.list hq
    have hl : its.toArray.size = ns.length := by rw [List.size_toArray, ← r.length, List.length_map]
    refine call_set_list (I1.ok.hd hc) pl.isList (ns := ns) (by simpa using r.ints) (by unfold scanBound; omega) fun h' tk hS hk => ?_
    rw [hl, PySem.W.oss_met] at hS
    refine PyProof.Rows.args_nil ?_
    obtain ⟨o, es, ep, t, ho, hex, hd, _, _, _, hf, hn⟩ := hS
    have I2 : Inv X pins σ H1 { s1 with heap := h', toks := tk } := I1.kept fun b o e => hk b o (Heap.lt_size e) e
    refine call_len_set ho hex hd hf (by rw [hn] <;> omega) ⟨.int (ns.eraseDups.length : Nat), H1, I2.tok _, ⟨_, by rw [hn, ed]⟩, q1⟩
  · obtain ⟨its, r, pl, hz⟩ := I1.tuple hq
    refine call_set_tupI ns (I1.ok.hd hc) pl (by simpa using r.ints) (by unfold scanBound; omega) fun h' tk c hS hcn hk => ?_
    refine PyProof.Rows.args_nil ?_
    obtain ⟨o, es, ep, t, ho, hex, hd, _, nd, mem, _, hf, hn, _⟩ := hS
    have cnt := dups_count nd mem
    rw [List.length_map, Array.length_toList] at cnt
    have I2 : Inv X pins σ H1 { s1 with heap := h', toks := tk } := I1.kept fun b o e => hk b o e
    refine call_len_set ho hex hd hf (by omega) ⟨.int (ns.eraseDups.length : Nat), H1, I2.tok _, ⟨_, by rw [cnt]⟩, q1⟩
/-! ### min(xs), xs a list of tuples of ints -/
def rMinT (K : PySem.W.Frag) : List V → Hp → VK → Prop := fun vs H Q => ∃ (a : Addr) (xs : List V) (nss : List (List Int)), vs = [V.ref a] ∧ SqL K H a xs ∧ xs.length = nss.length ∧ 0 < nss.length ∧ (∀ (i : Nat) (x : V) (ns : List Int), xs[i]? = some x → nss[i]? = some ns → ∃ t, x = V.ref t ∧ SqT K H t (ns.map V.int)) ∧
  ∀ x, xs[bestT nss]? = some x → Q x H
theorem cr_minT (hc : X.calm = true) (hu : X.A.units + 64 < cLine) : CallR X (.builtin "min") (rMinT X.K) := by
  intro pins s σ H vs us Q I r h
  obtain ⟨a, xs, nss, rfl, hs, hl, h0, hx, q⟩ := h
  obtain ⟨its, rv, hli, hz⟩ := I.list hs
  rw [Vals.ref1 r]
  have le : xs.length = its.length := rv.length
  have tp : ∀ (i : Nat) (v : Value), its[i]? = some v → TpI s.heap v (nss.getD i []) := fun i v hv => by
    obtain ⟨x, e1, rx⟩ := vals_at rv i v hv
    have hi : i < nss.length := by
      have := (List.getElem?_eq_some_iff.mp hv).1
      omega
    obtain ⟨t, e, ht⟩ := hx i x nss[i] e1 (List.getElem?_eq_getElem hi)
    subst e
    cases rx
    obtain ⟨its2, rv2, hT, _⟩ := I.tuple ht
    rw [List.getD_eq_getElem?_getD, List.getElem?_eq_getElem hi]
    exact ⟨t, its2, rfl, hT, by simpa using rv2.ints⟩
  refine PySem.call_min_walkH (PySem.W.iter_listW (A := X.A.in1) (I.ok.hd hc) hli.isList fun s₂ e W st hfp hw hk => ?_)
  refine ⟨_, _, _, _, _, _, _, s.heap, (fun a b => HT.lexLt (nss.getD a []) (nss.getD b [])), rfl, W, st, hfp, by rw [List.size_toArray]; omega, hw, hk, fun i j vi vj s' Q' E kk hi hj hq => ?_, fun v s' hP m => ?_⟩
  · obtain ⟨p, u1, rfl, t1, i1⟩ := (tp i vi (by simpa using hi)).keeps fun b o g _ => kk b o g
    obtain ⟨p2, u2, rfl, t2, i2⟩ := (tp j vj (by simpa using hj)).keeps fun b o g _ => kk b o g
    exact HT.lt_tupInts t1 t2 (by simpa using i1) (by simpa using i2) (by show X.A.units + 1 < cLine; omega) hq
  · obtain ⟨h', tk, rfl, hk'⟩ := PySem.W.moved_old e rfl m
    have hv : its[PySem.argBest (fun a b => HT.lexLt (nss.getD a []) (nss.getD b [])) (its.toArray.size - 1)]? = some v := by simpa using hP
    obtain ⟨x, ex, rx⟩ := vals_at rv _ v hv
    rw [List.size_toArray, ← le, hl] at ex
    exact ⟨x, H, I.kept (t' := tk) hk', rx, q x ex⟩
/-! ### [] not in xs; xs != [] -/
def rNotInN (K : PySem.W.Frag) : R2 := fun x y H Q => ∃ ds, Dp K H x (.list []) ∧ Dp K H y (.list ds) ∧ PyData.canLayAll0 ds = true ∧ Q (.bl (!ds.any fun z => PyData.eqv z (.list []))) H
theorem op_notInN (hu : X.A.units + 64 < cLine) : OpR X (compareOp .NotIn) (rNotInN X.K) := by
  intro pins s σ H x y v u Q I rx ry h
  obtain ⟨ds, hd, he, sd, q⟩ := h
  obtain ⟨as, r1⟩ := Dp.reads I (.list []) x v hd rx
  obtain ⟨bs, r2⟩ := Dp.reads I (.list ds) y u he ry
  have d1 : (PyData.list []).depth = 1 := rfl
  exact SeqAt.notIn_list_reads r2 r1 sd rfl (by have := Nat.min_le_right (PyData.depthAll ds) (PyData.list []).depth; omega) ⟨.bl _, H, I, rfl, q⟩
def rInN (K : PySem.W.Frag) : R2 := fun x y H Q => ∃ ds, Dp K H x (.list []) ∧ Dp K H y (.list ds) ∧ PyData.canLayAll0 ds = true ∧ Q (.bl (ds.any fun z => PyData.eqv z (.list []))) H
theorem op_inN (hu : X.A.units + 64 < cLine) : OpR X (compareOp .In) (rInN X.K) := by
  intro pins s σ H x y v u Q I rx ry h
  obtain ⟨ds, hd, he, sd, q⟩ := h
  obtain ⟨as, r1⟩ := Dp.reads I (.list []) x v hd rx
  obtain ⟨bs, r2⟩ := Dp.reads I (.list ds) y u he ry
  have d1 : (PyData.list []).depth = 1 := rfl
  exact SeqAt.in_list_reads r2 r1 sd rfl (by have := Nat.min_le_right (PyData.depthAll ds) (PyData.list []).depth; omega) ⟨.bl _, H, I, rfl, q⟩
end
end Ev
end

section
set_option Elab.async false
set_option linter.all false
set_option maxRecDepth 100000
set_option autoImplicit false
set_option maxHeartbeats 1000000
/-! t[::-1] of a tuple -/
namespace Ev
open PySem PySem.Spec PyProof.Rows L2
theorem rev_places (n : Nat) : Builtin.Slice.slicePlaces ((n : Int) - 1) (-1) (-1) = n := by
  unfold Builtin.Slice.slicePlaces
  rw [if_neg (by decide)]
  split
  · rw [show (-(-1) : Int) = 1 by decide, Int.ediv_one]; omega
  · omega
theorem fm_congr {α β : Type} {f h : α → Option β} : ∀ {l : List α}, (∀ k ∈ l, f k = h k) → l.filterMap f = l.filterMap h
  | [], _ => rfl
  | k :: l, q => by
    rw [List.filterMap_cons, List.filterMap_cons, q k List.mem_cons_self, fm_congr fun j hj => q j (List.mem_cons_of_mem _ hj)]
theorem rev_pick (xs : Array Value) : ((List.range xs.size).filterMap fun (k : Nat) => xs[(((xs.size : Int) - 1) + (k : Int) * (-1)).toNat]?).toArray = xs.toList.reverse.toArray := by
  have e : ((List.range xs.size).filterMap fun (k : Nat) => xs[(((xs.size : Int) - 1) + (k : Int) * (-1)).toNat]?) = ((List.range xs.size).map fun k => xs.size - 1 - k).filterMap (xs[·]?) := by
    rw [List.filterMap_map]
    refine fm_congr fun k hk => ?_
    have := List.mem_range.mp hk
    show _ = xs[xs.size - 1 - k]?
    congr 1
    omega
  rw [e, PySem.W.krv_range, List.filterMap_reverse, PySem.W.krv_all]
section
variable {prog : Program} {w : World} {A : Around} {E : Value → Shared → Prop} {s : Shared}
theorem getItem_tuple_rev {t sl : Addr} {items : Array Value} {tk : Tok} {Q : Value → Shared → Prop} (ht : IsTup s.heap t items) (hs : s.heap.IsSliceOf sl .none .none (.int (-1) tk)) (hsz : items.size ≤ sizeLine)
    (h : Q (.ref s.heap.objs.size) { s with heap := s.heap.push { cls := .type "tuple", data := .seq items.toList.reverse.toArray } }) : wpAny (model prog w) A (getItem (.ref t) (.ref sl)) Q E s := by
  have fits : sizeOk (.seq items.toList.reverse.toArray) := by
    show items.toList.reverse.toArray.size ≤ sizeLine
    simpa using hsz
  obtain ⟨os, hos, hcs, hds⟩ := id hs
  have ofSl : s.TypeIs (.ref sl) "slice" := ⟨os, hos, hcs⟩
  unfold getItem
  try with_reducible refine wpAny_holding ?_
  first | refine wpAny_bind (wpAny_pure ?_) | skip
  refine wpAny_bind (wpAny_sequenceKey ht.typeIs (by decide) ?_)
  refine wpAny_bind (wpAny_callSpecial?_slot (name := Str.ofString "__getitem__") ht.typeIs PyProof.Rows.slot_tuple_getitem (wpAny_call_entry PyProof.Rows.slot_tuple_getitem ht.typeIs entry_tuple_getitem ?_ (args_tuple_getitem _ _)))
  show wpAny _ _ (Builtin.Tuple.tupleItemsOf (.ref t) >>= _) _ _ s
  refine wpAny_bind (tupleItemsOf_ ht ?_)
  refine wpAny_bind (wpAny_typeOf ofSl ?_)
  rw [if_pos (by decide)]
  unfold Builtin.Slice.sliceApplied Builtin.Slice.sliceFields
  refine wpAny_bind (wpAny_bind (wpAny_bind (wpAny_field hos hds (x := .none) rfl (wpAny_bind (wpAny_field hos hds (x := .none) rfl (wpAny_bind (wpAny_field hos hds (x := .int (-1) tk) rfl (wpAny_pure ?_))))))))
  refine wpAny_bind (HT.slicePart_ (.int (-1) tk) ?_)
  show wpAny _ _ (if ((-1 : Int) == 0) = true then _ else _) _ _ s
  rw [if_neg (by decide)]
  refine wpAny_bind (slicePart_none (wpAny_bind (slicePart_none (wpAny_bind (wpAny_pure ?_)))))
  show wpAny _ _ (match Builtin.Slice.sliceAdjust none none (-1) (items.size : Int) with | (lo, hi) => pure (lo, (-1 : Int), Builtin.Slice.slicePlaces lo hi (-1))) _ _ s
  have ad : Builtin.Slice.sliceAdjust none none (-1) (items.size : Int) = ((items.size : Int) - 1, -1) := rfl
  rw [ad]
  show wpAny _ _ (pure ((items.size : Int) - 1, (-1 : Int), Builtin.Slice.slicePlaces ((items.size : Int) - 1) (-1) (-1))) _ _ s
  rw [rev_places]
  refine wpAny_pure ?_
  have no : ¬ ((((items.size : Int) - 1) == 0 && (-1 : Int) == 1 && items.size == items.size) = true) := by
    intro q
    rw [Bool.and_eq_true, Bool.and_eq_true] at q
    exact absurd q.1.2 (by decide)
  show wpAny _ _ (if (((items.size : Int) - 1) == 0 && (-1 : Int) == 1 && items.size == items.size) = true then _ else _) _ _ s
  rw [if_neg no, rev_pick]
  first
    | exact wpAny_bind (m := Builtin.Tuple.tupleExact _) (wpAny_newObj_type (wpAny_pure ⟨_, rfl, wpAny_pure h⟩) fits)
    | exact wpAny_bind (m := Builtin.Tuple.tupleExact _) (wpAny_newObj_type (wpAny_bind (wpAny_pure (wpAny_pure ⟨_, rfl, wpAny_pure h⟩))) fits)
    | exact wpAny_bind (wpAny_bind (m := Builtin.Tuple.tupleExact _) (wpAny_newObj_type (wpAny_pure (wpAny_pure ⟨_, rfl, wpAny_pure h⟩)) fits))
    | exact wpAny_bind (wpAny_bind (m := Builtin.Tuple.tupleExact _) (wpAny_newObj_type (wpAny_pure ⟨_, rfl, wpAny_pure h⟩) fits))
end
/-! ### by values -/
section
variable {X : Cx} {g : G} {W : WX} {a : Expr} {fa : Env → LH → R D} {k : Nat} {p1 p2 p3 pos : Pos}
def tRevT (K : PySem.W.Frag) (te : TE) : TE := fun σ H Q => te σ H fun x H1 => ∃ a xs, x = .ref a ∧ SqT K H1 a xs ∧ ∀ p, H1 p = none → Q (.ref p) (upd H1 p (.tup xs.reverse))
theorem pe_revT {te : TE} (he : PE X a te) : PE X (.Subscript a (.Slice none none (some (.UnaryOp .USub (.Constant (.int 1) k p1) p2)) p3) pos) (tRevT X.K te) := by
  refine ⟨fun pins s σ H Q I h => ?_⟩
  refine Subscript_ (thn (he.run pins s σ H _ I h) fun v s1 ⟨x, H1, I1, r1, ad, xs, ex, hx, q⟩ => ?_)
  subst ex
  cases r1
  have hst : PO X (some (.UnaryOp .USub (.Constant (.int 1) k p1) p2)) (tPart (tUn (rU fun i => .int (-i)) (tC (.int 1)))) := po_some (pe_un un_neg pe_int)
  refine wpAny_Slice (thn (po_none.run pins s1 σ H1 (fun o H2 => o = none ∧ H2 = H1) I1 ⟨rfl, rfl⟩) fun vl s2 ⟨l, H2, I2, pl, el, e2⟩ => ?_)
  subst el e2
  refine thn (po_none.run pins s2 σ H2 (fun o H3 => o = none ∧ H3 = H2) I2 ⟨rfl, rfl⟩) fun vu s3 ⟨u, H3, I3, pu, eu, e3⟩ => ?_
  subst eu e3
  refine thn (hst.run pins s3 σ H3 (fun o H4 => o = some (-1) ∧ H4 = H3) I3 ⟨1, rfl, -1, rfl, rfl, rfl⟩) fun vs s4 ⟨o, H4, I4, ps, eo, e4⟩ => ?_
  subst eo e4
  cases pl; cases pu
  cases ps with | int _ tk =>
  have I5 : Inv X pins σ H4 { s4 with heap := s4.heap.push { cls := .type "slice", data := .fields #[.none, .none, .int (-1) tk] } } := I4.kept (t' := s4.toks) fun b ob q => Heap.get?_push_of_some _ q
  obtain ⟨its, r, ht, hz⟩ := I5.tuple hx
  have hlen := r.length
  show wpAny (model X.prog X.w) X.A (subscriptTail a (.Slice none none (some (.UnaryOp .USub (.Constant (.int 1) k p1) p2)) p3) (.ref _) (.ref s4.heap.objs.size)) (EP X pins σ Q) X.xe { s4 with heap := s4.heap.push { cls := .type "slice", data := .fields #[.none, .none, .int (-1) tk] } }
  refine tail_any (ops := [.ref _, .ref s4.heap.objs.size]) ht.typeIs (PyProof.Rows.slot_tuple_getitem.lookup) ?_ (by with_unfolding_all rfl)
  refine getItem_tuple_rev ht (Heap.IsSliceOf.new _ _ _ _) (by rw [List.size_toArray]; omega) ?_
  exact ⟨.ref _, _, I5.laid (t' := s4.toks) (o := .tup xs.reverse) (fun b ob q => Heap.get?_push_of_some _ q) (Nat.le_refl _) ⟨by rw [List.length_reverse]; exact hz, _, r.reverse, IsTup.new _ _⟩, rfl, q _ (I5.hok.fresh (Nat.le_refl _))⟩
theorem Reps.rev {H : Hp} {m : List Addr} : ∀ {ds : List D} {vs : List V}, Reps g H m ds vs → Reps g H m ds.reverse vs.reverse
  | [], [], _ => .nil
  | d :: ds, v :: vs, h => by
    cases h with
    | cons h1 h2 =>
      rw [List.reverse_cons, List.reverse_cons]
      exact Reps.append (Reps.rev h2) (.cons h1 .nil)
  | [], _ :: _, h => by cases h
  | _ :: _, [], h => by cases h
theorem se_rev (hK : X.K = g.K) (ha : PE X a (liftE g W fa)) : PE X (.Subscript a (.Slice none none (some (.UnaryOp .USub (.Constant (.int 1) k p1) p2)) p3) pos) (liftE g W fun env L => (fa env L).bind fun x L => match x with
    | .tup xs => .ok (.tup xs.reverse) L
    | _ => .bad) := by
  refine PE.weak (pe_revT ha) fun σ H Q ⟨env, L, m, R, h⟩ => ⟨env, L, m, R, h.bind fun x L1 v H1 m1 x1 r1 q1 h1 => ?_⟩
  cases q1 with
  | @tup ad xs ds s1 z1 q1 =>
    rw [hK]
    exact ⟨ad, xs, rfl, s1, fun p hp => h1.new_ r1 hp (.tup (SqT.of upd_same) (by rw [List.length_reverse]; exact z1) (Reps.ext (ext_new hp) _ _ q1.rev))⟩
  | _ => exact h1.elim
end
end Ev
end

section
set_option Elab.async false
set_option linter.all false
set_option maxRecDepth 100000
set_option autoImplicit false
set_option maxHeartbeats 1000000
/-! operators and builtins -/
namespace Ev
open PySem PySem.Spec PyProof.Rows L2

/-! ### data -/
section
variable {g : G} {H : Hp} {m : List Addr}
mutual
theorem Rep.dp : ∀ (d : D) (v : V), isData d = true → Rep g H m d v → Dp g.K H v (py d)
  | .non, _, _, h => by cases h; exact .non
  | .bl _, _, _, h => by cases h; exact .bl _
  | .int _, _, _, h => by cases h; exact .int _
  | .str _, _, _, h => by cases h; exact .str _
  | .tup ds, _, e, h => by cases h with | tup h1 z h2 => exact .tup h1 (Reps.dp ds _ (by simpa [isData] using e) h2)
  | .lst ds, _, e, h => by cases h with | lst h1 hm z h2 => exact .lst (SqL.of h1) (Reps.dp ds _ (by simpa [isData] using e) h2)
  | .scr _, _, e, _ => by simp [isData] at e
  | .loc _, _, e, _ => by simp [isData] at e
  | .fn _, _, e, _ => by simp [isData] at e
theorem Reps.dp : ∀ (ds : List D) (vs : List V), areData ds = true → Reps g H m ds vs → DpAll g.K H vs (pys ds)
  | [], _, _, h => by cases h; exact .nil
  | d :: ds, _, e, h => by
    cases h with
    | cons h1 h2 =>
      rw [areData, Bool.and_eq_true] at e
      exact .cons (Rep.dp d _ e.1 h1) (Reps.dp ds _ e.2 h2)
end
theorem dp_ints : ∀ (ns : List Int), DpAll g.K H (ns.map V.int) (ns.map PyData.int)
  | [] => .nil
  | _ :: ns => .cons (.int _) (dp_ints ns)
end
mutual
theorem py_lay : ∀ d : D, isData d = true → (py d).canLay0 = true
  | .non, _ => rfl
  | .bl _, _ => rfl
  | .int _, _ => rfl
  | .str _, e => e
  | .tup ds, e => by rw [py, PyData.canLay0]; exact pys_lay ds (by simpa [isData] using e)
  | .lst ds, e => by rw [py, PyData.canLay0]; exact pys_lay ds (by simpa [isData] using e)
  | .scr _, e => by simp [isData] at e
  | .loc _, e => by simp [isData] at e
  | .fn _, e => by simp [isData] at e
theorem pys_lay : ∀ ds : List D, areData ds = true → PyData.canLayAll0 (pys ds) = true
  | [], _ => rfl
  | d :: ds, e => by
    rw [areData, Bool.and_eq_true] at e
    rw [pys, PyData.canLayAll0, py_lay d e.1, pys_lay ds e.2]; rfl
end
mutual
theorem py_dep : ∀ d : D, (py d).depth ≤ dep d
  | .non => by simp [py, PyData.depth, dep]
  | .bl _ => by simp [py, PyData.depth, dep]
  | .int _ => by simp [py, PyData.depth, dep]
  | .str _ => by simp [py, PyData.depth, dep]
  | .tup ds => by rw [py, PyData.depth, dep]; exact Nat.succ_le_succ (pys_dep ds)
  | .lst ds => by rw [py, PyData.depth, dep]; exact Nat.succ_le_succ (pys_dep ds)
  | .scr xs => by
    rw [py, PyData.depth, dep]
    have : ∀ xs : List Int, PyData.depthAll (xs.map PyData.int) = 0 := fun xs => by
      induction xs with
      | nil => rfl
      | cons x xs ih => rw [List.map_cons, PyData.depthAll, ih]; rfl
    rw [this]; exact Nat.le_refl _
  | .loc _ => by simp [py, PyData.depth, dep]
  | .fn _ => by simp [py, PyData.depth, dep]
theorem pys_dep : ∀ ds : List D, PyData.depthAll (pys ds) ≤ deps ds
  | [] => by simp [pys, PyData.depthAll]
  | d :: ds => by
    rw [pys, PyData.depthAll, deps]
    have h1 := py_dep d
    have h2 := pys_dep ds
    omega
end
mutual
theorem eqv_py : ∀ d e : D, isData d = true → isData e = true → eqv d e = PyData.eqv (py d) (py e)
  | .non, e, _, h => by cases e <;> simp [eqv, py, PyData.eqv] <;> simp [isData] at h
  | .bl _, e, _, h => by cases e <;> simp [eqv, py, PyData.eqv] <;> simp [isData] at h
  | .int _, e, _, h => by cases e <;> simp [eqv, py, PyData.eqv] <;> simp [isData] at h
  | .str _, e, _, h => by cases e <;> simp [eqv, py, PyData.eqv] <;> simp [isData] at h
  | .tup ds, e, k, h => by
    cases e with
    | tup es => rw [eqv, py, py, PyData.eqv]; exact eqvs_py ds es (by simpa [isData] using k) (by simpa [isData] using h)
    | _ => simp [eqv, py, PyData.eqv] <;> simp [isData] at h
  | .lst ds, e, k, h => by
    cases e with
    | lst es => rw [eqv, py, py, PyData.eqv]; exact eqvs_py ds es (by simpa [isData] using k) (by simpa [isData] using h)
    | _ => simp [eqv, py, PyData.eqv] <;> simp [isData] at h
  | .scr _, _, k, _ => by simp [isData] at k
  | .loc _, _, k, _ => by simp [isData] at k
  | .fn _, _, k, _ => by simp [isData] at k
theorem eqvs_py : ∀ ds es : List D, areData ds = true → areData es = true → eqvs ds es = PyData.eqvAll (pys ds) (pys es)
  | [], [], _, _ => by simp [eqvs, pys, PyData.eqvAll]
  | [], _ :: _, _, _ => by simp [eqvs, pys, PyData.eqvAll]
  | _ :: _, [], _, _ => by simp [eqvs, pys, PyData.eqvAll]
  | d :: ds, e :: es, h, k => by
    rw [areData, Bool.and_eq_true] at h k
    rw [eqvs, pys, pys, PyData.eqvAll, eqv_py d e h.1 k.1, eqvs_py ds es h.2 k.2]
end

theorem lay_ints : ∀ ns : List Int, PyData.canLayAll0 (ns.map PyData.int) = true
  | [] => rfl
  | n :: ns => by rw [List.map_cons, PyData.canLayAll0, lay_ints ns]; rfl

/-! ### == -/
def rEqM (K : PySem.W.Frag) : R2 := fun x y H Q => ∃ d e, Dp K H x d ∧ Dp K H y e ∧ d.canLay0 = true ∧ e.canLay0 = true ∧ min d.depth e.depth ≤ 60 ∧ Q (.bl (PyData.eqv d e)) H
def rNeM (K : PySem.W.Frag) : R2 := fun x y H Q => ∃ d e, Dp K H x d ∧ Dp K H y e ∧ d.canLay0 = true ∧ e.canLay0 = true ∧ min d.depth e.depth ≤ 60 ∧ Q (.bl (!PyData.eqv d e)) H
section
variable {X : Cx} {g : G}
theorem op_eqM (hu : X.A.units + 64 < cLine) : OpR X (compareOp .Eq) (rEqM X.K) := by
  intro pins s σ H x y v u Q I rx ry ⟨d, e, h1, h2, c1, c2, z, q⟩
  obtain ⟨as, r1⟩ := Dp.reads I d x v h1 rx
  obtain ⟨bs, r2⟩ := Dp.reads I e y u h2 ry
  exact SeqAt.compareEq_reads r1 r2 c1 c2 (by omega) ⟨.bl _, H, I, rfl, q⟩
theorem op_neM (hu : X.A.units + 64 < cLine) : OpR X (compareOp .NotEq) (rNeM X.K) := by
  intro pins s σ H x y v u Q I rx ry ⟨d, e, h1, h2, c1, c2, z, q⟩
  obtain ⟨as, r1⟩ := Dp.reads I d x v h1 rx
  obtain ⟨bs, r2⟩ := Dp.reads I e y u h2 ry
  exact SeqAt.compareNe_reads r1 r2 c1 c2 (by omega) ⟨.bl _, H, I, rfl, q⟩
/-- what eqD tells -/
theorem eqD_ok {x y : D} {v u : V} {H : Hp} {m : List Addr} {b : Bool} (rx : Rep g H m x v) (ry : Rep g H m y u) (h : eqD x y = some b) :
    (scal v u = true ∧ b = decide (v = u)) ∨ ∃ d e, Dp g.K H v d ∧ Dp g.K H u e ∧ d.canLay0 = true ∧ e.canLay0 = true ∧ min d.depth e.depth ≤ 60 ∧ b = PyData.eqv d e := by
  have deep : (isData x && isData y && decide (min (dep x) (dep y) ≤ 60)) = true → b = eqv x y → ∃ d e, Dp g.K H v d ∧ Dp g.K H u e ∧ d.canLay0 = true ∧ e.canLay0 = true ∧ min d.depth e.depth ≤ 60 ∧ b = PyData.eqv d e := by
    intro h1 h2
    simp only [Bool.and_eq_true, decide_eq_true_eq] at h1
    obtain ⟨⟨i1, i2⟩, i3⟩ := h1
    have d1 := py_dep x
    have d2 := py_dep y
    exact ⟨py x, py y, Rep.dp x v i1 rx, Rep.dp y u i2 ry, py_lay x i1, py_lay y i2, by omega, by rw [h2, eqv_py x y i1 i2]⟩
  unfold eqD at h
  split at h
  case h_15 ns =>
    right
    cases rx with
    | scr s1 _ _ =>
      cases ry with
      | lst l1 _ _ l2 =>
        cases l2
        refine ⟨.list (ns.map .int), .list [], .lst s1 (dp_ints ns), .lst (SqL.of l1) .nil, ?_, rfl, ?_, ?_⟩
        · rw [PyData.canLay0]; exact lay_ints ns
        · have : (PyData.list []).depth = 1 := rfl
          rw [this]; omega
        · cases h; cases ns <;> rfl
  all_goals first
    | (cases rx; cases ry; left; simp only [Option.some.injEq] at h; subst h; exact ⟨rfl, by first | (simp; done) | (rw [dec_int]) | (rw [dec_bl]) | (rw [dec_str])⟩)
    | (split at h
       · rename_i hh; exact .inr (deep hh (by simpa using h.symm))
       · cases h)

theorem rEq_all (hu : X.A.units + 64 < cLine) : OpR X (compareOp .Eq) (fun x y H Q => rEq x y H Q ∨ rEqM X.K x y H Q) := op_eq.or (op_eqM hu)
theorem rNe_all (hu : X.A.units + 64 < cLine) : OpR X (compareOp .NotEq) (fun x y H Q => rNe x y H Q ∨ rNeM X.K x y H Q) := op_ne.or (op_neM hu)
theorem o_eq : Op2 g (fun x y _ => (eqD x y).map .bl) (fun x y H Q => rEq x y H Q ∨ rEqM g.K x y H Q) := by
  intro x y z v u H m L Q R rx ry h k _
  simp only at h
  cases e : eqD x y with
  | none => rw [e] at h; cases h
  | some b =>
    rw [e] at h; cases h
    rcases eqD_ok rx ry e with ⟨s, rfl⟩ | ⟨d, d2, h1, h2, c1, c2, z, rfl⟩
    · exact .inl ⟨s, k _ (.bl _)⟩
    · exact .inr ⟨d, d2, h1, h2, c1, c2, z, k _ (.bl _)⟩
theorem o_ne : Op2 g (fun x y _ => ((eqD x y).map (!·)).map .bl) (fun x y H Q => rNe x y H Q ∨ rNeM g.K x y H Q) := by
  intro x y z v u H m L Q R rx ry h k _
  simp only at h
  cases e : eqD x y with
  | none => rw [e] at h; cases h
  | some b =>
    rw [e] at h; cases h
    rcases eqD_ok rx ry e with ⟨s, rfl⟩ | ⟨d, d2, h1, h2, c1, c2, z, rfl⟩
    · exact .inl ⟨s, k _ (.bl _)⟩
    · exact .inr ⟨d, d2, h1, h2, c1, c2, z, k _ (.bl _)⟩

/-! ### the other comparisons -/
theorem o_int {f : Int → Int → Bool} {F : D → D → LH → Option D} (hF : ∀ x y L z, F x y L = some z → ∃ i j, x = .int i ∧ y = .int j ∧ z = .bl (f i j)) : Op2 g F (rI0 fun i j => .bl (f i j)) := by
  intro x y z v u H m L Q R rx ry h k _
  obtain ⟨i, j, rfl, rfl, rfl⟩ := hF x y L z h
  cases rx; cases ry
  exact ⟨i, j, rfl, rfl, k _ (.bl _)⟩
theorem o_lt : Op2 g (fun x y _ => (cmpD .lt x y).map .bl) (rI0 fun i j => .bl (decide (i < j))) := o_int fun x y L z h => by
  cases x <;> cases y <;> simp [cmpD] at h; exact ⟨_, _, rfl, rfl, h.symm⟩
theorem o_le : Op2 g (fun x y _ => (cmpD .le x y).map .bl) (rI0 fun i j => .bl (decide (i ≤ j))) := o_int fun x y L z h => by
  cases x <;> cases y <;> simp [cmpD] at h; exact ⟨_, _, rfl, rfl, h.symm⟩
theorem o_gt : Op2 g (fun x y _ => (cmpD .gt x y).map .bl) (rI0 fun i j => .bl (decide (j < i))) := o_int fun x y L z h => by
  cases x <;> cases y <;> simp [cmpD] at h; exact ⟨_, _, rfl, rfl, h.symm⟩
theorem o_ge : Op2 g (fun x y _ => (cmpD .ge x y).map .bl) (rI0 fun i j => .bl (decide (j ≤ i))) := o_int fun x y L z h => by
  cases x <;> cases y <;> simp [cmpD] at h; exact ⟨_, _, rfl, rfl, h.symm⟩
theorem o_is : Op2 g (fun x y _ => (cmpD .is x y).map .bl) (fun x y H Q => y = .non ∧ Q (.bl (decide (x = .non))) H) := by
  intro x y z v u H m L Q R rx ry h k _
  cases y <;> simp [cmpD] at h
  cases ry
  refine ⟨rfl, ?_⟩
  have e : z = .bl (decide (v = .non)) := by
    subst h
    cases rx <;> simp
  rw [e] at k
  exact k _ (.bl _)
theorem o_isnot : Op2 g (fun x y _ => (cmpD .isnot x y).map .bl) (fun x y H Q => y = .non ∧ Q (.bl (!decide (x = .non))) H) := by
  intro x y z v u H m L Q R rx ry h k _
  cases y <;> simp [cmpD] at h
  cases ry
  refine ⟨rfl, ?_⟩
  have e : z = .bl (!decide (v = .non)) := by
    subst h
    cases rx <;> simp
  rw [e] at k
  exact k _ (.bl _)
theorem flat_ok {x : D} {v : V} {H : Hp} {m : List Addr} (r : Rep g H m x v) (f : flatD x = true) : flatV v = true := by cases r <;> first | rfl | cases f
theorem eqv_flat {x y : D} {v u : V} {H : Hp} {m : List Addr} (rx : Rep g H m x v) (ry : Rep g H m y u) (fx : flatD x = true) (fy : flatD y = true) : eqv x y = eqV v u := by
  cases rx <;> first | (cases fx; done) | (cases ry <;> first | (cases fy; done) | (simp [eqv, eqV]))
theorem flat_all {H : Hp} {m : List Addr} {x : D} {v : V} (rx : Rep g H m x v) (fx : flatD x = true) : ∀ {ys : List D} {us : List V}, Reps g H m ys us → ys.all flatD = true → us.all flatV = true ∧ (ys.any fun y => eqv y x) = inV v us
  | [], _, .nil, _ => ⟨rfl, rfl⟩
  | y :: ys, _, .cons a t, f => by
    rw [List.all_cons, Bool.and_eq_true] at f
    obtain ⟨h1, h2⟩ := flat_all rx fx t f.2
    refine ⟨by rw [List.all_cons, flat_ok a f.1, h1]; rfl, ?_⟩
    rw [List.any_cons, h2, eqv_flat a rx f.1 fx]; rfl
theorem inD_ok {x : D} {ys : List D} {v : V} {us : List V} {H : Hp} {m : List Addr} {b : Bool} (rx : Rep g H m x v) (ry : Reps g H m ys us) (h : inD x ys = some b) : flatV v = true ∧ us.all flatV = true ∧ b = inV v us := by
  unfold inD at h
  split at h
  · rename_i hh
    rw [Bool.and_eq_true] at hh
    obtain ⟨h1, h2⟩ := flat_all rx hh.1 ry hh.2
    exact ⟨flat_ok rx hh.1, h1, by rw [← h2]; exact (Option.some.inj h).symm⟩
  · cases h
theorem o_in : Op2 g (fun x y _ => (cmpD .in_ x y).map .bl) (rIn g.K false) := by
  intro x y z v u H m L Q R rx ry h k _
  dsimp only at h
  have key : ∀ ys, (cmpD .in_ x y) = inD x ys → (∀ b, inD x ys = some b → z = .bl (b)) ∧ inD x ys ≠ none := fun ys e => by
    rw [e] at h
    cases e2 : inD x ys with
    | none => rw [e2] at h; cases h
    | some b => rw [e2] at h; cases h; exact ⟨fun b' hb => by cases hb; rfl, by simp⟩
  cases ry with
  | tup h1 zz h2 =>
    obtain ⟨k1, k2⟩ := key _ rfl
    cases e : inD x _ with
    | none => exact absurd e k2
    | some b =>
      have ez := k1 b e
      obtain ⟨f1, f2, e2⟩ := inD_ok rx h2 e
      subst ez; subst e2
      exact ⟨_, _, rfl, .inr h1, f1, f2, k _ (.bl _)⟩
  | lst h1 hm zz h2 =>
    obtain ⟨k1, k2⟩ := key _ rfl
    cases e : inD x _ with
    | none => exact absurd e k2
    | some b =>
      have ez := k1 b e
      obtain ⟨f1, f2, e2⟩ := inD_ok rx h2 e
      subst ez; subst e2
      exact ⟨_, _, rfl, .inl (SqL.of h1), f1, f2, k _ (.bl _)⟩
  | _ => simp [cmpD] at h
theorem o_notin : Op2 g (fun x y _ => (cmpD .notin x y).map .bl) (rIn g.K true) := by
  intro x y z v u H m L Q R rx ry h k _
  dsimp only at h
  have key : ∀ ys, (cmpD .notin x y) = (inD x ys).map (!·) → (∀ b, inD x ys = some b → z = .bl (!b)) ∧ inD x ys ≠ none := fun ys e => by
    rw [e] at h
    cases e2 : inD x ys with
    | none => rw [e2] at h; cases h
    | some b => rw [e2] at h; cases h; exact ⟨fun b' hb => by cases hb; rfl, by simp⟩
  cases ry with
  | tup h1 zz h2 =>
    obtain ⟨k1, k2⟩ := key _ rfl
    cases e : inD x _ with
    | none => exact absurd e k2
    | some b =>
      have ez := k1 b e
      obtain ⟨f1, f2, e2⟩ := inD_ok rx h2 e
      subst ez; subst e2
      exact ⟨_, _, rfl, .inr h1, f1, f2, k _ (.bl _)⟩
  | lst h1 hm zz h2 =>
    obtain ⟨k1, k2⟩ := key _ rfl
    cases e : inD x _ with
    | none => exact absurd e k2
    | some b =>
      have ez := k1 b e
      obtain ⟨f1, f2, e2⟩ := inD_ok rx h2 e
      subst ez; subst e2
      exact ⟨_, _, rfl, .inl (SqL.of h1), f1, f2, k _ (.bl _)⟩
  | _ => simp [cmpD] at h
/-- all comparisons -/
def coP : Co → CmpOp
  | .lt => .Lt | .le => .LtE | .gt => .Gt | .ge => .GtE | .eq => .Eq | .ne => .NotEq | .is => .Is | .isnot => .IsNot | .in_ => .In | .notin => .NotIn
theorem cmp_all (hK : X.K = g.K) (hu : X.A.units + 64 < cLine) (o : Co) : ∃ r, OpR X (compareOp (coP o)) r ∧ Op2 g (fun x y _ => (cmpD o x y).map .bl) r := by
  cases o with
  | lt => exact ⟨_, op_lt, o_lt⟩
  | le => exact ⟨_, op_le, o_le⟩
  | gt => exact ⟨_, op_gt, o_gt⟩
  | ge => exact ⟨_, op_ge, o_ge⟩
  | eq => exact ⟨_, by rw [← hK]; exact rEq_all hu, o_eq⟩
  | ne => exact ⟨_, by rw [← hK]; exact rNe_all hu, o_ne⟩
  | is => exact ⟨_, op_isN, o_is⟩
  | isnot => exact ⟨_, op_notN, o_isnot⟩
  | in_ => exact ⟨_, by rw [← hK]; exact op_in_seq, o_in⟩
  | notin => exact ⟨_, by rw [← hK]; exact op_notIn_seq, o_notin⟩
end
end Ev
end

section
set_option Elab.async false
set_option linter.all false
set_option maxRecDepth 100000
set_option autoImplicit false
set_option maxHeartbeats 1000000
/-! arithmetic, items, slices, builtins -/
namespace Ev
open PySem PySem.Spec PyProof.Rows L2

section
open PySem.SeqAt
open PySem.AutoSeq1 (wpAny_loadPart')
open PySem.MeetsSeq PySem.MeetsSeq2 PySem.MeetsSeq3
theorem tuple_mul1 (l : Addr) (items : Array Value) (n : Nat) (dd : Option Addr) (sl : Array (Option Value)) (x : Int) (u : Tok) (c0 : (decide (x < -(2 ^ 63)) || decide (x ≥ 2 ^ 63)) = false) (c1 : (items.isEmpty || x == 1) = true) :
    Meets (Builtin.«tuple.__mul__» ⟨[.ref l, .int x u], []⟩) (fun _ R s => s.heap.get? l = some { cls := .type "tuple", dict := dd, data := .seq items n, slots := sl } ∧
      R (.ok (.ret (Value.ref l))) s) :=
  .of_wp fun prog w A R s h => by
    obtain ⟨hp, g, d, tk, os⟩ := s
    obtain ⟨hl, h⟩ := h
    have f1 := AutoSeq1.idx_int
    wp_walk using wpAny_loadPart' hl
    repeat (first
      | (refine wpAny_ite_false (decide_eq_false (by rw [c0]; exact Bool.false_ne_true)) ?_; wp_walk using wpAny_loadPart' hl)
      | (refine wpAny_ite_true (decide_eq_true c1) ?_; wp_walk using wpAny_loadPart' hl))
    exact ⟨_, rfl, h⟩
theorem tuple_mul0 (l : Addr) (items : Array Value) (n : Nat) (dd : Option Addr) (sl : Array (Option Value)) (x : Int) (u : Tok) (c0 : (decide (x < -(2 ^ 63)) || decide (x ≥ 2 ^ 63)) = false) (c1 : (items.isEmpty || x == 1) = false) (c2 : (decide (x ≤ 0) || items.isEmpty) = true) :
    Meets (Builtin.«tuple.__mul__» ⟨[.ref l, .int x u], []⟩) (fun _ R s => s.heap.get? l = some { cls := .type "tuple", dict := dd, data := .seq items n, slots := sl } ∧
      R (.ok (.ret (Value.ref s.heap.objs.size))) { s with heap := s.heap.push { cls := Value.type "tuple", data := Data.seq #[] }, toks := s.toks }) :=
  .of_wp fun prog w A R s h => by
    obtain ⟨hp, g, d, tk, os⟩ := s
    obtain ⟨hl, h⟩ := h
    have f1 := AutoSeq1.idx_int
    wp_walk using wpAny_loadPart' hl
    repeat (first
      | (refine wpAny_ite_false (decide_eq_false (by rw [c0]; exact Bool.false_ne_true)) ?_; wp_walk using wpAny_loadPart' hl)
      | (refine wpAny_ite_false (decide_eq_false (by rw [c1]; exact Bool.false_ne_true)) ?_; wp_walk using wpAny_loadPart' hl)
      | (refine wpAny_ite_true (decide_eq_true c2) ?_; wp_walk using wpAny_loadPart' hl))
    exact ⟨_, rfl, h⟩
end
/-- t * k of any k: t itself, or a new tuple -/
def rRepTA (K : PySem.W.Frag) : R2 := fun x y H Q => ∃ l k xs, x = .ref l ∧ y = .int k ∧ SqT K H l xs ∧ -1000 ≤ k ∧ k ≤ 1000 ∧ xs.length ≤ 1000 ∧
  ((xs = [] ∨ k = 1) → Q (.ref l) H) ∧ (xs ≠ [] → k ≤ 0 → ∀ p, H p = none → Q (.ref p) (upd H p (.tup []))) ∧ (xs ≠ [] → 2 ≤ k → ∀ p, H p = none → Q (.ref p) (upd H p (.tup (List.replicate k.toNat xs).flatten)))
section
variable {X : Cx} {g : G}
theorem op_repTA : OpR X (binaryOp .Mult) (rRepTA X.K) := by
  intro pins s σ H x y v u Q I rx ry h
  obtain ⟨l, k, xs, rfl, rfl, hT, hk0, hk1, hz, q1, q2, q3⟩ := h
  by_cases big : xs ≠ [] ∧ 2 ≤ k
  · exact op_repT pins s σ H _ _ v u Q I rx ry ⟨l, k, xs, rfl, rfl, hT, big.1, big.2, hk1, hz, q3 big.1 big.2⟩
  cases rx
  obtain ⟨t, rfl⟩ := ry
  obtain ⟨its, r, ⟨⟨cls, dd, data, sl⟩, ho, hc, n, hd⟩, hs⟩ := I.tuple hT
  simp only at hc hd
  subst hc hd
  have hle : its.length = xs.length := r.length.symm
  have hi : its.toArray.isEmpty = xs.isEmpty := by
    cases its with
    | nil => cases xs with
      | nil => rfl
      | cons a b => simp at hle
    | cons a b => cases xs with
      | nil => simp at hle
      | cons c d => rfl
  have c0 : (decide (k < -(2 ^ 63)) || decide (k ≥ 2 ^ 63)) = false := by
    rw [decide_eq_false (by omega), decide_eq_false (by omega)] <;> rfl
  by_cases c1 : xs = [] ∨ k = 1
  · have c1' : (its.toArray.isEmpty || k == 1) = true := by
      rw [hi]
      rcases c1 with rfl | rfl
      · rfl
      · simp
    refine wpAny_binaryOp_repeat_ref (T := "tuple") (U := "int") (by decide) ⟨_, ho, rfl⟩ (fun s' => typeIs_int s' k t) noFill_tuple_mul F.fills_int_mul F.slot_int_rmul repeat_tuple F.slot_int_index.lookup
      (call_meets F.slot_int_rmul (typeIs_int s k t) F.entry_int_rmul (F.args_int_rmul_2 _ _) (int_rmul_tuple k t l its.toArray n dd sl)
        ⟨ho, rfl, ⟨_, ho, rfl⟩, call_meets F.slot_tuple_mul ⟨_, ho, rfl⟩ F.entry_tuple_mul (F.args_tuple_mul_2 _ _) (tuple_mul1 l its.toArray n dd sl k t c0 c1') ⟨ho, ?_⟩⟩)
    exact ⟨.ref l, H, I, rfl, q1 c1⟩
  · have n1 : xs ≠ [] := fun e => c1 (.inl e)
    have n2 : k ≤ 0 := by
      by_cases h0 : k ≤ 0
      · exact h0
      · exact absurd ⟨n1, by have : k ≠ 1 := fun e => c1 (.inr e); omega⟩ big
    have e1 : xs.isEmpty = false := by cases xs with
      | nil => exact absurd rfl n1
      | cons a b => rfl
    have c1' : (its.toArray.isEmpty || k == 1) = false := by
      rw [hi, e1, Bool.false_or]
      exact beq_eq_false_iff_ne.mpr fun e => c1 (.inr e)
    have c2 : (decide (k ≤ 0) || its.toArray.isEmpty) = true := by rw [decide_eq_true n2]; rfl
    refine wpAny_binaryOp_repeat_ref (T := "tuple") (U := "int") (by decide) ⟨_, ho, rfl⟩ (fun s' => typeIs_int s' k t) noFill_tuple_mul F.fills_int_mul F.slot_int_rmul repeat_tuple F.slot_int_index.lookup
      (call_meets F.slot_int_rmul (typeIs_int s k t) F.entry_int_rmul (F.args_int_rmul_2 _ _) (int_rmul_tuple k t l its.toArray n dd sl)
        ⟨ho, rfl, ⟨_, ho, rfl⟩, call_meets F.slot_tuple_mul ⟨_, ho, rfl⟩ F.entry_tuple_mul (F.args_tuple_mul_2 _ _) (tuple_mul0 l its.toArray n dd sl k t c0 c1' c2) ⟨ho, ?_⟩⟩)
    refine ⟨.ref s.heap.objs.size, _, I.laid (t' := s.toks) (o := .tup []) (fun b ob q => Heap.get?_push_of_some _ q) (Nat.le_refl _) ?_, rfl, q2 n1 n2 _ (I.hok.fresh (Nat.le_refl _))⟩
    exact ⟨Nat.zero_le _, _, .nil, IsTup.new _ _⟩
end
end Ev
end

section
set_option Elab.async false
set_option linter.all false
set_option maxRecDepth 100000
set_option autoImplicit false
set_option maxHeartbeats 1000000
namespace Ev
open PySem PySem.Spec PyProof.Rows L2
section
variable {X : Cx} {g : G}
theorem small64_ok {i : Int} (h : small64 i = true) : -(2 ^ 64) < i ∧ i < 2 ^ 64 := by
  simp only [small64, Bool.and_eq_true, decide_eq_true_eq] at h
  omega
def rAddAll (K : PySem.W.Frag) : R2 := fun x y H Q => rI0 (fun i j => .int (i + j)) x y H Q ∨ (∃ i j, x = .str i ∧ y = .str j ∧ i.length + j.length ≤ sizeLine ∧ Q (.str (i ++ j)) H) ∨ rCatA K x y H Q ∨ rCat x y H Q
theorem or_add : OpR X (binaryOp .Add) (rAddAll X.K) := op_add.or (op_add_str.or (op_catA.or op_cat))
theorem o_add : Op2 g (fun x y _ => binD .add x y) (rAddAll g.K) := by
  intro x y z v u H m L Q R rx ry h k kn
  dsimp only at h
  cases rx with
  | int i =>
    cases ry with
    | int j => simp only [binD, Option.some.injEq] at h; subst h; exact .inl ⟨i, j, rfl, rfl, k _ (.int _)⟩
    | _ => simp [binD] at h
  | str a za =>
    cases ry with
    | str b zb =>
      simp only [binD] at h
      split at h
      · rename_i hz
        have hz' : a.length + b.length ≤ sizeLine := by rw [← size16_eq]; exact hz
        have e := Option.some.inj h
        subst e
        exact .inr (.inl ⟨a, b, rfl, rfl, hz', k _ (.str _ (by rw [Str.length_append]; exact hz'))⟩)
      · cases h
    | _ => simp [binD] at h
  | @tup a1 xs1 ds1 h1 z1 q1 =>
    cases ry with
    | @tup a2 xs2 ds2 h2 z2 q2 =>
      simp only [binD] at h
      split at h
      · rename_i hz
        have hz' : xs1.length + xs2.length ≤ sizeLine := by rw [← q1.len, ← q2.len, ← size16_eq]; exact hz
        have e := Option.some.inj h
        subst e
        refine .inr (.inr (.inl ⟨a1, a2, xs1, xs2, rfl, rfl, h1, h2, hz', fun e => ?_, fun _ e => ?_, fun _ _ p hp => ?_⟩))
        · subst e; cases q1; exact k _ (.tup h2 z2 q2)
        · subst e; cases q2; rw [List.append_nil] at k; exact k _ (.tup h1 z1 q1)
        · have x : Ext H m (upd H p (.tup (xs1 ++ xs2))) m := ext_new hp
          exact kn _ p _ hp (.tup (SqT.of upd_same) (by rw [List.length_append]; exact hz') (Reps.ext x _ _ (q1.append q2)))
      · cases h
    | _ => simp [binD] at h
  | @lst a1 xs1 ds1 h1 m1 z1 q1 =>
    cases ry with
    | @lst a2 xs2 ds2 h2 m2 z2 q2 =>
      simp only [binD] at h
      split at h
      · rename_i hz
        have hz' : xs1.length + xs2.length ≤ sizeLine := by rw [← q1.len, ← q2.len, ← size16_eq]; exact hz
        have e := Option.some.inj h
        subst e
        refine .inr (.inr (.inr ⟨a1, a2, xs1, xs2, rfl, rfl, h1, h2, hz', fun p hp => ?_⟩))
        have x : Ext H m (upd H p (.lst (xs1 ++ xs2))) m := ext_new hp
        exact kn _ p _ hp (.lst upd_same (R.fresh hp) (by rw [List.length_append]; exact hz') (Reps.ext x _ _ (q1.append q2)))
      · cases h
    | _ => simp [binD] at h
  | _ => simp [binD] at h
theorem o_sub : Op2 g (fun x y _ => binD .sub x y) (rI0 fun i j => .int (i - j)) := by
  intro x y z v u H m L Q R rx ry h k kn
  dsimp only at h
  cases rx with
  | int i =>
    cases ry with
    | int j => simp only [binD, Option.some.injEq] at h; subst h; exact ⟨i, j, rfl, rfl, k _ (.int _)⟩
    | _ => simp [binD] at h
  | _ => simp [binD] at h
def rMulS : R2 := fun x y H Q => ∃ (a : Str) (k : Int), x = .str a ∧ y = .int k ∧ 1 ≤ k ∧ k ≤ 1000 ∧ a.length ≤ 1000 ∧ Q (.str (repS a k)) H
theorem rep_size (a : Array Nat) : ∀ (n : Nat) (acc : Array Nat), ((List.replicate n a).foldl (· ++ ·) acc).size = acc.size + n * a.size
  | 0, acc => by simp
  | n + 1, acc => by
    rw [List.replicate_succ, List.foldl_cons, rep_size a n, Array.size_append, Nat.succ_mul]
    omega
theorem repS_len {a : Str} {k : Int} (h1 : 1 ≤ k) (h2 : k ≤ 1000) (h3 : a.length ≤ 1000) : (repS a k).length ≤ sizeLine := by
  unfold repS
  split
  · rw [sizeLine_eq]; omega
  · show ((List.replicate k.toNat a.cps).foldl (· ++ ·) #[]).size ≤ sizeLine
    rw [rep_size, sizeLine_eq]
    have a1 : k.toNat * a.cps.size ≤ 1000 * 1000 := Nat.mul_le_mul (by omega) h3
    simp
    omega
theorem op_mulS : OpR X (binaryOp .Mult) rMulS := by
  intro pins s σ H x y v u Q I rx ry h
  obtain ⟨a, k, rfl, rfl, h1, h2, h3, q⟩ := h
  obtain ⟨t, rfl⟩ := rx
  obtain ⟨t2, rfl⟩ := ry
  have n1 : ¬ k < 1 := by omega
  have len := repS_len h1 h2 h3
  refine PySem.P.mul_str (by
    have c1 : ¬ k < -(2 ^ 63 : Int) := by omega
    have c2 : ¬ k ≥ 2 ^ 63 := by omega
    rw [decide_eq_false c1, decide_eq_false c2]; rfl) (fun _ _ => ?_) (fun _ _ => ?_) ?_
  · have d : (1000 : Int) ≤ (2 ^ 63 - 1) / k := Int.le_ediv_of_mul_le (by omega) (by omega)
    have : (a.length : Int) ≤ 1000 := by omega
    generalize (2 ^ 63 - 1 : Int) / k = q at *
    omega
  · unfold PySem.Builtin.Str.tooLong
    have a1 : a.length * k.toNat ≤ 1000 * 1000 := Nat.mul_le_mul h3 (by omega)
    have : ¬ a.length * k.toNat > sizeLine := by rw [sizeLine_eq]; omega
    exact decide_eq_false this
  · rw [if_neg n1]
    unfold repS at q len
    split
    · rename_i c
      rw [if_pos c] at q
      exact ⟨.str a, H, I, ⟨_, rfl⟩, q⟩
    · rename_i c
      rw [if_neg c] at q len
      exact ⟨len, .str _, H, I.tok _, ⟨_, rfl⟩, q⟩
def rMulAll (K : PySem.W.Frag) : R2 := fun x y H Q => rI CMul (fun i j => .int (i * j)) x y H Q ∨ rRepTA K x y H Q ∨ rRep x y H Q ∨ rMulS x y H Q
theorem or_mul : OpR X (binaryOp .Mult) (rMulAll X.K) := op_mul.or (op_repTA.or (op_rep.or op_mulS))
theorem len_rep {α : Type} (xs : List α) (n : Nat) : (List.replicate n xs).flatten.length = n * xs.length := by
  rw [PyProof.Rows.lm_len_rep_flat]
theorem o_mul : Op2 g (fun x y _ => binD .mul x y) (rMulAll g.K) := by
  intro x y z v u H m L Q R rx ry h k kn
  dsimp only at h
  cases rx with
  | int i =>
    cases ry with
    | int j =>
      simp only [binD] at h
      split at h
      · rename_i hz
        have e := Option.some.inj h
        subst e
        rw [Bool.or_eq_true] at hz
        exact .inl ⟨i, j, rfl, rfl, hz.imp small64_ok small64_ok, k _ (.int _)⟩
      · cases h
    | _ => simp [binD] at h
  | @tup a1 xs1 ds1 h1 z1 q1 =>
    cases ry with
    | int j =>
      simp only [binD] at h
      split at h
      · rename_i hz
        have e := Option.some.inj h
        subst e
        simp only [Bool.and_eq_true, decide_eq_true_eq] at hz
        obtain ⟨⟨hz1, hz2⟩, hz3⟩ := hz
        have l1 := q1.len
        refine .inr (.inl ⟨a1, j, xs1, rfl, rfl, h1, hz2, hz3, by omega, fun e => ?_, fun e1 e2 p hp => ?_, fun e1 e2 p hp => ?_⟩)
        · rcases e with e | e
          · subst e; cases q1
            have : (List.replicate j.toNat ([] : List D)).flatten = [] := by simp
            rw [this] at k
            exact k _ (.tup h1 z1 .nil)
          · subst e
            have : (List.replicate (1 : Int).toNat ds1).flatten = ds1 := by simp
            rw [this] at k
            exact k _ (.tup h1 z1 q1)
        · have : j.toNat = 0 := by omega
          rw [this] at kn
          exact kn _ p _ hp (.tup (SqT.of upd_same) (Nat.zero_le _) .nil)
        · have x : Ext H m (upd H p (.tup (List.replicate j.toNat xs1).flatten)) m := ext_new hp
          refine kn _ p _ hp (.tup (SqT.of upd_same) ?_ (Reps.ext x _ _ (q1.rep _)))
          rw [len_rep, sizeLine_eq]
          have a1 : j.toNat * xs1.length ≤ 1000 * 1000 := Nat.mul_le_mul (by omega) (by omega)
          omega
      · cases h
    | _ => simp [binD] at h
  | @lst a1 xs1 ds1 h1 m1 z1 q1 =>
    cases ry with
    | int j =>
      simp only [binD] at h
      split at h
      · rename_i hz
        have e := Option.some.inj h
        subst e
        simp only [Bool.and_eq_true, decide_eq_true_eq] at hz
        obtain ⟨⟨hz1, hz2⟩, hz3⟩ := hz
        have l1 := q1.len
        have zz : (List.replicate j.toNat xs1).flatten.length ≤ sizeLine := by
          rw [len_rep, sizeLine_eq]
          have a1 : j.toNat * xs1.length ≤ 1000 * 1000 := Nat.mul_le_mul (by omega) (by omega)
          omega
        refine .inr (.inr (.inl ⟨a1, j, xs1, rfl, rfl, h1, by omega, by omega, ?_, fun p hp => ?_⟩))
        · rw [len_rep] at zz; rw [Nat.mul_comm]; exact zz
        · have x : Ext H m (upd H p (.lst (List.replicate j.toNat xs1).flatten)) m := ext_new hp
          exact kn _ p _ hp (.lst upd_same (R.fresh hp) zz (Reps.ext x _ _ (q1.rep _)))
      · cases h
    | _ => simp [binD] at h
  | str a1 z1 =>
    cases ry with
    | int j =>
      simp only [binD] at h
      split at h
      · rename_i hz
        have e := Option.some.inj h
        subst e
        simp only [Bool.and_eq_true, decide_eq_true_eq] at hz
        obtain ⟨⟨hz1, hz2⟩, hz3⟩ := hz
        exact .inr (.inr (.inr ⟨a1, j, rfl, rfl, hz2, hz3, hz1, k _ (.str _ (repS_len hz2 hz3 hz1))⟩))
      · cases h
    | _ => simp [binD] at h
  | _ => simp [binD] at h
theorem o_fdiv : Op2 g (fun x y _ => binD .fdiv x y) (rI CDiv fun i j => .int (i / j)) := by
  intro x y z v u H m L Q R rx ry h k kn
  dsimp only at h
  cases rx with
  | int i =>
    cases ry with
    | int j =>
      simp only [binD] at h
      split at h
      · rename_i hz
        have e := Option.some.inj h
        subst e
        simp only [Bool.and_eq_true, decide_eq_true_eq] at hz
        exact ⟨i, j, rfl, rfl, hz, k _ (.int _)⟩
      · cases h
    | _ => simp [binD] at h
  | _ => simp [binD] at h
theorem o_mod : Op2 g (fun x y _ => binD .mod x y) (rI (fun _ j => 0 < j) fun i j => .int (i % j)) := by
  intro x y z v u H m L Q R rx ry h k kn
  dsimp only at h
  cases rx with
  | int i =>
    cases ry with
    | int j =>
      simp only [binD] at h
      split at h
      · rename_i hz
        have e := Option.some.inj h
        subst e
        simp only [decide_eq_true_eq] at hz
        exact ⟨i, j, rfl, rfl, hz, k _ (.int _)⟩
      · cases h
    | _ => simp [binD] at h
  | _ => simp [binD] at h
theorem o_pow : Op2 g (fun x y _ => binD .pow x y) (rI CPow fun i j => .int (i ^ j.toNat)) := by
  intro x y z v u H m L Q R rx ry h k kn
  dsimp only at h
  cases rx with
  | int i =>
    cases ry with
    | int j =>
      simp only [binD] at h
      split at h
      · rename_i hz
        have e := Option.some.inj h
        subst e
        simp only [Bool.and_eq_true, decide_eq_true_eq] at hz
        have := small64_ok hz.2
        exact ⟨i, j, rfl, rfl, ⟨hz.1.1, by omega, by omega⟩, k _ (.int _)⟩
      · cases h
    | _ => simp [binD] at h
  | _ => simp [binD] at h
def boP : Bo → Operator
  | .add => .Add | .sub => .Sub | .mul => .Mult | .fdiv => .FloorDiv | .mod => .Mod | .pow => .Pow
theorem bin_all (hK : X.K = g.K) (o : Bo) : ∃ r, OpR X (binaryOp (boP o)) r ∧ Op2 g (fun x y _ => binD o x y) r := by
  cases o with
  | add => exact ⟨_, by rw [← hK]; exact or_add, o_add⟩
  | sub => exact ⟨_, op_sub, o_sub⟩
  | mul => exact ⟨_, by rw [← hK]; exact or_mul, o_mul⟩
  | fdiv => exact ⟨_, op_fdiv, o_fdiv⟩
  | mod => exact ⟨_, op_mod, o_mod⟩
  | pow => exact ⟨_, op_pow, o_pow⟩
/-- += and its like, where the in-place operator does what the plain one does -/
theorem aug_all (o : Bo) : ∃ r, OpR X (inplaceOp (boP o)) r ∧ ∀ (i j : Int) (z : D) (H : Hp) (m : List Addr) (Q : VK), binD o (.int i) (.int j) = some z → (∀ w, Rep g H m z w → Q w H) → r (.int i) (.int j) H Q ∨ o = .pow := by
  cases o with
  | add => exact ⟨_, iop_add, fun i j z H m Q h k => .inl (by simp only [binD, Option.some.injEq] at h; subst h; exact ⟨i, j, rfl, rfl, k _ (.int _)⟩)⟩
  | sub => exact ⟨_, iop_sub, fun i j z H m Q h k => .inl (by simp only [binD, Option.some.injEq] at h; subst h; exact ⟨i, j, rfl, rfl, k _ (.int _)⟩)⟩
  | mul => exact ⟨_, iop_mul, fun i j z H m Q h k => .inl (by
      simp only [binD] at h
      split at h
      · rename_i hz
        have e := Option.some.inj h
        subst e
        rw [Bool.or_eq_true] at hz
        exact ⟨i, j, rfl, rfl, hz.imp small64_ok small64_ok, k _ (.int _)⟩
      · cases h)⟩
  | fdiv => exact ⟨_, iop_fdiv, fun i j z H m Q h k => .inl (by
      simp only [binD] at h
      split at h
      · rename_i hz
        have e := Option.some.inj h
        subst e
        simp only [Bool.and_eq_true, decide_eq_true_eq] at hz
        exact ⟨i, j, rfl, rfl, hz, k _ (.int _)⟩
      · cases h)⟩
  | mod => exact ⟨_, iop_mod, fun i j z H m Q h k => .inl (by
      simp only [binD] at h
      split at h
      · rename_i hz
        have e := Option.some.inj h
        subst e
        simp only [decide_eq_true_eq] at hz
        exact ⟨i, j, rfl, rfl, hz, k _ (.int _)⟩
      · cases h)⟩
  | pow => exact ⟨fun _ _ _ _ => False, fun _ _ _ _ _ _ _ _ _ _ _ _ h => h.elim, fun _ _ _ _ _ _ _ _ => .inr rfl⟩

/-! ### items -/
theorem atI_reps {H : Hp} {m : List Addr} {ds : List D} {vs : List V} {i : Int} {d : D} (q : Reps g H m ds vs) (h : atI ds i = some d) : ∃ v, atI vs i = some v ∧ Rep g H m d v := by
  unfold atI at h ⊢
  rw [← q.len]
  cases e : ixN ds.length i with
  | none => rw [e] at h; cases h
  | some j =>
    rw [e] at h
    simp only [Option.bind_some] at h ⊢
    exact q.get h
theorem o_idx : Op2 g (fun x y L => idxD L x y) (rIx g.K) := by
  intro x y z v u H m L Q R rx ry h k kn
  dsimp only at h
  cases ry with
  | int i =>
    cases rx with
    | @tup a xs ds h1 z1 q1 =>
      obtain ⟨w, e, rw'⟩ := atI_reps q1 (show atI ds i = some z from h)
      exact .inr (.inl ⟨a, xs, i, w, rfl, rfl, h1, e, k _ rw'⟩)
    | @lst a xs ds h1 m1 z1 q1 =>
      obtain ⟨w, e, rw'⟩ := atI_reps q1 (show atI ds i = some z from h)
      exact .inl ⟨a, xs, i, w, rfl, rfl, SqL.of h1, e, k _ rw'⟩
    | @scr a ns h1 m1 z1 =>
      have h' : (atI ns i).map D.int = some z := h
      cases e : atI ns i with
      | none => rw [e] at h'; cases h'
      | some n =>
        rw [e] at h'
        have ez := Option.some.inj h'
        subst ez
        refine .inl ⟨a, _, i, .int n, rfl, rfl, h1, ?_, k _ (.int n)⟩
        unfold atI at e ⊢
        rw [List.length_map]
        cases e2 : ixN ns.length i with
        | none => rw [e2] at e; cases e
        | some j => rw [e2] at e; simp only [Option.bind_some] at e ⊢; simp [e]
    | @loc l a h1 =>
      obtain ⟨o, e1, ro⟩ := R.at_ h1
      simp only [idxD, e1] at h
      cases o with
      | lst ds =>
        obtain ⟨xs, h2, z2, q2⟩ := ro
        obtain ⟨w, e, rw'⟩ := atI_reps q2 (show atI ds i = some z from h)
        exact .inl ⟨a, xs, i, w, rfl, rfl, SqL.of h2, e, k _ rw'⟩
      | ins c fs => cases h
    | str x zx =>
      have h' : ((atI x.cps.toList i).map fun c => D.str ⟨#[c]⟩) = some z := h
      cases e : atI x.cps.toList i with
      | none => rw [e] at h'; cases h'
      | some c =>
        rw [e] at h'
        have ez := Option.some.inj h'
        subst ez
        exact .inr (.inr ⟨x, i, c, rfl, rfl, zx, e, k _ (.str _ (by show 1 ≤ sizeLine; decide))⟩)
    | _ => cases h
  | _ => cases rx <;> cases h
end
end Ev
end

section
set_option Elab.async false
set_option linter.all false
set_option maxRecDepth 100000
set_option autoImplicit false
set_option maxHeartbeats 1000000
namespace Ev
open PySem PySem.Spec PyProof.Rows L2
/-! ### slices -/
section
variable {X : Cx} {g : G} {W : WX} {a b c e : Expr} {fa fb fc : Env → LH → R D} {pos : Pos} {es : List Expr} {fs : Env → LH → R (List D)}
theorem PO.weak {X : Cx} {e : Option Expr} {t t' : TO} (h : PO X e t) (w : ∀ σ H Q, t' σ H Q → t σ H Q) : PO X e t' := ⟨fun pins s σ H Q I k => h.run pins s σ H Q I (w σ H Q k)⟩
abbrev liftB (g : G) (W : WX) (f : Env → LH → R (Option Int)) : TO := liftG g (fun _ _ d o => d = o) W f
theorem so_none {d : D} : PO X none (liftB g W (bndR false fun _ L => .ok d L)) := PO.weak po_none fun σ H Q ⟨env, L, m, R, h⟩ => h.ok_ R.h rfl
theorem so_some (ha : PE X a (liftE g W fa)) : PO X (some a) (liftB g W (bndR true fa)) := by
  refine PO.weak (po_some ha) fun σ H Q ⟨env, L, m, R, h⟩ => ⟨env, L, m, R, h.bind fun x L1 v H1 m1 x1 r1 q1 h1 => ?_⟩
  cases q1 with
  | int i => exact ⟨i, rfl, h1.ok_ r1 rfl⟩
  | _ => exact h1.elim
theorem cut_reps {H : Hp} {m : List Addr} {ds : List D} {vs : List V} (lo hi : Option Int) (q : Reps g H m ds vs) : Reps g H m (cutL ds lo hi) (cutV vs lo hi) := by
  unfold cutL cutV
  rw [q.len]
  exact Reps.take _ (Reps.drop _ q)
theorem cut_whole {H : Hp} {m : List Addr} {ds : List D} {vs : List V} {lo hi : Option Int} (q : Reps g H m ds vs) (h : HT.sIx vs.length 0 lo = 0 ∧ HT.sIx vs.length vs.length hi = vs.length) : cutL ds lo hi = ds := by
  unfold cutL
  rw [q.len, h.1, h.2, List.drop_zero, Nat.sub_zero, ← q.len, List.take_length]
def rSlAll (K : PySem.W.Frag) : V → Option Int → Option Int → Hp → VK → Prop := fun x lo hi H Q => rSlA K x lo hi H Q ∨ rSlL K x lo hi H Q
theorem sl_all : SlR X (rSlAll X.K) := sl_tupA.or sl_list
theorem slice_fin (hK : X.K = g.K) {x : D} {lo hi : Option Int} {v : V} {H : Hp} {m : List Addr} {L : LH} {σ : L2.St} {Q : VK} (R : RelH g H L m) (rx : Rep g H m x v)
    (o : Out g (Rep g) W σ H m Q (opt (sliceD x lo hi) L)) : rSlAll X.K v lo hi H Q := by
  unfold sliceD at o
  rw [hK]
  cases rx with
  | @tup a xs ds s1 z1 q1 =>
    refine .inl ⟨a, xs, rfl, s1, fun w => ?_, fun w p hp => ?_⟩
    · refine o.ok_ R ?_
      rw [cut_whole q1 w]
      exact .tup s1 z1 q1
    · have x : Ext H m (upd H p (.tup (cutV xs lo hi))) m := ext_new hp
      exact o.new_ R hp (.tup (SqT.of upd_same) (Nat.le_trans (cutV_length _ _ _) z1) (Reps.ext x _ _ (cut_reps lo hi q1)))
  | @lst a xs ds s1 m1 z1 q1 =>
    refine .inr ⟨a, xs, rfl, SqL.of s1, fun p hp => ?_⟩
    have x : Ext H m (upd H p (.lst (cutV xs lo hi))) m := ext_new hp
    exact o.new_ R hp (.lst upd_same (R.fresh hp) (Nat.le_trans (cutV_length _ _ _) z1) (Reps.ext x _ _ (cut_reps lo hi q1)))
  | _ => exact o.elim
theorem se_slice {lo hi : Option Expr} {fl fh : Env → LH → R (Option Int)} {p2 : Pos} (hK : X.K = g.K) (ha : PE X a (liftE g W fa)) (hl : PO X lo (liftB g W fl)) (hh : PO X hi (liftB g W fh)) :
    PE X (.Subscript a (.Slice lo hi none p2) pos) (liftE g W fun env L => (fa env L).bind fun x L => (fl env L).bind fun l L => (fh env L).bind fun h L => opt (sliceD x l h) L) := by
  refine PE.weak (pe_slice sl_all ha hl hh) fun σ H Q ⟨env, L, m, R, h⟩ => ⟨env, L, m, R, h.bind fun x L1 v H1 m1 x1 r1 q1 h1 => ?_⟩
  refine ⟨env, L1, m1, R.ext x1 r1, h1.bind fun l L2 l' H2 m2 x2 r2 q2 h2 => ?_⟩
  refine ⟨env, L2, m2, (R.ext x1 r1).ext x2 r2, h2.bind fun u L3 u' H3 m3 x3 r3 q3 h3 => ?_⟩
  subst q2; subst q3
  exact slice_fin hK r3 (Rep.ext (x2.trans x3) _ _ q1) h3

/-! ### builtins -/
def OpL (g : G) (f : List D → LH → Option D) (r : List V → Hp → VK → Prop) : Prop := ∀ (xs : List D) (z : D) (vs : List V) (H : Hp) (m : List Addr) (L : LH) (Q : VK), RelH g H L m → Reps g H m xs vs → f xs L = some z →
  (∀ w, Rep g H m z w → Q w H) → (∀ w p o, H p = none → Rep g (upd H p o) m z w → Q w (upd H p o)) → r vs H Q
theorem finL {f : List D → LH → Option D} {xs : List D} {L : LH} {H : Hp} {m : List Addr} {σ : L2.St} {Q : VK} {r : List V → Hp → VK → Prop} {vs : List V} (o : OpL g f r) (R : RelH g H L m) (rx : Reps g H m xs vs) (h : Out g (Rep g) W σ H m Q (opt (f xs L) L)) : r vs H Q := by
  cases e : f xs L with
  | none => rw [e] at h; exact h.elim
  | some z =>
    rw [e] at h
    exact o xs z vs H m L Q R rx e (fun w q => h.ok_ R q) fun w p ob hp q => h.new_ R hp q
theorem OpL.or {f : List D → LH → Option D} {r r' : List V → Hp → VK → Prop} (h : ∀ (xs : List D) (z : D) (vs : List V) (H : Hp) (m : List Addr) (L : LH) (Q : VK), RelH g H L m → Reps g H m xs vs → f xs L = some z →
  (∀ w, Rep g H m z w → Q w H) → (∀ w p o, H p = none → Rep g (upd H p o) m z w → Q w (upd H p o)) → r vs H Q ∨ r' vs H Q) : OpL g f (fun vs H Q => r vs H Q ∨ r' vs H Q) := h
theorem lenD_ok {H : Hp} {m : List Addr} {L : LH} {x : D} {v : V} {n : Nat} (R : RelH g H L m) (r : Rep g H m x v) (h : lenD L x = some n) : LenV g.K v H n := by
  cases r with
  | tup h1 z q => simp only [lenD, Option.some.injEq] at h; exact .inr ⟨_, h1, by rw [← h]; exact q.len⟩
  | lst h1 hm z q => simp only [lenD, Option.some.injEq] at h; exact .inl ⟨_, SqL.of h1, by rw [← h]; exact q.len⟩
  | scr h1 hm z => simp only [lenD, Option.some.injEq] at h; exact .inl ⟨_, h1, by rw [← h]; simp⟩
  | str x z => simp only [lenD, Option.some.injEq] at h; exact ⟨z, h.symm⟩
  | loc h1 =>
    obtain ⟨o, e1, ro⟩ := R.at_ h1
    simp only [lenD, e1] at h
    cases o with
    | lst ds =>
      obtain ⟨xs, h2, z2, q2⟩ := ro
      simp only [Option.some.injEq] at h
      exact .inl ⟨_, SqL.of h2, by rw [← h]; exact q2.len⟩
    | ins c fs => cases h
  | _ => simp [lenD] at h
/-- a list of ints, read -/
theorem asInts_ok {H : Hp} {m : List Addr} {L : LH} {x : D} {v : V} {ns : List Int} (R : RelH g H L m) (r : Rep g H m x v) (h : asInts L x = some ns) : ∃ a, v = .ref a ∧ SqL g.K H a (ns.map V.int) := by
  cases r with
  | lst h1 hm z q => have e := intsOf_reps h q; subst e; exact ⟨_, rfl, SqL.of h1⟩
  | scr h1 hm z => simp only [asInts, Option.some.injEq] at h; subst h; exact ⟨_, rfl, h1⟩
  | loc h1 =>
    obtain ⟨o, e1, ro⟩ := R.at_ h1
    simp only [asInts, e1] at h
    cases o with
    | lst ds =>
      obtain ⟨xs, h2, z2, q2⟩ := ro
      have e := intsOf_reps h q2
      subst e
      exact ⟨_, rfl, SqL.of h2⟩
    | ins c fs => cases h
  | _ => simp [asInts] at h
theorem maxL_ge : ∀ (r : List Int) (m : Int), (m ≤ maxL m r) ∧ (∀ y ∈ r, y ≤ maxL m r) ∧ (maxL m r = m ∨ maxL m r ∈ r)
  | [], m => ⟨Int.le_refl _, (fun y h => by cases h), .inl rfl⟩
  | x :: r, m => by
    have e : maxL m (x :: r) = maxL (if x > m then x else m) r := rfl
    rw [e]
    by_cases hx : x > m
    · rw [if_pos hx]
      obtain ⟨h1, h2, h3⟩ := maxL_ge r x
      refine ⟨by omega, fun y hy => ?_, .inr ?_⟩
      · rcases List.mem_cons.mp hy with rfl | hy
        · exact h1
        · exact h2 y hy
      · rcases h3 with h3 | h3
        · rw [h3]; exact List.mem_cons_self
        · exact List.mem_cons_of_mem _ h3
    · rw [if_neg hx]
      obtain ⟨h1, h2, h3⟩ := maxL_ge r m
      refine ⟨h1, fun y hy => ?_, h3.imp id (List.mem_cons_of_mem _)⟩
      rcases List.mem_cons.mp hy with rfl | hy
      · omega
      · exact h2 y hy
theorem minL_le : ∀ (r : List Int) (m : Int), (minL m r ≤ m) ∧ (∀ y ∈ r, minL m r ≤ y) ∧ (minL m r = m ∨ minL m r ∈ r)
  | [], m => ⟨Int.le_refl _, (fun y h => by cases h), .inl rfl⟩
  | x :: r, m => by
    have e : minL m (x :: r) = minL (if x < m then x else m) r := rfl
    rw [e]
    by_cases hx : x < m
    · rw [if_pos hx]
      obtain ⟨h1, h2, h3⟩ := minL_le r x
      refine ⟨by omega, fun y hy => ?_, .inr ?_⟩
      · rcases List.mem_cons.mp hy with rfl | hy
        · exact h1
        · exact h2 y hy
      · rcases h3 with h3 | h3
        · rw [h3]; exact List.mem_cons_self
        · exact List.mem_cons_of_mem _ h3
    · rw [if_neg hx]
      obtain ⟨h1, h2, h3⟩ := minL_le r m
      refine ⟨h1, fun y hy => ?_, h3.imp id (List.mem_cons_of_mem _)⟩
      rcases List.mem_cons.mp hy with rfl | hy
      · omega
      · exact h2 y hy

/-- repr of data -/
def rReprD (K : PySem.W.Frag) : List V → Hp → VK → Prop := fun xs H Q => ∃ x d, xs = [x] ∧ Dp K H x d ∧ d.showable = true ∧ d.hasDict = false ∧ d.shown.length ≤ sizeLine ∧ d.depth ≤ 60 ∧ Q (.str d.shown) H
theorem call_reprD (hg : X.A.guards = some []) (hu : X.A.units + 64 < cLine) : CallR X (.builtin "repr") (rReprD X.K) := by
  intro pins s σ H xs us Q I r ⟨x, d, e, hd, h1, h2, h3, h4, q⟩
  subst e
  obtain ⟨u, rfl, ru⟩ := vals1 r
  obtain ⟨as, rd⟩ := Dp.reads I d x u hd ru
  cases hd with
  | non => cases ru; exact PySem.P.repr_of_none ⟨.str _, H, I.tok _, ⟨_, rfl⟩, q⟩
  | bl b => cases ru; exact PySem.P.repr_of_bool ⟨.str _, H, I.tok _, ⟨_, by cases b <;> rfl⟩, q⟩
  | int i =>
    obtain ⟨t, rfl⟩ := ru
    exact PySem.P.repr_of_int (of_decide_eq_true h1) ⟨.str _, H, I.tok _, ⟨_, rfl⟩, q⟩
  | str z =>
    obtain ⟨t, rfl⟩ := ru
    exact PySem.P.repr_of_str ⟨.str _, H, I.tok _, ⟨_, rfl⟩, q⟩ h3
  | lst _ _ =>
    cases ru
    exact repr_of_reads' rd h1 (fun e => by rw [h2] at e; cases e) hg (by omega) (fun _ _ z => z) (fun h' tk u k => ⟨.str _, H, I.kept k, ⟨_, rfl⟩, q⟩) h3
  | tup _ _ =>
    cases ru
    exact repr_of_reads' rd h1 (fun e => by rw [h2] at e; cases e) hg (by omega) (fun _ _ z => z) (fun h' tk u k => ⟨.str _, H, I.kept k, ⟨_, rfl⟩, q⟩) h3
end
mutual
theorem shown_wide : ∀ d : D, isData d = true → wide d ≤ size16 → (py d).shown.length ≤ wide d ∧ (py d).showable = true ∧ (py d).hasDict = false
  | .non, _, _ => ⟨by decide, rfl, rfl⟩
  | .bl b, _, _ => ⟨by cases b <;> decide, rfl, rfl⟩
  | .int i, _, z => by
    simp only [wide] at z ⊢
    by_cases h : i.natAbs.log2 < 1920
    · rw [if_pos h]
      refine ⟨?_, decide_eq_true h, rfl⟩
      have e : (Str.ofString (toString i)).length ≤ i.natAbs.log2 + 1 + 1 := by rw [PySem.ofString_length]; exact int_text_length_le (a := i) (k := i.natAbs.log2 + 1) (by omega) (by omega)
      have e2 : (py (.int i)).shown = Str.ofString (toString i) := rfl
      rw [e2]; omega
    · rw [if_neg h] at z; exact absurd z (by decide)
  | .str x, e, z => by
    refine ⟨?_, rfl, rfl⟩
    have hx : ∀ c ∈ x.cps.toList, c < 16 ^ 8 := fun c hc => by
      have e' : (x.cps.all (· < 0x110000)) = true := e
      rw [← Array.all_toList] at e'
      have := List.all_eq_true.mp e' c hc
      simp only [decide_eq_true_eq] at this
      exact Nat.lt_trans this (by decide)
    exact StrLaws.reprText_len x hx
  | .tup ds, e, z => by
    simp only [wide] at z ⊢
    have h := shown_wides ds (by simpa [isData] using e) (by omega)
    have h2 := tupleText_len_le (PyData.shownAll (pys ds))
    have h3 := PyData.shownAll_length (pys ds)
    refine ⟨?_, by rw [py, PyData.showable]; exact h.2.1, by rw [py, PyData.hasDict]; exact h.2.2⟩
    rw [py, PyData.shown]
    omega
  | .lst ds, e, z => by
    simp only [wide] at z ⊢
    have h := shown_wides ds (by simpa [isData] using e) (by omega)
    have h2 := listText_len_le (PyData.shownAll (pys ds))
    have h3 := PyData.shownAll_length (pys ds)
    refine ⟨?_, by rw [py, PyData.showable]; exact h.2.1, by rw [py, PyData.hasDict]; exact h.2.2⟩
    rw [py, PyData.shown]
    omega
  | .scr _, e, _ => by simp [isData] at e
  | .loc _, e, _ => by simp [isData] at e
  | .fn _, e, _ => by simp [isData] at e
theorem shown_wides : ∀ ds : List D, areData ds = true → wides ds ≤ size16 → ((PyData.shownAll (pys ds)).map (·.length)).sum + 2 * (pys ds).length ≤ wides ds ∧ PyData.showableAll (pys ds) = true ∧ PyData.hasDictAll (pys ds) = false
  | [], _, _ => ⟨by simp [pys, PyData.shownAll, wides], rfl, rfl⟩
  | d :: ds, e, z => by
    rw [areData, Bool.and_eq_true] at e
    simp only [wides] at z ⊢
    have h1 := shown_wide d e.1 (by omega)
    have h2 := shown_wides ds e.2 (by omega)
    simp only [pys, PyData.shownAll, PyData.showableAll, PyData.hasDictAll, List.map_cons, List.sum_cons, List.length_cons, h1.2.1, h1.2.2, h2.2.1, h2.2.2]
    exact ⟨by omega, rfl, rfl⟩
end
section
variable {X : Cx} {g : G}
def biV : BI → Value
  | .len => .builtin "len" | .int => .type "int" | .tuple => .type "tuple" | .list => .type "list" | .max => .builtin "max" | .min => .builtin "min" | .abs => .builtin "abs"
  | .all => .builtin "all" | .any => .builtin "any" | .sum => .builtin "sum" | .repr => .builtin "repr" | .sorted => .builtin "sorted" | .str => .type "str"
theorem bi_len : OpL g (biD .len) (fun xs H Q => ∃ x n, xs = [x] ∧ LenV g.K x H n ∧ Q (.int n) H) := by
  intro xs z vs H m L Q R rx h k kn
  match xs, rx, h with
  | [x], rx, h =>
    obtain ⟨v, rfl, r⟩ := rx.inv1
    simp only [biD] at h
    cases e : lenD L x with
    | none => rw [e] at h; cases h
    | some n => rw [e] at h; cases h; exact ⟨v, n, rfl, lenD_ok R r e, k _ (.int _)⟩
  | [], _, h => simp [biD] at h
  | _ :: _ :: _, _, h => simp [biD] at h
theorem bi_int : OpL g (biD .int) (fun xs H Q => (∃ i, xs = [.int i] ∧ Q (.int i) H) ∨ ∃ k, xs = [.bl k] ∧ Q (.int (if k then 1 else 0)) H) := by
  intro xs z vs H m L Q R rx h k kn
  match xs, rx, h with
  | [.int i], rx, h =>
    obtain ⟨v, rfl, r⟩ := rx.inv1
    cases r; simp only [biD, Option.some.injEq] at h; subst h
    exact .inl ⟨i, rfl, k _ (.int _)⟩
  | [.bl b], rx, h =>
    obtain ⟨v, rfl, r⟩ := rx.inv1
    cases r; simp only [biD, Option.some.injEq] at h; subst h
    exact .inr ⟨b, rfl, k _ (.int _)⟩
  | [], _, h => simp [biD] at h
  | [.non], _, h => simp [biD] at h
  | [.str _], _, h => simp [biD] at h
  | [.tup _], _, h => simp [biD] at h
  | [.lst _], _, h => simp [biD] at h
  | [.scr _], _, h => simp [biD] at h
  | [.loc _], _, h => simp [biD] at h
  | [.fn _], _, h => simp [biD] at h
  | _ :: _ :: _, _, h => simp [biD] at h
theorem bi_tuple : OpL g (biD .tuple) (fun xs H Q => ∃ p ys, xs = [.ref p] ∧ ((SqL g.K H p ys ∧ ∀ l, H l = none → Q (.ref l) (upd H l (.tup ys))) ∨ (SqT g.K H p ys ∧ Q (.ref p) H))) := by
  intro xs z vs H m L Q R rx h k kn
  match xs, rx, h with
  | [x], rx, h =>
    obtain ⟨v, rfl, r⟩ := rx.inv1
    cases r with
    | tup h1 zz q => simp only [biD, Option.some.injEq] at h; subst h; exact ⟨_, _, rfl, .inr ⟨h1, k _ (.tup h1 zz q)⟩⟩
    | lst h1 hm zz q => simp only [biD, Option.some.injEq] at h; subst h; exact ⟨_, _, rfl, .inl ⟨SqL.of h1, fun p hp => kn _ p _ hp (.tup (SqT.of upd_same) zz (Reps.ext (ext_new hp) _ _ q))⟩⟩
    | loc h1 =>
      obtain ⟨o, e1, ro⟩ := R.at_ h1
      simp only [biD, e1] at h
      cases o with
      | lst ds =>
        obtain ⟨xs, h2, z2, q2⟩ := ro
        simp only [Option.some.injEq] at h; subst h
        exact ⟨_, _, rfl, .inl ⟨SqL.of h2, fun p hp => kn _ p _ hp (.tup (SqT.of upd_same) z2 (Reps.ext (ext_new hp) _ _ q2))⟩⟩
      | ins c fs => cases h
    | _ => simp [biD] at h
  | [], _, h => simp [biD] at h
  | _ :: _ :: _, _, h => simp [biD] at h
theorem bi_list : OpL g (biD .list) (fun xs H Q => ∃ p ys, xs = [.ref p] ∧ (SqL g.K H p ys ∨ SqT g.K H p ys) ∧ ∀ l, H l = none → Q (.ref l) (upd H l (.lst ys))) := by
  intro xs z vs H m L Q R rx h k kn
  match xs, rx, h with
  | [x], rx, h =>
    obtain ⟨v, rfl, r⟩ := rx.inv1
    cases r with
    | tup h1 zz q => simp only [biD, Option.some.injEq] at h; subst h; exact ⟨_, _, rfl, .inr h1, fun p hp => kn _ p _ hp (.lst upd_same (R.fresh hp) zz (Reps.ext (ext_new hp) _ _ q))⟩
    | lst h1 hm zz q => simp only [biD, Option.some.injEq] at h; subst h; exact ⟨_, _, rfl, .inl (SqL.of h1), fun p hp => kn _ p _ hp (.lst upd_same (R.fresh hp) zz (Reps.ext (ext_new hp) _ _ q))⟩
    | _ => simp [biD] at h
  | [], _, h => simp [biD] at h
  | _ :: _ :: _, _, h => simp [biD] at h
theorem bi_abs : OpL g (biD .abs) (fun xs H Q => ∃ i, xs = [.int i] ∧ Q (.int (if i < 0 then -i else i)) H) := by
  intro xs z vs H m L Q R rx h k kn
  match xs, rx, h with
  | [x], rx, h =>
    obtain ⟨v, rfl, r⟩ := rx.inv1
    cases r with
    | int i => simp only [biD, Option.some.injEq] at h; subst h; exact ⟨i, rfl, k _ (.int _)⟩
    | _ => simp [biD] at h
  | [], _, h => simp [biD] at h
  | _ :: _ :: _, _, h => simp [biD] at h
theorem bi_sum : OpL g (biD .sum) (rSum g.K) := by
  intro xs z vs H m L Q R rx h k kn
  match xs, rx, h with
  | [x], rx, h =>
    obtain ⟨v, rfl, r⟩ := rx.inv1
    simp only [biD] at h
    cases e : asInts L x with
    | none => rw [e] at h; cases h
    | some ns => rw [e] at h; cases h; obtain ⟨a, rfl, s⟩ := asInts_ok R r e; exact ⟨a, ns, rfl, s, k _ (.int _)⟩
  | [], _, h => simp [biD] at h
  | _ :: _ :: _, _, h => simp [biD] at h
theorem bls_all : ∀ bs : List Bool, bs.all id = bs.all id := fun _ => rfl
theorem bi_all : OpL g (biD .all) (rAll g.K) := by
  intro xs z vs H m L Q R rx h k kn
  match xs, rx, h with
  | [x], rx, h =>
    obtain ⟨v, rfl, r⟩ := rx.inv1
    cases r with
    | @lst a xs ds h1 hm zz q =>
      simp only [biD] at h
      cases e : blsOf ds with
      | none => rw [e] at h; cases h
      | some bs => rw [e] at h; cases h; have e2 := blsOf_reps e q; subst e2; exact ⟨_, bs, rfl, SqL.of h1, k _ (.bl _)⟩
    | _ => simp [biD] at h
  | [], _, h => simp [biD] at h
  | _ :: _ :: _, _, h => simp [biD] at h
theorem bi_any : OpL g (biD .any) (rAny g.K) := by
  intro xs z vs H m L Q R rx h k kn
  match xs, rx, h with
  | [x], rx, h =>
    obtain ⟨v, rfl, r⟩ := rx.inv1
    cases r with
    | @lst a xs ds h1 hm zz q =>
      simp only [biD] at h
      cases e : blsOf ds with
      | none => rw [e] at h; cases h
      | some bs => rw [e] at h; cases h; have e2 := blsOf_reps e q; subst e2; exact ⟨_, bs, rfl, SqL.of h1, k _ (.bl _)⟩
    | _ => simp [biD] at h
  | [], _, h => simp [biD] at h
  | _ :: _ :: _, _, h => simp [biD] at h
theorem bi_max : OpL g (biD .max) (fun xs H Q => (∃ i j, xs = [.int i, .int j] ∧ Q (.int (if j > i then j else i)) H) ∨ rMax g.K xs H Q) := by
  intro xs z vs H m L Q R rx h k kn
  match xs, rx, h with
  | [x], rx, h =>
    obtain ⟨v, rfl, r⟩ := rx.inv1
    simp only [biD] at h
    cases e : asInts L x with
    | none => rw [e] at h; cases h
    | some ns =>
      rw [e] at h
      obtain ⟨a, rfl, s⟩ := asInts_ok R r e
      cases ns with
      | nil => cases h
      | cons i r =>
        simp only [Option.some.injEq] at h; subst h
        refine .inr ⟨a, i :: r, rfl, s, Nat.succ_pos _, fun M h1 h2 => ?_⟩
        obtain ⟨m1, m2, m3⟩ := maxL_ge r i
        have e1 : maxL i r ≤ M := by
          rcases m3 with m3 | m3
          · rw [m3]; exact h2 i List.mem_cons_self
          · exact h2 _ (List.mem_cons_of_mem _ m3)
        have e2 : M ≤ maxL i r := by
          rcases List.mem_cons.mp h1 with rfl | h1
          · exact m1
          · exact m2 _ h1
        have e3 : M = maxL i r := by omega
        rw [e3]; exact k _ (.int _)
  | [.int i, .int j], rx, h =>
    obtain ⟨v, w, rfl, r1, r2⟩ := rx.inv2
    cases r1; cases r2
    simp only [biD, Option.some.injEq] at h; subst h
    exact .inl ⟨i, j, rfl, k _ (.int _)⟩
  | [], _, h => simp [biD] at h
  | x :: y :: r, rx, h =>
    cases r with
    | nil => cases x <;> cases y <;> first | (simp [biD] at h; done) | skip
             obtain ⟨v, w, rfl, r1, r2⟩ := rx.inv2
             cases r1; cases r2
             simp only [biD, Option.some.injEq] at h; subst h
             exact .inl ⟨_, _, rfl, k _ (.int _)⟩
    | cons z r => cases x <;> cases y <;> simp [biD] at h
theorem bi_min : OpL g (biD .min) (fun xs H Q => (∃ i j, xs = [.int i, .int j] ∧ Q (.int (if j < i then j else i)) H) ∨ rMin g.K xs H Q) := by
  intro xs z vs H m L Q R rx h k kn
  match xs, rx, h with
  | [x], rx, h =>
    obtain ⟨v, rfl, r⟩ := rx.inv1
    simp only [biD] at h
    cases e : asInts L x with
    | none => rw [e] at h; cases h
    | some ns =>
      rw [e] at h
      obtain ⟨a, rfl, s⟩ := asInts_ok R r e
      cases ns with
      | nil => cases h
      | cons i r =>
        simp only [Option.some.injEq] at h; subst h
        refine .inr ⟨a, i :: r, rfl, s, Nat.succ_pos _, fun M h1 h2 => ?_⟩
        obtain ⟨m1, m2, m3⟩ := minL_le r i
        have e1 : M ≤ minL i r := by
          rcases m3 with m3 | m3
          · rw [m3]; exact h2 i List.mem_cons_self
          · exact h2 _ (List.mem_cons_of_mem _ m3)
        have e2 : minL i r ≤ M := by
          rcases List.mem_cons.mp h1 with rfl | h1
          · exact m1
          · exact m2 _ h1
        have e3 : M = minL i r := by omega
        rw [e3]; exact k _ (.int _)
  | [], _, h => simp [biD] at h
  | x :: y :: r, rx, h =>
    cases r with
    | nil => cases x <;> cases y <;> first | (simp [biD] at h; done) | skip
             obtain ⟨v, w, rfl, r1, r2⟩ := rx.inv2
             cases r1; cases r2
             simp only [biD, Option.some.injEq] at h; subst h
             exact .inl ⟨_, _, rfl, k _ (.int _)⟩
    | cons z r => cases x <;> cases y <;> simp [biD] at h
theorem bi_repr : OpL g (biD .repr) (rReprD g.K) := by
  intro xs z vs H m L Q R rx h k kn
  match xs, rx, h with
  | [x], rx, h =>
    obtain ⟨v, rfl, r⟩ := rx.inv1
    simp only [biD] at h
    split at h
    · rename_i hh
      simp only [Bool.and_eq_true, decide_eq_true_eq] at hh
      obtain ⟨⟨h1, h2⟩, h3⟩ := hh
      cases h
      obtain ⟨s1, s2, s3⟩ := shown_wide x h1 h2
      have d1 := py_dep x
      have zz : (py x).shown.length ≤ sizeLine := by rw [← size16_eq]; omega
      exact ⟨v, py x, rfl, Rep.dp x v h1 r, s2, s3, zz, by omega, k _ (.str _ zz)⟩
    · cases h
  | [], _, h => simp [biD] at h
  | _ :: _ :: _, _, h => simp [biD] at h
/-- all builtins -/
theorem bi_str : OpL g (biD .str) (fun xs H Q => (∃ i, xs = [.int i] ∧ i.natAbs.log2 < 1920 ∧ Q (.str (toString i)) H) ∨ ∃ a, xs = [.str a] ∧ Q (.str a) H) := by
  intro xs z vs H m L Q R rx h k kn
  match xs, rx, h with
  | [x], rx, h =>
    obtain ⟨v, rfl, r⟩ := rx.inv1
    cases r with
    | int i =>
      simp only [biD] at h
      split at h
      · rename_i hh
        simp only [Bool.and_eq_true, decide_eq_true_eq] at hh
        cases h
        exact .inl ⟨i, rfl, hh.1, k _ (.str _ (by rw [← size16_eq]; exact hh.2))⟩
      · cases h
    | str x zz =>
      simp only [biD] at h
      cases h
      exact .inr ⟨x, rfl, k _ (.str _ zz)⟩
    | _ => simp [biD] at h
  | [], _, h => simp [biD] at h
  | _ :: _ :: _, _, h => simp [biD] at h
theorem lex_anti : ∀ (xs ys : List Int), HT.lexLt xs ys = false → HT.lexLt ys xs = false → xs = ys
  | [], [], _, _ => rfl
  | [], y :: ys, h, _ => by rw [HT.lexLt_nil_cons] at h; cases h
  | x :: xs, [], _, h => by rw [HT.lexLt_nil_cons] at h; cases h
  | x :: xs, y :: ys, h1, h2 => by
    rw [HT.lexLt_cons] at h1 h2
    by_cases e : x = y
    · subst e
      rw [if_pos rfl] at h1 h2
      rw [lex_anti xs ys h1 h2]
    · rw [if_neg e] at h1
      rw [if_neg (fun z => e z.symm)] at h2
      simp only [decide_eq_false_iff_not] at h1 h2
      omega
theorem leT_iff {a b : List Int} : leT a b = true ↔ HT.lexLt b a = false := by unfold leT; simp
theorem sortT_srt (l : List (List Int)) : (l.mergeSort leT).Pairwise (fun x y => HT.lexLt y x = false) :=
  (List.pairwise_mergeSort (le := leT) (fun a b c h1 h2 => leT_iff.mpr (NtL.lex_tr _ _ _ (leT_iff.mp h1) (leT_iff.mp h2))) (fun a b => by
    rw [Bool.or_eq_true, leT_iff, leT_iff]
    cases h : HT.lexLt b a with
    | false => exact .inl rfl
    | true => exact .inr (NtL.lex_asym _ _ h)) l).imp fun h => leT_iff.mp h
theorem reps_ints {H : Hp} {m : List Addr} : ∀ {ns : List Int} {xs : List V}, Reps g H m (ns.map D.int) xs → xs = ns.map V.int
  | [], _, h => by cases h; rfl
  | n :: ns, _, h => by
    cases h with
    | cons r t => cases r; rw [List.map_cons, ← reps_ints t]
theorem intsOf_map' : ∀ {xs : List D} {ns : List Int}, intsOf xs = some ns → xs = ns.map .int
  | [], ns, h => by simp [intsOf] at h; rw [h]; rfl
  | .int i :: r, ns, h => by
    simp only [intsOf] at h
    cases e : intsOf r with
    | none => rw [e] at h; cases h
    | some m => rw [e] at h; cases h; rw [List.map_cons, ← intsOf_map' e]
  | .non :: _, _, h => by simp [intsOf] at h
  | .bl _ :: _, _, h => by simp [intsOf] at h
  | .str _ :: _, _, h => by simp [intsOf] at h
  | .tup _ :: _, _, h => by simp [intsOf] at h
  | .lst _ :: _, _, h => by simp [intsOf] at h
  | .scr _ :: _, _, h => by simp [intsOf] at h
  | .loc _ :: _, _, h => by simp [intsOf] at h
  | .fn _ :: _, _, h => by simp [intsOf] at h
theorem tips_at {H : Hp} {m : List Addr} : ∀ {ds : List D} {xs : List V} {nss : List (List Int)}, Reps g H m ds xs → tipsOf ds = some nss → xs.length = nss.length ∧ ∀ (i : Nat) (x : V) (ns : List Int), xs[i]? = some x → nss[i]? = some ns → Rep g H m (tupI ns) x
  | [], _, nss, .nil, h => by
    simp only [tipsOf] at h
    cases h
    exact ⟨rfl, fun i x ns e => by simp at e⟩
  | d :: r, _, nss, .cons r1 t1, h => by
    cases r1 with
    | @tup a ys es h1 z q =>
      simp only [tipsOf] at h
      cases e1 : intsOf es with
      | none => rw [e1] at h; cases h
      | some n =>
        cases e2 : tipsOf r with
        | none => rw [e1, e2] at h; cases h
        | some ns =>
          rw [e1, e2] at h
          cases h
          obtain ⟨i1, i2⟩ := tips_at t1 e2
          refine ⟨by simp [i1], fun i x ns' ex en => ?_⟩
          cases i with
          | zero =>
            simp at ex en
            subst ex en
            unfold tupI
            rw [← intsOf_map' e1]
            exact .tup h1 z q
          | succ i =>
            simp only [List.getElem?_cons_succ] at ex en
            exact i2 i x ns' ex en
    | _ => simp [tipsOf] at h
theorem reps_of_pairs {H : Hp} {m : List Addr} : ∀ {zs : List (V × List Int)}, (∀ z ∈ zs, Rep g H m (tupI z.2) z.1) → Reps g H m ((zs.map (·.2)).map tupI) (zs.map (·.1))
  | [], _ => .nil
  | z :: zs, h => .cons (h z List.mem_cons_self) (reps_of_pairs fun y hy => h y (List.mem_cons_of_mem _ hy))
theorem bi_sorted : OpL g (biD .sorted) (rSortL g.K) := by
  intro xs z vs H m L Q R rx h k kn
  match xs, rx, h with
  | [x], rx, h =>
    obtain ⟨v, rfl, r⟩ := rx.inv1
    cases r with
    | @lst a xs ds h1 hm zz q =>
      simp only [biD, sortTD] at h
      cases e : tipsOf ds with
      | none => rw [e] at h; cases h
      | some nss =>
        rw [e] at h
        cases nss with
        | nil => cases h
        | cons n0 r0 =>
          cases n0 with
          | cons _ _ => cases h
          | nil =>
            simp only [Option.some.injEq] at h
            subst h
            obtain ⟨le, at_⟩ := tips_at q e
            refine ⟨a, xs, [] :: r0, rfl, SqL.of h1, le, fun i x ns ex en => ?_, ⟨r0, rfl⟩, fun zs p hp hs hn => ?_⟩
            · have rr := at_ i x ns ex en
              unfold tupI at rr
              cases rr with
              | tup g1 g2 g3 => rw [reps_ints g3] at g1; exact ⟨_, rfl, g1⟩
            · have e2 : (xs.zip ([] :: r0)).map (·.2) = [] :: r0 := by
                rw [List.map_snd_zip]; omega
              have ez : zs.map (·.2) = ([] :: r0).mergeSort leT := by
                refine List.Perm.eq_of_pairwise (le := fun x y => HT.lexLt y x = false) (fun a b _ _ h1 h2 => lex_anti _ _ h2 h1) hs (sortT_srt _) ?_
                refine ((hp.map (·.2)).trans ?_).trans (List.mergeSort_perm _ _).symm
                rw [e2]
              rw [← ez] at kn
              have lz : (zs.map (·.1)).length = xs.length := by
                rw [List.length_map, hp.length_eq, List.length_zip, ← le, Nat.min_self]
              refine kn _ p _ hn (.lst upd_same (R.fresh hn) (by rw [lz]; exact zz) (Reps.ext (ext_new hn) _ _ (reps_of_pairs fun w hw => ?_)))
              obtain ⟨i, hi, ew⟩ := List.mem_iff_getElem.mp (hp.mem_iff.mp hw)
              have hi2 : (xs.zip ([] :: r0))[i]? = some w := by rw [List.getElem?_eq_getElem hi, ew]
              obtain ⟨w1, w2⟩ := w
              obtain ⟨e3, e4⟩ := List.getElem?_zip_eq_some.mp hi2
              exact at_ i w1 w2 e3 e4
    | _ => simp [biD] at h
  | [], _, h => simp [biD] at h
  | _ :: _ :: _, _, h => simp [biD] at h
theorem bi_all_ok (hK : X.K = g.K) (hc : X.calm = true) (hu : X.A.units + 64 < cLine) (b : BI) (hg : b = .repr → X.A.guards = some []) : ∃ r, CallR X (biV b) r ∧ OpL g (biD b) r := by
  cases b with
  | len => exact ⟨_, by rw [← hK]; exact call_len, bi_len⟩
  | int => exact ⟨_, call_int1, bi_int⟩
  | tuple => exact ⟨_, by rw [← hK]; exact call_tuple_of, bi_tuple⟩
  | list => exact ⟨_, by rw [← hK]; exact call_list_of, bi_list⟩
  | max => exact ⟨_, by rw [← hK]; exact (call_max2 hc).or (cr_max hc), bi_max⟩
  | min => exact ⟨_, by rw [← hK]; exact (call_min2 hc).or (cr_min hc), bi_min⟩
  | abs => exact ⟨_, call_abs, bi_abs⟩
  | all => exact ⟨_, by rw [← hK]; exact cr_all hc, bi_all⟩
  | any => exact ⟨_, by rw [← hK]; exact cr_any hc, bi_any⟩
  | sum => exact ⟨_, by rw [← hK]; exact cr_sum hc, bi_sum⟩
  | repr => exact ⟨_, by rw [← hK]; exact call_reprD (hg rfl) hu, bi_repr⟩
  | str => exact ⟨_, call_str_int.or SkE.call_str_str, bi_str⟩
  | sorted => exact ⟨_, by rw [← hK]; exact cr_sortL hu, bi_sorted⟩
end
end Ev
end

section
set_option Elab.async false
set_option linter.all false
set_option maxRecDepth 100000
set_option autoImplicit false
set_option maxHeartbeats 1000000
namespace Ev
open PySem PySem.Spec PyProof.Rows L2
/-! ### forms -/
def notStar : Expr → Bool
  | .Starred _ _ => false
  | _ => true
theorem starEach_ns {e : Expr} {es : List Expr} {env : PySem.Env} (h : notStar e = true) : starEach (e :: es) env = (false, eval e env) :: starEach es env := by
  cases e <;> first | rfl | cases h
theorem back_any : ∀ {es : List Expr} {env : PySem.Env} {pos : Pos}, es.all notStar = true → (backTo pos (starEach es env)).any (·.1) = false
  | [], _, _, _ => rfl
  | e :: es, env, pos, h => by
    rw [List.all_cons, Bool.and_eq_true] at h
    rw [starEach_ns h.1]
    show (false || (backTo pos (starEach es env)).any (·.1)) = false
    rw [back_any h.2]; rfl
theorem starEach_one {e : Expr} {env : PySem.Env} (h : notStar e = true) : starEach [e] env = [(false, eval e env)] := starEach_ns h
def plainT : Expr → Bool
  | .UnaryOp _ _ _ => false | .BoolOp _ _ _ => false | .IfExp _ _ _ _ => false | .Compare _ _ _ _ => false
  | _ => true
theorem isTrue_plain {e : Expr} {env : PySem.Env} (h : plainT e = true) (whole : Sem Value) : isTrue e env whole = (do let v ← whole; standAt e.pos; holding [v] (truthy v)) := by
  cases e <;> first | rfl | cases h
def plainI : Expr → Bool
  | .Slice _ _ _ _ => false
  | _ => true
theorem plainIx {b : Expr} (h : plainI b = true) : PlainIx b := fun o i => by
  cases b <;> first | rfl | cases h
def notSet : Expr → Bool
  | .Set _ _ _ => false
  | _ => true
theorem folded_ns {e : Expr} {env : PySem.Env} (h : notSet e = true) (x : Value) : foldedSetIterable e env x = pure x := by
  cases e <;> first | rfl | cases h

/-! ### calls of builtins -/
section
variable {X : Cx} {g : G} {W : WX} {a b c e : Expr} {fa fb fc : Env → LH → R D} {pos p : Pos} {es : List Expr} {fs : Env → LH → R (List D)} {x : Str}
/-- a builtin's name: what it is at the start -/
def biN : BI → Str
  | .len => "len" | .int => "int" | .tuple => "tuple" | .list => "list" | .max => "max" | .min => "min" | .abs => "abs" | .all => "all" | .any => "any" | .sum => "sum" | .repr => "repr" | .sorted => "sorted" | .str => "str"
theorem bi_boot (b : BI) : bootBuiltins (biN b) = some (biV b) := by cases b <;> decide +kernel
theorem bi_name (b : BI) : biN b ≠ "__name__" ∧ (biN b == ("__debug__" : Str)) = false := by cases b <;> decide +kernel
theorem se_bi (hK : X.K = g.K) (hc : X.calm = true) (hu : X.A.units + 64 < cLine) (b : BI) (hgd : b = .repr → X.A.guards = some []) (hg : Gl X (biN b)) (hm : X.mg (biN b) = none) (hn : (e :: es).all notStar = true) (ha : PA X (e :: es) (liftA g W fs)) :
    PE X (.Call (.Name (biN b) p) (e :: es) [] pos) (liftE g W fun env L => (fs env L).bind fun xs L => opt (biD b xs L) L) := by
  obtain ⟨r, h1, h2⟩ := bi_all_ok (g := g) hK hc hu b hgd
  have hn' := hn
  rw [List.all_cons, Bool.and_eq_true] at hn'
  have core : ∀ σ H Q, liftE g W (fun env L => (fs env L).bind fun xs L => opt (biD b xs L) L) σ H Q → tCB r (liftA g W fs) σ H Q := fun σ H Q ⟨env, L, m, R, h⟩ => ⟨env, L, m, R, h.bind fun xs L1 vs H1 m1 x1 r1 q1 h1 => finL h2 r1 q1 h1⟩
  have nm := bi_name b
  have bt := bi_boot b
  have key : ∀ v : Value, biV b = v → (∃ id, v = .builtin id) ∨ (∃ T, v = .type T) := fun v hv => by
    subst hv; cases b <;> first | exact .inl ⟨_, rfl⟩ | exact .inr ⟨_, rfl⟩
  rcases key _ rfl with ⟨id, hv⟩ | ⟨T, hv⟩
  · rw [hv] at h1 bt
    exact PE.weak (pe_callB h1 hg hm bt ha nm.1 nm.2 (starEach_ns hn'.1) (back_any hn'.2)) core
  · rw [hv] at h1 bt
    exact PE.weak (pe_callTy h1 hg hm bt ha nm.1 nm.2 (starEach_ns hn'.1) (back_any hn'.2)) core
theorem se_lenset {a : Expr} {fa : Env → LH → R D} {p p2 q pos : Pos} (hK : X.K = g.K) (hc : X.calm = true) (hg : Gl X "len") (hm : X.mg "len" = none) (hg2 : Gl X "set") (hm2 : X.mg "set" = none) (hn : notStar a = true) (ha : PE X a (liftE g W fa)) :
    PE X (.Call (.Name "len" p) [.Call (.Name "set" p2) [a] [] q] [] pos) (liftE g W fun env L => (fa env L).bind fun x L => opt (lensetD x) L) := by
  refine PE.weak (pe_lenSetA hc hg hm hg2 hm2 ha (starEach_ns hn)) fun σ H Q ⟨env, L, m, R, h⟩ => ⟨env, L, m, R, h.bind fun x L1 v H1 m1 x1 r1 q1 h1 => ?_⟩
  cases x with
  | lst ds =>
    simp only [lensetD] at h1
    cases e : intsOf ds with
    | none => rw [e] at h1; exact h1.elim
    | some ns =>
      rw [e] at h1
      simp only at h1
      by_cases hz : ns.length ≤ 4000
      · rw [if_pos hz] at h1
        obtain ⟨a', ev, s⟩ := asInts_ok (L := L1) r1 q1 (show asInts L1 (.lst ds) = some ns from e)
        subst ev
        rw [hK]
        exact ⟨a', ns, rfl, .inl s, hz, h1 _ H1 m1 Ext.refl r1 (.int _)⟩
      · rw [if_neg hz] at h1; exact h1.elim
  | tup ds =>
    simp only [lensetD] at h1
    cases e : intsOf ds with
    | none => rw [e] at h1; exact h1.elim
    | some ns =>
      rw [e] at h1
      simp only at h1
      by_cases hz : ns.length ≤ 4000
      · rw [if_pos hz] at h1
        cases q1 with
        | tup g1 g2 g3 =>
          rw [intsOf_map' e] at g3
          rw [reps_ints g3] at g1
          rw [hK]
          exact ⟨_, ns, rfl, .inr g1, hz, h1 _ H1 m1 Ext.refl r1 (.int _)⟩
      · rw [if_neg hz] at h1; exact h1.elim
  | _ => exact h1.elim
/-! ### comparisons besides -/
theorem reps_atD {H : Hp} {m : List Addr} : ∀ {ds : List D} {xs : List V}, Reps g H m ds xs → ∀ (j : Nat) (x : V), xs[j]? = some x → ∃ d, ds[j]? = some d ∧ Rep g H m d x
  | _, _, .nil, j, x, h => by simp at h
  | _, _, .cons r t, 0, x, h => by simp at h; subst h; exact ⟨_, rfl, r⟩
  | _, _, .cons r t, j + 1, x, h => by simp at h; simpa using reps_atD t j x h
def co2P : Co2 → CmpOp
  | .notinD => .NotIn | .inD => .In | .neL => .NotEq | .ltT => .Lt
theorem any_py : ∀ ds : List D, areData ds = true → (pys ds).any (fun z => PyData.eqv z (.list [])) = ds.any fun d => eqv d (.lst [])
  | [], _ => rfl
  | d :: ds, h => by
    rw [areData, Bool.and_eq_true] at h
    rw [pys, List.any_cons, List.any_cons, any_py ds h.2, eqv_py d (.lst []) h.1 rfl]
    rfl
theorem cmp2_all (hK : X.K = g.K) (hu : X.A.units + 64 < cLine) (o : Co2) : ∃ r, OpR X (compareOp (co2P o)) r ∧ Op2 g (fun x y L => (cmp2D o x y L).map .bl) r := by
  cases o with
  | notinD =>
    refine ⟨_, op_notInN hu, fun x y z v u H m L Q R rx ry h k _ => ?_⟩
    simp only at h
    unfold cmp2D at h
    split at h
    · rename_i ds _
      split at h
      · rename_i hd
        simp only [Option.map_some, Option.some.injEq] at h
        subst h
        have d1 := Rep.dp (.lst []) v rfl rx
        have d2 := Rep.dp (.lst ds) u (by simpa [isData] using hd) ry
        have ly := py_lay (.lst ds) (by simpa [isData] using hd)
        rw [py, PyData.canLay0] at ly
        rw [hK]
        refine ⟨pys ds, d1, d2, ly, ?_⟩
        rw [any_py ds hd]
        exact k _ (.bl _)
      · cases h
    · simp_all
    · simp_all
    · simp_all
    · cases h
  | inD =>
    refine ⟨_, op_inN hu, fun x y z v u H m L Q R rx ry h k _ => ?_⟩
    simp only at h
    unfold cmp2D at h
    split at h
    · simp_all
    · rename_i ds _
      split at h
      · rename_i hd
        simp only [Option.map_some, Option.some.injEq] at h
        subst h
        have d1 := Rep.dp (.lst []) v rfl rx
        have d2 := Rep.dp (.lst ds) u (by simpa [isData] using hd) ry
        have ly := py_lay (.lst ds) (by simpa [isData] using hd)
        rw [py, PyData.canLay0] at ly
        rw [hK]
        refine ⟨pys ds, d1, d2, ly, ?_⟩
        rw [any_py ds hd]
        exact k _ (.bl _)
      · cases h
    · simp_all
    · simp_all
    · cases h
  | neL =>
    refine ⟨_, op_neM hu, fun x y z v u H m L Q R rx ry h k _ => ?_⟩
    simp only at h
    unfold cmp2D at h
    split at h
    · simp_all
    · simp_all
    · rename_i l _
      split at h
      · rename_i ds el
        split at h
        · rename_i hd
          simp only [Option.map_some, Option.some.injEq] at h
          subst h
          cases rx with
          | loc h1 =>
            obtain ⟨o, e1, ro⟩ := R.at_ h1
            rw [el] at e1
            cases e1
            obtain ⟨xs, h2, z2, q2⟩ := ro
            rw [hK]
            refine ⟨.list (pys ds), .list [], .lst (SqL.of h2) (Reps.dp ds _ hd q2), Rep.dp (.lst []) u rfl ry, ?_, rfl, ?_, ?_⟩
            · have ly := py_lay (.lst ds) (by simpa [isData] using hd)
              exact ly
            · have d1 : (PyData.list []).depth = 1 := rfl
              rw [d1]; omega
            · have e : PyData.eqv (.list (pys ds)) (.list []) = ds.isEmpty := by cases ds <;> simp [pys, PyData.eqv, PyData.eqvAll]
              rw [e]
              exact k _ (.bl _)
        · cases h
      · cases h
    · simp_all
    · cases h
  | ltT =>
    refine ⟨_, op_ltT (by omega), fun x y z v u H m L Q R rx ry h k _ => ?_⟩
    simp only at h
    unfold cmp2D at h
    split at h
    · simp_all
    · simp_all
    · simp_all
    · rename_i xs ys _
      cases e1 : intsOf xs with
      | none => rw [e1] at h; cases h
      | some a =>
        cases e2 : intsOf ys with
        | none => rw [e1, e2] at h; cases h
        | some b =>
          rw [e1, e2] at h
          simp only [Option.map_some, Option.some.injEq] at h
          subst h
          cases rx with
          | tup g1 _ g3 =>
            cases ry with
            | tup k1 _ k3 =>
              rw [intsOf_map' e1] at g3
              rw [intsOf_map' e2] at k3
              rw [reps_ints g3] at g1
              rw [reps_ints k3] at k1
              rw [hK]
              exact ⟨_, _, a, b, rfl, rfl, g1, k1, k _ (.bl _)⟩
    · cases h
theorem se_mint {a : Expr} {fa : Env → LH → R D} {p pos : Pos} (hK : X.K = g.K) (hc : X.calm = true) (hu : X.A.units + 64 < cLine) (hg : Gl X "min") (hm : X.mg "min" = none) (hn : notStar a = true) (ha : PE X a (liftE g W fa)) :
    PE X (.Call (.Name "min" p) [a] [] pos) (liftE g W fun env L => (fa env L).bind fun x L => opt (mintD L x) L) := by
  have pa : PA X [a] (tCons (liftE g W fa) tNil) := pa_cons ha pa_nil (starEach_ns hn)
  refine PE.weak (pe_callB (cr_minT hc hu) hg hm PyProof.Rows.boot_min pa (he := starEach_ns hn)) fun σ H Q ⟨env, L, m, R, h⟩ => ⟨env, L, m, R, h.bind fun x L1 v H1 m1 x1 r1 q1 h1 => ?_⟩
  have key : ∀ (ad : Addr) (xs : List V) (ds : List D), v = .ref ad → SqL g.K H1 ad xs → Reps g H1 m1 ds xs → Out g (Rep g) W σ H1 m1 Q (opt (mintL ds) L1) → rMinT X.K [v] H1 Q := fun ad xs ds ev hs q h1 => by
    unfold mintL at h1
    cases e : tipsOf ds with
    | none => rw [e] at h1; exact h1.elim
    | some nss =>
      cases nss with
      | nil => rw [e] at h1; exact h1.elim
      | cons n0 ns =>
        rw [e] at h1
        simp only [opt_some] at h1
        obtain ⟨le, at_⟩ := tips_at q e
        rw [hK]
        refine ⟨ad, xs, n0 :: ns, by rw [ev], hs, le, by simp, fun i x k ex ek => ?_, fun x ex => ?_⟩
        · have rr := at_ i x k ex ek
          unfold tupI at rr
          cases rr with
          | tup g1 g2 g3 => rw [reps_ints g3] at g1; exact ⟨_, rfl, g1⟩
        · obtain ⟨d, ed, rd⟩ := reps_atD q _ x ex
          rw [List.getD_eq_getElem?_getD, ed] at h1
          exact h1 x H1 m1 Ext.refl r1 rd
  cases q1 with
  | lst l1 hm1 zz q => exact key _ _ _ rfl (SqL.of l1) q h1
  | loc l1 =>
    obtain ⟨o, e1, ro⟩ := r1.at_ l1
    simp only [mintD, e1] at h1
    cases o with
    | lst ds =>
      obtain ⟨xs, h2, z2, q2⟩ := ro
      exact key _ _ _ rfl (SqL.of h2) q2 h1
    | ins c fs => exact h1.elim
  | _ => exact h1.elim
/-! ### isinstance of builtin types -/
def tyN : Ty → String
  | .int => "int" | .bool => "bool" | .str => "str" | .tuple => "tuple" | .list => "list"
theorem ty_boot (t : Ty) : bootBuiltins (Str.ofString (tyN t)) = some (.type (tyN t)) := by cases t <;> decide +kernel
theorem ty_name (t : Ty) : Str.ofString (tyN t) ≠ "__name__" ∧ (Str.ofString (tyN t) == ("__debug__" : Str)) = false := by cases t <;> decide +kernel
theorem isTy_ok {H : Hp} {m : List Addr} {d : D} {v : V} {t : Ty} {b : Bool} (r : Rep g H m d v) (h : isinD d [t] = some b) : ∃ T, TyX g.K H v (.type T) ∧ PySem.W.kitOne g.K (.type T) (.type (tyN t)) = some b := by
  have sq : ∀ {a : Addr} {xs : List V}, SqT g.K H a xs → TyX g.K H (.ref a) (.type "tuple") := fun {a xs} s => by
    rcases s with (s | ⟨o, s⟩) | ⟨o, its, n, s, s2, _⟩
    · exact .base (.tup s)
    · exact .fTuple s
    · exact .kTuple s s2
  cases r with
  | non => simp [isinD, isTy] at h; subst h; exact ⟨_, .base .non, kit_ty (by cases t <;> decide +kernel)⟩
  | bl k => exact ⟨_, .base (.bl k), kit_ty (by cases t <;> simp [isinD, isTy] at h <;> subst h <;> decide +kernel)⟩
  | int i => exact ⟨_, .base (.int i), kit_ty (by cases t <;> simp [isinD, isTy] at h <;> subst h <;> decide +kernel)⟩
  | str x z => exact ⟨_, .base (.str x), kit_ty (by cases t <;> simp [isinD, isTy] at h <;> subst h <;> decide +kernel)⟩
  | tup s z q => exact ⟨_, sq s, kit_ty (by cases t <;> simp [isinD, isTy] at h <;> subst h <;> decide +kernel)⟩
  | lst s hm z q => exact ⟨_, .base (.lst s), kit_ty (by cases t <;> simp [isinD, isTy] at h <;> subst h <;> decide +kernel)⟩
  | _ => simp [isinD] at h
theorem se_isin {t : Ty} {p2 : Pos} (hK : X.K = g.K) (hg : Gl X "isinstance") (hm : X.mg "isinstance" = none) (hg2 : Gl X (Str.ofString (tyN t))) (hm2 : X.mg (Str.ofString (tyN t)) = none) (hn : notStar a = true) (ha : PE X a (liftE g W fa)) :
    PE X (.Call (.Name "isinstance" p) [a, .Name (Str.ofString (tyN t)) p2] [] pos) (liftE g W fun env L => (fa env L).bind fun x L => opt ((isinD x [t]).map .bl) L) := by
  have tn := ty_name t
  have pt : PE X (.Name (Str.ofString (tyN t)) p2) (tC (.ty (tyN t))) := pe_bltn hg2 hm2 (ty_boot t) rfl tn.1 tn.2
  have pa : PA X [a, .Name (Str.ofString (tyN t)) p2] (tCons (liftE g W fa) (tCons (tC (.ty (tyN t))) tNil)) := pa_cons ha (pa_cons pt pa_nil) (starEach_ns hn)
  refine PE.weak (pe_callB call_isi hg hm (by decide +kernel) pa (he := starEach_ns hn)) fun σ H Q ⟨env, L, m, R, h⟩ => ⟨env, L, m, R, h.bind fun x L1 v H1 m1 x1 r1 q1 h1 => ?_⟩
  cases e : isinD x [t] with
  | none => rw [e] at h1; exact h1.elim
  | some b =>
    rw [e] at h1
    obtain ⟨T, t1, t2⟩ := isTy_ok q1 e
    rw [← hK] at t1 t2
    exact ⟨v, .ty (tyN t), _, _, b, rfl, .ty _, t1, t2, h1.ok_ r1 (.bl _)⟩
end
end Ev
end

section
set_option Elab.async false
set_option linter.all false
set_option maxRecDepth 100000
set_option autoImplicit false
set_option maxHeartbeats 1000000
/-! enumerate over a tuple -/
namespace Ev
open PySem PySem.Spec PyProof.Rows L2
set_option maxHeartbeats 4000000 in
theorem meets_enum1 {v : Value} {o : Obj} {H : Heap → Prop} (B : Begins v o H) :
    Meets (Builtin.«enumerate.__new__» ⟨[.type "enumerate", v], []⟩) (fun _ R s => H s.heap ∧
      R (.ok (.ret (.ref (s.heap.push o).objs.size))) { s with heap := (s.heap.push o).push { cls := .type "enumerate", data := .fields #[.none, .bool false, .ref s.heap.objs.size, rawInt 0, .none, .none] } }) :=
  .of_wp fun prog w A R s hh => by
    obtain ⟨hp, gn, dw, tk, os⟩ := s
    obtain ⟨h1, hR⟩ := hh
    have hs1 := sub_enumerate
    have it1 : ∀ {A' : Around} {E Q : Value → Shared → Prop}, Q (.ref hp.objs.size) ⟨hp.push o, gn, dw, tk, os⟩ → wpAny (model prog w) A' (pyIter v) Q E ⟨hp, gn, dw, tk, os⟩ :=
      fun q => B.iter prog w _ _ ⟨hp, gn, dw, tk, os⟩ _ h1 q
    wp_walk using it1
    refine wpAny_stack_any fun st => wpAny_pure ?_
    split
    all_goals first
      | (rename_i c _ _ _ _ _; cases (c == Value.type "enumerate") <;> (wp_walk using it1) <;> exact ⟨_, rfl, hR⟩)
      | (wp_walk using it1; exact ⟨_, rfl, hR⟩)
section
variable {prog : Program} {w : World} {A : Around} {E : Value → Shared → Prop} {s : Shared}
theorem call_enum1 {v : Value} {o : Obj} {H : Heap → Prop} {Q : Value → Shared → Prop} (B : Begins v o H) (h1 : H s.heap)
    (h : ∀ h', IsEnum h' (s.heap.objs.size + 1) s.heap.objs.size 0 .none → h'.get? s.heap.objs.size = some o → h'.objs.size = s.heap.objs.size + 2 →
      (∀ b u, s.heap.get? b = some u → h'.get? b = some u) → Q (.ref (s.heap.objs.size + 1)) { s with heap := h' }) :
    wpAny (model prog w) A (call (.type "enumerate") [v]) Q E s := by
  refine callType_new F.called_enumerate (by decide) (F.typeCall_enumerate_1 _) (F.newCall_enumerate_1 _) (fun obj => F.args_object_init_2 obj _) F.entry_enumerate_new (meets_enum1 B) ⟨h1, ?_⟩
  have sz : (s.heap.push o).objs.size = s.heap.objs.size + 1 := Heap.size_push ..
  have get2 := Heap.get?_push_size (s.heap.push o) (o := { cls := .type "enumerate", data := .fields #[.none, .bool false, .ref s.heap.objs.size, rawInt 0, .none, .none] }) rfl
  show _ ∧ _
  rw [sz] at get2 ⊢
  exact ⟨⟨_, get2, rfl⟩, h _ get2 (Heap.get?_push_of_some _ (Heap.get?_push_size _ B.free)) (by rw [Heap.size_push, sz]) fun b u x => Heap.get?_push_of_some _ (Heap.get?_push_of_some _ x)⟩
end
/-- the tuple at a, each item in a new pair -/
def IteT (K : PySem.W.Frag) (a : Addr) : It where
  go := fun i H => ∃ (xs : List V) (x : V), SqT K H a xs ∧ xs[i]? = some x
  yld := fun i H v H' => ∃ T x, v = .ref T ∧ H T = none ∧ H' = upd H T (.tup [.int (i : Nat), x]) ∧ ∀ xs, SqT K H a xs → xs[i]? = some x
  stop := fun i H => ∃ xs : List V, SqT K H a xs ∧ xs.length ≤ i
theorem turn_enumT {P : Program} {w : World} {K : PySem.W.Frag} {elts : List Expr} {kk : Nat} {tpos : Pos} (a e it : Addr) :
    Turn P w K (.Tuple elts kk tpos) (IteT K a) [e, it] e (fun i h => (∃ old, IsEnum h e it ((i : Nat) : Int) old) ∧ h.IsTupleIter it a i ∧ e ≠ it) where
  mem := List.mem_cons_self
  obj := by
    intro i h ⟨⟨old, he⟩, ⟨o, ho, _, hd⟩, _⟩ b hb
    rcases List.mem_cons.mp hb with rfl | hb
    · exact ⟨_, he, fun v q => nomatch q⟩
    · rcases List.mem_cons.mp hb with rfl | hb
      · exact ⟨o, ho, fun v q => by rw [hd] at q; cases q⟩
      · cases hb
  keep := fun i h h' ⟨⟨old, he⟩, hi, ne⟩ k => ⟨⟨old, k e List.mem_cons_self _ he⟩, hi.at fun o q => k it (List.mem_cons_of_mem _ List.mem_cons_self) o q, ne⟩
  item := by
    intro X hP hw hK hc i pins s σ H E I hf ⟨⟨old, he⟩, hit, ne⟩ ⟨xs, x, hq, hx⟩
    subst hP hw hK
    obtain ⟨its, rv, pt, hz⟩ := I.tuple hq
    obtain ⟨u, hu, ru⟩ := rv.get hx
    have lte := Heap.lt_size he
    have lti : it < s.heap.objs.size := by obtain ⟨_, q, _⟩ := hit; exact Heap.lt_size q
    have hT : s.heap.IsTuple a its.toArray := pt
    have nea : e ≠ a := fun z => by
      subst z
      obtain ⟨oa, q1, q2, n, q3⟩ := hT
      have q4 : some _ = some oa := he.symm.trans q1
      cases q4
      cases q3
    have nia : a ≠ it := fun z => by
      subst z
      obtain ⟨oa, q1, q2, n, q3⟩ := hT
      obtain ⟨ob, q4, q5, q6⟩ := hit
      rw [q1] at q4; cases q4
      rw [q3] at q6; cases q6
    have Dt := Draws.tuple (prog := X.prog) (w := X.w) (A := X.A.in1) (I.ok.hd hc) it a nia its.toArray
    have hlen : i < its.toArray.size := by
      have := (List.getElem?_eq_some_iff.mp hu).1
      simpa using this
    refine wpAny_pyNext_enum_itemD Dt he ⟨hit, hT⟩ hlen ne (fun z => ?_) fun x' h' tk hx' out st' hTn hsz hk => ?_
    · rcases List.mem_cons.mp z with z | z
      · exact ne z
      · rcases List.mem_cons.mp z with z | z
        · exact nea z
        · cases z
    · have ex : x' = u := by
        have : its.toArray[i]? = some u := by simpa using hu
        rw [this] at hx'; exact (Option.some.inj hx').symm
      subst ex
      refine ⟨_, rfl, wpAny_letOwnedTupleGo_enum (s := { s with heap := h', toks := tk + 1 }) out fun h2 he2 sb => ?_⟩
      have lay : h2.get? s.heap.objs.size = some { cls := .type "tuple", data := .seq #[.int i tk, x'] } := (sb.2 _ (Nat.ne_of_gt lte)).trans hTn
      have new : ObjOk X.prog X.w (upd H s.heap.objs.size (.tup [.int (i : Nat), x])) h2 s.heap.objs.size (.tup [.int (i : Nat), x]) :=
        ⟨show 2 ≤ sizeLine by decide, [.int i tk, x'], .cons ⟨tk, rfl⟩ (.cons ru .nil), ⟨_, lay, rfl, _, rfl⟩⟩
      have I2 : Inv X pins σ (upd H s.heap.objs.size (.tup [.int (i : Nat), x])) { s with heap := h2, toks := tk + 1 } := by
        refine I.turnedNew (ch := [e, it]) (fun b ob hb q => ?_) hf (Nat.le_refl _) new
        have n1 : b ≠ e := fun z => hb (by rw [z]; exact List.mem_cons_self)
        have n2 : b ≠ it := fun z => hb (by rw [z]; exact List.mem_cons_of_mem _ List.mem_cons_self)
        exact (sb.2 b n1).trans (hk b ob n1 n2 q)
      refine ⟨.ref s.heap.objs.size, _, I2, rfl, ⟨_, x, rfl, I.hok.fresh (Nat.le_refl _), rfl, fun ys hy => ?_⟩, ⟨⟨x', ?_⟩, ?_, ne⟩, fun b hb => ?_⟩
      · rw [I.tuple_inj hy hq]; exact hx
      · have ei : ((i + 1 : Nat) : Int) = (i : Int) + 1 := by omega
        rw [ei]; exact he2
      · exact st'.1.at fun o q => (sb.2 it (Ne.symm ne)).trans q
      · have lb : b < s.heap.objs.size := by
          rcases List.mem_cons.mp hb with rfl | hb
          · exact lte
          · rcases List.mem_cons.mp hb with rfl | hb
            · exact lti
            · cases hb
        rw [upd_ne (Nat.ne_of_lt lb)]
        exact (hf b hb).1
  done := by
    intro X hP hw hK hc i pins s σ H E I hf ⟨⟨old, he⟩, hit, ne⟩ ⟨xs, hq, hx⟩
    subst hP hw hK
    obtain ⟨its, rv, pt, hz⟩ := I.tuple hq
    obtain ⟨f0, f1, f2, f3, f4, f5⟩ := hf it (List.mem_cons_of_mem _ List.mem_cons_self)
    have hT : s.heap.IsTuple a its.toArray := pt
    have nia : a ≠ it := fun z => by
      subst z
      obtain ⟨oa, q1, q2, n, q3⟩ := hT
      obtain ⟨ob, q4, q5, q6⟩ := hit
      rw [q1] at q4; cases q4
      rw [q3] at q6; cases q6
    have Dd : Draws X.prog X.w X.A.in1 it [it, a] i (fun _ _ => True) (fun j h => j = i ∧ h.IsTupleIter it a i ∧ h.IsTuple a its.toArray) :=
      { live := fun _ _ st => let ⟨o, ho, _⟩ := st.2.1; ⟨o, ho⟩
        frame := fun _ _ _ st hk => ⟨st.1, st.2.1.at fun o e => hk it List.mem_cons_self o e, st.2.2.at fun o e => hk a (List.mem_cons_of_mem _ List.mem_cons_self) o e⟩
        item := fun j s Q E hj st _ => absurd st.1 (Nat.ne_of_lt hj)
        done := fun s Q E st hE => wpAny_nextOf_tuple_end (I.ok.hd hc) st.2.1 st.2.2 (by have := rv.length; simp; omega) hE }
    exact wpAny_pyNext_enum_endD Dd he ⟨rfl, hit, hT⟩ fun h' eb => ⟨rfl, I.turned (t' := s.toks) (fun b o hb q => eb b o hb q) f0 f1 f3 f4 f5⟩
  self := fun A i s Q E ⟨⟨_, he⟩, _⟩ h => wpAny_pyIter_enum he h
end Ev
end

section
set_option Elab.async false
set_option linter.all false
set_option maxRecDepth 100000
set_option autoImplicit false
set_option maxHeartbeats 2000000
/-! zip of three tuples of one length -/
namespace Z3
open PySem PySem.Spec PyProof.Rows L2
abbrev Tri (h : Heap) (T : Addr) (a b c : Value) : Prop := h.get? T = some { cls := .type "tuple", data := .seq #[a, b, c] }
/-- all else stands -/
structure Out3 (z O i j k : Addr) (l : Addr) : Prop where
  z : l ≠ z
  O : l ≠ O
  i : l ≠ i
  j : l ≠ j
  k : l ≠ k
structure Ap (z T O i j k l m n : Addr) : Prop where
  Tz : Out3 z O i j k T
  Oz : O ≠ z
  iz : i ≠ z
  jz : j ≠ z
  kz : k ≠ z
  iO : i ≠ O
  jO : j ≠ O
  kO : k ≠ O
  ij : i ≠ j
  ik : i ≠ k
  jk : j ≠ k
  l : Out3 z O i j k l
  m : Out3 z O i j k m
  n : Out3 z O i j k n
theorem sb_get {c b : Addr} {h h' : Heap} {o : Obj} (s : Heap.SameBut c h h') (hb : b ≠ c) (e : h.get? b = some o) : h'.get? b = some o := (s.2 b hb).trans e
theorem it_at {i l : Addr} {n : Nat} {c : Addr} {h h' : Heap} (x : h.IsTupleIter i l n) (s : Heap.SameBut c h h') (hb : i ≠ c) : h'.IsTupleIter i l n := x.at fun _ q => sb_get s hb q
theorem tp_at {l c : Addr} {xs : Array Value} {h h' : Heap} (x : h.IsTuple l xs) (s : Heap.SameBut c h h') (hb : l ≠ c) : h'.IsTuple l xs := by
  obtain ⟨o, e, r⟩ := x
  exact ⟨o, sb_get s hb e, r⟩
section
variable {prog : Program} {w : World} {A : Around} {E : Value → Shared → Prop} {s : Shared}
theorem tri_put {T : Addr} {a b c x : Value} {n : Nat} {Q : Unit → Shared → Prop} (e : Tri s.heap T a b c)
    (h : ∀ h', h'.get? T = some { cls := .type "tuple", data := .seq ((#[a, b, c] : Array Value).setIfInBounds n x) } → Heap.SameBut T s.heap h' → Q () { s with heap := h' }) : wpAny (model prog w) A (updateSeq T (·.setIfInBounds n x)) Q E s := by
  refine wpAny_updateSeq e rfl (h _ ?_ (Heap.SameBut.update ..))
  rw [Heap.get?_update_self _ e rfl]; simp [Obj.mapSeq]
theorem next3 {z T O i j k l m n : Addr} {q : Nat} {xs ys zs : Array Value} {x y v a b c : Value} {Q : Value → Shared → Prop} (D : Ap z T O i j k l m n)
    (hz : IsZip s.heap z T O .none) (hT : Tri s.heap T (.ref i) (.ref j) (.ref k)) (hO : Tri s.heap O a b c)
    (hi : s.heap.IsTupleIter i l q) (hj : s.heap.IsTupleIter j m q) (hk : s.heap.IsTupleIter k n q) (hl : s.heap.IsTuple l xs) (hm : s.heap.IsTuple m ys) (hn : s.heap.IsTuple n zs) (ex : xs[q]? = some x) (ey : ys[q]? = some y) (ev : zs[q]? = some v)
    (hQ : ∀ h', IsZip h' z T O (rawInt s.heap.objs.size) → Tri h' O x y v → h'.IsTupleIter i l (q + 1) → h'.IsTupleIter j m (q + 1) → h'.IsTupleIter k n (q + 1) → Tri h' s.heap.objs.size x y v → h'.objs.size = s.heap.objs.size + 1 →
      (∀ d o, Out3 z O i j k d → s.heap.get? d = some o → h'.get? d = some o) → Q (.ref s.heap.objs.size) { s with heap := h' }) :
    wpAny (model prog w) A (Builtin.«zip.__next__» ⟨[.ref z], []⟩) (fun fin s' => ∃ v, fin = .done (.ret v) ∧ Q v s') E s := by
  show wpAny _ _ (field (.ref z) 2 >>= _) _ _ _
  refine wpAny_bind (wpAny_field hz rfl (x := .bool false) rfl ?_); show wpAny _ _ (field (.ref z) 3 >>= _) _ _ _
  refine wpAny_bind (wpAny_field hz rfl (x := .ref T) rfl (wpAny_bind (wpAny_seqItems hT rfl ?_))); show wpAny _ _ (Builtin.SmallTypes.ownedTupleIsFree (.ref z) >>= _) _ _ _
  refine wpAny_bind ?_; unfold Builtin.SmallTypes.ownedTupleIsFree; refine wpAny_bind (wpAny_field hz rfl (x := .none) rfl (wpAny_pure ?_)); simp only [if_true]
  refine wpAny_bind (wpAny_rule (wpAny_bind (wpAny_field hz rfl (x := .ref O) rfl (wpAny_bind (wpAny_setField_rec hz (by simp) fun h1 z1 s1 => ?_)))))
  replace z1 : IsZip h1 z T O .ellipsis := z1
  refine wpAny_bind ?_; simp only [List.zipIdx_cons, List.zipIdx_nil, List.forIn_cons, List.forIn_nil]
  refine wpAny_bind (wpAny_bind (wpAny_onRaise ?_)); show wpAny _ _ (Builtin.SmallTypes.nextOf (.ref i) >>= _) _ _ _
  refine wpAny_bind (RZ.nextOf_tuple_item (it_at hi s1 D.iz) (tp_at hl s1 D.l.z) ex fun h2 i2 s2 => wpAny_pure ?_)
  have O2 : Tri h2 O a b c := sb_get s2 D.iO.symm (sb_get s1 D.Oz hO)
  refine wpAny_bind (wpAny_seqItems O2 rfl (wpAny_bind (tri_put O2 fun h3 O3 s3 => ?_)))
  replace O3 : Tri h3 O x b c := O3
  refine wpAny_bind (wpAny_letGo (wpAny_pure (wpAny_bind (wpAny_bind (wpAny_onRaise ?_))))); show wpAny _ _ (Builtin.SmallTypes.nextOf (.ref j) >>= _) _ _ _
  refine wpAny_bind (RZ.nextOf_tuple_item (it_at (it_at (it_at hj s1 D.jz) s2 D.ij.symm) s3 D.jO) (tp_at (tp_at (tp_at hm s1 D.m.z) s2 D.m.i) s3 D.m.O) ey fun h4 j4 s4 => wpAny_pure ?_)
  have O4 : Tri h4 O x b c := sb_get s4 D.jO.symm O3
  refine wpAny_bind (wpAny_seqItems O4 rfl (wpAny_bind (tri_put O4 fun h5 O5 s5 => ?_)))
  replace O5 : Tri h5 O x y c := O5
  refine wpAny_bind (wpAny_letGo (wpAny_pure (wpAny_bind (wpAny_bind (wpAny_onRaise ?_))))); show wpAny _ _ (Builtin.SmallTypes.nextOf (.ref k) >>= _) _ _ _
  refine wpAny_bind (RZ.nextOf_tuple_item (it_at (it_at (it_at (it_at (it_at hk s1 D.kz) s2 D.ik.symm) s3 D.kO) s4 D.jk.symm) s5 D.kO) (tp_at (tp_at (tp_at (tp_at (tp_at hn s1 D.n.z) s2 D.n.i) s3 D.n.O) s4 D.n.j) s5 D.n.O) ev fun h6 k6 s6 => wpAny_pure ?_)
  have O6 : Tri h6 O x y c := sb_get s6 D.kO.symm O5
  refine wpAny_bind (wpAny_seqItems O6 rfl (wpAny_bind (tri_put O6 fun h7 O7 s7 => ?_)))
  replace O7 : Tri h7 O x y v := O7
  refine wpAny_bind (wpAny_letGo (wpAny_pure (wpAny_pure (wpAny_bind (wpAny_seqItems O7 rfl (wpAny_bind (wpAny_newTuple ?_)))))))
  have sz : h7.objs.size = s.heap.objs.size := by rw [s7.1, s6.1, s5.1, s4.1, s3.1, s2.1, s1.1]
  have z7 : IsZip h7 z T O .ellipsis := sb_get s7 D.Oz.symm (sb_get s6 D.kz.symm (sb_get s5 D.Oz.symm (sb_get s4 D.jz.symm (sb_get s3 D.Oz.symm (sb_get s2 D.iz.symm z1)))))
  have up7 : ∀ d o, Out3 z O i j k d → s.heap.get? d = some o → h7.get? d = some o := fun d o u e => sb_get s7 u.O (sb_get s6 u.k (sb_get s5 u.O (sb_get s4 u.j (sb_get s3 u.O (sb_get s2 u.i (sb_get s1 u.z e))))))
  have i7 : h7.IsTupleIter i l (q + 1) := it_at (it_at (it_at (it_at (it_at i2 s3 D.iO) s4 D.ij) s5 D.iO) s6 D.ik) s7 D.iO
  have j7 : h7.IsTupleIter j m (q + 1) := it_at (it_at (it_at j4 s5 D.jO) s6 D.jk) s7 D.jO
  have k7 : h7.IsTupleIter k n (q + 1) := it_at k6 s7 D.kO
  have zlt : z < h7.objs.size := Heap.lt_size z7
  show wpAny _ _ (Builtin.SmallTypes.ownedTupleHandOut (.ref z) (.ref h7.objs.size) >>= _) _ _ _
  refine wpAny_bind ?_; unfold Builtin.SmallTypes.ownedTupleHandOut
  have z8 : IsZip (h7.push { cls := .type "tuple", data := .seq #[x, y, v] }) z T O .ellipsis := Heap.get?_push_of_some _ z7
  refine wpAny_bind (wpAny_setField_rec z8 (by simp) fun h9 z9 s9 => ?_)
  replace z9 : IsZip h9 z T O (rawInt h7.objs.size) := z9
  refine wpAny_setField_rec z9 (by simp) fun hA zA sA => ?_
  replace zA : IsZip hA z T O (rawInt h7.objs.size) := zA
  have up : ∀ d o, d ≠ z → h7.get? d = some o → hA.get? d = some o := fun d o c1 e => sb_get sA c1 (sb_get s9 c1 (Heap.get?_push_of_some _ e))
  have tA : Tri hA h7.objs.size x y v := sb_get sA (Nat.ne_of_gt zlt) (sb_get s9 (Nat.ne_of_gt zlt) (Heap.get?_push_size _ rfl))
  have szA : hA.objs.size = h7.objs.size + 1 := by rw [sA.1, s9.1, Heap.size_push]
  rw [sz] at zA tA szA
  refine wpAny_pure ⟨_, rfl, ?_⟩
  show Q (.ref h7.objs.size) _
  rw [sz]
  exact hQ hA zA (up _ _ D.Oz O7) (i7.at fun o e => up _ o D.iz e) (j7.at fun o e => up _ o D.jz e) (k7.at fun o e => up _ o D.kz e) tA szA fun d o u e => up d o u.z (up7 d o u e)
theorem end3 {z T O i j k l m n : Addr} {q : Nat} {xs : Array Value} {a b c : Value} {Q : Fin → Shared → Prop} (hh : A.handled = none) (D : Ap z T O i j k l m n)
    (hz : IsZip s.heap z T O .none) (hT : Tri s.heap T (.ref i) (.ref j) (.ref k)) (hi : s.heap.IsTupleIter i l q) (hl : s.heap.IsTuple l xs) (ex : xs[q]? = none)
    (hE : ∀ h' e, (∀ d o, Out3 z O i j k d → s.heap.get? d = some o → h'.get? d = some o) → (∃ o, h'.get? e = some o ∧ o.cls = .type "StopIteration") → E (.ref e) { s with heap := h' }) :
    wpAny (model prog w) A (Builtin.«zip.__next__» ⟨[.ref z], []⟩) Q E s := by
  show wpAny _ _ (field (.ref z) 2 >>= _) _ _ _
  refine wpAny_bind (wpAny_field hz rfl (x := .bool false) rfl ?_); show wpAny _ _ (field (.ref z) 3 >>= _) _ _ _
  refine wpAny_bind (wpAny_field hz rfl (x := .ref T) rfl (wpAny_bind (wpAny_seqItems hT rfl ?_))); show wpAny _ _ (Builtin.SmallTypes.ownedTupleIsFree (.ref z) >>= _) _ _ _
  refine wpAny_bind ?_; unfold Builtin.SmallTypes.ownedTupleIsFree; refine wpAny_bind (wpAny_field hz rfl (x := .none) rfl (wpAny_pure ?_)); simp only [if_true]
  refine wpAny_bind (wpAny_rule (wpAny_bind (wpAny_field hz rfl (x := .ref O) rfl (wpAny_bind (wpAny_setField_rec hz (by simp) fun h1 z1 s1 => ?_)))))
  replace z1 : IsZip h1 z T O .ellipsis := z1
  refine wpAny_bind ?_; simp only [List.zipIdx_cons, List.zipIdx_nil, List.forIn_cons, List.forIn_nil]
  refine wpAny_bind (wpAny_bind (wpAny_onRaise ?_)); show wpAny _ _ (Builtin.SmallTypes.nextOf (.ref i) >>= _) _ _ _
  refine wpAny_bind (RZ.nextOf_tuple_end hh (it_at hi s1 D.iz) (tp_at hl s1 D.l.z) ex fun h2 e s2 he => ?_)
  obtain ⟨oe, g1, g2⟩ := he
  have z2 : IsZip h2 z T O .ellipsis := s2 _ _ D.iz.symm z1
  have ne : e ≠ z := fun x => by subst x; rw [z2] at g1; cases g1; simp at g2
  exact wpAny_setField_rec z2 (by simp) fun h3 _ s3 => hE h3 e (fun d o u x => sb_get s3 u.z (s2 _ _ u.i (sb_get s1 u.z x))) ⟨oe, sb_get s3 ne g1, g2⟩
theorem pyNext3 {z T O i j k l m n : Addr} {q : Nat} {xs ys zs : Array Value} {x y v a b c : Value} {Q : Option Value → Shared → Prop} (D : Ap z T O i j k l m n)
    (hz : IsZip s.heap z T O .none) (hT : Tri s.heap T (.ref i) (.ref j) (.ref k)) (hO : Tri s.heap O a b c)
    (hi : s.heap.IsTupleIter i l q) (hj : s.heap.IsTupleIter j m q) (hk : s.heap.IsTupleIter k n q) (hl : s.heap.IsTuple l xs) (hm : s.heap.IsTuple m ys) (hn : s.heap.IsTuple n zs) (ex : xs[q]? = some x) (ey : ys[q]? = some y) (ev : zs[q]? = some v)
    (hQ : ∀ h', IsZip h' z T O (rawInt s.heap.objs.size) → Tri h' O x y v → h'.IsTupleIter i l (q + 1) → h'.IsTupleIter j m (q + 1) → h'.IsTupleIter k n (q + 1) → Tri h' s.heap.objs.size x y v → h'.objs.size = s.heap.objs.size + 1 →
      (∀ d o, Out3 z O i j k d → s.heap.get? d = some o → h'.get? d = some o) → Q (some (.ref s.heap.objs.size)) { s with heap := h' }) :
    wpAny (model prog w) A (pyNext (.ref z)) Q E s := by
  have ty : s.TypeIs (.ref z) "zip" := ⟨_, hz, rfl⟩
  unfold pyNext
  exact wpAny_bind (wpAny_attempt (wpAny_callSpecial?_slot (name := Str.ofString "__next__") ty F.slot_zip_next (wpAny_call_entry F.slot_zip_next ty F.entry_zip_next
    (next3 D hz hT hO hi hj hk hl hm hn ex ey ev fun h' a1 a2 a3 a4 a5 a6 a7 a8 => wpAny_pure (hQ h' a1 a2 a3 a4 a5 a6 a7 a8)) (F.args_zip_next_1 _))))
theorem pyEnd3 {z T O i j k l m n : Addr} {q : Nat} {xs : Array Value} {Q : Option Value → Shared → Prop} (hh : A.handled = none) (D : Ap z T O i j k l m n)
    (hz : IsZip s.heap z T O .none) (hT : Tri s.heap T (.ref i) (.ref j) (.ref k)) (hi : s.heap.IsTupleIter i l q) (hl : s.heap.IsTuple l xs) (ex : xs[q]? = none)
    (hQ : ∀ h', (∀ d o, Out3 z O i j k d → s.heap.get? d = some o → h'.get? d = some o) → Q none { s with heap := h' }) : wpAny (model prog w) A (pyNext (.ref z)) Q E s := by
  have ty : s.TypeIs (.ref z) "zip" := ⟨_, hz, rfl⟩
  unfold pyNext
  refine wpAny_bind (wpAny_attempt (wpAny_callSpecial?_slot (name := Str.ofString "__next__") ty F.slot_zip_next (wpAny_call_entry F.slot_zip_next ty F.entry_zip_next
    (end3 (a := .none) (b := .none) (c := .none) hh D hz hT hi hl ex fun h' e up he => ?_) (F.args_zip_next_1 _))))
  obtain ⟨o, g1, g2⟩ := he
  exact wpAny_bind (wpAny_isInstance (T := "StopIteration") (b := true) ⟨o, g1, g2⟩ isSubtype_stop (wpAny_pure (hQ _ up)))
end
/-! ### the making -/
abbrev tIt (l : Addr) : Obj := { cls := .type "tuple_iterator", data := .fields #[.ref l, .int 0 0] }
abbrev H1 (h : Heap) (l : Addr) : Heap := h.push (tIt l)
abbrev H2 (h : Heap) (l m : Addr) : Heap := (H1 h l).push (tIt m)
abbrev H3 (h : Heap) (l m n : Addr) : Heap := (H2 h l m).push (tIt n)
abbrev H4 (h : Heap) (l m n : Addr) : Heap := (H3 h l m n).push { cls := .type "tuple", data := .seq #[.ref h.objs.size, .ref (H1 h l).objs.size, .ref (H2 h l m).objs.size] }
abbrev H5 (h : Heap) (l m n : Addr) : Heap := (H4 h l m n).push { cls := .type "tuple", data := .seq #[.none, .none, .none] }
abbrev H6 (h : Heap) (l m n : Addr) : Heap := (H5 h l m n).push { cls := .type "zip", data := .fields #[.none, .bool false, .bool false, .ref (H3 h l m n).objs.size, .ref (H4 h l m n).objs.size] }
theorem typeCall3 (a b c : Value) : checkTypeCall "zip" ⟨[a, b, c], []⟩ = pure () := by kernel_rfl
theorem newCall3 (a b c : Value) : checkBuiltinCall "zip.__new__" ⟨[.type "zip", a, b, c], []⟩ = pure () := by kernel_rfl
theorem args4 (a b c d : Value) : argsOk "object.__init__" ⟨[a, b, c, d], []⟩ := by
  unfold argsOk; rw [signature?_of (id := "object.__init__") (n := ['_', '_', 't', 'i', 'n', 'i', '_', '_']) (o := ['t', 'c', 'e', 'j', 'b', 'o']) (by kernel_rfl) F.owner_object] <;> kernel_rfl
theorem meets_new3 (l m n : Addr) (xs ys zs : Array Value) :
    Meets (Builtin.«zip.__new__» ⟨[.type "zip", .ref l, .ref m, .ref n], []⟩) (fun _ R s => s.heap.IsTuple l xs ∧ s.heap.IsTuple m ys ∧ s.heap.IsTuple n zs ∧ R (.ok (.ret (.ref (H5 s.heap l m n).objs.size))) { s with heap := H6 s.heap l m n }) :=
  .of_wp fun prog w A R s h => by
    obtain ⟨hp, g, d, tk, os⟩ := s
    obtain ⟨h1, h2, h3, h⟩ := h
    have sub := sub_zip
    have a1 : Heap.IsTuple (Shared.heap ⟨hp, g, d, tk, os⟩) l xs := h1
    have a2 : Heap.IsTuple (Shared.heap ⟨hp.push (tIt l), g, d, tk, os⟩) m ys := Heap.IsTuple.push h2 _
    have a3 : Heap.IsTuple (Shared.heap ⟨(hp.push (tIt l)).push (tIt m), g, d, tk, os⟩) n zs := Heap.IsTuple.push (Heap.IsTuple.push h3 _) _
    wp_walk using wpAny_pyIter_tuple a1, wpAny_pyIter_tuple a2, wpAny_pyIter_tuple a3
    exact ⟨_, rfl, h⟩
section
variable {prog : Program} {w : World} {A : Around} {E : Value → Shared → Prop} {s : Shared}
theorem call3 {l m n : Addr} {xs ys zs : Array Value} {Q : Value → Shared → Prop} (hl : s.heap.IsTuple l xs) (hm : s.heap.IsTuple m ys) (hn : s.heap.IsTuple n zs)
    (h : ∀ h', IsZip h' (s.heap.objs.size + 5) (s.heap.objs.size + 3) (s.heap.objs.size + 4) .none → Tri h' (s.heap.objs.size + 3) (.ref s.heap.objs.size) (.ref (s.heap.objs.size + 1)) (.ref (s.heap.objs.size + 2)) →
      Tri h' (s.heap.objs.size + 4) .none .none .none → h'.IsTupleIter s.heap.objs.size l 0 → h'.IsTupleIter (s.heap.objs.size + 1) m 0 → h'.IsTupleIter (s.heap.objs.size + 2) n 0 → 
      (∀ c o, s.heap.get? c = some o → h'.get? c = some o) → Q (.ref (s.heap.objs.size + 5)) { s with heap := h' }) :
    wpAny (model prog w) A (call (.type "zip") [.ref l, .ref m, .ref n]) Q E s := by
  refine callType_new F.called_zip (by decide) (typeCall3 _ _ _) (newCall3 _ _ _) (fun obj => args4 obj _ _ _) F.entry_zip_new (meets_new3 l m n xs ys zs) ⟨hl, hm, hn, ?_⟩
  have z1 : (H1 s.heap l).objs.size = s.heap.objs.size + 1 := Heap.size_push ..
  have z2 : (H2 s.heap l m).objs.size = s.heap.objs.size + 2 := by rw [Heap.size_push, z1]
  have z3 : (H3 s.heap l m n).objs.size = s.heap.objs.size + 3 := by rw [Heap.size_push, z2]
  have z4 : (H4 s.heap l m n).objs.size = s.heap.objs.size + 4 := by rw [Heap.size_push, z3]
  have z5 : (H5 s.heap l m n).objs.size = s.heap.objs.size + 5 := by rw [Heap.size_push, z4]
  have up : ∀ {c : Addr} {o : Obj} {h : Heap} (q : Obj), h.get? c = some o → (h.push q).get? c = some o := fun q e => Heap.get?_push_of_some _ e
  have g6 : (H6 s.heap l m n).get? (H5 s.heap l m n).objs.size = some _ := Heap.get?_push_size _ rfl
  have g5 : (H6 s.heap l m n).get? (H4 s.heap l m n).objs.size = some _ := up _ (Heap.get?_push_size _ rfl)
  have g4 : (H6 s.heap l m n).get? (H3 s.heap l m n).objs.size = some _ := up _ (up _ (Heap.get?_push_size _ rfl))
  have g3 : (H6 s.heap l m n).get? (H2 s.heap l m).objs.size = some _ := up _ (up _ (up _ (Heap.get?_push_size _ rfl)))
  have g2 : (H6 s.heap l m n).get? (H1 s.heap l).objs.size = some _ := up _ (up _ (up _ (up _ (Heap.get?_push_size _ rfl))))
  have g1 : (H6 s.heap l m n).get? s.heap.objs.size = some _ := up _ (up _ (up _ (up _ (up _ (Heap.get?_push_size _ rfl)))))
  show _ ∧ _
  rw [z3, z4, z5] at g6
  rw [z4] at g5
  rw [z1, z2, z3] at g4
  rw [z2] at g3
  rw [z1] at g2
  rw [z5]
  exact ⟨⟨_, g6, rfl⟩, h _ g6 g4 g5 ⟨_, g1, rfl, rfl⟩ ⟨_, g2, rfl, rfl⟩ ⟨_, g3, rfl, rfl⟩ fun c o x => up _ (up _ (up _ (up _ (up _ (up _ x)))))⟩
end
/-! ### the walk -/
def It3 (K : PySem.W.Frag) (a b c : Addr) : It :=
  ⟨fun i H => ∃ (xs ys zs : List V) (x y z : V), SqT K H a xs ∧ SqT K H b ys ∧ SqT K H c zs ∧ xs[i]? = some x ∧ ys[i]? = some y ∧ zs[i]? = some z,
    fun i H v H' => ∃ T x y z, v = .ref T ∧ H T = none ∧ H' = upd H T (.tup [x, y, z]) ∧ (∀ xs, SqT K H a xs → xs[i]? = some x) ∧ (∀ ys, SqT K H b ys → ys[i]? = some y) ∧ ∀ zs, SqT K H c zs → zs[i]? = some z,
    fun i H => ∃ xs : List V, SqT K H a xs ∧ xs.length ≤ i⟩
theorem five {P : Addr → Prop} {a b c d e f : Addr} (ha : P a) (hb : P b) (hc : P c) (hd : P d) (he : P e) (hf : P f) : ∀ x ∈ [a, b, c, d, e, f], P x := by
  intro x hx
  simp only [List.mem_cons, List.not_mem_nil, or_false] at hx
  rcases hx with rfl | rfl | rfl | rfl | rfl | rfl <;> assumption
theorem turn3 {P : Program} {w : World} {K : PySem.W.Frag} {elts : List Expr} {kk : Nat} {tpos : Pos} {a b c z T O i j k : Addr} (D : Ap z T O i j k a b c) :
    Turn P w K (.Tuple elts kk tpos) (It3 K a b c) [z, T, O, i, j, k] z (fun q h => IsZip h z T O .none ∧ Tri h T (.ref i) (.ref j) (.ref k) ∧ (∃ x y v, Tri h O x y v) ∧ h.IsTupleIter i a q ∧ h.IsTupleIter j b q ∧ h.IsTupleIter k c q) where
  mem := by simp
  obj := fun q h st => by
    obtain ⟨hz, hT, ⟨x, y, v, hO⟩, ⟨o1, e1, _, d1⟩, ⟨o2, e2, _, d2⟩, ⟨o3, e3, _, d3⟩⟩ := st
    exact five ⟨_, hz, fun v q => nomatch q⟩ ⟨_, hT, fun v q => nomatch q⟩ ⟨_, hO, fun v q => nomatch q⟩ ⟨o1, e1, fun v q => by rw [d1] at q; cases q⟩ ⟨o2, e2, fun v q => by rw [d2] at q; cases q⟩ ⟨o3, e3, fun v q => by rw [d3] at q; cases q⟩
  keep := fun q h h' st kp => by
    obtain ⟨hz, hT, ⟨x, y, v, hO⟩, h1, h2, h3⟩ := st
    exact ⟨kp z (by simp) _ hz, kp T (by simp) _ hT, ⟨x, y, v, kp O (by simp) _ hO⟩, h1.at fun o q => kp i (by simp) o q, h2.at fun o q => kp j (by simp) o q, h3.at fun o q => kp k (by simp) o q⟩
  item := by
    intro X hP hw hK hc q pins s σ H E I hf st hg
    subst hP hw hK
    obtain ⟨hz, hT, ⟨x0, y0, v0, hO⟩, h1, h2, h3⟩ := st
    obtain ⟨xs, ys, zs, x, y, v, qx, qy, qv, ex, ey, ev⟩ := hg
    obtain ⟨i1, r1, p1, _⟩ := I.tuple qx
    obtain ⟨i2, r2, p2, _⟩ := I.tuple qy
    obtain ⟨i3, r3, p3, _⟩ := I.tuple qv
    obtain ⟨u1, e1, w1⟩ := r1.get ex
    obtain ⟨u2, e2, w2⟩ := r2.get ey
    obtain ⟨u3, e3, w3⟩ := r3.get ev
    have zl : z < s.heap.objs.size := Heap.lt_size hz
    have lts : ∀ d ∈ [z, T, O, i, j, k], d < s.heap.objs.size := five zl (Heap.lt_size hT) (Heap.lt_size hO) (by obtain ⟨_, e, _⟩ := h1; exact Heap.lt_size e) (by obtain ⟨_, e, _⟩ := h2; exact Heap.lt_size e) (by obtain ⟨_, e, _⟩ := h3; exact Heap.lt_size e)
    refine pyNext3 D hz hT hO h1 h2 h3 p1 p2 p3 (x := u1) (y := u2) (v := u3) (by simpa using e1) (by simpa using e2) (by simpa using e3) fun h' z' O' a1 a2 a3 tN szN up => ?_
    refine ⟨_, rfl, wpAny_letOwnedTupleGo_zip (s := { s with heap := h' }) z' fun h'' z'' sb => ?_⟩
    have tN2 : h''.get? s.heap.objs.size = some { cls := .type "tuple", data := .seq #[u1, u2, u3] } := sb_get sb (Nat.ne_of_gt zl) tN
    have out : ∀ d, d ∉ [z, T, O, i, j, k] → Out3 z O i j k d := fun d hd => ⟨fun e => hd (by simp [e]), fun e => hd (by simp [e]), fun e => hd (by simp [e]), fun e => hd (by simp [e]), fun e => hd (by simp [e])⟩
    have new : ObjOk X.prog X.w (upd H s.heap.objs.size (.tup [x, y, v])) h'' s.heap.objs.size (.tup [x, y, v]) := ⟨by show 3 ≤ sizeLine; decide, [u1, u2, u3], .cons w1 (.cons w2 (.cons w3 .nil)), ⟨_, tN2, rfl, _, rfl⟩⟩
    have I1 : Inv X pins σ (upd H s.heap.objs.size (.tup [x, y, v])) { s with heap := h'' } :=
      I.turnedNew (t' := s.toks) (ch := [z, T, O, i, j, k]) (fun d o hb e => sb_get sb (fun q' => hb (by simp [q'])) (up d o (out d hb) e)) hf (Nat.le_refl _) new
    refine ⟨.ref s.heap.objs.size, _, I1, rfl, ⟨_, x, y, v, rfl, I.hok.fresh (Nat.le_refl _), rfl, fun l hl => by rw [I.tuple_inj hl qx]; exact ex, fun l hl => by rw [I.tuple_inj hl qy]; exact ey, fun l hl => by rw [I.tuple_inj hl qv]; exact ev⟩, ⟨z'', ?_, ⟨u1, u2, u3, ?_⟩, ?_, ?_, ?_⟩, fun d hd => ?_⟩
    · exact sb_get sb D.Tz.z (up _ _ D.Tz hT)
    · exact sb_get sb D.Oz O'
    · exact it_at a1 sb D.iz
    · exact it_at a2 sb D.jz
    · exact it_at a3 sb D.kz
    · rw [upd_ne (Nat.ne_of_lt (lts d hd))]
      exact (hf d hd).1
  done := by
    intro X hP hw hK hc q pins s σ H E I hf st hg
    subst hP hw hK
    obtain ⟨hz, hT, ⟨x0, y0, v0, hO⟩, h1, h2, h3⟩ := st
    obtain ⟨xs, qx, hend⟩ := hg
    obtain ⟨i1, r1, p1, _⟩ := I.tuple qx
    have l1 := r1.length
    exact pyEnd3 (I.ok.hd hc) D hz hT h1 p1 (by simp; omega) fun h' up => ⟨rfl, I.turnedL (t' := s.toks) (ch := [z, T, O, i, j, k]) (fun d o hb e => up d o ⟨fun e => hb (by simp [e]), fun e => hb (by simp [e]), fun e => hb (by simp [e]), fun e => hb (by simp [e]), fun e => hb (by simp [e])⟩ e) hf⟩
  self := fun A q s Q E st h => wpAny_pyIter_zip st.1 h
def iZip3 (K : PySem.W.Frag) (ta : TA) : TI := fun σ H R => ta σ H fun vs H1 => ∃ a b c xs ys zs, vs = [.ref a, .ref b, .ref c] ∧ SqT K H1 a xs ∧ SqT K H1 b ys ∧ SqT K H1 c zs ∧ R (It3 K a b c) H1
theorem nlt {a b : Nat} (h : a < b) : @Ne Addr a b := Nat.ne_of_lt h
theorem ngt {a b : Nat} (h : b < a) : @Ne Addr a b := Nat.ne_of_gt h
theorem ap_new (N a b c : Nat) (ha : a < N) (hb : b < N) (hc : c < N) : Ap (N + 5) (N + 3) (N + 4) N (N + 1) (N + 2) a b c := by
  have lo : ∀ d : Nat, d < N → Out3 (N + 5) (N + 4) N (N + 1) (N + 2) d := fun d hd => ⟨nlt (Nat.lt_of_lt_of_le hd (Nat.le_add_right _ _)), nlt (Nat.lt_of_lt_of_le hd (Nat.le_add_right _ _)), nlt hd, nlt (Nat.lt_of_lt_of_le hd (Nat.le_add_right _ _)), nlt (Nat.lt_of_lt_of_le hd (Nat.le_add_right _ _))⟩
  have k : ∀ {i j : Nat}, i < j → N + i < N + j := fun h => Nat.add_lt_add_left h N
  have k0 : ∀ {i : Nat}, 0 < i → N < N + i := fun h => Nat.lt_add_of_pos_right h
  exact ⟨⟨nlt (k (by decide)), nlt (k (by decide)), ngt (k0 (by decide)), ngt (k (by decide)), ngt (k (by decide))⟩, nlt (k (by decide)), nlt (k0 (by decide)), nlt (k (by decide)), nlt (k (by decide)), nlt (k0 (by decide)), nlt (k (by decide)), nlt (k (by decide)), nlt (k0 (by decide)), nlt (k0 (by decide)), nlt (k (by decide)), lo a ha, lo b hb, lo c hc⟩
theorem zip3_core {X : Cx} {pins : List (Addr × Obj)} {σ : L2.St} {Hq : Hp} {s : Shared} {elts : List Expr} {kk : Nat} {tpos : Pos} {a b c : Addr} {xs ys zs : List V} {R : It → Hp → Prop} (I1 : Inv X pins σ Hq s) (qx : SqT X.K Hq a xs) (qy : SqT X.K Hq b ys) (qv : SqT X.K Hq c zs) (q : R (It3 X.K a b c) Hq) :
    wpAny (model X.prog X.w) X.A (call (.type "zip") [.ref a, .ref b, .ref c]) (fun v s1 => wpAny (model X.prog X.w) X.A (pyIter v) (PIE X pins σ (.Tuple elts kk tpos) R) X.xe s1) X.xe s := by
  obtain ⟨i1, w1, p1, _⟩ := I1.tuple qx
  obtain ⟨i2, w2, p2, _⟩ := I1.tuple qy
  obtain ⟨i3, w3, p3, _⟩ := I1.tuple qv
  have lt : ∀ {d : Addr} {its : Array Value}, s.heap.IsTuple d its → d < s.heap.objs.size := fun ⟨_, g, _⟩ => Heap.lt_size g
  have D := ap_new s.heap.objs.size a b c (lt p1) (lt p2) (lt p3)
  have add : ∀ k, FpOk X pins Hq (s.heap.objs.size + k) := fun k => I1.fpOk (Nat.le_add_right _ _) (I1.hok.fresh (Nat.le_add_right _ _))
  have fps := five (P := fun d => FpOk X pins Hq d) (add 5) (add 3) (add 4) (add 0) (add 1) (add 2)
  refine call3 p1 p2 p3 fun h' hz hT hO h1 h2 h3 up => wpAny_pyIter_zip hz ?_
  have I2 : Inv X pins σ Hq { s with heap := h' } := I1.kept (t' := s.toks) up
  exact ⟨_, _, _, _, Hq, rfl, I2, turn3 D, ⟨hz, hT, ⟨_, _, _, hO⟩, h1, h2, h3⟩, fps, q⟩
theorem pi_zip3 {X : Cx} {e e2 e3 : Expr} {ta : TA} {p pos tpos : Pos} {elts : List Expr} {kk : Nat} (hg : Gl X "zip") (hm : X.mg "zip" = none) (ha : PA X [e, e2, e3] ta)
    (hs : starEach [e, e2, e3] X.env = (false, eval e X.env) :: starEach [e2, e3] X.env) (hpl : (backTo pos (starEach [e2, e3] X.env)).any (·.1) = false) :
    PI X (.Tuple elts kk tpos) (.Call (.Name "zip" p) [e, e2, e3] [] pos) (iZip3 X.K ta) := by
  refine ⟨fun pins s σ H R I h => ?_⟩
  refine Call_ (ld_blt I hg hm PyProof.Rows.boot_zip (PyProof.Rows.callWith_type1 (thn (ha.run pos pins s σ H _ I h) fun us s1 ⟨vs, Hq, I1, r1, q1⟩ => ?_) hs hpl))
  obtain ⟨a, b, c, xs, ys, zs, ev, qx, qy, qv, q⟩ := q1
  subst ev
  obtain ⟨ua, us, rfl, ra, r2⟩ : ∃ ua us', us = ua :: us' ∧ RelV (.ref a) ua ∧ Vals [.ref b, .ref c] us' := by cases r1 with | cons r rr => exact ⟨_, _, rfl, r, rr⟩
  obtain ⟨ub, uc, rfl, rb, rc⟩ := r2.two
  obtain rfl : ua = Value.ref a := ra
  obtain rfl : ub = Value.ref b := rb
  obtain rfl : uc = Value.ref c := rc
  exact zip3_core I1 qx qy qv q
end Z3
end

section
set_option Elab.async false
set_option linter.all false
set_option maxRecDepth 100000
set_option autoImplicit false
set_option maxHeartbeats 1000000
/-! walks, comprehensions -/
namespace Ev
open PySem PySem.Spec PyProof.Rows L2

/-- J gives ds, from things that stand in H -/
inductive WalkD (g : G) (H : Hp) (m : List Addr) : It → List D → Prop
  | tup {a : Addr} {ds : List D} : Rep g H m (.tup ds) (.ref a) → WalkD g H m (Itt g.K a) ds
  | lst {a : Addr} {ds : List D} : Rep g H m (.lst ds) (.ref a) → WalkD g H m (Itl g.K a) ds
  | scr {a : Addr} {ns : List Int} : Rep g H m (.scr ns) (.ref a) → WalkD g H m (Itl g.K a) (ns.map .int)
  | rng (lo : Int) (n : Nat) : WalkD g H m (Itr lo n) ((List.range n).map fun (i : Nat) => .int (lo + i))
  | rngC (lo c : Int) (n : Nat) : WalkD g H m (Itc lo c n) (rngC lo c n)
  | enT {a : Addr} {ds : List D} : Rep g H m (.tup ds) (.ref a) → WalkD g H m (IteT g.K a) (pairsE 0 ds)
  | enL {a : Addr} {ds : List D} : Rep g H m (.lst ds) (.ref a) → WalkD g H m (Ite g.K a) (pairsE 0 ds)
  | zpT {a b : Addr} {ds es : List D} : Rep g H m (.tup ds) (.ref a) → Rep g H m (.tup es) (.ref b) → WalkD g H m (RZ.ItzT g.K a b) (pairsZ ds es)
  | zpL {a b : Addr} {ds es : List D} : Rep g H m (.lst ds) (.ref a) → Rep g H m (.lst es) (.ref b) → WalkD g H m (Itz g.K a b) (pairsZ ds es)
  | zp3 {a b c : Addr} {ds es fs : List D} : Rep g H m (.tup ds) (.ref a) → Rep g H m (.tup es) (.ref b) → Rep g H m (.tup fs) (.ref c) → ds.length = es.length → ds.length = fs.length → WalkD g H m (Z3.It3 g.K a b c) (pairs3 ds es fs)
section
variable {g : G} {H H' : Hp} {m m' : List Addr} {J : It} {ds : List D} {L : LH}
theorem WalkD.ext (x : Ext H m H' m') (w : WalkD g H m J ds) : WalkD g H' m' J ds := by
  cases w with
  | tup h => exact .tup (Rep.ext x _ _ h)
  | lst h => exact .lst (Rep.ext x _ _ h)
  | scr h => exact .scr (Rep.ext x _ _ h)
  | rng lo n => exact .rng lo n
  | rngC lo c n => exact .rngC lo c n
  | enT h => exact .enT (Rep.ext x _ _ h)
  | enL h => exact .enL (Rep.ext x _ _ h)
  | zpT h h2 => exact .zpT (Rep.ext x _ _ h) (Rep.ext x _ _ h2)
  | zpL h h2 => exact .zpL (Rep.ext x _ _ h) (Rep.ext x _ _ h2)
  | zp3 h h2 h3 e1 e2 => exact .zp3 (Rep.ext x _ _ h) (Rep.ext x _ _ h2) (Rep.ext x _ _ h3) e1 e2
theorem WalkD.hide {d : Addr} (hd : H d = none) (w : WalkD g H m J ds) : WalkD (g.more d) H m J ds := by
  cases w with
  | tup h => exact .tup (g := g.more d) (Rep.hide hd _ _ h)
  | lst h => exact .lst (g := g.more d) (Rep.hide hd _ _ h)
  | scr h => exact .scr (g := g.more d) (Rep.hide hd _ _ h)
  | rng lo n => exact .rng lo n
  | rngC lo c n => exact .rngC lo c n
  | enT h => exact .enT (g := g.more d) (Rep.hide hd _ _ h)
  | enL h => exact .enL (g := g.more d) (Rep.hide hd _ _ h)
  | zpT h h2 => exact .zpT (g := g.more d) (Rep.hide hd _ _ h) (Rep.hide hd _ _ h2)
  | zpL h h2 => exact .zpL (g := g.more d) (Rep.hide hd _ _ h) (Rep.hide hd _ _ h2)
  | zp3 h h2 h3 e1 e2 => exact .zp3 (g := g.more d) (Rep.hide hd _ _ h) (Rep.hide hd _ _ h2) (Rep.hide hd _ _ h3) e1 e2
theorem WalkD.fill {d : Addr} {xs ys : List V} (hd : d ∈ g.hid) (h0 : H d = some (.lst xs)) (w : WalkD g H m J ds) : WalkD g (upd H d (.lst ys)) m J ds := by
  cases w with
  | tup h => exact .tup (Rep.fill hd h0 _ _ h)
  | lst h => exact .lst (Rep.fill hd h0 _ _ h)
  | scr h => exact .scr (Rep.fill hd h0 _ _ h)
  | rng lo n => exact .rng lo n
  | rngC lo c n => exact .rngC lo c n
  | enT h => exact .enT (Rep.fill hd h0 _ _ h)
  | enL h => exact .enL (Rep.fill hd h0 _ _ h)
  | zpT h h2 => exact .zpT (Rep.fill hd h0 _ _ h) (Rep.fill hd h0 _ _ h2)
  | zpL h h2 => exact .zpL (Rep.fill hd h0 _ _ h) (Rep.fill hd h0 _ _ h2)
  | zp3 h h2 h3 e1 e2 => exact .zp3 (Rep.fill hd h0 _ _ h) (Rep.fill hd h0 _ _ h2) (Rep.fill hd h0 _ _ h3) e1 e2
theorem pairsE_get : ∀ (ds : List D) (k i : Nat), (pairsE k ds)[i]? = ds[i]?.map fun d => .tup [.int ((k + i : Nat) : Int), d]
  | [], _, _ => by simp [pairsE]
  | d :: ds, k, 0 => by simp [pairsE]
  | d :: ds, k, i + 1 => by
    simp only [pairsE, List.getElem?_cons_succ]
    rw [pairsE_get ds (k + 1) i, show k + 1 + i = k + (i + 1) by omega]
theorem pairsE_len : ∀ (ds : List D) (k : Nat), (pairsE k ds).length = ds.length
  | [], _ => rfl
  | d :: ds, k => by simp [pairsE, pairsE_len ds]
theorem pairsZ_len : ∀ (ds es : List D), (pairsZ ds es).length = min ds.length es.length
  | [], _ => by simp [pairsZ]
  | _ :: _, [] => by simp [pairsZ]
  | d :: ds, e :: es => by simp [pairsZ, pairsZ_len ds es]
theorem pairsZ_get : ∀ (ds es : List D) (i : Nat) (d e : D), ds[i]? = some d → es[i]? = some e → (pairsZ ds es)[i]? = some (.tup [d, e])
  | [], _, _, _, _, h, _ => by simp at h
  | _ :: _, [], _, _, _, _, h => by simp at h
  | d :: ds, e :: es, 0, _, _, h, k => by simp at h k; subst h; subst k; simp [pairsZ]
  | d :: ds, e :: es, i + 1, _, _, h, k => by simp only [List.getElem?_cons_succ] at h k; simp only [pairsZ, List.getElem?_cons_succ]; exact pairsZ_get ds es i _ _ h k
theorem pairs3_len : ∀ (ds es fs : List D), ds.length = es.length → ds.length = fs.length → (pairs3 ds es fs).length = ds.length
  | [], _, _, _, _ => by simp [pairs3]
  | _ :: _, [], _, h, _ => by simp at h
  | _ :: _, _ :: _, [], _, h => by simp at h
  | d :: ds, e :: es, f :: fs, h, k => by
    simp only [List.length_cons, Nat.add_right_cancel_iff] at h k
    simp [pairs3, pairs3_len ds es fs h k]
theorem pairs3_get : ∀ (ds es fs : List D) (i : Nat) (d e f : D), ds[i]? = some d → es[i]? = some e → fs[i]? = some f → (pairs3 ds es fs)[i]? = some (.tup [d, e, f])
  | [], _, _, _, _, _, _, h, _, _ => by simp at h
  | _ :: _, [], _, _, _, _, _, _, h, _ => by simp at h
  | _ :: _, _ :: _, [], _, _, _, _, _, _, h => by simp at h
  | d :: ds, e :: es, f :: fs, 0, _, _, _, h, k, l => by simp at h k l; subst h; subst k; subst l; simp [pairs3]
  | d :: ds, e :: es, f :: fs, i + 1, _, _, _, h, k, l => by simp only [List.getElem?_cons_succ] at h k l; simp only [pairs3, List.getElem?_cons_succ]; exact pairs3_get ds es fs i _ _ _ h k l
/-- what a walk does -/
theorem WalkD.goes (w : WalkD g H m J ds) : (∀ i, i < ds.length → J.go i H) ∧ J.stop ds.length H := by
  cases w with
  | tup h => cases h with | @tup _ xs _ h1 z q => exact ⟨fun i hi => ⟨xs, xs[i]'(by rw [← q.len]; exact hi), h1, by simp⟩, ⟨xs, h1, by rw [q.len]; exact Nat.le_refl _⟩⟩
  | lst h => cases h with | @lst _ xs _ h1 hm z q => exact ⟨fun i hi => ⟨xs, xs[i]'(by rw [← q.len]; exact hi), SqL.of h1, by simp⟩, ⟨xs, SqL.of h1, by rw [q.len]; exact Nat.le_refl _⟩⟩
  | @scr a ns h => cases h with | scr h1 hm z => exact ⟨fun i hi => ⟨_, .int (ns[i]'(by simpa using hi)), h1, by simp at hi; simp [hi]⟩, ⟨_, h1, by simp⟩⟩
  | rng lo n => exact ⟨fun i hi => by show i < n; simpa using hi, by show n ≤ _; simp⟩
  | rngC lo c n => exact ⟨fun i hi => by show i < n; simpa [Ev.rngC] using hi, by show n ≤ _; simp [Ev.rngC]⟩
  | enT h => cases h with | @tup _ xs _ h1 z q => exact ⟨fun i hi => ⟨xs, xs[i]'(by rw [← q.len]; rw [pairsE_len] at hi; exact hi), h1, by simp⟩, ⟨xs, h1, by rw [pairsE_len, q.len]; exact Nat.le_refl _⟩⟩
  | enL h => cases h with | @lst _ xs _ h1 hm z q => exact ⟨fun i hi => ⟨xs, xs[i]'(by rw [← q.len]; rw [pairsE_len] at hi; exact hi), SqL.of h1, by simp⟩, ⟨xs, SqL.of h1, by rw [pairsE_len, q.len]; exact Nat.le_refl _⟩⟩
  | zpT h k =>
    cases h with
    | @tup _ xs _ h1 z q =>
      cases k with
      | @tup _ ys _ k1 z2 p =>
        have e1 := q.len
        have e2 := p.len
        refine ⟨fun i hi => ?_, xs, ys, h1, k1, by rw [pairsZ_len]; omega⟩
        rw [pairsZ_len] at hi
        exact ⟨xs, ys, xs[i]'(by omega), ys[i]'(by omega), h1, k1, by simp, by simp⟩
  | zpL h k =>
    cases h with
    | @lst _ xs _ h1 hm z q =>
      cases k with
      | @lst _ ys _ k1 km z2 p =>
        have e1 := q.len
        have e2 := p.len
        refine ⟨fun i hi => ?_, xs, ys, SqL.of h1, SqL.of k1, by rw [pairsZ_len]; omega⟩
        rw [pairsZ_len] at hi
        exact ⟨xs, ys, xs[i]'(by omega), ys[i]'(by omega), SqL.of h1, SqL.of k1, by simp, by simp⟩
  | zp3 h k l a1 a2 =>
    cases h with
    | @tup _ xs _ h1 z q =>
      cases k with
      | @tup _ ys _ k1 z2 p =>
        cases l with
        | @tup _ zs _ l1 z3 r =>
          have e1 := q.len
          have e2 := p.len
          have e3 := r.len
          refine ⟨fun i hi => ?_, xs, h1, by rw [pairs3_len _ _ _ a1 a2]; omega⟩
          rw [pairs3_len _ _ _ a1 a2] at hi
          exact ⟨xs, ys, zs, xs[i]'(by omega), ys[i]'(by omega), zs[i]'(by omega), h1, k1, l1, by simp, by simp, by simp⟩
theorem tri_new {T : Addr} {x y z : V} {d e f : D} (R : RelH g H L m) (hT : H T = none) (rx : Rep g H m d x) (ry : Rep g H m e y) (rz : Rep g H m f z) : Ext H m (upd H T (.tup [x, y, z])) m ∧ RelH g (upd H T (.tup [x, y, z])) L m ∧ Rep g (upd H T (.tup [x, y, z])) m (.tup [d, e, f]) (.ref T) := by
  have xt : Ext H m (upd H T (.tup [x, y, z])) m := ext_new hT
  exact ⟨xt, R.new hT, .tup (SqT.of upd_same) (by show 3 ≤ sizeLine; decide) (.cons (Rep.ext xt _ _ rx) (.cons (Rep.ext xt _ _ ry) (.cons (Rep.ext xt _ _ rz) .nil)))⟩
theorem pair_new {T : Addr} {x y : V} {d e : D} (R : RelH g H L m) (hT : H T = none) (rx : Rep g H m d x) (ry : Rep g H m e y) : Ext H m (upd H T (.tup [x, y])) m ∧ RelH g (upd H T (.tup [x, y])) L m ∧ Rep g (upd H T (.tup [x, y])) m (.tup [d, e]) (.ref T) := by
  have xt : Ext H m (upd H T (.tup [x, y])) m := ext_new hT
  exact ⟨xt, R.new hT, .tup (SqT.of upd_same) (by show 2 ≤ sizeLine; decide) (.cons (Rep.ext xt _ _ rx) (.cons (Rep.ext xt _ _ ry) .nil))⟩
theorem WalkD.yields (w : WalkD g H m J ds) (R : RelH g H L m) {i : Nat} {x : V} (hi : i < ds.length) (y : J.yld i H x H') : Ext H m H' m ∧ RelH g H' L m ∧ ∃ d, ds[i]? = some d ∧ Rep g H' m d x := by
  cases w with
  | tup h =>
    cases h with
    | @tup _ xs _ h1 z q =>
      obtain ⟨rfl, y⟩ := y
      obtain ⟨d, e1, e2⟩ := q.getV (y xs h1)
      exact ⟨Ext.refl, R, d, e1, e2⟩
  | lst h =>
    cases h with
    | @lst _ xs _ h1 hm z q =>
      obtain ⟨rfl, y⟩ := y
      obtain ⟨d, e1, e2⟩ := q.getV (y xs (SqL.of h1))
      exact ⟨Ext.refl, R, d, e1, e2⟩
  | @scr a ns h =>
    cases h with
    | scr h1 hm z =>
      obtain ⟨rfl, y⟩ := y
      obtain ⟨d, e1, e2⟩ := (Reps.ints (g := g) (H := H') (m := m) ns).getV (y _ h1)
      exact ⟨Ext.refl, R, d, e1, e2⟩
  | rng lo n =>
    obtain ⟨rfl, rfl⟩ := y
    have hi' : i < n := by simpa using hi
    exact ⟨Ext.refl, R, .int (lo + i), by simp [hi'], .int _⟩
  | rngC lo c n =>
    obtain ⟨rfl, rfl⟩ := y
    have hi' : i < n := by simpa [Ev.rngC] using hi
    exact ⟨Ext.refl, R, .int (lo + i * c), by simp [Ev.rngC, hi'], .int _⟩
  | enT h =>
    cases h with
    | @tup _ xs _ h1 z q =>
      obtain ⟨T, x', rfl, hT, rfl, y⟩ := y
      obtain ⟨d, e1, e2⟩ := q.getV (y xs h1)
      obtain ⟨a1, a2, a3⟩ := pair_new R hT (.int (i : Nat)) e2
      exact ⟨a1, a2, _, by rw [pairsE_get, e1]; simp, a3⟩
  | enL h =>
    cases h with
    | @lst _ xs _ h1 hm z q =>
      obtain ⟨T, x', rfl, hT, rfl, y⟩ := y
      obtain ⟨d, e1, e2⟩ := q.getV (y xs (SqL.of h1))
      obtain ⟨a1, a2, a3⟩ := pair_new R hT (.int (i : Nat)) e2
      exact ⟨a1, a2, _, by rw [pairsE_get, e1]; simp, a3⟩
  | zpT h k =>
    cases h with
    | @tup _ xs _ h1 z q =>
      cases k with
      | @tup _ ys _ k1 z2 p =>
        obtain ⟨T, x', y', rfl, hT, rfl, y1, y2⟩ := y
        obtain ⟨d, e1, e2⟩ := q.getV (y1 xs h1)
        obtain ⟨e, f1, f2⟩ := p.getV (y2 ys k1)
        obtain ⟨a1, a2, a3⟩ := pair_new R hT e2 f2
        exact ⟨a1, a2, _, pairsZ_get _ _ _ _ _ e1 f1, a3⟩
  | zpL h k =>
    cases h with
    | @lst _ xs _ h1 hm z q =>
      cases k with
      | @lst _ ys _ k1 km z2 p =>
        obtain ⟨T, x', y', rfl, hT, rfl, y1, y2⟩ := y
        obtain ⟨d, e1, e2⟩ := q.getV (y1 xs (SqL.of h1))
        obtain ⟨e, f1, f2⟩ := p.getV (y2 ys (SqL.of k1))
        obtain ⟨a1, a2, a3⟩ := pair_new R hT e2 f2
        exact ⟨a1, a2, _, pairsZ_get _ _ _ _ _ e1 f1, a3⟩
  | zp3 h k l b1 b2 =>
    cases h with
    | @tup _ xs _ h1 z q =>
      cases k with
      | @tup _ ys _ k1 z2 p =>
        cases l with
        | @tup _ zs _ l1 z3 r =>
          obtain ⟨T, x', y', z', rfl, hT, rfl, y1, y2, y3⟩ := y
          obtain ⟨d, e1, e2⟩ := q.getV (y1 xs h1)
          obtain ⟨e, f1, f2⟩ := p.getV (y2 ys k1)
          obtain ⟨f, g1, g2⟩ := r.getV (y3 zs l1)
          obtain ⟨a1, a2, a3⟩ := tri_new R hT e2 f2 g2
          exact ⟨a1, a2, _, pairs3_get _ _ _ _ _ _ _ e1 f1 g1, a3⟩
end
abbrev liftI (g : G) (W : WX) (f : Env → LH → R (List D)) : TI := liftG g (fun H m ds J => WalkD g H m J ds) W f
theorem PI.weak {X : Cx} {tg e : Expr} {t t' : TI} (h : PI X tg e t) (w : ∀ σ H Q, t' σ H Q → t σ H Q) : PI X tg e t' := ⟨fun pins s σ H Q I k => h.run pins s σ H Q I (w σ H Q k)⟩
theorem PI.or {X : Cx} {tg e : Expr} {t t1 t2 : TI} (h1 : PI X tg e t1) (h2 : PI X tg e t2) (w : ∀ σ H Q, t σ H Q → t1 σ H Q ∨ t2 σ H Q) : PI X tg e t :=
  ⟨fun pins s σ H Q I k => (w σ H Q k).elim (fun q => h1.run pins s σ H Q I q) fun q => h2.run pins s σ H Q I q⟩
section
variable {X : Cx} {g : G} {W : WX} {a b c e tg : Expr} {fa fb fc : Env → LH → R D} {pos p : Pos} {es : List Expr} {fs : Env → LH → R (List D)}
/-- the items of a walk, told -/
def itF (k : ItK) (fs : Env → LH → R (List D)) : Env → LH → R (List D) := fun env L => (fs env L).bind fun xs L => opt (itD k xs) L
theorem si_seq (hK : X.K = g.K) (ha : PE X e (liftE g W fa)) : PI X tg e (liftI g W fun env L => (fa env L).bind fun x L => opt (itemsD x) L) := by
  refine PI.or (pi_tup ha) (pi_list ha) fun σ H Q ⟨env, L, m, R, h⟩ => ?_
  dsimp only at h
  cases ef : fa env L with
  | ok x L1 =>
    rw [ef] at h
    simp only [Ev.R.bind_ok] at h
    cases x with
    | tup ds =>
      refine .inl ⟨env, L, m, R, ?_⟩
      rw [ef]
      intro v H1 m1 x1 r1 q1
      cases q1 with
      | tup s1 z1 q1 => exact ⟨_, rfl, ⟨_, by rw [hK]; exact s1⟩, by rw [hK]; exact h _ H1 m1 x1 r1 (.tup (.tup s1 z1 q1))⟩
    | lst ds =>
      refine .inr ⟨env, L, m, R, ?_⟩
      rw [ef]
      intro v H1 m1 x1 r1 q1
      cases q1 with
      | lst s1 hm z1 q1 => exact ⟨_, rfl, ⟨_, SqL.of s1⟩, by rw [hK]; exact h _ H1 m1 x1 r1 (.lst (.lst s1 hm z1 q1))⟩
    | scr ns =>
      refine .inr ⟨env, L, m, R, ?_⟩
      rw [ef]
      intro v H1 m1 x1 r1 q1
      cases q1 with
      | scr s1 hm z1 => exact ⟨_, rfl, ⟨_, by rw [hK]; exact s1⟩, by rw [hK]; exact h _ H1 m1 x1 r1 (.scr (.scr s1 hm z1))⟩
    | _ => exact h.elim
  | exc c w L1 =>
    refine .inl ⟨env, L, m, R, ?_⟩
    rw [ef] at h ⊢
    exact h
  | bad => rw [ef] at h; exact h.elim
theorem okR_ok {i : Int} (h : okR i = true) : -(2 ^ 62) ≤ i ∧ i < 2 ^ 62 := by
  simp only [okR, Bool.and_eq_true, decide_eq_true_eq] at h
  omega
theorem rng_one {xs : List D} {vs : List V} {H : Hp} {m : List Addr} {L : LH} {σ : L2.St} {Q : It → Hp → Prop} (R : RelH g H L m) (q : Reps g H m xs vs) (hl : xs.length = 1) (h : Out g (fun H m ds J => WalkD g H m J ds) W σ H m Q (opt (itD .rng xs) L)) :
    ∃ j : Int, vs = [.int j] ∧ -(2 ^ 62) ≤ j ∧ j < 2 ^ 62 ∧ Q (Itr 0 j.toNat) H := by
  match xs, hl with
  | [x], _ =>
    obtain ⟨v, rfl, r⟩ := q.inv1
    cases r with
    | int j =>
      simp only [itD] at h
      split at h
      · rename_i hh
        simp only [Bool.and_eq_true, decide_eq_true_eq] at hh
        have o := okR_ok hh.1
        refine ⟨j, rfl, o.1, o.2, h.ok_ R ?_⟩
        have e : rngL 0 j = (List.range j.toNat).map fun (i : Nat) => .int (0 + i) := by simp [rngL]
        rw [e]; exact .rng 0 _
      · exact h.elim
    | _ => exact h.elim
theorem rng_two {xs : List D} {vs : List V} {H : Hp} {m : List Addr} {L : LH} {σ : L2.St} {Q : It → Hp → Prop} (R : RelH g H L m) (q : Reps g H m xs vs) (hl : xs.length = 2) (h : Out g (fun H m ds J => WalkD g H m J ds) W σ H m Q (opt (itD .rng xs) L)) :
    ∃ i j : Int, vs = [.int i, .int j] ∧ (-(2 ^ 62) ≤ i ∧ i < 2 ^ 62 ∧ -(2 ^ 62) ≤ j ∧ j < 2 ^ 62) ∧ Q (Itr i (j - i).toNat) H := by
  match xs, hl with
  | [x, y], _ =>
    obtain ⟨v, u, rfl, r, r2⟩ := q.inv2
    cases r with
    | int i =>
      cases r2 with
      | int j =>
        simp only [itD] at h
        split at h
        · rename_i hh
          simp only [Bool.and_eq_true, decide_eq_true_eq] at hh
          have o := okR_ok hh.1.1
          have o2 := okR_ok hh.1.2
          exact ⟨i, j, rfl, ⟨o.1, o.2, o2.1, o2.2⟩, h.ok_ R (.rng i _)⟩
        · exact h.elim
      | _ => exact h.elim
    | _ => cases r2 <;> exact h.elim
theorem rng_three {xs : List D} {vs : List V} {H : Hp} {m : List Addr} {L : LH} {σ : L2.St} {Q : It → Hp → Prop} (R : RelH g H L m) (q : Reps g H m xs vs) (hl : xs.length = 3) (h : Out g (fun H m ds J => WalkD g H m J ds) W σ H m Q (opt (itD .rng xs) L)) :
    ∃ (i j c : Int) (n : Nat), vs = [.int i, .int j, .int c] ∧ RgC i j c n ∧ Q (Itc i c n) H := by
  match xs, hl with
  | [x, y, z], _ =>
    obtain ⟨v, u, t, rfl, r, r2, r3⟩ := q.inv3
    cases r with
    | int i =>
      cases r2 with
      | int j =>
        cases r3 with
        | int c =>
          simp only [itD] at h
          split at h
          · rename_i hh
            simp only [Bool.and_eq_true, decide_eq_true_eq] at hh
            have o := okR_ok hh.1.1.1
            have o2 := okR_ok hh.1.1.2
            have ec := hh.2
            subst ec
            exact ⟨i, j, -1, _, rfl, RgC.neg o.1 o.2 o2.1 o2.2, h.ok_ R (.rngC i (-1) _)⟩
          · exact h.elim
        | _ => exact h.elim
      | _ => cases r3 <;> exact h.elim
    | _ => cases r2 <;> cases r3 <;> exact h.elim
theorem evEs_len {C : Cf} : ∀ {es : List E} {env : Env} {L L' : LH} {xs : List D}, evEs C es env L = .ok xs L' → xs.length = es.length
  | [], _, _, _, _, h => by simp only [evEs] at h; cases h; rfl
  | e :: es, env, L, L', xs, h => by
    simp only [evEs] at h
    cases h1 : evE C e env L with
    | ok x L1 =>
      rw [h1] at h; simp only [Ev.R.bind_ok] at h
      cases h2 : evEs C es env L1 with
      | ok ys L2 => rw [h2] at h; simp only [Ev.R.bind_ok] at h; cases h; simp [evEs_len h2]
      | _ => rw [h2] at h; cases h
    | _ => rw [h1] at h; cases h
/-- arguments whose number is known -/
def LenF (fs : Env → LH → R (List D)) (n : Nat) : Prop := ∀ env L xs L', fs env L = .ok xs L' → xs.length = n
theorem si_rng1 (hl : LenF fs 1) (hg : Gl X "range") (hm : X.mg "range" = none) (hn : notStar a = true) (ha : PA X [a] (liftA g W fs)) : PI X tg (.Call (.Name "range" p) [a] [] pos) (liftI g W (itF .rng fs)) := by
  refine PI.weak (pi_range1 hg hm ha (starEach_one hn)) fun σ H Q ⟨env, L, m, R, h⟩ => ⟨env, L, m, R, ?_⟩
  have hl' := hl env L
  simp only [itF] at h
  cases e : fs env L with
  | ok xs L1 => rw [e] at h; exact fun vs H1 m1 x1 r1 q1 => rng_one r1 q1 (hl' _ _ e) (Out.ext x1 h)
  | exc c w L1 => rw [e] at h; exact h
  | bad => rw [e] at h; exact h
theorem si_rng2 (hl : LenF fs 2) (hg : Gl X "range") (hm : X.mg "range" = none) (hn : notStar a = true) (hn2 : notStar b = true) (ha : PA X [a, b] (liftA g W fs)) : PI X tg (.Call (.Name "range" p) [a, b] [] pos) (liftI g W (itF .rng fs)) := by
  refine PI.weak (pi_range2 hg hm ha (by rw [starEach_ns hn, starEach_one hn2]) (starEach_one hn2)) fun σ H Q ⟨env, L, m, R, h⟩ => ⟨env, L, m, R, ?_⟩
  have hl' := hl env L
  simp only [itF] at h
  cases e : fs env L with
  | ok xs L1 => rw [e] at h; exact fun vs H1 m1 x1 r1 q1 => rng_two r1 q1 (hl' _ _ e) (Out.ext x1 h)
  | exc c w L1 => rw [e] at h; exact h
  | bad => rw [e] at h; exact h
theorem si_rng3 (hl : LenF fs 3) (hg : Gl X "range") (hm : X.mg "range" = none) (hn : notStar a = true) (hn2 : notStar b = true) (hn3 : notStar c = true) (ha : PA X [a, b, c] (liftA g W fs)) : PI X tg (.Call (.Name "range" p) [a, b, c] [] pos) (liftI g W (itF .rng fs)) := by
  refine PI.weak (pi_range3 hg hm ha (starEach_ns hn) (back_any (by simp [hn2, hn3]))) fun σ H Q ⟨env, L, m, R, h⟩ => ⟨env, L, m, R, ?_⟩
  have hl' := hl env L
  simp only [itF] at h
  cases e : fs env L with
  | ok xs L1 => rw [e] at h; exact fun vs H1 m1 x1 r1 q1 => rng_three r1 q1 (hl' _ _ e) (Out.ext x1 h)
  | exc c w L1 => rw [e] at h; exact h
  | bad => rw [e] at h; exact h
/-- enumerate of a tuple -/
def iEnumT (K : PySem.W.Frag) (ta : TA) : TI := fun σ H R => ta σ H fun vs H1 => ∃ a xs, vs = [.ref a] ∧ SqT K H1 a xs ∧ R (IteT K a) H1
theorem pi_enumT {tpos : Pos} {elts : List Expr} {kk : Nat} {ta : TA} (hg : Gl X "enumerate") (hm : X.mg "enumerate" = none) (ha : PA X [e] ta) (hs : starEach [e] X.env = [(false, eval e X.env)]) :
    PI X (.Tuple elts kk tpos) (.Call (.Name "enumerate" p) [e] [] pos) (iEnumT X.K ta) := by
  refine ⟨fun pins s σ H R I h => Call_ (ld_blt I hg hm boot_enumerate (PyProof.Rows.callWith_type1 (thn (ha.run pos pins s σ H _ I h) fun us s1 ⟨vs, H1, I1, r1, a, xs, ev, hq, q⟩ => ?_) hs rfl))⟩
  subst ev
  obtain ⟨u, rfl, ru⟩ := vals1 r1
  cases ru
  obtain ⟨its, rv, pt, hz⟩ := I1.tuple hq
  refine call_enum1 (begins_tuple a its.toArray) pt fun h' he ho hsz hk => wpAny_pyIter_enum he ?_
  have I2 : Inv X pins σ H1 { s1 with heap := h' } := I1.kept (t' := s1.toks) hk
  have hit : h'.IsTupleIter s1.heap.objs.size a 0 := ⟨_, ho, rfl, rfl⟩
  refine ⟨s1.heap.objs.size + 1, [s1.heap.objs.size + 1, s1.heap.objs.size], _, _, H1, rfl, I2, turn_enumT a _ _, ⟨⟨.none, he⟩, hit, Nat.succ_ne_self _⟩, fun b hb => ?_, q⟩
  have hle : s1.heap.objs.size ≤ b := by
    rcases List.mem_cons.mp hb with rfl | hb
    · exact Nat.le_succ _
    · rcases List.mem_cons.mp hb with rfl | hb
      · exact Nat.le_refl _
      · cases hb
  exact I1.fpOk hle (I1.hok.fresh hle)
theorem si_enum {tpos : Pos} {elts : List Expr} {kk : Nat} (hK : X.K = g.K) (hl : LenF fs 1) (hg : Gl X "enumerate") (hm : X.mg "enumerate" = none) (hn : notStar a = true) (ha : PA X [a] (liftA g W fs)) : PI X (.Tuple elts kk tpos) (.Call (.Name "enumerate" p) [a] [] pos) (liftI g W (itF .enum fs)) := by
  refine PI.or (pi_enumT hg hm ha (starEach_one hn)) (pi_enum hg hm ha (starEach_one hn)) fun σ H Q ⟨env, L, m, R, h⟩ => ?_
  have hl' := hl env L
  simp only [itF] at h
  cases ef : fs env L with
  | ok xs L1 =>
    rw [ef] at h
    simp only [Ev.R.bind_ok] at h
    have l1 := hl' _ _ ef
    match xs, l1 with
    | [x], _ =>
      cases x with
      | tup ds =>
        refine .inl ⟨env, L, m, R, ?_⟩
        rw [ef]
        intro vs H1 m1 x1 r1 q1
        obtain ⟨v, rfl, q2⟩ := q1.inv1
        cases q2 with
        | tup s1 z1 q3 => exact ⟨_, _, rfl, by rw [hK]; exact s1, by rw [hK]; exact h _ H1 m1 x1 r1 (.enT (.tup s1 z1 q3))⟩
      | lst ds =>
        refine .inr ⟨env, L, m, R, ?_⟩
        rw [ef]
        intro vs H1 m1 x1 r1 q1
        obtain ⟨v, rfl, q2⟩ := q1.inv1
        cases q2 with
        | lst s1 hm z1 q3 => exact ⟨_, _, rfl, SqL.of s1, by rw [hK]; exact h _ H1 m1 x1 r1 (.enL (.lst s1 hm z1 q3))⟩
      | _ => exact h.elim
  | exc c w L1 =>
    refine .inl ⟨env, L, m, R, ?_⟩
    rw [ef] at h ⊢
    exact h
  | bad => rw [ef] at h; exact h.elim
theorem si_zip {tpos : Pos} {elts : List Expr} {kk : Nat} (hK : X.K = g.K) (hl : LenF fs 2) (hg : Gl X "zip") (hm : X.mg "zip" = none) (hn : notStar a = true) (hn2 : notStar b = true) (ha : PA X [a, b] (liftA g W fs)) : PI X (.Tuple elts kk tpos) (.Call (.Name "zip" p) [a, b] [] pos) (liftI g W (itF .zip fs)) := by
  refine PI.weak (RZ.pi_zipA hg hm ha (starEach_ns hn) (back_any (by simp [hn2]))) fun σ H Q ⟨env, L, m, R, h⟩ => ⟨env, L, m, R, ?_⟩
  have hl' := hl env L
  simp only [itF] at h
  cases ef : fs env L with
  | ok xs L1 =>
    rw [ef] at h
    simp only [Ev.R.bind_ok] at h
    have l1 := hl' _ _ ef
    match xs, l1 with
    | [x, y], _ =>
      intro vs H1 m1 x1 r1 q1
      obtain ⟨v, u, rfl, p1, q2⟩ := q1.inv2
      cases p1 with
      | @tup a xs ds s1 z1 q3 =>
        cases q2 with
        | @tup b ys es s2 z2 q2 => exact ⟨a, b, xs, ys, rfl, .inr ⟨by rw [hK]; exact s1, by rw [hK]; exact s2, by rw [hK]; exact h _ H1 m1 x1 r1 (.zpT (.tup s1 z1 q3) (.tup s2 z2 q2))⟩⟩
        | _ => exact h.elim
      | @lst a xs ds s1 hm1 z1 q3 =>
        cases q2 with
        | @lst b ys es s2 hm2 z2 q2 => exact ⟨a, b, xs, ys, rfl, .inl ⟨SqL.of s1, SqL.of s2, by rw [hK]; exact h _ H1 m1 x1 r1 (.zpL (.lst s1 hm1 z1 q3) (.lst s2 hm2 z2 q2))⟩⟩
        | _ => exact h.elim
      | _ => cases q2 <;> exact h.elim
  | exc c w L1 => rw [ef] at h; exact h
  | bad => rw [ef] at h; exact h.elim
theorem si_zip3 {tpos : Pos} {elts : List Expr} {kk : Nat} (hK : X.K = g.K) (hl : LenF fs 3) (hg : Gl X "zip") (hm : X.mg "zip" = none) (hn : notStar a = true) (hn2 : notStar b = true) (hn3 : notStar c = true) (ha : PA X [a, b, c] (liftA g W fs)) : PI X (.Tuple elts kk tpos) (.Call (.Name "zip" p) [a, b, c] [] pos) (liftI g W (itF .zip fs)) := by
  refine PI.weak (Z3.pi_zip3 hg hm ha (starEach_ns hn) (back_any (by simp [hn2, hn3]))) fun σ H Q ⟨env, L, m, R, h⟩ => ⟨env, L, m, R, ?_⟩
  have hl' := hl env L
  simp only [itF] at h
  cases ef : fs env L with
  | ok xs L1 =>
    rw [ef] at h
    simp only [Ev.R.bind_ok] at h
    have l1 := hl' _ _ ef
    match xs, l1 with
    | [x, y, z], _ =>
      intro vs H1 m1 x1 r1 q1
      obtain ⟨v, u, w, rfl, p1, q2, q3⟩ := q1.inv3
      cases p1 with
      | @tup a xs ds s1 z1 r3 =>
        cases q2 with
        | @tup b ys es s2 z2 r4 =>
          cases q3 with
          | @tup c zs fs s3 z3 r5 =>
            simp only [itD] at h
            by_cases hq : (decide (ds.length = es.length) && decide (ds.length = fs.length)) = true
            · rw [if_pos hq] at h
              simp only [Bool.and_eq_true, decide_eq_true_eq] at hq
              exact ⟨a, b, c, xs, ys, zs, rfl, by rw [hK]; exact s1, by rw [hK]; exact s2, by rw [hK]; exact s3, by rw [hK]; exact h _ H1 m1 x1 r1 (.zp3 (.tup s1 z1 r3) (.tup s2 z2 r4) (.tup s3 z3 r5) hq.1 hq.2)⟩
            · rw [if_neg hq] at h; exact h.elim
          | _ => exact h.elim
        | _ => cases q3 <;> exact h.elim
      | _ => cases q2 <;> first | exact h.elim | (cases q3 <;> exact h.elim)
  | exc c w L1 => rw [ef] at h; exact h
  | bad => rw [ef] at h; exact h.elim
end
end Ev
end

section
set_option Elab.async false
set_option linter.all false
set_option maxRecDepth 100000
set_option autoImplicit false
set_option maxHeartbeats 1000000
/-! targets, comprehensions -/
namespace Ev
open PySem PySem.Spec PyProof.Rows L2
section
variable {g : G} {W : WX} {σ : L2.St} {H H' : Hp} {m m' : List Addr} {L L' : LH} {env : Env}
theorem Rel.set (r : Rel g σ H env L m) (i : Nat) {d : D} {v : V} (q : Rep g H m d v) : Rel g (σ.set i (some v)) H (env.set i (some d)) L m := by
  refine ⟨r.h, by simp [r.len], fun j e h => ?_, fun k a w dd e => ⟨fun hk => ?_, (r.pin k a w dd e).2⟩, fun f H0 m0 e => ⟨fun hk => ?_, (r.amb f H0 m0 e).2⟩⟩
  rotate_left
  · by_cases hj : i = k
    · subst hj
      by_cases hl : i < env.length
      · rw [List.getElem?_set_self hl] at hk; cases hk
      · rw [List.getElem?_eq_none (by simp; omega)] at hk; cases hk
    · rw [List.getElem?_set_ne hj] at hk ⊢
      exact (r.pin k a w dd e).1 hk
  · by_cases hj : i = 0
    · subst hj
      by_cases hl : 0 < env.length
      · rw [List.getElem?_set_self hl] at hk; cases hk
      · rw [List.getElem?_eq_none (by rw [List.length_set]; omega)] at hk; cases hk
    · rw [List.getElem?_set_ne hj] at hk ⊢
      exact (r.amb f H0 m0 e).1 hk
  by_cases hj : i = j
  · subst hj
    by_cases hl : i < env.length
    · rw [List.getElem?_set_self hl] at h
      cases h
      exact ⟨v, by rw [List.getElem?_set_self (by rw [← r.len]; exact hl)], q⟩
    · rw [List.getElem?_eq_none (by simp; omega)] at h; cases h
  · rw [List.getElem?_set_ne hj] at h ⊢
    exact r.vars j e h
theorem wipe_set {i : Nat} {o : Option V} : ∀ {vs : List Nat} {σ : L2.St}, i ∈ vs → wipe (σ.set i o) vs = wipe σ vs
  | [], _, h => by cases h
  | v :: vs, σ, h => by
    simp only [wipe]
    by_cases hv : i ∈ vs
    · rw [wipe_set hv]
    · have e : i = v := by
        rcases List.mem_cons.mp h with e | e
        · exact e
        · exact absurd e hv
      subst e
      have key : ∀ (ws : List Nat) (τ : L2.St), i ∉ ws → wipe (τ.set i o) ws = (wipe τ ws).set i o := by
        intro ws
        induction ws with
        | nil => intro τ _; rfl
        | cons w ws ih =>
          intro τ hw
          simp only [wipe]
          rw [ih τ (fun q => hw (List.mem_cons_of_mem _ q)), List.set_comm]
          exact fun q => hw (by rw [q]; exact List.mem_cons_self)
      rw [key vs σ hv, List.set_set]
theorem wipe_wipe : ∀ {vs : List Nat} {σ : L2.St}, wipe (wipe σ vs) vs = wipe σ vs := by
  have key : ∀ (ws vs : List Nat) (σ : L2.St), (∀ w ∈ ws, w ∈ vs) → wipe (wipe σ ws) vs = wipe σ vs := by
    intro ws
    induction ws with
    | nil => intro vs σ _; rfl
    | cons w ws ih =>
      intro vs σ h
      simp only [wipe]
      rw [wipe_set (h w List.mem_cons_self)]
      exact ih vs σ fun x hx => h x (List.mem_cons_of_mem _ hx)
  exact fun {vs σ} => key vs vs σ fun _ h => h
theorem wipe_len : ∀ {vs : List Nat} {σ : L2.St}, (wipe σ vs).length = σ.length
  | [], _ => rfl
  | _ :: vs, σ => by simp [wipe, wipe_len (vs := vs)]
theorem wipeE_len : ∀ {vs : List Nat} {env : Env}, (wipeE env vs).length = env.length
  | [], _ => rfl
  | _ :: vs, σ => by simp [wipeE, wipeE_len (vs := vs)]
theorem wipeE_some {i : Nat} {d : D} : ∀ {vs : List Nat} {env : Env}, (wipeE env vs)[i]? = some (some d) → env[i]? = some (some d) ∧ i ∉ vs
  | [], _, h => ⟨h, by simp⟩
  | v :: vs, env, h => by
    simp only [wipeE] at h
    by_cases e : v = i
    · subst e
      by_cases hl : v < (wipeE env vs).length
      · rw [List.getElem?_set_self hl] at h; cases h
      · rw [List.getElem?_eq_none (by simp; omega)] at h; cases h
    · rw [List.getElem?_set_ne e] at h
      obtain ⟨h1, h2⟩ := wipeE_some h
      exact ⟨h1, fun q => (List.mem_cons.mp q).elim (fun q => e q.symm) h2⟩
theorem Rel.wipe (hp : g.pin = none ∧ g.amb = none) (r : Rel g σ H env L m) (vs : List Nat) : Rel g (L2.wipe σ vs) H (wipeE env vs) L m :=
  ⟨r.h, by rw [wipe_len, wipeE_len, r.len], fun i d h => by
    obtain ⟨h1, h2⟩ := wipeE_some h
    obtain ⟨v, e1, e2⟩ := r.vars i d h1
    exact ⟨v, by rw [wipe_out h2]; exact e1, e2⟩, fun i a w d e => (by rw [hp.1] at e; cases e), fun f H0 m0 e => (by rw [hp.2] at e; cases e)⟩
theorem Rel.hide {d : Addr} (hp : g.pin = none ∧ g.amb = none) (r : Rel g σ H env L m) (hd : H d = none) : Rel (g.more d) σ (upd H d (.lst [])) env L m :=
  ⟨r.h.hide hd, r.len, fun i x e => let ⟨v, e1, e2⟩ := r.vars i x e; ⟨v, e1, Rep.ext (ext_new hd) _ _ (Rep.hide hd _ _ e2)⟩, fun i a w d e => (by rw [show (g.more _).pin = g.pin from rfl, hp.1] at e; cases e), fun f H0 m0 e => (by rw [show (g.more _).amb = g.amb from rfl, hp.2] at e; cases e)⟩
theorem Rel.fill {d : Addr} {xs ys : List V} (hp : g.pin = none ∧ g.amb = none) (r : Rel g σ H env L m) (hd : d ∈ g.hid) (h0 : H d = some (.lst xs)) : Rel g σ (upd H d (.lst ys)) env L m :=
  ⟨r.h.fill hd h0, r.len, fun i x e => let ⟨v, e1, e2⟩ := r.vars i x e; ⟨v, e1, Rep.fill hd h0 _ _ e2⟩, fun i a w d e => (by rw [hp.1] at e; cases e), fun f H0 m0 e => (by rw [hp.2] at e; cases e)⟩
/-! ### targets -/
/-- a target that puts as put does, the slots vs alone -/
def TgOk (t : TG) (put : D → Env → Option Env) (vs : List Nat) : Prop := ∀ (g : G) (σ : L2.St) (H : Hp) (env env' : Env) (L : LH) (m : List Addr) (d : D) (v : V) (Q : L2.St → Hp → Prop),
  Rel g σ H env L m → Rep g H m d v → put d env = some env' → (∀ σ', Rel g σ' H env' L m → L2.wipe σ' vs = L2.wipe σ vs → Q σ' H) → t v σ H Q
theorem tg_name (i : Nat) : TgOk (gName i) (Tg.nm i).put [i] := fun g σ H env env' L m d v Q r q h k => by
  simp only [Tg.put, Option.some.injEq] at h
  subst h
  exact k _ (r.set i q) (wipe_set List.mem_cons_self)
def gNs : List Nat → TGs
  | [] => gNil
  | i :: is => gCons (gName i) (gNs is)
theorem gNs_ok : ∀ (is : List Nat) (vs0 : List Nat) (σ0 : L2.St), (∀ i ∈ is, i ∈ vs0) → ∀ (g : G) (σ : L2.St) (H : Hp) (env env' : Env) (L : LH) (m : List Addr) (ds : List D) (vs : List V) (Q : L2.St → Hp → Prop),
    Rel g σ H env L m → Reps g H m ds vs → putMany is ds env = some env' → L2.wipe σ vs0 = L2.wipe σ0 vs0 → (∀ σ', Rel g σ' H env' L m → L2.wipe σ' vs0 = L2.wipe σ0 vs0 → Q σ' H) → gNs is vs σ H Q
  | [], vs0, σ0, hs, g, σ, H, env, env', L, m, ds, vs, Q, r, q, h, hw, k => by
    cases q with
    | nil => simp only [putMany, Option.some.injEq] at h; subst h; exact ⟨rfl, k σ r hw⟩
    | cons a b => simp [putMany] at h
  | i :: is, vs0, σ0, hs, g, σ, H, env, env', L, m, ds, vs, Q, r, q, h, hw, k => by
    cases q with
    | nil => simp [putMany] at h
    | cons a b =>
      simp only [putMany] at h
      exact ⟨_, _, rfl, gNs_ok is vs0 σ0 (fun j hj => hs j (List.mem_cons_of_mem _ hj)) g _ H _ env' L m _ _ Q (r.set i a) b h (by rw [wipe_set (hs i List.mem_cons_self)]; exact hw) k⟩
theorem putMany_len : ∀ {is : List Nat} {ds : List D} {env env' : Env}, putMany is ds env = some env' → ds.length = is.length
  | [], [], _, _, _ => rfl
  | [], _ :: _, _, _, h => by simp [putMany] at h
  | _ :: _, [], _, _, h => by simp [putMany] at h
  | _ :: is, _ :: ds, _, _, h => by simp only [putMany] at h; simp [putMany_len h]
theorem tg_tup (is : List Nat) : ∀ K, (∀ g : G, g.K = K → ∀ (σ : L2.St) (H : Hp) (env env' : Env) (L : LH) (m : List Addr) (d : D) (v : V) (Q : L2.St → Hp → Prop),
  Rel g σ H env L m → Rep g H m d v → (Tg.tp is).put d env = some env' → (∀ σ', Rel g σ' H env' L m → L2.wipe σ' is = L2.wipe σ is → Q σ' H) → gTup K is.length (gNs is) v σ H Q) := by
  intro K g hK σ H env env' L m d v Q r q h k
  cases q with
  | @tup a xs ds s1 z q =>
    simp only [Tg.put] at h
    refine ⟨a, xs, rfl, by rw [← hK]; exact s1, by rw [← q.len]; exact putMany_len h, ?_⟩
    exact gNs_ok is is σ (fun _ h => h) g σ H env env' L m ds xs Q r q h rfl k
  | _ => simp [Tg.put] at h
end
/-- a target that puts as put does, for this K -/
def TgK (K : PySem.W.Frag) (t : TG) (put : D → Env → Option Env) (vs : List Nat) : Prop := ∀ (g : G), g.K = K → ∀ (σ : L2.St) (H : Hp) (env env' : Env) (L : LH) (m : List Addr) (d : D) (v : V) (Q : L2.St → Hp → Prop),
  Rel g σ H env L m → Rep g H m d v → put d env = some env' → (∀ σ', Rel g σ' H env' L m → L2.wipe σ' vs = L2.wipe σ vs → Q σ' H) → t v σ H Q
def tgR (K : PySem.W.Frag) : Tg → TG
  | .nm i => gName i
  | .tp is => gTup K is.length (gNs is)
theorem tgR_ok (K : PySem.W.Frag) (t : Tg) : TgK K (tgR K t) t.put t.slots := by
  cases t with
  | nm i => exact fun g _ => tg_name i g
  | tp is => exact tg_tup is K
theorem wipe_more {vs ws : List Nat} {σ τ : L2.St} (hs : ∀ v ∈ vs, v ∈ ws) (h : L2.wipe σ vs = L2.wipe τ vs) : L2.wipe σ ws = L2.wipe τ ws := by
  have key : ∀ (vs ws : List Nat) (σ : L2.St), (∀ w ∈ vs, w ∈ ws) → L2.wipe (L2.wipe σ vs) ws = L2.wipe σ ws := by
    intro vs
    induction vs with
    | nil => intro ws σ _; rfl
    | cons w vs ih =>
      intro ws σ h
      simp only [L2.wipe]
      rw [wipe_set (h w List.mem_cons_self)]
      exact ih ws σ fun x hx => h x (List.mem_cons_of_mem _ hx)
  rw [← key vs ws σ hs, h, key vs ws τ hs]

/-! ### [elt for t in items if cond] -/
abbrev W0 : WX := fun _ _ _ _ => False
def G.with (g : G) (h : List Addr) : G := { g with hid := h }
def anyT (g : G) (f : Env → LH → R D) : TT := fun σ H Q => ∃ h, liftT (g.with h) W0 (truR f) σ H Q
def anyE (g : G) (f : Env → LH → R D) : TE := fun σ H Q => ∃ h, liftE (g.with h) W0 f σ H Q
theorem PE.any {X : Cx} {e : Expr} {g : G} {f : Env → LH → R D} (h : ∀ hs, PE X e (liftE (g.with hs) W0 f)) : PE X e (anyE g f) := ⟨fun pins s σ H Q I ⟨hs, k⟩ => (h hs).run pins s σ H Q I k⟩
theorem PTs.any1 {X : Cx} {e : Expr} {g : G} {f : Env → LH → R D} (h : ∀ hs, PT X e (liftT (g.with hs) W0 (truR f))) : PTs X [e] (anyT g f) := ⟨fun pins s σ H Q I ⟨hs, k⟩ => (pts_one (h hs)).run pins s σ H Q I k⟩
theorem PTs.any0 {X : Cx} {g : G} : PTs X [] (anyT g fun _ L => .ok (.bl true) L) := ⟨fun pins s σ H Q I ⟨hs, env, L, m, R, k⟩ => pts_nil.run pins s σ H Q I (k.ok_ R.h rfl)⟩
def lcF (mu : Bool) (put : D → Env → Option Env) (vs : List Nat) (fi : Env → LH → R (List D)) (fc fe : Env → LH → R D) : Env → LH → R D := fun env L => (fi env L).bind fun items L =>
  if items.length ≤ size16 then ((lcGo put fc fe (wipeE env vs) items L).nox).bind fun ys L => lcEnd mu ys L else .bad
section
variable {g : G} {W : WX} {fi : Env → LH → R (List D)} {fc fe : Env → LH → R D} {put : D → Env → Option Env} {vs ts : List Nat} {gt : TG} {σ : L2.St} {H : Hp} {Q : VK}
theorem lc_core' {mu : Bool} (hpin : g.pin = none ∧ g.amb = none) (ht : TgK g.K gt put ts) (hts : ∀ v ∈ ts, v ∈ vs) (h : liftE g W (lcF mu put vs fi fc fe) σ H Q) : tLc (liftI g W fi) gt (anyT g fc) (anyE g fe) vs σ H Q := by
  obtain ⟨env, L, m, R, h⟩ := h
  refine ⟨env, L, m, R, h.bind fun items L1 J H1 m1 x1 r1 w1 h1 => ?_⟩
  have R1 := R.ext x1 r1
  intro d hd
  by_cases hzn : ¬ items.length ≤ size16
  · rw [if_neg hzn] at h1; exact h1.elim
  have hz : items.length ≤ size16 := Decidable.of_not_not hzn
  rw [if_pos hz] at h1
  cases er : lcGo put fc fe (wipeE env vs) items L1 with
  | exc c w L' => rw [er] at h1; exact h1.elim
  | bad => rw [er] at h1; exact h1.elim
  | ok ys Lf =>
    rw [er] at h1
    simp only [Ev.R.nox_ok, Ev.R.bind_ok] at h1
    let g' := g.more d
    have hdm : d ∈ g'.hid := List.mem_cons_self
    refine ⟨fun i k H => k = items.length - i ∧ i ≤ items.length ∧ ∃ L m acc ys' accd, Ext H1 m1 H m ∧ Rel g' (L2.wipe σ vs) H (wipeE env vs) L m ∧ WalkD g' H m J items ∧ H d = some (.lst acc) ∧ Reps g' H m accd acc ∧ acc.length ≤ i ∧
      lcGo put fc fe (wipeE env vs) (items.drop i) L = .ok ys' Lf ∧ accd ++ ys' = ys, ⟨items.length, by simp, Nat.zero_le _, L1, m1, [], ys, [], ?_, (R1.wipe hpin vs).hide hpin hd, ?_, upd_same, .nil, Nat.le_refl _, by simpa using er, by simp⟩, ?_⟩
    · exact ext_new hd
    · exact (w1.hide hd).ext (ext_new hd)
    · rintro i k H ⟨rfl, hi, L, m, acc, ys', accd, x2, R2, w2, hD, qa, la, eg, ey⟩
      obtain ⟨go, stop⟩ := w2.goes
      by_cases hlt : i < items.length
      · refine .inr ⟨go i hlt, _, fun H' p => ⟨items.length - (i + 1), by omega, p⟩, fun x H' y => ?_⟩
        obtain ⟨y1, y2, dd, y3, y4⟩ := w2.yields R2.h hlt y
        have edrop : items.drop i = dd :: items.drop (i + 1) := by
          rw [List.drop_eq_getElem_cons hlt]
          have := List.getElem?_eq_getElem hlt
          rw [this] at y3; rw [Option.some.inj y3]
        rw [edrop] at eg
        simp only [lcGo] at eg
        cases ep : put dd (wipeE env vs) with
        | none => rw [ep] at eg; cases eg
        | some env1 =>
          rw [ep] at eg
          simp only at eg
          have R3 : Rel g' (L2.wipe σ vs) H' (wipeE env vs) L m := R2.ext y1 y2
          refine ht g' rfl _ H' _ env1 L m dd x _ R3 y4 ep fun σ2 R4 hw => ?_
          have hw' : L2.wipe σ2 vs = L2.wipe σ vs := by
            rw [wipe_more hts hw, wipe_wipe]
          have kD : ∀ {H2 : Hp} {m2 : List Addr}, Ext H' m H2 m2 → H2 d = some (.lst acc) := fun {H2 m2} x => by
            have n0 : d ∉ m := (R2.h.hid d hdm).1
            exact x.keep d _ (y1.keep d _ hD n0 (fun ps => by simp)) n0 (fun ps => by simp)
          refine ⟨hw', g'.hid, env1, L, m, R4, ?_⟩
          cases ec : fc env1 L with
          | exc c w L' => rw [ec] at eg; cases eg
          | bad => rw [ec] at eg; cases eg
          | ok b La =>
            rw [ec] at eg
            simp only [Ev.R.bind_ok] at eg
            cases et : truth b with
            | none => rw [et] at eg; cases eg
            | some bb =>
              rw [et] at eg
              simp only [truR, ec, Ev.R.bind_ok, et, opt_some]
              intro b' H3 m3 x3 r3 eb
              subst eb
              have r3' : RelH g' H3 La m3 := r3
              cases bb with
              | false =>
                simp only at eg
                rw [if_neg (by simp)]
                have x23 : Ext H m H3 m3 := y1.trans x3
                exact ⟨by first | rfl | trivial, hlt, La, m3, acc, ys', accd, x2.trans x23, R2.ext x23 r3', w2.ext x23, kD x3, Reps.ext x23 _ _ qa, by omega, eg, ey⟩
              | true =>
                simp only at eg
                rw [if_pos rfl]
                refine ⟨g'.hid, env1, La, m3, R4.ext x3 r3', ?_⟩
                cases ee : fe env1 La with
                | exc c w L' => rw [ee] at eg; cases eg
                | bad => rw [ee] at eg; cases eg
                | ok yv Lb =>
                  rw [ee] at eg
                  simp only [Ev.R.bind_ok] at eg
                  cases e2 : lcGo put fc fe (wipeE env vs) (items.drop (i + 1)) Lb with
                  | exc c w L' => rw [e2] at eg; cases eg
                  | bad => rw [e2] at eg; cases eg
                  | ok ys2 Lc =>
                    rw [e2] at eg
                    simp only [Ev.R.bind_ok] at eg
                    cases eg
                    intro v H4 m4 x4 r4 q4
                    have r4' : RelH g' H4 Lb m4 := r4
                    have x24 : Ext H m H4 m4 := (y1.trans x3).trans x4
                    have hD4 : H4 d = some (.lst acc) := kD (x3.trans x4)
                    have lacc : acc.length < sizeLine := by rw [← size16_eq]; omega
                    refine ⟨acc, hD4, lacc, by first | rfl | trivial, hlt, Lb, m4, acc ++ [v], ys2, accd ++ [yv], (x2.trans x24).fill hd, (R2.ext x24 r4').fill hpin hdm hD4, (w2.ext x24).fill hdm hD4, upd_same, ?_, by simp; omega, e2, by rw [List.append_assoc]; exact ey⟩
                    exact Reps.fill hdm hD4 _ _ ((Reps.ext x24 _ _ qa).append (.cons q4 .nil))
      · have ei : i = items.length := by omega
        subst ei
        rw [List.drop_length] at eg
        simp only [lcGo] at eg
        cases eg
        rw [List.append_nil] at ey
        subst ey
        have la' : acc.length ≤ sizeLine := by rw [← size16_eq]; omega
        cases mu with
        | false => exact .inl ⟨stop, h1 _ H m x2 R2.h.show_ (.lst hD ⟨(R2.h.hid d hdm).1, (r1.fresh hd).2⟩ la' (Reps.show_ _ _ qa))⟩
        | true =>
          refine .inl ⟨stop, h1 _ H (m ++ [d]) ?_ (R2.h.thaw (r1.fresh hd).2 hD la' qa) (.loc (by rw [← R2.h.len]; simp))⟩
          obtain ⟨e, em, en⟩ := x2.ex
          refine ⟨⟨e ++ [d], by rw [em, List.append_assoc], fun p hp o ho => ?_⟩, x2.keep, x2.tups, x2.frzs, x2.dom⟩
          rcases List.mem_append.mp hp with q | q
          · exact en p q o ho
          · rw [List.mem_singleton.mp q, hd] at ho; cases ho
end
end Ev
end

section
set_option Elab.async false
set_option linter.all false
set_option maxRecDepth 100000
set_option autoImplicit false
set_option maxHeartbeats 1000000
/-! targets, comprehensions -/
namespace Ev
open PySem PySem.Spec PyProof.Rows L2
def lc2F (mu : Bool) (put : D → Env → Option Env) (vs : List Nat) (fi : Env → LH → R (List D)) (fc : Env → LH → R D) (fi1 : Env → LH → R (List D)) (vs1 : List Nat) (put1 : D → Env → Option Env) (fc1 fe : Env → LH → R D) : Env → LH → R D := fun env L => (fi env L).bind fun items L =>
  if items.length ≤ size16 then ((lc2Go put fc fi1 vs1 put1 fc1 fe (wipeE env vs) items L).nox).bind fun ys L => if ys.length ≤ size16 then lcEnd mu ys L else .bad else .bad
/-- what is walked inside: some hidden list is under way -/
def anyI (g : G) (f : Env → LH → R (List D)) : TI := fun σ H Q => ∃ h, liftI (g.with h) W0 f σ H Q
theorem PI.any {X : Cx} {tg e : Expr} {g : G} {f : Env → LH → R (List D)} (h : ∀ hs, PI X tg e (liftI (g.with hs) W0 f)) : PI X tg e (anyI g f) := ⟨fun pins s σ H Q I ⟨hs, k⟩ => (h hs).run pins s σ H Q I k⟩
section
variable {g : G} {W : WX} {fi fi1 : Env → LH → R (List D)} {fc fc1 fe : Env → LH → R D} {put put1 : D → Env → Option Env} {vs vs1 ts ts1 : List Nat} {gt gt1 : TG} {σ : L2.St} {H : Hp} {Q : VK}
theorem lc2_core' {mu : Bool} (hpin : g.pin = none ∧ g.amb = none) (ht : TgK g.K gt put ts) (hts : ∀ v ∈ ts, v ∈ vs) (ht1 : TgK g.K gt1 put1 ts1) (hts1 : ∀ v ∈ ts1, v ∈ vs1) (h : liftE g W (lc2F mu put vs fi fc fi1 vs1 put1 fc1 fe) σ H Q) :
    tLc2 (liftI g W fi) gt (anyT g fc) (anyI g fi1) gt1 (anyT g fc1) (anyE g fe) vs vs1 σ H Q := by
  obtain ⟨env, L, m, R, h⟩ := h
  refine ⟨env, L, m, R, h.bind fun items L1 J H1 m1 x1 r1 w1 h1 => ?_⟩
  have R1 := R.ext x1 r1
  intro d hd
  by_cases hzn : ¬ items.length ≤ size16
  · rw [if_neg hzn] at h1; exact h1.elim
  have hz : items.length ≤ size16 := Decidable.of_not_not hzn
  rw [if_pos hz] at h1
  cases er : lc2Go put fc fi1 vs1 put1 fc1 fe (wipeE env vs) items L1 with
  | exc c w L' => rw [er] at h1; exact h1.elim
  | bad => rw [er] at h1; exact h1.elim
  | ok ys Lf =>
    rw [er] at h1
    simp only [Ev.R.nox_ok, Ev.R.bind_ok] at h1
    by_cases hyn : ¬ ys.length ≤ size16
    · rw [if_neg hyn] at h1; exact h1.elim
    have hy : ys.length ≤ size16 := Decidable.of_not_not hyn
    rw [if_pos hy] at h1
    let g' := g.more d
    have hdm : d ∈ g'.hid := List.mem_cons_self
    -- the outer state: what is told of the items from i on
    let St : Nat → Hp → Prop := fun i H => i ≤ items.length ∧ ∃ L m acc ys' accd, Ext H1 m1 H m ∧ Rel g' (L2.wipe σ vs) H (wipeE env vs) L m ∧ WalkD g' H m J items ∧ H d = some (.lst acc) ∧ Reps g' H m accd acc ∧
      lc2Go put fc fi1 vs1 put1 fc1 fe (wipeE env vs) (items.drop i) L = .ok ys' Lf ∧ accd ++ ys' = ys
    refine ⟨fun i k H => k = items.length - i ∧ St i H, ⟨items.length, by simp, Nat.zero_le _, L1, m1, [], ys, [], ?_, (R1.wipe hpin vs).hide hpin hd, ?_, upd_same, .nil, by simpa using er, by simp⟩, ?_⟩
    · exact ext_new hd
    · exact (w1.hide hd).ext (ext_new hd)
    · rintro i k H ⟨rfl, hi, L, m, acc, ys', accd, x2, R2, w2, hD, qa, eg, ey⟩
      obtain ⟨go, stop⟩ := w2.goes
      by_cases hlt : i < items.length
      · refine .inr ⟨go i hlt, fun H => St (i + 1) H, fun H' p => ⟨items.length - (i + 1), by omega, rfl, p⟩, fun x H' y => ?_⟩
        obtain ⟨y1, y2, dd, y3, y4⟩ := w2.yields R2.h hlt y
        have edrop : items.drop i = dd :: items.drop (i + 1) := by
          rw [List.drop_eq_getElem_cons hlt]
          have := List.getElem?_eq_getElem hlt
          rw [this] at y3; rw [Option.some.inj y3]
        rw [edrop] at eg
        simp only [lc2Go] at eg
        cases ep : put dd (wipeE env vs) with
        | none => rw [ep] at eg; cases eg
        | some env1 =>
          rw [ep] at eg
          simp only at eg
          have R3 : Rel g' (L2.wipe σ vs) H' (wipeE env vs) L m := R2.ext y1 y2
          refine ht g' rfl _ H' _ env1 L m dd x _ R3 y4 ep fun σ2 R4 hw => ?_
          have hw' : L2.wipe σ2 vs = L2.wipe σ vs := by
            rw [wipe_more hts hw, wipe_wipe]
          have kD : ∀ {H2 : Hp} {m2 : List Addr}, Ext H' m H2 m2 → H2 d = some (.lst acc) := fun {H2 m2} x => by
            have n0 : d ∉ m := (R2.h.hid d hdm).1
            exact x.keep d _ (y1.keep d _ hD n0 (fun ps => by simp)) n0 (fun ps => by simp)
          refine ⟨hw', g'.hid, env1, L, m, R4, ?_⟩
          cases ec : fc env1 L with
          | exc c w L' => rw [ec] at eg; cases eg
          | bad => rw [ec] at eg; cases eg
          | ok b La =>
            rw [ec] at eg
            simp only [Ev.R.bind_ok] at eg
            cases et : truth b with
            | none => rw [et] at eg; cases eg
            | some bb =>
              rw [et] at eg
              simp only [truR, ec, Ev.R.bind_ok, et, opt_some]
              intro b' H3 m3 x3 r3 eb
              subst eb
              have r3' : RelH g' H3 La m3 := r3
              have x23 : Ext H m H3 m3 := y1.trans x3
              cases bb with
              | false =>
                simp only at eg
                rw [if_neg (by simp)]
                exact ⟨hlt, La, m3, acc, ys', accd, x2.trans x23, R2.ext x23 r3', w2.ext x23, kD x3, Reps.ext x23 _ _ qa, eg, ey⟩
              | true =>
                simp only at eg
                rw [if_pos rfl]
                cases e1 : fi1 env1 La with
                | exc c w L' => rw [e1] at eg; cases eg
                | bad => rw [e1] at eg; cases eg
                | ok items1 Lb =>
                  rw [e1] at eg
                  simp only [Ev.R.bind_ok] at eg
                  refine ⟨g'.hid, env1, La, m3, R4.ext x3 r3', ?_⟩
                  rw [e1]
                  intro J1 H4 m4 x4 r4 w4
                  have r4' : RelH g' H4 Lb m4 := r4
                  have w4' : WalkD g' H4 m4 J1 items1 := w4
                  cases ei : lcGo put1 fc1 fe (wipeE env1 vs1) items1 Lb with
                  | exc c w L' => rw [ei] at eg; cases eg
                  | bad => rw [ei] at eg; cases eg
                  | ok ys1 Lc =>
                    rw [ei] at eg
                    simp only [Ev.R.bind_ok] at eg
                    cases ez : lc2Go put fc fi1 vs1 put1 fc1 fe (wipeE env vs) (items.drop (i + 1)) Lc with
                    | exc c w L' => rw [ez] at eg; cases eg
                    | bad => rw [ez] at eg; cases eg
                    | ok zs Ld =>
                      rw [ez] at eg
                      simp only [Ev.R.bind_ok] at eg
                      cases eg
                      have R5 : Rel g' σ2 H4 env1 Lb m4 := (R4.ext x3 r3').ext x4 r4'
                      have x24 : Ext H m H4 m4 := x23.trans x4
                      refine ⟨fun j k H5 => k = items1.length - j ∧ j ≤ items1.length ∧ ∃ L m acc ys1' accd, Ext H1 m1 H5 m ∧ Rel g' (L2.wipe σ vs) H5 (wipeE env vs) L m ∧ Rel g' (L2.wipe σ2 vs1) H5 (wipeE env1 vs1) L m ∧ WalkD g' H5 m J items ∧ WalkD g' H5 m J1 items1 ∧ H5 d = some (.lst acc) ∧ Reps g' H5 m accd acc ∧
                        lcGo put1 fc1 fe (wipeE env1 vs1) (items1.drop j) L = .ok ys1' Lc ∧ accd ++ (ys1' ++ zs) = ys,
                        ⟨items1.length, by simp, Nat.zero_le _, Lb, m4, acc, ys1, accd, x2.trans x24, R2.ext x24 r4', Rel.wipe (g := g') hpin R5 vs1, w2.ext x24, w4', kD (x3.trans x4), Reps.ext x24 _ _ qa, by simpa using ei, ey⟩, ?_⟩
                      rintro j k1 H5 ⟨rfl, hj, L5, m5, acc5, ys5, accd5, p1, p2, p3, p4, p5, p6, p7, p8, p9⟩
                      obtain ⟨go1, stop1⟩ := p5.goes
                      by_cases hlj : j < items1.length
                      · refine .inr ⟨go1 j hlj, fun H6 => j + 1 ≤ items1.length ∧ ∃ L m acc ys1' accd, Ext H1 m1 H6 m ∧ Rel g' (L2.wipe σ vs) H6 (wipeE env vs) L m ∧ Rel g' (L2.wipe σ2 vs1) H6 (wipeE env1 vs1) L m ∧ WalkD g' H6 m J items ∧ WalkD g' H6 m J1 items1 ∧ H6 d = some (.lst acc) ∧ Reps g' H6 m accd acc ∧
                          lcGo put1 fc1 fe (wipeE env1 vs1) (items1.drop (j + 1)) L = .ok ys1' Lc ∧ accd ++ (ys1' ++ zs) = ys, fun H6 p => ⟨items1.length - (j + 1), by omega, rfl, p⟩, fun x5 H6 yy => ?_⟩
                        obtain ⟨z1, z2, d1, z3, z4⟩ := p5.yields p3.h hlj yy
                        have edrop1 : items1.drop j = d1 :: items1.drop (j + 1) := by
                          rw [List.drop_eq_getElem_cons hlj]
                          have := List.getElem?_eq_getElem hlj
                          rw [this] at z3; rw [Option.some.inj z3]
                        rw [edrop1] at p8
                        simp only [lcGo] at p8
                        cases ep1 : put1 d1 (wipeE env1 vs1) with
                        | none => rw [ep1] at p8; cases p8
                        | some env2 =>
                          rw [ep1] at p8
                          simp only at p8
                          have Q3 : Rel g' (L2.wipe σ2 vs1) H6 (wipeE env1 vs1) L5 m5 := p3.ext z1 z2
                          refine ht1 g' rfl _ H6 _ env2 L5 m5 d1 x5 _ Q3 z4 ep1 fun σ3 Q4 hw3 => ?_
                          have hw3' : L2.wipe σ3 vs1 = L2.wipe σ2 vs1 := by
                            rw [wipe_more hts1 hw3, wipe_wipe]
                          have kD5 : ∀ {H7 : Hp} {m7 : List Addr}, Ext H6 m5 H7 m7 → H7 d = some (.lst acc5) := fun {H7 m7} x => by
                            have n0 : d ∉ m5 := (p2.h.hid d hdm).1
                            exact x.keep d _ (z1.keep d _ p6 n0 (fun ps => by simp)) n0 (fun ps => by simp)
                          refine ⟨hw3', g'.hid, env2, L5, m5, Q4, ?_⟩
                          cases ec1 : fc1 env2 L5 with
                          | exc c w L' => rw [ec1] at p8; cases p8
                          | bad => rw [ec1] at p8; cases p8
                          | ok b1 L6 =>
                            rw [ec1] at p8
                            simp only [Ev.R.bind_ok] at p8
                            cases et1 : truth b1 with
                            | none => rw [et1] at p8; cases p8
                            | some bb1 =>
                              rw [et1] at p8
                              simp only [truR, ec1, Ev.R.bind_ok, et1, opt_some]
                              intro b1' H7 m7 x7 r7 eb1
                              subst eb1
                              have r7' : RelH g' H7 L6 m7 := r7
                              have x57 : Ext H5 m5 H7 m7 := z1.trans x7
                              cases bb1 with
                              | false =>
                                simp only at p8
                                rw [if_neg (by simp)]
                                exact ⟨hlj, L6, m7, acc5, ys5, accd5, p1.trans x57, p2.ext x57 r7', p3.ext x57 r7', p4.ext x57, p5.ext x57, kD5 x7, Reps.ext x57 _ _ p7, p8, p9⟩
                              | true =>
                                simp only at p8
                                rw [if_pos rfl]
                                refine ⟨g'.hid, env2, L6, m7, Q4.ext x7 r7', ?_⟩
                                cases ee : fe env2 L6 with
                                | exc c w L' => rw [ee] at p8; cases p8
                                | bad => rw [ee] at p8; cases p8
                                | ok yv L8 =>
                                  rw [ee] at p8
                                  simp only [Ev.R.bind_ok] at p8
                                  cases e2 : lcGo put1 fc1 fe (wipeE env1 vs1) (items1.drop (j + 1)) L8 with
                                  | exc c w L' => rw [e2] at p8; cases p8
                                  | bad => rw [e2] at p8; cases p8
                                  | ok ys2 L9 =>
                                    rw [e2] at p8
                                    simp only [Ev.R.bind_ok] at p8
                                    cases p8
                                    intro v H8 m8 x8 r8 q8
                                    have r8' : RelH g' H8 L8 m8 := r8
                                    have x58 : Ext H5 m5 H8 m8 := (z1.trans x7).trans x8
                                    have hD8 : H8 d = some (.lst acc5) := kD5 (x7.trans x8)
                                    have la : acc5.length < sizeLine := by
                                      rw [← size16_eq, ← p7.len]
                                      have := congrArg List.length p9
                                      simp only [List.length_append, List.length_cons] at this
                                      omega
                                    refine ⟨acc5, hD8, la, hlj, L8, m8, acc5 ++ [v], ys2, accd5 ++ [yv], (p1.trans x58).fill hd, (p2.ext x58 r8').fill hpin hdm hD8, (p3.ext x58 r8').fill hpin hdm hD8, (p4.ext x58).fill hdm hD8, (p5.ext x58).fill hdm hD8, upd_same, ?_, e2, ?_⟩
                                    · exact Reps.fill hdm hD8 _ _ ((Reps.ext x58 _ _ p7).append (.cons q8 .nil))
                                    · rw [List.append_assoc]; exact p9
                      · have ej : j = items1.length := by omega
                        subst ej
                        rw [List.drop_length] at p8
                        simp only [lcGo] at p8
                        cases p8
                        refine .inl ⟨stop1, hlt, Lc, m5, acc5, zs, accd5, p1, p2, p4, p6, p7, ez, ?_⟩
                        rw [List.nil_append] at p9
                        exact p9
      · have ei : i = items.length := by omega
        subst ei
        rw [List.drop_length] at eg
        simp only [lc2Go] at eg
        cases eg
        rw [List.append_nil] at ey
        subst ey
        have la' : acc.length ≤ sizeLine := by rw [← size16_eq, ← qa.len]; exact hy
        cases mu with
        | false => exact .inl ⟨stop, h1 _ H m x2 R2.h.show_ (.lst hD ⟨(R2.h.hid d hdm).1, (r1.fresh hd).2⟩ la' (Reps.show_ _ _ qa))⟩
        | true =>
          refine .inl ⟨stop, h1 _ H (m ++ [d]) ?_ (R2.h.thaw (r1.fresh hd).2 hD la' qa) (.loc (by rw [← R2.h.len]; simp))⟩
          obtain ⟨e, em, en⟩ := x2.ex
          refine ⟨⟨e ++ [d], by rw [em, List.append_assoc], fun p hp o ho => ?_⟩, x2.keep, x2.tups, x2.frzs, x2.dom⟩
          rcases List.mem_append.mp hp with q | q
          · exact en p q o ho
          · rw [List.mem_singleton.mp q, hd] at ho; cases ho
end
end Ev
end

section
set_option Elab.async false
set_option linter.all false
set_option maxRecDepth 100000
set_option autoImplicit false
set_option maxHeartbeats 1000000
/-! statements -/
namespace Ev
open PySem PySem.Spec PyProof.Rows L2
/-- what is wanted of a statement's end -/
def OutS (g : G) (W : WX) (D : Ends) (H : Hp) (m : List Addr) : RS → Prop
  | .nx env L => ∀ σ' H' m', Ext H m H' m' → Rel g σ' H' env L m' → D.nx σ' H'
  | .rt d L => ∀ v H' m', Ext H m H' m' → RelH g H' L m' → Rep g H' m' d v → D.rt v H'
  | .bk env L => ∀ σ' H' m', Ext H m H' m' → Rel g σ' H' env L m' → D.bk σ' H'
  | .ct env L => ∀ σ' H' m', Ext H m H' m' → Rel g σ' H' env L m' → D.ct σ' H'
  | .exc c w env L => ∀ d σ' H' m', Ext H m H' m' → Rel g σ' H' env L m' → RepX g H' m' w d → W (.ref (g.cad c)) d σ' H'
  | .bad => False
def liftS (g : G) (W : WX) (f : Env → LH → RS) : TS := fun D σ H => ∃ env L m, Rel g σ H env L m ∧ OutS g W D H m (f env L)
section
variable {g : G} {W : WX} {σ : L2.St} {H H' : Hp} {m m' : List Addr} {L L' : LH} {env : Env} {D : Ends}
theorem OutS.ext (x : Ext H m H' m') : ∀ {r : RS}, OutS g W D H m r → OutS g W D H' m' r
  | .nx _ _, h => fun σ' H2 m2 y r => h σ' H2 m2 (x.trans y) r
  | .rt _ _, h => fun v H2 m2 y r q => h v H2 m2 (x.trans y) r q
  | .bk _ _, h => fun σ' H2 m2 y r => h σ' H2 m2 (x.trans y) r
  | .ct _ _, h => fun σ' H2 m2 y r => h σ' H2 m2 (x.trans y) r
  | .exc _ _ _ _, h => fun d σ' H2 m2 y r q => h d σ' H2 m2 (x.trans y) r q
  | .bad, h => h
theorem OutS.st {α β : Type} {rep : Hp → List Addr → α → β → Prop} {P : β → Hp → Prop} {f : α → LH → RS} {L0 : LH} (R0 : Rel g σ H env L0 m) : ∀ {x : R α}, OutS g W D H m (x.st env f) →
    (∀ a L1 v H1 m1, Ext H m H1 m1 → Rel g σ H1 env L1 m1 → rep H1 m1 a v → OutS g W D H1 m1 (f a L1) → P v H1) → Out g rep W σ H m P x
  | .ok a L, h, k => fun v H1 m1 y r q => k a L v H1 m1 y (R0.ext y r) q (OutS.ext y h)
  | .exc c w L, h, k => fun d H1 m1 y r q => h d σ H1 m1 y (R0.ext y r) q
  | .bad, h, k => h
/-- a test in a statement -/
theorem OutS.stT {P : Bool → Hp → Prop} {fa : Env → LH → R Ev.D} {k : Ev.D → LH → RS} {L : LH} (R0 : Rel g σ H env L m) (h : OutS g W D H m ((fa env L).st env k)) (h0 : ∀ x L, truth x = none → k x L = .bad)
    (hk : ∀ x b L1 H1 m1, Ext H m H1 m1 → truth x = some b → Rel g σ H1 env L1 m1 → OutS g W D H1 m1 (k x L1) → P b H1) : Out g (fun _ _ d b => d = b) W σ H m P (truR fa env L) := by
  simp only [truR]
  cases e : fa env L with
  | ok x L1 =>
    rw [e] at h; simp only [Ev.R.bind_ok, Ev.R.st_ok] at h ⊢
    cases e2 : truth x with
    | none => rw [h0 x L1 e2] at h; exact h.elim
    | some b =>
      intro b' H1 m1 x1 r1 q
      subst q
      exact hk x _ L1 H1 m1 x1 e2 (R0.ext x1 r1) (OutS.ext x1 h)
  | exc c w L1 => rw [e] at h; exact fun d H1 m1 y r q => h d σ H1 m1 y (R0.ext y r) q
  | bad => rw [e] at h; exact h
/-- another end, where what follows is known -/
theorem OutS.mono {D' : Ends} (h1 : ∀ σ H, D.nx σ H → D'.nx σ H) (h2 : ∀ v H, D.rt v H → D'.rt v H) (h3 : ∀ σ H, D.bk σ H → D'.bk σ H) (h4 : ∀ σ H, D.ct σ H → D'.ct σ H) : ∀ {r : RS}, OutS g W D H m r → OutS g W D' H m r
  | .nx _ _, h => fun σ' H2 m2 y r => h1 _ _ (h σ' H2 m2 y r)
  | .rt _ _, h => fun v H2 m2 y r q => h2 _ _ (h v H2 m2 y r q)
  | .bk _ _, h => fun σ' H2 m2 y r => h3 _ _ (h σ' H2 m2 y r)
  | .ct _ _, h => fun σ' H2 m2 y r => h4 _ _ (h σ' H2 m2 y r)
  | .exc _ _ _ _, h => h
  | .bad, h => h
end
theorem PS.weak {X : Cx} {s : Stmt} {t t' : TS} (h : PS X s t) (w : ∀ D σ H, t' D σ H → t D σ H) : PS X s t' := ⟨fun pins s σ H D I k => h.run pins s σ H D I (w D σ H k)⟩
theorem PSs.weak {X : Cx} {s : List Stmt} {t t' : TS} (h : PSs X s t) (w : ∀ D σ H, t' D σ H → t D σ H) : PSs X s t' := ⟨fun pins s σ H D I k => h.run pins s σ H D I (w D σ H k)⟩
section
variable {X : Cx} {g : G} {W : WX} {a b c e : Expr} {fa fb fc fe : Env → LH → R D} {pos p : Pos} {es : List Expr} {fs : Env → LH → R (List D)} {st : Stmt} {rest body : List Stmt} {f1 f2 fbody : Env → LH → RS}
theorem ss_nil : PSs X [] (liftS g W fun env L => .nx env L) := PSs.weak pss_nil fun D σ H ⟨env, L, m, R, h⟩ => h σ H m Ext.refl R
theorem ss_cons (h1 : PS X st (liftS g W f1)) (h2 : PSs X rest (liftS g W f2)) : PSs X (st :: rest) (liftS g W fun env L => (f1 env L).bind f2) := by
  refine PSs.weak (pss_cons h1 h2) fun D σ H ⟨env, L, m, R, h⟩ => ⟨env, L, m, R, ?_⟩
  dsimp only at h
  cases e : f1 env L with
  | nx env1 L1 => rw [e] at h; exact fun σ' H1 m1 x r => ⟨env1, L1, m1, r, OutS.ext x h⟩
  | rt d L1 => rw [e] at h; exact h
  | bk env1 L1 => rw [e] at h; exact h
  | ct env1 L1 => rw [e] at h; exact h
  | exc c w env1 L1 => rw [e] at h; exact h
  | bad => rw [e] at h; exact h
theorem ss_pass : PS X (.Pass pos) (liftS g W fun env L => .nx env L) := PS.weak ps_pass fun D σ H ⟨env, L, m, R, h⟩ => h σ H m Ext.refl R
theorem ss_brk : PS X (.Break pos) (liftS g W fun env L => .bk env L) := PS.weak ps_break fun D σ H ⟨env, L, m, R, h⟩ => h σ H m Ext.refl R
theorem ss_cont : PS X (.Continue pos) (liftS g W fun env L => .ct env L) := PS.weak ps_continue fun D σ H ⟨env, L, m, R, h⟩ => h σ H m Ext.refl R
theorem ss_retN : PS X (.Return none pos) (liftS g W fun _ L => .rt .non L) := PS.weak ps_retN fun D σ H ⟨env, L, m, R, h⟩ => h .non H m Ext.refl R.h .non
theorem ss_ret (he : PE X e (liftE g W fe)) : PS X (.Return (some e) pos) (liftS g W fun env L => (fe env L).st env fun x L => .rt x L) :=
  PS.weak (ps_ret he) fun D σ H ⟨env, L, m, R, h⟩ => ⟨env, L, m, R, h.st R fun x L1 v H1 m1 x1 r1 q1 h1 => h1 v H1 m1 Ext.refl r1.h q1⟩
theorem ss_expr (he : PE X e (liftE g W fe)) (hs : swapsWith e none pos.line X.env = pure false) : PS X (.Expr e pos) (liftS g W fun env L => (fe env L).st env fun _ L => .nx env L) :=
  PS.weak (ps_expr he hs) fun D σ H ⟨env, L, m, R, h⟩ => ⟨env, L, m, R, h.st R fun x L1 v H1 m1 x1 r1 q1 h1 => h1 σ H1 m1 Ext.refl r1⟩
theorem ss_if (hc : PT X c (liftT g W (truR fc))) {xs ys : List Stmt} (ha : PSs X xs (liftS g W f1)) (hb : PSs X ys (liftS g W f2)) : PS X (.If c xs ys pos) (liftS g W fun env L => (fc env L).st env fun x L => match truth x with
    | some true => f1 env L
    | some false => f2 env L
    | none => .bad) := by
  refine PS.weak (ps_if hc ha hb) fun D σ H ⟨env, L, m, R, h⟩ => ⟨env, L, m, R, OutS.stT R h (fun x L e => by simp only [e]) fun x b L1 H1 m1 x1 e r1 h1 => ?_⟩
  simp only [e] at h1
  cases b with
  | true => exact ⟨env, L1, m1, r1, h1⟩
  | false => exact ⟨env, L1, m1, r1, h1⟩
/-- a target's value, told -/
def setF (put : D → Env → Option Env) (fe : Env → LH → R D) : Env → LH → RS := fun env L => (fe env L).st env fun x L => match put x env with
    | some env => .nx env L
    | none => .bad
theorem asg_core {gt : TG} {put : Ev.D → Env → Option Env} {ts : List Nat} (ht : TgK g.K gt put ts) {D : Ends} {σ : L2.St} {H : Hp} (h : liftS g W (setF put fe) D σ H) : tAsg (liftE g W fe) gt D σ H := by
  obtain ⟨env, L, m, R, h⟩ := h
  refine ⟨env, L, m, R, h.st R fun x L1 v H1 m1 x1 r1 q1 h1 => ?_⟩
  cases e : put x env with
  | none => rw [e] at h1; exact h1.elim
  | some env1 =>
    rw [e] at h1
    exact ht g rfl σ H1 env env1 L1 m1 x v _ r1 q1 e fun σ' r' _ => h1 σ' H1 m1 Ext.refl r'
theorem ss_asg {tg : Expr} {gt : TG} {put : Ev.D → Env → Option Env} {ts : List Nat} (ht : TgK g.K gt put ts) (he : PE X e (liftE g W fe)) (hg : PG X tg gt) (hs : swapsWithSole [tg] e pos.line X.env = pure false) (hw : swappedStores [tg] e X.env = pure none) (ha : (assignEach [tg] X.env).map (·.2) = [assign tg X.env]) :
    PS X (.Assign [tg] e pos) (liftS g W (setF put fe)) := PS.weak (ps_asg he hg hs hw ha) fun D σ H h => asg_core ht h
/-! ### for, while -/
theorem forGo_cons {put : Ev.D → Env → Option Env} {x : Ev.D} {r : List Ev.D} {env : Env} {L : LH} : forGo put fbody (x :: r) env L = match put x env with
    | none => .bad
    | some env1 => match fbody env1 L with
      | .nx e l => forGo put fbody r e l
      | .ct e l => forGo put fbody r e l
      | .bk e l => .nx e l
      | .rt d l => .rt d l
      | .exc c w e l => .exc c w e l
      | .bad => .bad := rfl
def forF (put : D → Env → Option Env) (fi : Env → LH → R (List D)) (fbody : Env → LH → RS) : Env → LH → RS := fun env L => (fi env L).st env fun items L => forGo put fbody items env L
theorem for_core {gt : TG} {put : Ev.D → Env → Option Env} {ts : List Nat} {fi : Env → LH → R (List Ev.D)} (ht : TgK g.K gt put ts) {D : Ends} {σ : L2.St} {H : Hp} (h : liftS g W (forF put fi fbody) D σ H) : tFor (liftI g W fi) gt (liftS g W fbody) D σ H := by
  obtain ⟨env, L, m, R, h⟩ := h
  refine ⟨env, L, m, R, h.st R fun items L1 J H1 m1 x1 r1 w1 h1 => ?_⟩
  refine ⟨fun i k σ H => k = items.length - i ∧ i ≤ items.length ∧ ∃ env L m, Rel g σ H env L m ∧ WalkD g H m J items ∧ OutS g W D H m (forGo put fbody (items.drop i) env L), ⟨items.length, by simp, Nat.zero_le _, env, L1, m1, r1, w1, by simpa using h1⟩, ?_⟩
  rintro i k σ H ⟨rfl, hi, env, L, m, R2, w2, o⟩
  obtain ⟨go, stop⟩ := w2.goes
  by_cases hlt : i < items.length
  · refine .inr ⟨go i hlt, fun σ' H' => i + 1 ≤ items.length ∧ ∃ env L m, Rel g σ' H' env L m ∧ WalkD g H' m J items ∧ OutS g W D H' m (forGo put fbody (items.drop (i + 1)) env L), fun σ' H' q => ⟨items.length - (i + 1), by omega, rfl, q⟩, fun x H' y => ?_⟩
    obtain ⟨y1, y2, dd, y3, y4⟩ := w2.yields R2.h hlt y
    have edrop : items.drop i = dd :: items.drop (i + 1) := by
      rw [List.drop_eq_getElem_cons hlt]
      have := List.getElem?_eq_getElem hlt
      rw [this] at y3; rw [Option.some.inj y3]
    rw [edrop, forGo_cons] at o
    cases ep : put dd env with
    | none => rw [ep] at o; exact o.elim
    | some env1 =>
      rw [ep] at o
      simp only at o
      refine ht g rfl σ H' env env1 L m dd x _ (R2.ext y1 y2) y4 ep fun σ2 R4 hw => ?_
      refine ⟨env1, L, m, R4, ?_⟩
      have w3 := w2.ext y1
      have o := OutS.ext y1 o
      cases eb : fbody env1 L with
      | nx e l => rw [eb] at o; exact fun σ' H2 m2 x r => ⟨hlt, e, l, m2, r, w3.ext x, OutS.ext x o⟩
      | ct e l => rw [eb] at o; exact fun σ' H2 m2 x r => ⟨hlt, e, l, m2, r, w3.ext x, OutS.ext x o⟩
      | bk e l => rw [eb] at o; exact fun σ' H2 m2 x r => o σ' H2 m2 x r
      | rt d l => rw [eb] at o; exact fun v H2 m2 x r q => o v H2 m2 x r q
      | exc c w e l => rw [eb] at o; exact fun d σ' H2 m2 x r q => o d σ' H2 m2 x r q
      | bad => rw [eb] at o; exact o.elim
  · have ei : i = items.length := by omega
    subst ei
    rw [List.drop_length] at o
    exact .inl ⟨stop, o σ H m Ext.refl R2⟩
theorem ss_for {tg iter : Expr} {gt : TG} {put : Ev.D → Env → Option Env} {ts : List Nat} {fi : Env → LH → R (List Ev.D)} (ht : TgK g.K gt put ts) (hp : PassesOwn (model X.prog X.w) X.A X.env X.xe) (hc : X.calm = true) (hi : PI X tg iter (liftI g W fi)) (hg : PG X tg gt) (hb : PSs X body (liftS g W fbody))
    (hs : ∀ x, foldedSetIterable iter X.env x = pure x) : PS X (.For tg iter body [] pos) (liftS g W (forF put fi fbody)) := PS.weak (ps_for hp hc hi hg hb hs) fun D σ H h => for_core ht h
theorem ss_while {n : Env → LH → Nat} (hp : PassesOwn (model X.prog X.w) X.A X.env X.xe) (hc : PT X c (liftT g W (truR fc))) (hb : PSs X body (liftS g W fbody)) : PS X (.While c body [] pos) (liftS g W fun env L => whGo fc fbody (n env L) env L) := by
  refine PS.weak (ps_while hp hc hb) fun D σ H ⟨env, L, m, R, h⟩ => ?_
  refine ⟨fun k σ H => ∃ env L m, Rel g σ H env L m ∧ OutS g W D H m (whGo fc fbody k env L), ⟨n env L, env, L, m, R, h⟩, ?_⟩
  rintro k σ H ⟨env, L, m, R, h⟩
  cases k with
  | zero => exact h.elim
  | succ k =>
    simp only [whGo] at h
    refine ⟨env, L, m, R, OutS.stT R h (fun x L e => by simp only [e]) fun x b L1 H1 m1 x1 e r1 h1 => ?_⟩
    simp only [e] at h1
    cases b with
    | false => exact h1 σ H1 m1 Ext.refl r1
    | true =>
      refine ⟨fun σ' H' => ∃ env L m, Rel g σ' H' env L m ∧ OutS g W D H' m (whGo fc fbody k env L), fun σ' H' q => ⟨k, Nat.lt_succ_self k, q⟩, env, L1, m1, r1, ?_⟩
      simp only at h1
      cases eb : fbody env L1 with
      | nx e l => rw [eb] at h1; exact fun σ' H2 m2 x r => ⟨e, l, m2, r, OutS.ext x h1⟩
      | ct e l => rw [eb] at h1; exact fun σ' H2 m2 x r => ⟨e, l, m2, r, OutS.ext x h1⟩
      | bk e l => rw [eb] at h1; exact fun σ' H2 m2 x r => h1 σ' H2 m2 x r
      | rt d l => rw [eb] at h1; exact fun v H2 m2 x r q => h1 v H2 m2 x r q
      | exc c w e l => rw [eb] at h1; exact fun d σ' H2 m2 x r q => h1 d σ' H2 m2 x r q
      | bad => rw [eb] at h1; exact h1.elim
end
end Ev
end

section
set_option Elab.async false
set_option linter.all false
set_option maxRecDepth 100000
set_option autoImplicit false
set_option maxHeartbeats 1000000
/-! walks over a list that is changed elsewhere -/
namespace Ev
open PySem PySem.Spec PyProof.Rows L2
abbrev liftV (g : G) (W : WX) (f : Env → LH → R Nat) : TI := liftG g (fun H m l J => ∃ a, m[l]? = some a ∧ J = Itl g.K a) W f
def locF (fa : Env → LH → R D) : Env → LH → R Nat := fun env L => (fa env L).bind fun x L => opt (locOf x) L
theorem locOf_ok {x : D} {l : Nat} (h : locOf x = some l) : x = .loc l := by
  cases x <;> simp [locOf] at h
  rw [h]
section
variable {g : G} {W : WX} {H : Hp} {m : List Addr} {L : LH} {l : Nat} {a : Addr} {ds : List D}
theorem live_at (R : RelH g H L m) (ha : m[l]? = some a) (hl : L[l]? = some (.lst ds)) : ∃ xs, H a = some (.lst xs) ∧ xs.length ≤ sizeLine ∧ Reps g H m ds xs := by
  obtain ⟨b, h1, h2⟩ := R.objs l _ hl
  rw [ha] at h1
  cases h1
  exact h2
end
section
variable {X : Cx} {g : G} {W : WX} {e tg : Expr} {fa fc fe : Env → LH → R D} {σ : L2.St} {H : Hp} {Q : VK} {put : D → Env → Option Env} {vs ts : List Nat} {gt : TG}
def lclF (mu : Bool) (put : D → Env → Option Env) (vs : List Nat) (fi : Env → LH → R Nat) (fc fe : Env → LH → R D) : Env → LH → R D := fun env L => (fi env L).bind fun l L =>
  if lenL L l < size16 then ((lcLive put fc fe (wipeE env vs) l (lenL L l + 1) 0 L).nox).bind fun ys L => lcEnd mu ys L else .bad
theorem si_live (hK : X.K = g.K) (ha : PE X e (liftE g W fa)) {σ : L2.St} {H : Hp} {Qi : It → Hp → Prop} : True := trivial
theorem pi_live {fi : TI} (hK : X.K = g.K) (ha : PE X e (liftE g W fa)) (hfi : ∀ σ H (Q : It → Hp → Prop), fi σ H Q → liftE g W fa σ H (fun x H1 => ∃ a, x = .ref a ∧ (∃ xs, SqL X.K H1 a xs) ∧ Q (Itl X.K a) H1)) : PI X tg e fi :=
  PI.weak (pi_list ha) fun σ H Q h => hfi σ H Q h
/-- what the list is walked with, that it is a list -/
def liftV' (g : G) (W : WX) (fa : Env → LH → R D) : TI := fun σ H Q => liftE g W fa σ H fun x H1 => ∃ a, x = .ref a ∧ (∃ xs, SqL g.K H1 a xs) ∧ Q (Itl g.K a) H1
theorem si_loc (hK : X.K = g.K) (ha : PE X e (liftE g W fa)) : PI X tg e (liftV' g W fa) := pi_live hK ha fun σ H Q h => by rw [hK]; exact h
theorem lcl_core {mu : Bool} (hpin : g.pin = none ∧ g.amb = none) (ht : TgK g.K gt put ts) (hts : ∀ v ∈ ts, v ∈ vs) (h : liftE g W (lclF mu put vs (locF fa) fc fe) σ H Q) : tLc (liftV' g W fa) gt (anyT g fc) (anyE g fe) vs σ H Q := by
  obtain ⟨env, L, m, R, h⟩ := h
  unfold lclF locF at h
  refine ⟨env, L, m, R, ?_⟩
  cases efa : fa env L with
  | exc c w L1 => rw [efa] at h; exact h
  | bad => rw [efa] at h; exact h.elim
  | ok x L1 =>
    rw [efa] at h
    simp only [Ev.R.bind_ok] at h
    cases elo : locOf x with
    | none => rw [elo] at h; exact h.elim
    | some l =>
      rw [elo] at h
      simp only [opt_some, Ev.R.bind_ok] at h
      have ex := locOf_ok elo
      subst ex
      intro v H1 m1 x1 r1 w1
      cases w1 with
      | @loc _ a hma =>
      have R1 := R.ext x1 r1
      have h1 := Out.ext x1 h
      by_cases hz : lenL L1 l < size16
      case neg => rw [if_neg hz] at h1; exact h1.elim
      rw [if_pos hz] at h1
      cases er : lcLive put fc fe (wipeE env vs) l (lenL L1 l + 1) 0 L1 with
      | exc c w L' => rw [er] at h1; exact h1.elim
      | bad => rw [er] at h1; exact h1.elim
      | ok ys Lf =>
        rw [er] at h1
        simp only [Ev.R.nox_ok, Ev.R.bind_ok] at h1
        have isl : ∃ ds, L1[l]? = some (.lst ds) := by
          unfold lcLive at er
          split at er
          · rename_i ds e; exact ⟨ds, e⟩
          · cases er
        obtain ⟨ds1, hl1⟩ := isl
        obtain ⟨xs1, s1, _, _⟩ := live_at r1 hma hl1
        refine ⟨a, rfl, ⟨xs1, SqL.of s1⟩, fun d hd => ?_⟩
        let g' := g.more d
        have hdm : d ∈ g'.hid := List.mem_cons_self
        have hda : d ≠ a := fun z => by rw [z, s1] at hd; cases hd
        refine ⟨fun i k H => k ≤ lenL L1 l + 1 ∧ i + k = lenL L1 l + 1 ∧ ∃ L m acc ys' accd, Ext H1 m1 H m ∧ Rel g' (L2.wipe σ vs) H (wipeE env vs) L m ∧ H d = some (.lst acc) ∧ Reps g' H m accd acc ∧ acc.length ≤ i ∧
          lcLive put fc fe (wipeE env vs) l k i L = .ok ys' Lf ∧ accd ++ ys' = ys, ⟨lenL L1 l + 1, Nat.le_refl _, by omega, L1, m1, [], ys, [], ext_new hd, (R1.wipe hpin vs).hide hpin hd, upd_same, .nil, Nat.le_refl _, er, by simp⟩, ?_⟩
        rintro i k H ⟨hk, hik, L, m, acc, ys', accd, x2, R2, hD, qa, la, eg, ey⟩
        have hma2 : m[l]? = some a := x2.mget hma
        cases k with
        | zero => cases eg
        | succ k =>
          unfold lcLive at eg
          split at eg
          case h_2 => cases eg
          rename_i ds hl
          obtain ⟨xs, s2, z2, q2⟩ := live_at R2.h hma2 hl
          have la' : acc.length < sizeLine := by
            rw [← size16_eq]
            omega
          cases hi : ds[i]? with
          | none =>
            rw [hi] at eg
            simp only at eg
            cases eg
            rw [List.append_nil] at ey
            subst ey
            have hstop : (Itl g.K a).stop i H := ⟨xs, SqL.of s2, by rw [← q2.len]; exact List.getElem?_eq_none_iff.mp hi⟩
            cases mu with
            | false => exact .inl ⟨hstop, h1 _ H m x2 R2.h.show_ (.lst hD ⟨(R2.h.hid d hdm).1, (r1.fresh hd).2⟩ (Nat.le_of_lt la') (Reps.show_ _ _ qa))⟩
            | true =>
              refine .inl ⟨hstop, h1 _ H (m ++ [d]) ?_ (R2.h.thaw (r1.fresh hd).2 hD (Nat.le_of_lt la') qa) (.loc (by rw [← R2.h.len]; simp))⟩
              obtain ⟨e, em, en⟩ := x2.ex
              refine ⟨⟨e ++ [d], by rw [em, List.append_assoc], fun p hp o ho => ?_⟩, x2.keep, x2.tups, x2.frzs, x2.dom⟩
              rcases List.mem_append.mp hp with q | q
              · exact en p q o ho
              · rw [List.mem_singleton.mp q, hd] at ho; cases ho
          | some dd =>
            rw [hi] at eg
            simp only at eg
            obtain ⟨xv, hx, rx⟩ := q2.get hi
            refine .inr ⟨⟨xs, xv, SqL.of s2, hx⟩, _, fun H' p => ⟨k, Nat.lt_succ_self k, p⟩, fun x H' y => ?_⟩
            obtain ⟨rfl, y⟩ := y
            have y2 := y xs (SqL.of s2)
            rw [hx] at y2
            cases y2
            cases ep : put dd (wipeE env vs) with
            | none => rw [ep] at eg; cases eg
            | some env1 =>
              rw [ep] at eg
              simp only at eg
              refine ht g' rfl _ H' _ env1 L m dd _ _ R2 rx ep fun σ2 R4 hw => ?_
              have hw' : L2.wipe σ2 vs = L2.wipe σ vs := by
                rw [wipe_more hts hw, wipe_wipe]
              have kD : ∀ {H2 : Hp} {m2 : List Addr}, Ext H' m H2 m2 → H2 d = some (.lst acc) := fun {H2 m2} x => x.keep d _ hD (R2.h.hid d hdm).1 (fun ps => by simp)
              refine ⟨hw', g'.hid, env1, L, m, R4, ?_⟩
              cases ec : fc env1 L with
              | exc c w L' => rw [ec] at eg; cases eg
              | bad => rw [ec] at eg; cases eg
              | ok b La =>
                rw [ec] at eg
                simp only [Ev.R.bind_ok] at eg
                cases et : truth b with
                | none => rw [et] at eg; cases eg
                | some bb =>
                  rw [et] at eg
                  simp only [truR, ec, Ev.R.bind_ok, et, opt_some]
                  intro b' H3 m3 x3 r3 eb
                  subst eb
                  have r3' : RelH g' H3 La m3 := r3
                  cases bb with
                  | false =>
                    simp only at eg
                    rw [if_neg (by simp)]
                    exact ⟨by omega, by omega, La, m3, acc, ys', accd, x2.trans x3, R2.ext x3 r3', kD x3, Reps.ext x3 _ _ qa, by omega, eg, ey⟩
                  | true =>
                    simp only at eg
                    rw [if_pos rfl]
                    refine ⟨g'.hid, env1, La, m3, R4.ext x3 r3', ?_⟩
                    cases ee : fe env1 La with
                    | exc c w L' => rw [ee] at eg; cases eg
                    | bad => rw [ee] at eg; cases eg
                    | ok yv Lb =>
                      rw [ee] at eg
                      simp only [Ev.R.bind_ok] at eg
                      cases e2 : lcLive put fc fe (wipeE env vs) l k (i + 1) Lb with
                      | exc c w L' => rw [e2] at eg; cases eg
                      | bad => rw [e2] at eg; cases eg
                      | ok ys2 Lc =>
                        rw [e2] at eg
                        simp only [Ev.R.bind_ok] at eg
                        cases eg
                        intro v H4 m4 x4 r4 q4
                        have r4' : RelH g' H4 Lb m4 := r4
                        have x24 : Ext H' m H4 m4 := x3.trans x4
                        have hD4 : H4 d = some (.lst acc) := kD x24
                        refine ⟨acc, hD4, la', by omega, by omega, Lb, m4, acc ++ [v], ys2, accd ++ [yv], (x2.trans x24).fill hd, (R2.ext x24 r4').fill hpin hdm hD4, upd_same, ?_, by simp; omega, e2, by rw [List.append_assoc]; exact ey⟩
                        exact Reps.fill hdm hD4 _ _ ((Reps.ext x24 _ _ qa).append (.cons q4 .nil))
def forlF (put : D → Env → Option Env) (fi : Env → LH → R Nat) (fbody : Env → LH → RS) : Env → LH → RS := fun env L => (fi env L).st env fun l L => forLive put fbody l (lenL L l + 1) 0 env L
theorem forl_core {fbody : Env → LH → RS} (ht : TgK g.K gt put ts) {D : Ends} {σ : L2.St} {H : Hp} (h : liftS g W (forlF put (locF fa) fbody) D σ H) : tFor (liftV' g W fa) gt (liftS g W fbody) D σ H := by
  obtain ⟨env, L, m, R, h⟩ := h
  unfold forlF locF at h
  refine ⟨env, L, m, R, ?_⟩
  cases efa : fa env L with
  | exc c w L1 => rw [efa] at h; exact fun d H1 m1 x r q => h d σ H1 m1 x (R.ext x r) q
  | bad => rw [efa] at h; exact h.elim
  | ok x L1 =>
    rw [efa] at h
    simp only [Ev.R.bind_ok] at h
    cases elo : locOf x with
    | none => rw [elo] at h; exact h.elim
    | some l =>
      rw [elo] at h
      simp only [opt_some, Ev.R.st_ok] at h
      have ex := locOf_ok elo
      subst ex
      intro v H1 m1 x1 r1 w1
      cases w1 with
      | @loc _ a hma =>
      have R1 := R.ext x1 r1
      have h1 := OutS.ext x1 h
      have isl : ∃ ds, L1[l]? = some (.lst ds) := by
        unfold forLive at h1
        split at h1
        · rename_i ds e; exact ⟨ds, e⟩
        · exact h1.elim
      obtain ⟨ds1, hl1⟩ := isl
      obtain ⟨xs1, s1, _, _⟩ := live_at r1 hma hl1
      refine ⟨a, rfl, ⟨xs1, SqL.of s1⟩, fun i k σ H => ∃ env L m, m[l]? = some a ∧ Rel g σ H env L m ∧ OutS g W D H m (forLive put fbody l k i env L), ⟨_, env, L1, m1, hma, R1, h1⟩, ?_⟩
      rintro i k σ H ⟨env, L, m, hm2, R2, o⟩
      cases k with
      | zero => exact o.elim
      | succ k =>
        unfold forLive at o
        split at o
        case h_2 => exact o.elim
        rename_i ds hl
        obtain ⟨xs, s2, z2, q2⟩ := live_at R2.h hm2 hl
        cases hi : ds[i]? with
        | none =>
          rw [hi] at o
          exact .inl ⟨⟨xs, SqL.of s2, by rw [← q2.len]; exact List.getElem?_eq_none_iff.mp hi⟩, o σ H m Ext.refl R2⟩
        | some dd =>
          rw [hi] at o
          simp only at o
          obtain ⟨xv, hx, rx⟩ := q2.get hi
          refine .inr ⟨⟨xs, xv, SqL.of s2, hx⟩, fun σ' H' => ∃ env L m, m[l]? = some a ∧ Rel g σ' H' env L m ∧ OutS g W D H' m (forLive put fbody l k (i + 1) env L), fun σ' H' q => ⟨k, Nat.lt_succ_self k, q⟩, fun x H' y => ?_⟩
          obtain ⟨rfl, y⟩ := y
          have y2 := y xs (SqL.of s2)
          rw [hx] at y2
          cases y2
          cases ep : put dd env with
          | none => rw [ep] at o; exact o.elim
          | some env1 =>
            rw [ep] at o
            simp only at o
            refine ht g rfl σ H' env env1 L m dd _ _ R2 rx ep fun σ2 R4 hw => ⟨env1, L, m, R4, ?_⟩
            cases eb : fbody env1 L with
            | nx e k => rw [eb] at o; exact fun σ' H2 m2 x r => ⟨e, k, m2, x.mget hm2, r, OutS.ext x o⟩
            | ct e k => rw [eb] at o; exact fun σ' H2 m2 x r => ⟨e, k, m2, x.mget hm2, r, OutS.ext x o⟩
            | bk e k => rw [eb] at o; exact fun σ' H2 m2 x r => o σ' H2 m2 x r
            | rt d k => rw [eb] at o; exact fun v H2 m2 x r q => o v H2 m2 x r q
            | exc c w e k => rw [eb] at o; exact fun d σ' H2 m2 x r q => o d σ' H2 m2 x r q
            | bad => rw [eb] at o; exact o.elim
end
end Ev
end

section
set_option Elab.async false
set_option linter.all false
set_option maxRecDepth 100000
set_option autoImplicit false
set_option maxHeartbeats 1000000
/-! assignments, append -/
namespace Ev
open PySem PySem.Spec PyProof.Rows L2
def baseOk : Expr → Bool
  | .Call (.Name id _) [] [] _ => id != "super"
  | _ => true
theorem base_ok {o : Expr} {f : Str} {env : PySem.Env} {w : Sem Value} (h : baseOk o = true) : attributeBase o f env w = w := by
  unfold attributeBase
  split
  · rename_i id p pos
    simp only [baseOk] at h
    rw [h]; rfl
  · rfl
section
variable {X : Cx} {g : G} {W : WX} {a b c e o : Expr} {fa fb fc fe fo : Env → LH → R D} {pos p apos cpos : Pos} {es : List Expr} {fs : Env → LH → R (List D)}
theorem ss_set {i : Nat} {x : Str} {pos' : Pos} (hN : X.N.Nodup) (hi : X.N[i]? = some x) (hx : Loc X.env.scope x) (he : PE X e (liftE g W fe)) (hs : swapsWith e (some (.Name x pos')) pos.line X.env = pure false) (hf : X.fn x = true ∨ X.env.scope.names.lookup x = some .local) :
    PS X (.Assign [.Name x pos'] e pos) (liftS g W (setF (Tg.nm i).put fe)) := PS.weak (ps_set hN hi hx he hs hf) fun D σ H h => asg_core (tgR_ok g.K (.nm i)) h
/-! append -/
theorem app_core {te : TE} {H : Hp} {m : List Addr} {L : LH} {σ : L2.St} {x y : D} {v u : V} {Q : VK} {l : Nat} (R : RelH g H L m) (rx : Rep g H m x v) (ry : Rep g H m y u) (hl : ∀ L', lstAt L' x = some l ∨ lstAt L' x = none) (hx : x = .loc l)
    (h : Out g (Rep g) W σ H m Q (match L[l]? with
      | some (.lst xs) => if xs.length < size16 then .ok .non (L.set l (.lst (xs ++ [y]))) else .bad
      | _ => .bad)) : rAppend v [u] H Q := by
  subst hx
  cases rx with
  | @loc l a h1 =>
    obtain ⟨ob, e1, ro⟩ := R.at_ h1
    rw [e1] at h
    cases ob with
    | ins c fs => exact h.elim
    | lst ds =>
      obtain ⟨xs, h2, z2, q2⟩ := ro
      simp only at h
      by_cases hz : ds.length < size16
      · rw [if_pos hz] at h
        have hz' : xs.length < sizeLine := by rw [← q2.len, ← size16_eq]; exact hz
        refine ⟨a, xs, u, rfl, rfl, h2, hz', h .non _ m (ext_write (l := l) h2 (List.mem_of_getElem? h1)) (R.write h1 h2 ?_ (q2.append (.cons ry .nil))) .non⟩
        rw [List.length_append]; exact hz'
      · rw [if_neg hz] at h; exact h.elim
theorem se_app (hK : X.K = g.K) (ho : PE X o (liftE g W fo)) (ha : PE X a (liftE g W fa)) (hb : baseOk o = true) (hline : (apos.endLine == cpos.line) = true) (hn : notStar a = true) :
    PE X (.Call (.Attribute o "append" apos) [a] [] cpos) (liftE g W fun env L => (fo env L).bind fun x L => match lstAt L x with
    | none => .bad
    | some l => (fa env L).bind fun y L => match L[l]? with
      | some (.lst xs) => if xs.length < size16 then .ok .non (L.set l (.lst (xs ++ [y]))) else .bad
      | _ => .bad) := by
  refine PE.weak (pe_bm PySem.F.plainAttrs_list PySem.F.slot_list_append PySem.F.type_list_append mt_append ho (pa_cons ha pa_nil (starEach_ns hn)) (base_ok hb) (by rw [starEach_one hn]; rfl) hline (starEach_ns hn) rfl)
    fun σ H Q ⟨env, L, m, R, h⟩ => ⟨env, L, m, R, h.bind fun x L1 v H1 m1 x1 r1 q1 h1 => ?_⟩
  cases el : lstAt L1 x with
  | none => rw [el] at h1; exact h1.elim
  | some l =>
    rw [el] at h1
    have ex : x = .loc l := by
      cases x <;> simp [lstAt] at el
      split at el
      · simp only [Option.some.injEq] at el; rw [el]
      · cases el
    subst ex
    have ty : tyV X.K "list" v H1 := by
      cases q1 with
      | loc hm =>
        obtain ⟨ob, e1, ro⟩ := r1.at_ hm
        cases ob with
        | lst ds => obtain ⟨xs, h2, _, _⟩ := ro; exact .inl ⟨rfl, _, SqL.of h2⟩
        | ins c fs => simp [lstAt, e1] at el
    refine ⟨ty, env, L1, m1, R.ext x1 r1, h1.bind fun y L2 u H2 m2 x2 r2 q2 h2 => ?_⟩
    exact app_core (te := tVar 0) r2 (Rep.ext x2 _ _ q1) q2 (fun _ => by
      cases hh : lstAt _ (D.loc l) with
      | none => exact .inr rfl
      | some k => refine .inl ?_; simp only [lstAt] at hh; split at hh <;> simp_all) rfl h2
/-! o[i] = v -/
theorem ss_setI {i : Expr} {fi fv : Env → LH → R D} {v : Expr} {spos : Pos} (hv : PE X v (liftE g W fv)) (ho : PE X o (liftE g W fo)) (hi : PE X i (liftE g W fi)) (hs : swapsWithSole [.Subscript o i spos] v pos.line X.env = pure false) (hw : swappedStores [.Subscript o i spos] v X.env = pure none)
    (ha : (assignEach [.Subscript o i spos] X.env).map (·.2) = [assign (.Subscript o i spos) X.env])
    (hp : ∀ v, assign (.Subscript o i spos) X.env v = (do
      let ov ← holding [v] (eval o X.env)
      let iv ← holding [v, ov] (eval i X.env)
      standAt spos
      holding [v, ov, iv] (setItem ov iv v)
      release [v, ov, iv] [])) :
    PS X (.Assign [.Subscript o i spos] v pos) (liftS g W fun env L => (fv env L).st env fun z L => (fo env L).st env fun x L => (fi env L).st env fun y L => match setIx L x y z with
    | some L => .nx env L
    | none => .bad) := by
  refine PS.weak (ps_asg hv (pg_sub ho hi set_list hp) hs hw ha) fun D σ H ⟨env, L, m, R, h⟩ => ⟨env, L, m, R, h.st R fun z L1 vz H1 m1 x1 r1 q1 h1 => ?_⟩
  refine ⟨env, L1, m1, r1, h1.st r1 fun x L2 vx H2 m2 x2 r2 q2 h2 => ?_⟩
  refine ⟨env, L2, m2, r2, h2.st r2 fun y L3 vy H3 m3 x3 r3 q3 h3 => ?_⟩
  have q2' := Rep.ext x3 _ _ q2
  have q1' := Rep.ext (x2.trans x3) _ _ q1
  cases q2' with
  | @loc l ad hm =>
    cases q3 with
    | int k =>
      obtain ⟨ob, e1, ro⟩ := r3.h.at_ hm
      simp only [setIx, e1] at h3
      cases ob with
      | ins c fs => exact h3.elim
      | lst ds =>
        obtain ⟨xs, h4, z4, q4⟩ := ro
        simp only at h3
        cases ei : ixN ds.length k with
        | none => rw [ei] at h3; exact h3.elim
        | some j =>
          rw [ei] at h3
          have x5 : Ext H3 m3 (upd H3 ad (.lst (xs.set j vz))) m3 := ext_write (l := l) h4 (List.mem_of_getElem? hm)
          refine ⟨ad, xs, k, j, rfl, rfl, h4, by rw [← q4.len]; exact ei, ?_⟩
          have rw5 : RelH g (upd H3 ad (.lst (xs.set j vz))) (L3.set l (.lst (ds.set j z))) m3 := r3.h.write hm h4 (by simp; exact z4) (q4.set j q1')
          exact h3 σ _ m3 x5 (r3.ext x5 rw5)
    | _ => exact h3.elim
  | _ => cases q3 <;> exact h3.elim
/-! a, b = x, y -/
theorem ss_par {i j : Nat} {x y : Str} {px py pt pt2 : Pos} {kt k2 : Nat} (hl : LenF fs 2) (hc : X.calm = true) (hN : X.N.Nodup) (hi : X.N[i]? = some x) (hj : X.N[j]? = some y) (hij : i ≠ j)
    (hx : X.env.scope.names.lookup x = some .local) (hy : X.env.scope.names.lookup y = some .local) (ha : PA X [a, b] (liftA g W fs))
    (hw : swappedStores [.Tuple [.Name x px, .Name y py] kt pt] (.Tuple [a, b] k2 pt2) X.env = pure (some [x, y])) :
    PS X (.Assign [.Tuple [.Name x px, .Name y py] kt pt] (.Tuple [a, b] k2 pt2) pos) (liftS g W fun env L => (fs env L).st env fun xs L => if xs.length = 2 then .nx (sets [i, j] xs env) L else .bad) := by
  refine PS.weak (ps_par hc hN hi hj hij hx hy ha hw) fun D σ H ⟨env, L, m, R, h⟩ => ⟨env, L, m, R, ?_⟩
  have hl' := hl env L
  dsimp only at h
  cases e : fs env L with
  | ok xs L1 =>
    rw [e] at h
    have l1 := hl' _ _ e
    simp only [Ev.R.st_ok] at h
    rw [if_pos l1] at h
    match xs, l1 with
    | [d1, d2], _ =>
      intro vs H1 m1 x1 r1 q1
      obtain ⟨v, u, rfl, p1, p2⟩ := q1.inv2
      exact ⟨v, u, rfl, h _ H1 m1 x1 (((R.ext x1 r1).set i p1).set j p2)⟩
  | exc c w L1 => rw [e] at h; exact fun d H1 m1 x1 r1 q => h d σ H1 m1 x1 (R.ext x1 r1) q
  | bad => rw [e] at h; exact h
/-! a op= e -/
theorem ss_aug {i : Nat} {x : Str} {pos' : Pos} {op : Bo} (hN : X.N.Nodup) (hi : X.N[i]? = some x) (hx : Loc X.env.scope x) (he : PE X e (liftE g W fe)) (hf : X.fn x = true ∨ X.env.scope.names.lookup x = some .local) :
    PS X (.AugAssign (.Name x pos') (boP op) e pos) (liftS g W fun env L => match env[i]? with
    | some (some (.int x)) => (fe env L).st env fun y L => match y with
      | .int y => (match op with
        | .pow => .bad
        | op => match binD op (.int x) (.int y) with
          | some z => .nx (env.set i (some z)) L
          | none => .bad)
      | _ => .bad
    | _ => .bad) := by
  obtain ⟨r, h1, h2⟩ := aug_all (X := X) (g := g) op
  refine PS.weak (ps_aug hN hi hx he h1 hf) fun D σ H ⟨env, L, m, R, h⟩ => ?_
  dsimp only at h
  cases ei : env[i]? with
  | none => rw [ei] at h; exact h.elim
  | some ov =>
    cases ov with
    | none => rw [ei] at h; exact h.elim
    | some d =>
      cases d with
      | int xi =>
        rw [ei] at h
        obtain ⟨v, e1, q1⟩ := R.vars i _ ei
        cases q1
        refine ⟨.int xi, e1, env, L, m, R, h.st R fun y L1 u H1 m1 x1 r1 q2 h3 => ?_⟩
        cases q2 with
        | int yi =>
          simp only at h3
          have nop : op ≠ .pow := fun z => by subst z; exact h3.elim
          have h3' : OutS g W D H1 m1 (match binD op (.int xi) (.int yi) with
            | some z => .nx (env.set i (some z)) L1
            | none => .bad) := by
            cases op <;> first | exact h3 | exact absurd rfl nop
          cases eb : binD op (.int xi) (.int yi) with
          | none => rw [eb] at h3'; exact h3'.elim
          | some z =>
            rw [eb] at h3'
            exact (h2 xi yi z H1 m1 _ eb fun w qw => h3' _ H1 m1 Ext.refl (r1.set i qw)).resolve_right nop
        | _ => exact h3.elim
      | _ => rw [ei] at h; exact h.elim
end
end Ev
end

section
set_option Elab.async false
set_option linter.all false
set_option maxRecDepth 100000
set_option autoImplicit false
set_option maxHeartbeats 1000000
/-! defs and their calls -/
namespace Ev
open PySem PySem.Spec PyProof.Rows L2

/-! ### what a def made of changed objects is forgotten -/
section
variable {g : G} {H : Hp} {m e : List Addr}
mutual
theorem Rep.cut : ∀ (d : D) (v : V), below m.length d = true → Rep g H (m ++ e) d v → Rep g H m d v
  | .non, _, _, h => by cases h; exact .non
  | .bl _, _, _, h => by cases h; exact .bl _
  | .int _, _, _, h => by cases h; exact .int _
  | .str _, _, _, h => by cases h with | str _ z => exact .str _ z
  | .tup ds, _, b, h => by cases h with | tup h1 z h2 => exact .tup h1 z (Reps.cut ds _ (by simpa [below] using b) h2)
  | .lst ds, _, b, h => by
    cases h with
    | lst h1 hm z h2 => exact .lst h1 ⟨fun q => hm.1 (List.mem_append_left _ q), hm.2⟩ z (Reps.cut ds _ (by simpa [below] using b) h2)
  | .scr ns, _, _, h => by cases h with | scr h1 hm z => exact .scr h1 (hm.imp (fun hm => ⟨fun q => hm.1 (List.mem_append_left _ q), hm.2⟩) id) z
  | .loc l, _, b, h => by
    cases h with
    | loc h =>
      simp only [below, decide_eq_true_eq] at b
      exact .loc (by rw [List.getElem?_append_left b] at h; exact h)
  | .fn _, _, _, h => by cases h; exact .fn _
theorem Reps.cut : ∀ (ds : List D) (vs : List V), belows m.length ds = true → Reps g H (m ++ e) ds vs → Reps g H m ds vs
  | [], _, _, h => by cases h; exact .nil
  | d :: ds, _, b, h => by
    cases h with
    | cons h1 h2 =>
      rw [belows, Bool.and_eq_true] at b
      exact .cons (Rep.cut d _ b.1 h1) (Reps.cut ds _ b.2 h2)
end
theorem RepF.cut : ∀ {fs : List (Nat × D)} {xs : List (Str × V)}, belows m.length (fs.map (·.2)) = true → RepF g H (m ++ e) fs xs → RepF g H m fs xs
  | [], [], _, _ => trivial
  | (_, d) :: r, (_, _) :: _, b, ⟨x, y, z⟩ => by
    rw [List.map_cons, belows, Bool.and_eq_true] at b
    exact ⟨x, Rep.cut d _ b.1 y, RepF.cut b.2 z⟩
  | [], _ :: _, _, h => h
  | _ :: _, [], _, h => h
theorem RelH.cut {L : LH} (r : RelH g H L (m ++ e)) (hb : (L.take m.length).all (O.below m.length) = true) (hl : m.length ≤ L.length) : RelH g H (L.take m.length) m := by
  refine ⟨by simp; omega, (List.nodup_append.mp r.nd).1, fun l o h => ?_, r.tabs, fun a ha => ?_⟩
  · have hlt : l < m.length := by
      have := (List.getElem?_eq_some_iff.mp h).1
      simp at this; omega
    have ho : O.below m.length o = true := List.all_eq_true.mp hb o (List.mem_of_getElem? h)
    rw [List.getElem?_take_of_lt hlt] at h
    obtain ⟨a, h1, h2⟩ := r.objs l o h
    rw [List.getElem?_append_left hlt] at h1
    refine ⟨a, h1, ?_⟩
    cases o with
    | lst ds => obtain ⟨xs, e1, z, q⟩ := h2; exact ⟨xs, e1, z, Reps.cut _ _ ho q⟩
    | ins c fs => obtain ⟨dx, xs, e1, q, ok⟩ := h2; exact ⟨dx, xs, e1, RepF.cut ho q, ok⟩
  · obtain ⟨h1, h2⟩ := r.hid a ha
    exact ⟨fun q => h1 (List.mem_append_left _ q), h2⟩
end
theorem Ext.cut {H H' : Hp} {m e : List Addr} (x : Ext H m H' (m ++ e)) : Ext H m H' m := ⟨⟨[], by simp, by simp⟩, x.keep, x.tups, x.frzs, x.dom⟩

/-- the call of a def: from its body's end -/
theorem endR_out {g : G} {W : WX} {fn : Fn} {L0 : LH} {σ σ' : L2.St} {H : Hp} {m : List Addr} {Q : VK} {r : RS} (hl : m.length = L0.length) (hW : ∀ c d s s' H, W c d s H → W c d s' H) (h : Out g (Rep g) W σ H m Q (endR fn L0 r)) :
    OutS g W { nx := fun _ H' => Q .non H', rt := Q } H m r := by
  have key : ∀ (d : D) (L : LH), (∃ L1, cutR (below L0.length) fn.drop L0 d L = some L1) ∨ cutR (below L0.length) fn.drop L0 d L = none := fun d L => by
    cases e : cutR (below L0.length) fn.drop L0 d L with
    | none => exact .inr rfl
    | some L1 => exact .inl ⟨L1, rfl⟩
  have cutH : ∀ {d : D} {L L1 : LH} {H' : Hp} {m' : List Addr}, cutR (below L0.length) fn.drop L0 d L = some L1 → Ext H m H' m' → RelH g H' L m' → ∃ m1, Ext H m H' m1 ∧ RelH g H' L1 m1 ∧ ∀ v, Rep g H' m' d v → Rep g H' m1 d v := by
    intro d L L1 H' m' e x r
    unfold cutR at e
    split at e
    · split at e
      · rename_i hh
        simp only [Bool.and_eq_true, decide_eq_true_eq] at hh
        obtain ⟨⟨h1, h2⟩, h3⟩ := hh
        have e' := Option.some.inj e
        subst e'
        obtain ⟨ex, rfl, _⟩ := x.ex
        rw [← hl] at h1 h2 h3 ⊢
        exact ⟨m, x.cut, r.cut h2 h3, fun v q => Rep.cut d v h1 q⟩
      · cases e
    · have e' := Option.some.inj e
      subst e'
      exact ⟨m', x, r, fun v q => q⟩
  cases r with
  | rt d L =>
    rcases key d L with ⟨L1, e⟩ | e
    · simp only [endR, e] at h
      intro v H' m' x r q
      obtain ⟨m1, x1, r1, q1⟩ := cutH e x r
      exact h v H' m1 x1 r1 (q1 v q)
    · simp only [endR, e] at h; exact h.elim
  | nx env L =>
    rcases key .non L with ⟨L1, e⟩ | e
    · simp only [endR, e] at h
      intro σ' H' m' x r
      obtain ⟨m1, x1, r1, _⟩ := cutH e x r.h
      exact h .non H' m1 x1 r1 .non
    · simp only [endR, e] at h; exact h.elim
  | exc c w env L =>
    rcases key w L with ⟨L1, e⟩ | e
    · simp only [endR, e] at h
      intro d σ2 H' m' x r q
      obtain ⟨m1, x1, r1, q1⟩ := cutH e x r.h
      obtain ⟨dd, v, e1, e2, e3, e4⟩ := q
      refine hW _ _ σ σ2 _ (h d H' m1 x1 r1 ⟨dd, v, e1, e2, fun hm => ?_, q1 v e4⟩)
      exact r1.there hm (by
        obtain ⟨o, _, ro⟩ := r1.at_ (List.mem_iff_getElem?.mp hm).choose_spec
        cases o with
        | lst ds => obtain ⟨xs, z, _⟩ := ro; rw [e2] at z; cases z
        | ins c fs => obtain ⟨dx, xs, z, _⟩ := ro; rw [e2] at z; cases z)
    · simp only [endR, e] at h; exact h.elim
  | bk env L => exact h.elim
  | ct env L => exact h.elim
  | bad => exact h.elim

/-! ### promises -/
/-- a def's promise, gd: nothing shows itself around its calls (repr may be asked) -/
structure FnG (P : Program) (w : World) (K : PySem.W.Frag) (mg : Str → Option Value) (base : Heap) (gd : Bool) (k : Nat) (f : Addr) (fd : FuncData) (ps : List Str) (sp : Sp) : Prop where
  len : ∀ vs H Q E, sp vs H Q E → vs.length = ps.length
  run : ∀ (A : Around) (outer : List PySem.Env) (s : Shared) (H : Hp) (args : Args) (us : List Value) (vs : List V) (Q : VK) (E : XK), Room k A → (gd = true → A.guards = some []) → Env0 P w K mg base A outer s H → BindsTo s fd args (ps.zip us) → Vals vs us → sp vs H Q E →
    codeAny (model P w) A (.call (.ref f) args) (CR (L2.CX P w) outer P w H s Q E) s
section
variable {P : Program} {w : World} {K : PySem.W.Frag} {mg : Str → Option Value} {base : Heap} {gd : Bool} {k : Nat} {f : Addr} {fd : FuncData} {ps : List Str} {sp : Sp}
theorem FnG.toOk (F : FnG P w K mg base false k f fd ps sp) : FnOk P w K mg base (L2.CX P w) k f fd ps sp :=
  ⟨F.len, fun A outer s H args us vs Q E hr => F.run A outer s H args us vs Q E hr (fun z => by cases z)⟩
theorem FnG.mono {j : Nat} (F : FnG P w K mg base gd j f fd ps sp) (h : j ≤ k) : FnG P w K mg base gd k f fd ps sp := ⟨F.len, fun A outer s H args us vs Q E hr => F.run A outer s H args us vs Q E (hr.mono h)⟩
theorem fn_ofG {name qual : Str} {params : Arguments} {body : List Stmt} {scope : Scope} {dvs : List V} {kws : List (Str × V)} {N : List Str} (F : FunD K name qual params body scope dvs kws f fd) (S : FnScope N ps scope)
    (len : ∀ vs H Q E, sp vs H Q E → vs.length = ps.length)
    (hbody : ∀ (cdv : Value) (A : Around) (outer : List PySem.Env) (s : Shared) (H : Hp) (vs : List V) (Q : VK) (E : XK), (∃ (oc : Value) (od : Option Addr) (dV kV doc pm : Value) (an : Option Addr) (ct : Value) (osl : Array (Option Value)), K.lookup f = some ⟨oc, od, .func (PySem.W.fnOf name qual params body scope dV kV doc pm an cdv ct), osl⟩) → Room k (A.deeper (envOfC qual scope s.heap.objs.size f cdv)) → (gd = true → A.guards = some []) → sp vs H Q E →
      ∃ t, PSs (cxOf (L2.CX P w) P w K mg base N qual scope f cdv A outer s H E) body t ∧ t { nx := fun _ H' => Q .non H', rt := Q } (start N vs) H) : FnG P w K mg base gd (k + 1) f fd ps sp := by
  obtain ⟨oc, od, dV, kV, doc, pm, an, cdv, ct, osl, rfl, lk, hcd, _, _⟩ := F.ex
  refine ⟨len, fun A outer s H args us vs Q E hr hgd e0 hb r hsp => ?_⟩
  have kept : ∀ b o, base.get? b = some o → s.heap.get? b = some o := fun b o e => (e0.bs b o e).1
  have kinds : ((ps.zip us).all fun y => scope.names.lookup y.1 == some .local || scope.names.lookup y.1 == some .cell) = true := by
    rw [List.all_eq_true]
    intro y hy
    rcases S.par y.1 (List.of_mem_zip hy).1 with q | q <;> simp [q]
  refine Att.call_fn (e0.mod.kin.keeps kept) (e0.mod.nolimit.keeps kept) lk hcd hr.depth hb kinds (fun s1 ic => ?_) S.co S.gen S.kind
  obtain ⟨t, ht, hq⟩ := hbody cdv A outer s H vs Q E ⟨_, _, _, _, _, _, _, _, _, lk⟩ (hr.deeper _) hgd hsp
  refine wpAny_mono (ht.run [] s1 (start N vs) H _ (inv_start S hr.hd e0 (len _ _ _ _ hsp) r ic) hq) (fun fl s' hs => ?_) fun e s' hs => hs
  match fl, hs with
  | .ret u, ⟨v, σ', H', J, rv, q⟩ => exact ⟨v, H', J.os, J.bare, J.base, J.hok, rv, q⟩
  | .next, ⟨σ', H', J, q⟩ => exact ⟨.non, H', J.os, J.bare, J.base, J.hok, rfl, q⟩
  | .brk, ⟨_, _, _, q⟩ => exact q.elim
  | .cont, ⟨_, _, _, q⟩ => exact q.elim
end
section
variable {X : Cx} {g : G} {W : WX} {gd : Bool} {k : Nat} {f : Addr} {fd : FuncData} {ps : List Str} {sp : Sp} {e : Expr} {es : List Expr} {x : Str} {p pos : Pos} {fs : Env → LH → R (List D)}
theorem call_run {pins : List (Addr × Obj)} {σ : L2.St} {H : Hp} {s : Shared} {Q : VK} {us : List Value} {vs : List V} (F : FnG X.prog X.w X.K X.mg X.base gd k f fd ps sp) (hr : Room k X.A) (hgd : gd = true → X.A.guards = some []) (hb : Binds X.K fd ps []) (tk : Takes X W)
    (I : Inv X pins σ H s) (r : Vals vs us) (h : sp vs H Q (fun cls d H' => W cls d σ H')) : wpAny (model X.prog X.w) X.A (call (.ref f) us) (EP X pins σ Q) X.xe s := by
  have bs := hb s us I.kIn (by rw [List.append_nil, ← r.length]; exact F.len _ _ _ _ h)
  rw [List.append_nil] at bs
  refine wpAny_call (codeAny_mono (F.run X.A X.stack s H ⟨us, []⟩ us vs Q _ hr hgd I.env0 bs r h) fun res s' hq => ?_)
  match res, hq with
  | .error err, hq => exact tk err s' (XE.of_call I (fun cls d H' q => q) hq)
  | .ok (.ret u), hq => exact I.after hq
/-- the evaluator's word for a def -/
def spF (g : G) (call : List D → LH → R D) : Sp := fun vs H Q E => ∃ hid ds L m, RelH (g.with hid) H L m ∧ Reps (g.with hid) H m ds vs ∧ Out (g.with hid) (Rep (g.with hid)) (fun cls d _ H' => E cls d H') [] H m Q (call ds L)
theorem out_W {W W' : WX} {σ σ' : L2.St} {H : Hp} {m : List Addr} {Q : VK} (hW : ∀ c d H, W c d σ H → W' c d σ' H) : ∀ {r : R D}, Out g (Rep g) W σ H m Q r → Out g (Rep g) W' σ' H m Q r
  | .ok _ _, h => h
  | .exc _ _ _, h => fun d H' m' x r q => hW _ _ _ (h d H' m' x r q)
  | .bad, h => h
theorem se_call {call : List D → LH → R D} {hid : List Addr} {g0 : G} (hg0 : g = g0.with g.hid) (F : FnG X.prog X.w X.K X.mg X.base gd k f fd ps (spF g0 call)) (hr : Room k X.A) (hgd : gd = true → X.A.guards = some []) (hg : Gl X x) (hm : X.mg x = some (.ref f)) (hk : PySem.W.keepIn X.K (.ref f) = true)
    (hb : Binds X.K fd ps []) (tk : Takes X W) (ha : PA X (e :: es) (liftA g W fs)) (hn : (e :: es).all notStar = true) (hdb : (x == ("__debug__" : Str)) = false) :
    PE X (.Call (.Name x p) (e :: es) [] pos) (liftE g W fun env L => (fs env L).bind fun xs L => call xs L) := by
  have hn' := hn
  rw [List.all_cons, Bool.and_eq_true] at hn'
  refine ⟨fun pins s σ H Q I ⟨env, L, m, R, h⟩ => ?_⟩
  refine wpAny_Call_Name_kw (ld_glob I hg hm ?_ hdb)
  refine PySem.W.callWith_K (h₀ := X.base) I.ok.mod.kin hk (thn (ha.run pos pins s σ H (fun vs H1 => spF g0 call vs H1 Q fun cls d H' => W cls d σ H') I ⟨env, L, m, R, h.bind fun xs L1 vs H1 m1 x1 r1 q1 h1 => ?_⟩) fun us s1 ⟨vs, H1, I1, r, q⟩ => ⟨I1.kIn, ?_⟩) (starEach_ns hn'.1) (back_any hn'.2)
  · refine ⟨g.hid, xs, L1, m1, ?_, ?_, ?_⟩
    · rw [← hg0]; exact r1
    · rw [← hg0]; exact q1
    · rw [← hg0]; exact out_W (fun c d H q => q) h1
  · exact call_run F hr hgd hb tk I1 r q
end
/-! ### calls by keywords alone, in the parameters' order -/
def BindsK (fd : FuncData) (ps : List Str) : Prop := ∀ (s : Shared) (us : List Value), us.length = ps.length → BindsTo s fd ⟨[], ps.zip us⟩ (ps.zip us)
theorem kw_names {pos : Pos} {env : PySem.Env} : ∀ {kws : List Keyword} {ns : List Str}, kws.map (·.arg) = ns.map some → (backToKw pos (keywordEach kws env)).all (·.1.isSome) = true ∧ (backToKw pos (keywordEach kws env)).filterMap (·.1) = ns ∧ (backToKw pos (keywordEach kws env)).any (·.1.isNone) = false
  | [], [], _ => ⟨rfl, rfl, rfl⟩
  | [], _ :: _, h => by cases h
  | _ :: _, [], h => by cases h
  | ⟨nm, e, kp⟩ :: kws, n :: ns, h => by
    simp only [List.map_cons, List.cons.injEq] at h
    obtain ⟨h1, h2⟩ := h
    obtain ⟨i1, i2, i3⟩ := kw_names (pos := pos) (env := env) h2
    subst h1
    simp only [keywordEach, backToKw, List.map_cons, List.all_cons, List.filterMap_cons, List.any_cons] at i1 i2 i3 ⊢
    refine ⟨by rw [i1]; rfl, by rw [i2], by rw [i3]; rfl⟩
section
variable {X : Cx} {g : G} {W : WX} {gd : Bool} {k : Nat} {f : Addr} {fd : FuncData} {ps : List Str} {sp : Sp} {a : Expr} {kws : List Keyword} {x : Str} {p pos kp : Pos} {nm : Option Str} {fa : Env → LH → R D} {fs : Env → LH → R (List D)}
theorem PK.weak {t t' : TA} (h : PK X kws t) (w : ∀ σ H Q, t' σ H Q → t σ H Q) : PK X kws t' := ⟨fun pos pins s σ H Q I q => h.run pos pins s σ H Q I (w σ H Q q)⟩
theorem sk_nil : PK X [] (liftA g W fun _ L => .ok [] L) := PK.weak pk_nil fun σ H Q ⟨env, L, m, R, h⟩ => h.ok_ R.h .nil
theorem sk_cons (ha : PE X a (liftE g W fa)) (hr : PK X kws (liftA g W fs)) : PK X (⟨nm, a, kp⟩ :: kws) (liftA g W fun env L => (fa env L).bind fun x L => (fs env L).bind fun xs L => .ok (x :: xs) L) := by
  refine PK.weak (pk_cons ha hr) fun σ H Q ⟨env, L, m, R, h⟩ => ⟨env, L, m, R, h.bind fun x L1 v H1 m1 x1 r1 q1 h1 => ?_⟩
  exact ⟨env, L1, m1, R.ext x1 r1, h1.bind fun y L2 u H2 m2 x2 r2 q2 h2 => h2.ok_ r2 (.cons (Rep.ext x2 _ _ q1) q2)⟩
theorem call_runK {pins : List (Addr × Obj)} {σ : L2.St} {H : Hp} {s : Shared} {Q : VK} {us : List Value} {vs : List V} (F : FnG X.prog X.w X.K X.mg X.base gd k f fd ps sp) (hr : Room k X.A) (hgd : gd = true → X.A.guards = some []) (hb : BindsK fd ps) (tk : Takes X W)
    (I : Inv X pins σ H s) (r : Vals vs us) (h : sp vs H Q (fun cls d H' => W cls d σ H')) : wpAny (model X.prog X.w) X.A (call (.ref f) [] (ps.zip us)) (EP X pins σ Q) X.xe s := by
  have bs := hb s us (by rw [← r.length]; exact F.len _ _ _ _ h)
  refine wpAny_call (codeAny_mono (F.run X.A X.stack s H ⟨[], ps.zip us⟩ us vs Q _ hr hgd I.env0 bs r h) fun res s' hq => ?_)
  match res, hq with
  | .error err, hq => exact tk err s' (XE.of_call I (fun cls d H' q => q) hq)
  | .ok (.ret u), hq => exact I.after hq
theorem se_callK {call : List D → LH → R D} {g0 : G} (hg0 : g = g0.with g.hid) (F : FnG X.prog X.w X.K X.mg X.base gd k f fd ps (spF g0 call)) (hr : Room k X.A) (hgd : gd = true → X.A.guards = some []) (hg : Gl X x) (hm : X.mg x = some (.ref f)) (hk : PySem.W.keepIn X.K (.ref f) = true)
    (hb : BindsK fd ps) (tk : Takes X W) (ha : PK X kws (liftA g W fs)) (hn : kws.map (·.arg) = ps.map some) (hdb : (x == ("__debug__" : Str)) = false) :
    PE X (.Call (.Name x p) [] kws pos) (liftE g W fun env L => (fs env L).bind fun xs L => call xs L) := by
  obtain ⟨n1, n2, n3⟩ := kw_names (pos := pos) (env := X.env) hn
  refine ⟨fun pins s σ H Q I ⟨env, L, m, R, h⟩ => ?_⟩
  refine wpAny_Call_Name_kw (ld_glob I hg hm ?_ hdb)
  refine PySem.W.callWith_KW0 (h₀ := X.base) I.ok.mod.kin hk n1 (thn (ha.run pos pins s σ H (fun vs H1 => spF g0 call vs H1 Q fun cls d H' => W cls d σ H') I ⟨env, L, m, R, h.bind fun xs L1 vs H1 m1 x1 r1 q1 h1 => ?_⟩) fun us s1 ⟨vs, H1, I1, r, q⟩ => ⟨I1.kIn, ?_⟩) (by rw [n3]; rfl)
  · refine ⟨g.hid, xs, L1, m1, ?_, ?_, ?_⟩
    · rw [← hg0]; exact r1
    · rw [← hg0]; exact q1
    · rw [← hg0]; exact out_W (fun c d H q => q) h1
  · rw [n2]
    exact call_runK F hr hgd hb tk I1 r q
theorem se_call0 {call : List D → LH → R D} {g0 : G} (hg0 : g = g0.with g.hid) (F : FnG X.prog X.w X.K X.mg X.base gd k f fd ps (spF g0 call)) (hr : Room k X.A) (hgd : gd = true → X.A.guards = some []) (hg : Gl X x) (hm : X.mg x = some (.ref f)) (hk : PySem.W.keepIn X.K (.ref f) = true)
    (hb : Binds X.K fd ps []) (tk : Takes X W) (hdb : (x == ("__debug__" : Str)) = false) : PE X (.Call (.Name x p) [] [] pos) (liftE g W fun _ L => call [] L) := by
  refine ⟨fun pins s σ H Q I ⟨env, L, m, R, h⟩ => ?_⟩
  refine wpAny_Call_Name_kw (ld_glob I hg hm ?_ hdb)
  refine PySem.W.callWith_K0 I.kIn hk (call_run (us := []) F hr hgd hb tk I .nil ⟨g.hid, [], L, m, ?_, .nil, ?_⟩)
  · rw [← hg0]; exact R.h
  · rw [← hg0]; exact out_W (fun c d H q => q) h
end
end Ev
end

section
set_option Elab.async false
set_option linter.all false
set_option maxRecDepth 100000
set_option autoImplicit false
set_option maxHeartbeats 1000000
/-! instances: attributes, makings, methods; list(a) and extend -/
namespace Ev
open PySem PySem.Spec PyProof.Rows L2
section
variable {g : G} {H H' : Hp} {m m' : List Addr} {L L' : LH}
theorem RepF.len : ∀ {fs : List (Nat × D)} {xs : List (Str × V)}, RepF g H m fs xs → fs.length = xs.length
  | [], [], _ => rfl
  | (_, _) :: _, (_, _) :: _, ⟨_, _, c⟩ => by simp [c.len]
  | [], _ :: _, h => h.elim
  | _ :: _, [], h => h.elim
theorem RepF.look {f : Nat} {d : D} : ∀ {fs : List (Nat × D)} {xs : List (Str × V)}, RepF g H m fs xs → fs.lookup f = some d → ∃ v, xs.lookup (g.fld f) = some v ∧ Rep g H m d v
  | [], [], _, h => by cases h
  | (k, e) :: r, (x, v) :: t, ⟨a, b, c⟩, h => by
    by_cases q : f = k
    · subst q
      have h1 : (f == f) = true := beq_self_eq_true f
      simp only [List.lookup, h1, Option.some.injEq] at h
      subst h
      refine ⟨v, ?_, b⟩
      have h2 : (g.fld f == x) = true := beq_iff_eq.mpr a
      simp only [List.lookup, h2]
    · have h1 : (f == k) = false := beq_eq_false_iff_ne.mpr q
      simp only [List.lookup, h1] at h
      obtain ⟨w, e1, e2⟩ := RepF.look c h
      refine ⟨w, ?_, e2⟩
      have h2 : (g.fld f == x) = false := beq_eq_false_iff_ne.mpr fun z => q (g.finj _ _ (z.trans a.symm))
      simp only [List.lookup, h2]; exact e1
  | [], _ :: _, h, _ => h.elim
  | _ :: _, [], h, _ => h.elim
theorem RepF.no {x : Str} : ∀ {fs : List (Nat × D)} {xs : List (Str × V)}, RepF g H m fs xs → (∀ p ∈ fs, g.fld p.1 ≠ x) → xs.lookup x = none
  | [], [], _, _ => rfl
  | (k, e) :: r, (y, v) :: t, ⟨a, b, c⟩, h => by
    have h1 := h (k, e) List.mem_cons_self
    have h2 : (x == y) = false := beq_eq_false_iff_ne.mpr fun z => h1 (a.trans z.symm)
    simp only [List.lookup, h2]
    exact RepF.no c fun p hp => h p (List.mem_cons_of_mem _ hp)
  | [], _ :: _, h, _ => h.elim
  | _ :: _, [], h, _ => h.elim
theorem RepF.put {f : Nat} {d : D} {u : V} (ru : Rep g H m d u) : ∀ {fs : List (Nat × D)} {xs : List (Str × V)}, RepF g H m fs xs → RepF g H m (putFd f d fs) (putF (g.fld f) u xs)
  | [], [], _ => ⟨rfl, ru, trivial⟩
  | (k, e) :: r, (x, v) :: t, ⟨a, b, c⟩ => by
    simp only [putFd, putF]
    by_cases q : k = f
    · subst q
      rw [if_pos rfl, if_pos a.symm]
      exact ⟨a, ru, c⟩
    · rw [if_neg q, if_neg fun z => q (g.finj _ _ (a.trans z))]
      exact ⟨a, b, RepF.put ru c⟩
  | [], _ :: _, h => h.elim
  | _ :: _, [], h => h.elim
theorem mem_putFd {f : Nat} {d : D} : ∀ {fs : List (Nat × D)} {p : Nat × D}, p ∈ putFd f d fs → p ∈ fs ∨ p.1 = f
  | [], p, h => by simp [putFd] at h; subst h; exact .inr rfl
  | (k, e) :: r, p, h => by
    simp only [putFd] at h
    split at h
    · rename_i q
      rcases List.mem_cons.mp h with rfl | h
      · exact .inr q
      · exact .inl (List.mem_cons_of_mem _ h)
    · rcases List.mem_cons.mp h with rfl | h
      · exact .inl List.mem_cons_self
      · rcases mem_putFd h with h | h
        · exact .inl (List.mem_cons_of_mem _ h)
        · exact .inr h
theorem lookup_mem {f : Nat} {d : D} : ∀ {fs : List (Nat × D)}, fs.lookup f = some d → (f, d) ∈ fs
  | [], h => by cases h
  | (k, e) :: r, h => by
    by_cases q : f = k
    · subst q
      have h1 : (f == f) = true := beq_self_eq_true f
      simp only [List.lookup, h1, Option.some.injEq] at h
      subst h; exact List.mem_cons_self
    · have h1 : (f == k) = false := beq_eq_false_iff_ne.mpr q
      simp only [List.lookup, h1] at h
      exact List.mem_cons_of_mem _ (lookup_mem h)
/-- a new instance -/
theorem ext_made {x dx : Addr} {C : Addr} (hx : H x = none) (hd : H dx = none) (ne : dx ≠ x) : Ext H m (upd (upd H dx (.own x)) x (.ins C dx [])) (m ++ [x]) :=
  (ext_new hd).trans (ext_push (by rw [upd_ne (Ne.symm ne)]; exact hx))
theorem RelH.made {x dx : Addr} {c : Nat} (r : RelH g H L m) (hx : H x = none) (hd : H dx = none) (ne : dx ≠ x) (ok : Cls g.K (g.kad c)) :
    RelH g (upd (upd H dx (.own x)) x (.ins (g.kad c) dx [])) (L ++ [.ins c []]) (m ++ [x]) := by
  have r1 : RelH g (upd H dx (.own x)) L m := r.new hd
  have hx1 : upd H dx (.own x) x = none := by rw [upd_ne (Ne.symm ne)]; exact hx
  have x1 : Ext (upd H dx (.own x)) m (upd (upd H dx (.own x)) x (.ins (g.kad c) dx [])) (m ++ [x]) := ext_push hx1
  refine ⟨by simp [r.len], ?_, fun l u e => ?_, tabs_new r1.tabs hx1, fun a ha => ?_⟩
  · rw [List.nodup_append]
    exact ⟨r.nd, by simp, fun a ha b hb => by simp at hb; subst hb; intro e; subst e; exact (r1.fresh hx1).1 ha⟩
  · by_cases hl : l < L.length
    · rw [List.getElem?_append_left hl] at e
      obtain ⟨a, h1, h2⟩ := r1.objs l u e
      exact ⟨a, x1.mget h1, h2.ext x1 fun w q => by rw [upd_ne (ne_of_none q hx1)]; exact q⟩
    · have hl' : l = L.length := by
        have := (List.getElem?_eq_some_iff.mp e).1
        simp at this; omega
      subst hl'
      simp at e; subst e
      exact ⟨x, by rw [← r.len]; simp, dx, [], upd_same, trivial, ok, fun p hp => by cases hp⟩
  · obtain ⟨h1, xs, h2⟩ := r1.hid a ha
    have ne : a ≠ x := ne_of_none h2 hx1
    exact ⟨by simp [h1, ne], xs, by rw [upd_ne ne]; exact h2⟩
theorem ext_writeI {a C dx C2 dx2 : Addr} {xs ys : List (Str × V)} (h : H a = some (.ins C dx xs)) (ha : a ∈ m) : Ext H m (upd H a (.ins C2 dx2 ys)) m :=
  ⟨⟨[], by simp, by simp⟩, fun b u q hb _ => by rw [upd_ne (fun e => hb (by rw [e]; exact ha))]; exact q, fun b u q => by rw [upd_ne (ne_of q h (by simp))]; exact q,
    fun b u w q => by rw [upd_ne (ne_of q h (by simp))]; exact q, fun b u q t => by
      by_cases e : b = a
      · subst e; exact ⟨_, upd_same, fun ps => by simp⟩
      · exact ⟨u, by rw [upd_ne e]; exact q, t⟩⟩
/-- an instance is changed -/
theorem RelH.writeI {a C dx : Addr} {xs ys : List (Str × V)} {l c : Nat} {fs : List (Nat × D)} (r : RelH g H L m) (hl : m[l]? = some a) (h : H a = some (.ins C dx xs)) (q : RepF g H m fs ys) (ok : OkI g c fs) :
    RelH g (upd H a (.ins (g.kad c) dx ys)) (L.set l (.ins c fs)) m := by
  have ha : a ∈ m := List.mem_of_getElem? hl
  have x : Ext H m (upd H a (.ins (g.kad c) dx ys)) m := ext_writeI h ha
  refine ⟨by simp [r.len], r.nd, fun j u e => ?_, ?_, fun b hb => ?_⟩
  · by_cases hj : l = j
    · subst hj
      have hlt : l < L.length := by rw [← r.len]; exact (List.getElem?_eq_some_iff.mp hl).1
      rw [List.getElem?_set_self hlt] at e; cases e
      exact ⟨a, hl, dx, ys, upd_same, q.ext x, ok⟩
    · rw [List.getElem?_set_ne hj] at e
      obtain ⟨b, h1, h2⟩ := r.objs j u e
      have hb : b ≠ a := fun e => by
        subst e
        have i1 := List.getElem?_eq_some_iff.mp hl
        have i2 := List.getElem?_eq_some_iff.mp h1
        exact hj ((List.getElem_inj r.nd).mp (i1.2.trans i2.2.symm))
      exact ⟨b, h1, h2.ext x fun w q => by rw [upd_ne hb]; exact q⟩
  · intro p hp
    obtain ⟨ps, t1, t2, t3⟩ := r.tabs p hp
    refine ⟨ps, by rw [upd_ne (ne_of t1 h (by simp))]; exact t1, t2, fun pos cv hc => ?_⟩
    obtain ⟨c, e1, e2⟩ := t3 pos cv hc
    exact ⟨c, e1, by rw [upd_ne (ne_of e2 h (by simp [LamX.CodeO]))]; exact e2⟩
  · obtain ⟨h1, zs, h2⟩ := r.hid b hb
    have ne : b ≠ a := fun e => h1 (by rw [e]; exact ha)
    exact ⟨h1, zs, by rw [upd_ne ne]; exact h2⟩
/-- what stands at a place that holds an instance -/
theorem RelH.insAt {l c : Nat} {v : V} {fs : List (Nat × D)} (r : RelH g H L m) (q : Rep g H m (.loc l) v) (e : L[l]? = some (.ins c fs)) :
    ∃ a dx xs, v = .ref a ∧ m[l]? = some a ∧ H a = some (.ins (g.kad c) dx xs) ∧ RepF g H m fs xs ∧ OkI g c fs := by
  cases q with
  | loc hm =>
    obtain ⟨o, e1, ro⟩ := r.at_ hm
    rw [e] at e1
    cases e1
    obtain ⟨dx, xs, h1, h2, h3⟩ := ro
    exact ⟨_, dx, xs, rfl, hm, h1, h2, h3⟩
theorem attrD_some {x d : D} {f : Nat} (h : attrD L x f = some d) : ∃ l c fs, x = .loc l ∧ L[l]? = some (.ins c fs) ∧ fs.lookup f = some d := by
  unfold attrD at h
  split at h
  · split at h
    · rename_i l c fs e; exact ⟨_, _, _, rfl, e, h⟩
    · cases h
  · cases h
theorem methAt_some {x : D} {ms : List (Nat × Nat)} {f : Nat} (h : methAt L x ms = some f) : ∃ l c fs, x = .loc l ∧ L[l]? = some (.ins c fs) ∧ ms.lookup c = some f := by
  unfold methAt at h
  split at h
  · split at h
    · rename_i l c fs e; exact ⟨_, _, _, rfl, e, h⟩
    · cases h
  · cases h
theorem setAt_some {x d : D} {cs : List Nat} {f : Nat} (h : setAt L x cs f d = some L') : ∃ l c fs, x = .loc l ∧ L[l]? = some (.ins c fs) ∧ c ∈ cs ∧ fs.length < 100 ∧ L' = L.set l (.ins c (putFd f d fs)) := by
  unfold setAt at h
  split at h
  · split at h
    · rename_i l c fs e
      split at h
      · rename_i q
        simp only [Bool.and_eq_true, decide_eq_true_eq] at q
        exact ⟨_, _, _, rfl, e, by simpa using q.1, q.2, (Option.some.inj h).symm⟩
      · cases h
    · cases h
  · cases h
/-- a field's store -/
theorem setAt_ok {x d : D} {cs : List Nat} {f : Nat} {v u : V} (r : RelH g H L m) (rx : Rep g H m x v) (ru : Rep g H m d u) (h : setAt L x cs f d = some L') (hn : ∀ c ∈ cs, NoAttr g.K (g.kad c) (g.fld f)) :
    ∃ a C dx xs, v = .ref a ∧ H a = some (.ins C dx xs) ∧ Cls g.K C ∧ NoAttr g.K C (g.fld f) ∧ xs.length < 1000 ∧ Ext H m (upd H a (.ins C dx (putF (g.fld f) u xs))) m ∧ RelH g (upd H a (.ins C dx (putF (g.fld f) u xs))) L' m := by
  obtain ⟨l, c, fs, rfl, e1, e2, e3, rfl⟩ := setAt_some h
  obtain ⟨a, dx, xs, rfl, h1, h2, h3, h4⟩ := r.insAt rx e1
  have n := hn c e2
  refine ⟨a, _, dx, xs, rfl, h2, h4.1, n, by rw [← h3.len]; omega, ext_writeI h2 (List.mem_of_getElem? h1), r.writeI h1 h2 (h3.put ru) ⟨h4.1, fun p hp => ?_⟩⟩
  rcases mem_putFd hp with hp | hp
  · exact h4.2 p hp
  · rw [hp]; exact n
end
section
variable {X : Cx} {g : G} {W : WX} {gd : Bool} {k : Nat} {f : Addr} {fd : FuncData} {ps : List Str} {sp : Sp} {e o a : Expr} {es : List Expr} {x mn : Str} {p pos apos cpos : Pos} {fs : Env → LH → R (List D)} {fe fo fa fv : Env → LH → R D}
theorem se_attr {i : Nat} {y : Str} (hK : X.K = g.K) (he : PE X e (liftE g W fe)) (hf : g.fld i = y) (hb : baseOk e = true) : PE X (.Attribute e y pos) (liftE g W fun env L => (fe env L).bind fun x L => opt (attrD L x i) L) := by
  subst hf
  refine PE.weak (pe_fld he (base_ok hb)) fun σ H Q ⟨env, L, m, R, h⟩ => ⟨env, L, m, R, h.bind fun x L1 v H1 m1 x1 r1 q1 h1 => ?_⟩
  cases ea : attrD L1 x i with
  | none => rw [ea] at h1; exact h1.elim
  | some d =>
    rw [ea] at h1
    obtain ⟨l, c, fs, rfl, e1, e2⟩ := attrD_some ea
    obtain ⟨a, dx, xs, rfl, h2, h3, h4, h5⟩ := r1.insAt q1 e1
    obtain ⟨w, w1, w2⟩ := h4.look e2
    rw [hK]
    exact ⟨a, _, dx, xs, w, rfl, h3, h5.1, h5.2 _ (lookup_mem e2), w1, h1.ok_ r1 w2⟩
theorem call_runD {pins : List (Addr × Obj)} {σ : L2.St} {H : Hp} {s : Shared} {Q : VK} {us : List Value} {vs dvs : List V} {ds : List Value} (F : FnG X.prog X.w X.K X.mg X.base gd k f fd ps sp) (hr : Room k X.A) (hgd : gd = true → X.A.guards = some []) (hb : Binds X.K fd ps ds) (hd : Vals dvs ds) (tk : Takes X W)
    (I : Inv X pins σ H s) (r : Vals vs us) (h : sp (vs ++ dvs) H Q (fun cls d H' => W cls d σ H')) : wpAny (model X.prog X.w) X.A (call (.ref f) us) (EP X pins σ Q) X.xe s := by
  have r2 : Vals (vs ++ dvs) (us ++ ds) := r.append hd
  have bs := hb s us I.kIn (by rw [← r2.length]; exact F.len _ _ _ _ h)
  refine wpAny_call (codeAny_mono (F.run X.A X.stack s H ⟨us, []⟩ (us ++ ds) (vs ++ dvs) Q _ hr hgd I.env0 bs r2 h) fun res s' hq => ?_)
  match res, hq with
  | .error err, hq => exact tk err s' (XE.of_call I (fun cls d H' q => q) hq)
  | .ok (.ret u), hq => exact I.after hq
/-- constants that fill parameters -/
def vOf : D → V
  | .int i => .int i
  | .bl b => .bl b
  | _ => .non
def conB : D → Bool
  | .int _ => true | .bl _ => true | .non => true
  | _ => false
theorem con_reps (g : G) (H : Hp) (m : List Addr) : ∀ {cs : List D}, cs.all conB = true → Reps g H m cs (cs.map vOf)
  | [], _ => .nil
  | c :: cs, h => by
    rw [List.all_cons, Bool.and_eq_true] at h
    refine .cons ?_ (con_reps g H m h.2)
    have h1 := h.1
    cases c <;> first | exact .int _ | exact .bl _ | exact .non | (simp [conB] at h1)
def MsOk (X : Cx) (g g0 : G) (gd : Bool) (k : Nat) (call : Nat → List D → LH → R D) (mn : Str) (ms : List (Nat × Nat)) (cs : List D) : Prop :=
  ∀ c j, ms.lookup c = some j → ∃ f fd ps ds, Meth X.K (g.kad c) mn f ∧ Binds X.K fd ps ds ∧ Vals (cs.map vOf) ds ∧ FnG X.prog X.w X.K X.mg X.base gd k f fd ps (spF g0 (call j))
/-- what the receiver must be, the arguments behind -/
def MAt (X : Cx) (g g0 : G) (W : WX) (call : Nat → List D → LH → R D) (mn : Str) (ms : List (Nat × Nat)) (cs : List D) (t : TA) (σ : L2.St) (Q : VK) (v : V) (H1 : Hp) : Prop :=
  ∃ c j a dx xs, ms.lookup c = some j ∧ v = .ref a ∧ H1 a = some (.ins (g.kad c) dx xs) ∧ xs.lookup mn = none ∧ Cls g.K (g.kad c) ∧
    t σ H1 fun vs H2 => spF g0 (call j) (.ref a :: (vs ++ cs.map vOf)) H2 Q fun cls d H' => W cls d σ H'
theorem meth_at {call : Nat → List D → LH → R D} {ms : List (Nat × Nat)} {cs : List D} {g0 : G} {σ : L2.St} {H : Hp} {Q : VK} {env : Env} {L : LH} {m : List Addr} (hK : X.K = g.K) (hg0 : g = g0.with g.hid) (hcs : cs.all conB = true) (M : MsOk X g g0 gd k call mn ms cs) (R : Rel g σ H env L m)
    (h : Out g (Rep g) W σ H m Q ((fo env L).bind fun x L => (opt (methAt L x ms) L).bind fun j L => (fs env L).bind fun xs L => call j (x :: (xs ++ cs)) L)) : Out g (Rep g) W σ H m (MAt X g g0 W call mn ms cs (liftA g W fs) σ Q) (fo env L) := by
  refine h.bind fun x L1 v H1 m1 x1 r1 q1 h1 => ?_
  cases em : methAt L1 x ms with
  | none => rw [em] at h1; exact h1.elim
  | some j =>
    rw [em] at h1
    obtain ⟨l, c, fs', rfl, e1, e2⟩ := methAt_some em
    obtain ⟨a, dx, xs, rfl, h2, h3, h4, h5⟩ := r1.insAt q1 e1
    obtain ⟨f, fd, ps, ds, m1', m2, m3, m5⟩ := M c j e2
    have no : xs.lookup mn = none := h4.no fun p hp z => by
      have := h5.2 p hp
      rw [z] at this
      have e := m1'.at_
      rw [hK] at e
      rw [show PySem.W.findIn g.K (.ref (g.kad c)) mn = some none from this] at e
      cases e
    refine ⟨c, j, a, dx, xs, e2, rfl, h3, no, h5.1, env, L1, m1, R.ext x1 r1, ?_⟩
    have h1' : Out g (Rep g) W σ H1 m1 Q ((fs env L1).bind fun xs L => call j (D.loc l :: (xs ++ cs)) L) := h1
    refine h1'.bind fun ys L2 vs H2 m2' x2 r2 q2 h2' => ?_
    refine ⟨g.hid, D.loc l :: (ys ++ cs), L2, m2', ?_, ?_, ?_⟩
    · rw [← hg0]; exact r2
    · rw [← hg0]; exact .cons (Rep.ext x2 _ _ q1) (q2.append (con_reps _ _ _ hcs))
    · rw [← hg0]; exact out_W (fun c d H q => q) h2'
theorem se_meth {call : Nat → List D → LH → R D} {ms : List (Nat × Nat)} {cs : List D} {g0 : G} (hK : X.K = g.K) (hg0 : g = g0.with g.hid) (hcs : cs.all conB = true) (M : MsOk X g g0 gd k call mn ms cs) (hr : Room k X.A) (hgd : gd = true → X.A.guards = some []) (tk : Takes X W)
    (ho : PE X o (liftE g W fo)) (ha : PA X es (liftA g W fs)) (hn : es.all notStar = true) (hnil : es = [] → ∀ env L, fs env L = .ok [] L) (hb : baseOk o = true) (hline : (apos.endLine == cpos.line) = true) (hfew : decide (es.length < 30) = true) :
    PE X (.Call (.Attribute o mn apos) es [] cpos) (liftE g W fun env L => (fo env L).bind fun x L => (opt (methAt L x ms) L).bind fun j L => (fs env L).bind fun xs L => call j (x :: (xs ++ cs)) L) := by
  refine ⟨fun pins s σ H Q I ⟨env, L, m, R, h⟩ => ?_⟩
  rw [arm_eval_Call, base_ok hb]
  refine wpAny_bind (thn (ho.run pins s σ H (MAt X g g0 W call mn ms cs (liftA g W fs) σ Q) I ⟨env, L, m, R, meth_at hK hg0 hcs M R h⟩) fun u s1 ⟨v, H1, I1, rv, c, j, a, dx, xs, e1, e2, e3, e4, e5, q⟩ => ?_)
  subst e2
  obtain rfl : u = Value.ref a := rv
  obtain ⟨f, fd, ps, ds, m1, m2, m3, m5⟩ := M c j e1
  refine wpAny_bind (wpAny_standAt ?_)
  have hstar : (backTo cpos (starEach es X.env)).any (·.1) = false := back_any hn
  have hform : methodCallForm (es.length + ([] : List Keyword).length) (backTo cpos (starEach es X.env)) (backToKw cpos (keywordEach [] X.env)) = true := by
    unfold methodCallForm
    have h1 : (backTo cpos (starEach es X.env)).all (!·.1) = true := by
      rw [List.all_eq_true]
      intro z hz
      rw [List.any_eq_false] at hstar
      have := hstar z hz
      simpa using this
    rw [h1]
    simp only [backToKw, keywordEach, List.map_nil, List.all_nil, List.isEmpty_nil, if_true, List.length_nil, Nat.add_zero, Bool.and_true, Bool.true_and]
    exact hfew
  have hpos : methodCallPos true o X.env apos cpos = pure cpos := by unfold methodCallPos; simp [hline]
  unfold methodCall
  rw [hform]
  refine wpAny_bind (wpAny_holding (getmeth_ok I1 e3 (by rw [hK]; exact e5) m1 e4 ?_))
  refine wpAny_bind (wpAny_of_eq hpos ?_)
  cases es with
  | nil =>
    refine PySem.W.callWith_K0 (first := [.ref a]) I1.kIn m1.kp ?_
    have q0 : spF g0 (call j) (.ref a :: ([] ++ cs.map vOf)) H1 Q fun cls d H' => W cls d σ H' := by
      obtain ⟨env1, L1, m1', R1, h1⟩ := q
      rw [hnil rfl] at h1
      exact h1.ok_ R1.h .nil
    exact call_runD (us := [.ref a]) (vs := [.ref a]) m5 hr hgd m2 m3 tk I1 (.cons rfl .nil) q0
  | cons e es =>
    have hn' := hn
    rw [List.all_cons, Bool.and_eq_true] at hn'
    refine PySem.W.callWith_K (first := [.ref a]) (h₀ := X.base) I.ok.mod.kin m1.kp (thn (ha.run cpos pins s1 σ H1 _ I1 q) fun us s2 ⟨vs, H2, I2, r, q2⟩ => ⟨I2.kIn, ?_⟩) (starEach_ns hn'.1) (back_any hn'.2)
    exact call_runD (us := .ref a :: us) (vs := .ref a :: vs) m5 hr hgd m2 m3 tk I2 (.cons rfl r) q2
/-! ### makings -/
theorem run_makeG {C : Addr} {pins : List (Addr × Obj)} {σ : L2.St} {H : Hp} {s : Shared} {Q : VK} {us : List Value} {vs : List V} (M : Mk X.K C f) (F : FnG X.prog X.w X.K X.mg X.base gd k f fd ps sp) (hr : Room (k + 1) X.A) (hgd : gd = true → X.A.guards = some []) (hb : Binds X.K fd ps []) (tk : Takes X W)
    (I : Inv X pins σ H s) (r : Vals vs us)
    (h : ∀ x dx, H x = none → H dx = none → dx ≠ x → sp (.ref x :: vs) (upd (upd H dx (.own x)) x (.ins C dx [])) (fun v H2 => v = .non ∧ Q (.ref x) H2) (fun cls d H' => W cls d σ H')) :
    wpAny (model X.prog X.w) X.A (call (.ref C) us) (EP X pins σ Q) X.xe s := by
  have hq := h (s.heap.objs.size + 1) s.heap.objs.size (I.hok.fresh (Nat.le_succ _)) (I.hok.fresh (Nat.le_refl _)) (Nat.ne_of_lt (Nat.lt_succ_self _))
  have I2 := Inv.made (C := C) I
  have r2 : Vals (V.ref (s.heap.objs.size + 1) :: vs) (Value.ref (s.heap.objs.size + 1) :: us) := .cons rfl r
  have hl : (Value.ref (s.heap.objs.size + 1) :: us ++ []).length = ps.length := by
    have e := r2.length
    rw [F.len _ _ _ _ hq] at e
    rw [List.append_nil]
    exact e.symm
  have bs := hb _ (Value.ref (s.heap.objs.size + 1) :: us) I2.kIn hl
  rw [List.append_nil] at bs
  refine wpAny_call (make_map (f := f) I.kIn M.makes M.init (beq_iff_eq.mp M.fn) (codeAny_mono (F.run _ X.stack _ _ ⟨Value.ref (s.heap.objs.size + 1) :: us, []⟩ (Value.ref (s.heap.objs.size + 1) :: us) _ _ _ (hr.make C us []) hgd
    (I2.env0.make C us []) bs r2 hq) fun r s' hq' => ?_))
  match r, hq' with
  | .error err, hq' => exact tk err s' (XE.of_call I2 (fun cls d H' q => q) hq')
  | .ok (.ret u), hq' =>
    obtain ⟨v, H', I3, rv, ev, q3⟩ := I2.after hq'
    subst ev
    exact ⟨rv, ⟨V.ref (s.heap.objs.size + 1), H', I3, rfl, q3⟩⟩
theorem se_new {call : List D → LH → R D} {c : Nat} {g0 : G} {y : Str} (hK : X.K = g.K) (hg0 : g = g0.with g.hid) (M : Mk X.K (g.kad c) f) (cl : Cls X.K (g.kad c)) (F : FnG X.prog X.w X.K X.mg X.base gd k f fd ps (spF g0 call)) (hr : Room (k + 1) X.A) (hgd : gd = true → X.A.guards = some []) (hg : Gl X y) (hm : X.mg y = some (.ref (g.kad c)))
    (hb : Binds X.K fd ps []) (tk : Takes X W) (ha : PA X es (liftA g W fs)) (hn : es.all notStar = true) (hnil : es = [] → ∀ env L, fs env L = .ok [] L) (hdb : (y == ("__debug__" : Str)) = false) :
    PE X (.Call (.Name y p) es [] pos) (liftE g W fun env L => (fs env L).bind fun xs L => (call (.loc L.length :: xs) (L ++ [.ins c []])).bind (newEnd L.length)) := by
  have core : ∀ {env : Env} {L : LH} {m : List Addr} {σ : L2.St} {H : Hp} {Q : VK} (R : Rel g σ H env L m), Out g (Rep g) W σ H m Q ((fs env L).bind fun xs L => (call (.loc L.length :: xs) (L ++ [.ins c []])).bind (newEnd L.length)) →
      Out g (Reps g) W σ H m (fun vs H1 => ∀ x dx, H1 x = none → H1 dx = none → dx ≠ x → spF g0 call (.ref x :: vs) (upd (upd H1 dx (.own x)) x (.ins (g.kad c) dx [])) (fun v H2 => v = .non ∧ Q (.ref x) H2) fun cls d H' => W cls d σ H') (fs env L) := by
    intro env L m σ H Q R h
    refine h.bind fun xs L1 vs H1 m1 x1 r1 q1 h1 x dx hx hd ne => ?_
    have xm := ext_made (m := m1) (C := g.kad c) hx hd ne
    have rm := r1.made hx hd ne (by rw [← hK]; exact cl)
    have h2 := Out.ext xm h1
    have hl : (m1 ++ [x])[L1.length]? = some x := by rw [← r1.len]; simp
    refine ⟨g.hid, .loc L1.length :: xs, L1 ++ [.ins c []], m1 ++ [x], ?_, ?_, ?_⟩
    · rw [← hg0]; exact rm
    · rw [← hg0]; exact .cons (.loc hl) (Reps.ext xm _ _ q1)
    · rw [← hg0]
      refine out_W (fun c d H q => q) (h2.bind fun a L2 v H2 m2 x2 r2 q2 h3 => ?_)
      cases a with
      | non =>
        cases q2
        exact ⟨rfl, h3 _ _ _ Ext.refl r2 (.loc (x2.mget hl))⟩
      | _ => exact h3.elim
  refine ⟨fun pins s σ H Q I ⟨env, L, m, R, h⟩ => ?_⟩
  refine wpAny_Call_Name_kw (ld_glob I hg hm ?_ hdb)
  cases es with
  | nil =>
    have h0 := core R h
    rw [hnil rfl] at h0
    exact PySem.W.callWith_K0 I.kIn M.kp (run_makeG (us := []) M F hr hgd hb tk I .nil (h0.ok_ R.h .nil))
  | cons e es =>
    have hn' := hn
    rw [List.all_cons, Bool.and_eq_true] at hn'
    refine PySem.W.callWith_K (h₀ := X.base) I.ok.mod.kin M.kp (thn (ha.run pos pins s σ H _ I ⟨env, L, m, R, core R h⟩) fun us s1 ⟨vs, H1, I1, r, q⟩ => ⟨I1.kIn, ?_⟩) (starEach_ns hn'.1) (back_any hn'.2)
    exact run_makeG M F hr hgd hb tk I1 r q
/-! ### stores -/
theorem ss_setA {v : Expr} {cs : List Nat} {i : Nat} {y : Str} {tpos : Pos} (hK : X.K = g.K) (hv : PE X v (liftE g W fv)) (ho : PE X o (liftE g W fo)) (hf : g.fld i = y) (hcs : ∀ c ∈ cs, NoAttr g.K (g.kad c) (g.fld i)) (hs : swapsWith v (some (.Attribute o y tpos)) pos.line X.env = pure false) :
    PS X (.Assign [.Attribute o y tpos] v pos) (liftS g W fun env L => (fv env L).st env fun z L => (fo env L).st env fun x L => match setAt L x cs i z with
    | some L => .nx env L
    | none => .bad) := by
  subst hf
  refine PS.weak (ps_fld ho hv hs) fun D σ H ⟨env, L, m, R, h⟩ => ⟨env, L, m, R, h.st R fun z L1 vz H1 m1 x1 r1 q1 h1 => ?_⟩
  refine ⟨env, L1, m1, r1, h1.st r1 fun x L2 vx H2 m2 x2 r2 q2 h2 => ?_⟩
  cases e : setAt L2 x cs i z with
  | none => rw [e] at h2; exact h2.elim
  | some L3 =>
    rw [e] at h2
    obtain ⟨a, C, dx, xs, rfl, e1, e2, e3, e4, e5, e6⟩ := setAt_ok r2.h q2 (Rep.ext x2 _ _ q1) e hcs
    rw [hK]
    exact ⟨a, C, dx, xs, rfl, e1, e2, e3, e4, h2 σ _ m2 e5 (r2.ext e5 e6)⟩
/-- a target o.f -/
def gFld (K : PySem.W.Frag) (ta : TE) (y : Str) : TG := fun v σ H Q => ta σ H fun x H1 => ∃ a C dx fs, x = .ref a ∧ H1 a = some (.ins C dx fs) ∧ Cls K C ∧ NoAttr K C y ∧ fs.length < 1000 ∧ Q σ (upd H1 a (.ins C dx (putF y v fs)))
theorem pg_fld {y : Str} {ta : TE} (ho : PE X o ta) : PG X (.Attribute o y pos) (gFld X.K ta y) := by
  refine ⟨fun pins s σ H v u Q I r h => ?_⟩
  rw [arm_assign_Attribute]
  refine wpAny_bind (wpAny_holding (thn (ho.run pins s σ H _ I h) fun ov s1 ⟨x, H1, I1, r1, a, C, dx, fs, ex, ea, c, n, l, q⟩ => ?_))
  subst ex
  obtain rfl : ov = Value.ref a := r1
  refine wpAny_bind (wpAny_standAt (wpAny_bind (wpAny_holding (setattr_ok I1 ea c n l r fun s2 I2 => ?_))))
  exact wpAny_release ⟨σ, _, I2, q⟩
/-- a target of an unpacking -/
def ta1 (K : PySem.W.Frag) (fld : Nat → Str) : Ta → TG
  | .nm i => gName i
  | .at_ i _ f => gFld K (tVar i) (fld f)
def taR (K : PySem.W.Frag) (fld : Nat → Str) : List Ta → TGs
  | [] => gNil
  | t :: ts => gCons (ta1 K fld t) (taR K fld ts)
theorem taR_ok : ∀ (ts : List Ta) (ds : List D) (vs : List V) (σ : L2.St) (H : Hp) (env env' : Env) (L L' : LH) (m : List Addr) (Q : L2.St → Hp → Prop), (∀ t ∈ ts, ∀ i cs f, t = .at_ i cs f → ∀ c ∈ cs, NoAttr g.K (g.kad c) (g.fld f)) →
    Rel g σ H env L m → Reps g H m ds vs → putTa ts ds env L = some (env', L') → (∀ σ' H', Ext H m H' m → Rel g σ' H' env' L' m → Q σ' H') → taR g.K g.fld ts vs σ H Q
  | [], [], _, σ, H, env, env', L, L', m, Q, _, r, .nil, h, k => by
    simp only [putTa, Option.some.injEq, Prod.mk.injEq] at h
    obtain ⟨rfl, rfl⟩ := h
    exact ⟨rfl, k σ H Ext.refl r⟩
  | .nm i :: ts, d :: ds, _, σ, H, env, env', L, L', m, Q, hn, r, .cons a b, h, k => by
    simp only [putTa] at h
    exact ⟨_, _, rfl, taR_ok ts ds _ _ H _ env' L L' m Q (fun t ht => hn t (List.mem_cons_of_mem _ ht)) (r.set i a) b h k⟩
  | .at_ i cs f :: ts, d :: ds, _, σ, H, env, env', L, L', m, Q, hn, r, .cons a b, h, k => by
    simp only [putTa] at h
    cases e1 : env[i]? with
    | none => rw [e1] at h; cases h
    | some o1 =>
      cases o1 with
      | none => rw [e1] at h; cases h
      | some x =>
        rw [e1] at h
        simp only at h
        cases e2 : setAt L x cs f d with
        | none => rw [e2] at h; cases h
        | some L1 =>
          rw [e2] at h
          obtain ⟨v, s1, s2⟩ := r.vars i x e1
          obtain ⟨ad, C, dx, xs, rfl, f1, f2, f3, f4, f5, f6⟩ := setAt_ok r.h s2 a e2 (hn _ List.mem_cons_self i cs f rfl)
          refine ⟨_, _, rfl, ?_⟩
          refine ⟨.ref ad, s1, ad, C, dx, xs, rfl, f1, f2, f3, f4, ?_⟩
          exact taR_ok ts ds _ σ _ env env' L1 L' m Q (fun t ht => hn t (List.mem_cons_of_mem _ ht)) (r.ext f5 f6) (Reps.ext f5 _ _ b) h fun σ' H' x' r' => k σ' H' (f5.trans x') r'
  | [], _ :: _, _, _, _, _, _, _, _, _, _, _, _, _, h, _ => by simp [putTa] at h
  | .nm _ :: _, [], _, _, _, _, _, _, _, _, _, _, _, _, h, _ => by simp [putTa] at h
  | .at_ _ _ _ :: _, [], _, _, _, _, _, _, _, _, _, _, _, _, h, _ => by simp [putTa] at h
theorem putTa_len : ∀ (ts : List Ta) (ds : List D) (env env2 : Env) (L L2 : LH), putTa ts ds env L = some (env2, L2) → ds.length = ts.length := by
  intro ts
  induction ts with
  | nil =>
    intro ds env env2 L L2 h
    cases ds with
    | nil => rfl
    | cons _ _ => simp [putTa] at h
  | cons t ts ih =>
    intro ds env env2 L L2 h
    cases ds with
    | nil => cases t <;> simp [putTa] at h
    | cons d ds =>
      cases t with
      | nm i => simp only [putTa] at h; simp [ih _ _ _ _ _ h]
      | at_ i cs f =>
        simp only [putTa] at h
        split at h
        · split at h
          · simp [ih _ _ _ _ _ h]
          · cases h
        · cases h
theorem ss_unp {v : Expr} {ts : List Ta} {tts : List Expr} {kt : Nat} {pt : Pos} (hK : X.K = g.K) (hc : X.calm = true) (hv : PE X v (liftE g W fv)) (hg : PGs X tts (taR g.K g.fld ts)) (hl : tts.length = ts.length) (hst : tts.all notStar = true) (hcs : ∀ t ∈ ts, ∀ i cs f, t = .at_ i cs f → ∀ c ∈ cs, NoAttr g.K (g.kad c) (g.fld f))
    (hs : swapsWithSole [.Tuple tts kt pt] v pos.line X.env = pure false) (hw : swappedStores [.Tuple tts kt pt] v X.env = pure none) (ha : (assignEach [.Tuple tts kt pt] X.env).map (·.2) = [assign (.Tuple tts kt pt) X.env]) (hen : (assignEach tts X.env).length = tts.length) (hei : (assignEach tts X.env).findIdx? (·.1) = none) :
    PS X (.Assign [.Tuple tts kt pt] v pos) (liftS g W fun env L => (fv env L).st env fun x L => match unpD x with
    | none => .bad
    | some ds => match putTa ts ds env L with
      | some (env, L) => .nx env L
      | none => .bad) := by
  refine PS.weak (ps_asg hv (pg_tup (n := tts.length) hc hg hen hei) hs hw ha) fun D σ H ⟨env, L, m, R, h⟩ => ⟨env, L, m, R, h.st R fun z L1 vz H1 m1 x1 r1 q1 h1 => ?_⟩
  cases z with
  | tup ds =>
    cases q1 with
    | @tup ad xs _ e1 e2 e3 =>
      simp only [unpD] at h1
      cases ep : putTa ts ds env L1 with
      | none => rw [ep] at h1; exact h1.elim
      | some p =>
        obtain ⟨env2, L2⟩ := p
        rw [ep] at h1
        have hlen : xs.length = tts.length := by rw [← e3.len, putTa_len _ _ _ _ _ _ ep, hl]
        refine ⟨ad, xs, rfl, by rw [hK]; exact e1, hlen, ?_⟩
        exact taR_ok ts ds xs σ H1 env env2 L1 L2 m1 _ hcs r1 e3 ep fun σ' H' x' r' => h1 σ' H' m1 x' r'
  | _ => exact h1.elim
/-! ### list(a), a.extend(b) -/
theorem se_mlist (hK : X.K = g.K) (hg : Gl X "list") (hm : X.mg "list" = none) (hn : notStar a = true) (ha : PE X a (liftE g W fa)) :
    PE X (.Call (.Name "list" p) [a] [] pos) (liftE g W fun env L => (fa env L).bind fun x L => (opt (itemsL L x) L).bind fun xs L => if xs.length ≤ size16 then .ok (.loc L.length) (L ++ [.lst xs]) else .bad) := by
  refine PE.weak (pe_callTy (call_list_of (X := X)) hg hm (by decide +kernel) (sa_cons ha sa_nil (starEach_ns hn)) (by decide) (by decide) (starEach_ns hn) rfl) fun σ H Q ⟨env, L, m, R, h⟩ => ⟨env, L, m, R, ?_⟩
  have key : Out g (Rep g) W σ H m (fun v H1 => ∃ p ys, [v] = [V.ref p] ∧ (SqL X.K H1 p ys ∨ SqT X.K H1 p ys) ∧ ∀ l, H1 l = none → Q (.ref l) (upd H1 l (.lst ys))) (fa env L) := h.bind fun x L1 v H1 m1 x1 r1 q1 h1 => by
    cases ei : itemsL L1 x with
    | none => rw [ei] at h1; exact h1.elim
    | some ds =>
      rw [ei] at h1
      have h1' : Out g (Rep g) W σ H1 m1 Q (if ds.length ≤ size16 then Ev.R.ok (.loc L1.length) (L1 ++ [.lst ds]) else .bad) := h1
      by_cases hz : ds.length ≤ size16
      · rw [if_pos hz] at h1'
        have fin : ∀ (p : Addr) (ys : List V), v = .ref p → (SqL g.K H1 p ys ∨ SqT g.K H1 p ys) → Reps g H1 m1 ds ys → ∃ p ys, [v] = [V.ref p] ∧ (SqL X.K H1 p ys ∨ SqT X.K H1 p ys) ∧ ∀ l, H1 l = none → Q (.ref l) (upd H1 l (.lst ys)) := fun p ys e s q =>
          ⟨p, ys, by rw [e], by rw [hK]; exact s, fun l hl => h1' _ _ _ (ext_push hl) (r1.push hl (by rw [← q.len, ← size16_eq]; exact hz) q) (.loc (by rw [← r1.len]; simp))⟩
        cases x with
        | tup xs => cases ei; cases q1 with | tup a1 a2 a3 => exact fin _ _ rfl (.inr a1) a3
        | lst xs => cases ei; cases q1 with | lst a1 a2 a3 a4 => exact fin _ _ rfl (.inl (SqL.of a1)) a4
        | loc l =>
          simp only [itemsL] at ei
          cases q1 with
          | loc hm =>
            obtain ⟨o, e1, ro⟩ := r1.at_ hm
            rw [e1] at ei
            cases o with
            | ins c fs => cases ei
            | lst ds' =>
              cases ei
              obtain ⟨xs, b1, b2, b3⟩ := ro
              exact fin _ _ rfl (.inl (SqL.of b1)) b3
        | _ => cases ei
      · rw [if_neg hz] at h1'; exact h1'.elim
  show Out g (Reps g) W σ H m _ ((fa env L).bind fun x L => (Ev.R.ok [] L).bind fun xs L => Ev.R.ok (x :: xs) L)
  cases e : fa env L with
  | ok x L1 => rw [e] at key; simp only [Ev.R.bind_ok]; intro v H1 m1 x1 r1 q1; obtain ⟨w, rfl, q⟩ := q1.inv1; exact key w H1 m1 x1 r1 q
  | exc c w L1 => rw [e] at key; exact key
  | bad => rw [e] at key; exact key.elim
theorem se_ext (hK : X.K = g.K) (ho : PE X o (liftE g W fo)) (ha : PE X a (liftE g W fa)) (hb : baseOk o = true) (hline : (apos.endLine == cpos.line) = true) (hn : notStar a = true) :
    PE X (.Call (.Attribute o "extend" apos) [a] [] cpos) (liftE g W fun env L => (fo env L).bind fun x L => match lstAt L x with
    | none => .bad
    | some l => (fa env L).bind fun y L => match L[l]?, y with
      | some (.lst xs), .lst ys => if xs.length + ys.length ≤ size16 then .ok .non (L.set l (.lst (xs ++ ys))) else .bad
      | _, _ => .bad) := by
  refine PE.weak (pe_bm PySem.F.plainAttrs_list PySem.F.slot_list_extend PySem.F.type_list_extend mt_extend ho (pa_cons ha pa_nil (starEach_ns hn)) (base_ok hb) (by rw [starEach_one hn]; rfl) hline (starEach_ns hn) rfl)
    fun σ H Q ⟨env, L, m, R, h⟩ => ⟨env, L, m, R, h.bind fun x L1 v H1 m1 x1 r1 q1 h1 => ?_⟩
  cases el : lstAt L1 x with
  | none => rw [el] at h1; exact h1.elim
  | some l =>
    rw [el] at h1
    have ex : x = .loc l := by
      cases x <;> simp [lstAt] at el
      split at el
      · simp only [Option.some.injEq] at el; rw [el]
      · cases el
    subst ex
    have ty : tyV X.K "list" v H1 := by
      cases q1 with
      | loc hm =>
        obtain ⟨ob, e1, ro⟩ := r1.at_ hm
        cases ob with
        | lst ds => obtain ⟨xs, h2, _, _⟩ := ro; exact .inl ⟨rfl, _, SqL.of h2⟩
        | ins c fs => simp [lstAt, e1] at el
    refine ⟨ty, env, L1, m1, R.ext x1 r1, h1.bind fun y L2 u H2 m2 x2 r2 q2 h2 => ?_⟩
    have q1' := Rep.ext x2 _ _ q1
    cases q1' with
    | loc hm =>
      obtain ⟨ob, e1, ro⟩ := r2.at_ hm
      rw [e1] at h2
      cases ob with
      | ins c fs => exact h2.elim
      | lst ds =>
        obtain ⟨xs, b1, b2, b3⟩ := ro
        cases y with
        | lst ys =>
          cases q2 with
          | @lst b zs _ c1 c2 c3 c4 =>
            simp only at h2
            by_cases hz : ds.length + ys.length ≤ size16
            · rw [if_pos hz] at h2
              have hz' : xs.length + zs.length ≤ sizeLine := by rw [← b3.len, ← c4.len, ← size16_eq]; exact hz
              refine ⟨_, b, xs, zs, rfl, rfl, b1, c1, hz', h2 .non _ m2 (ext_write (l := l) b1 (List.mem_of_getElem? hm)) (r2.write hm b1 ?_ (b3.append c4)) .non⟩
              rw [List.length_append]; exact hz'
            · rw [if_neg hz] at h2; exact h2.elim
        | _ => exact h2.elim
end
end Ev
end

section
set_option Elab.async false
set_option linter.all false
set_option maxRecDepth 100000
set_option autoImplicit false
set_option maxHeartbeats 1000000
/-! the program's exceptions: Refused(ValueError) with super().__init__(what); self.what = what -/
namespace Ev
open PySem PySem.W PySem.Calls PyProof.Rows PySem.HandSPX

def xA (l : Nat) : Arguments := { posonlyargs := [], args := [{ arg := "self", annotation := none, pos := ⟨l - 1, 17, l - 1, 21⟩ }, { arg := "what", annotation := none, pos := ⟨l - 1, 23, l - 1, 27⟩ }], vararg := none, kwonlyargs := [], kw_defaults := [], kwarg := none, defaults := [] }
def xB (l : Nat) : List Stmt := [.Expr (.Call (.Attribute (.Call (.Name "super" ⟨l, 8, l, 13⟩) [] [] ⟨l, 8, l, 15⟩) "__init__" ⟨l, 8, l, 24⟩) [.Name "what" ⟨l, 25, l, 29⟩] [] ⟨l, 8, l, 30⟩) ⟨l, 8, l, 30⟩, .Assign [.Attribute (.Name "self" ⟨l + 1, 8, l + 1, 12⟩) "what" ⟨l + 1, 8, l + 1, 17⟩] (.Name "what" ⟨l + 1, 20, l + 1, 24⟩) ⟨l + 1, 8, l + 1, 24⟩]
def xS : Scope := { kind := .function, names := [(PySem.Str.ofString "self", .local), (PySem.Str.ofString "what", .local), (PySem.Str.ofString "__class__", .free), (PySem.Str.ofString "super", .globalImplicit)], isGenerator := false, isCoroutine := false, more := [] }

/-- what the written part says of the exceptions' first class, at D, and of its __init__, at fI -/
structure XTop (l : Nat) (P : Program) (K : Frag) (mg : Str → Option Value) (D fI : Addr) : Prop where
  fn : ∃ (oc : Value) (od : Option Addr) (doc pm : Value) (an : Option Addr) (cda cc : Addr) (ct : Value) (osl : Array (Option Value)),
    K.lookup fI = some ⟨oc, od, .func (ksFn "__init__" "Refused.__init__" (xA l) (xB l) xS .none .none doc pm an (.ref cda) ct cc), osl⟩ ∧ codeIn K (.ref cda) "Refused.__init__" = true ∧
      (∃ (ccl : Value) (cdd : Option Addr) (vs : Array Value) (ccs : Array (Option Value)) (file : Str) (tf : Tok), K.lookup cda = some ⟨ccl, cdd, .fields vs, ccs⟩ ∧ vs[2]? = some (.str file tf) ∧ ((P.main.file : Str) == file) = true) ∧
      ∃ (cl : Value) (cld : Option Addr) (csl : Array (Option Value)), K.lookup cc = some ⟨cl, cld, .cell (some (.ref D)), csl⟩
  cls : ∃ cd, clsIn K D = some cd
  noS : mg "super" = none
  top : (P.main.scope.names.lookup ("super" : Str)).isSome = false
  stat : nsIn K cStatics "thirdparty.any" = some none
  tI : typeIn K (.ref fI) = some (.type "function")
  dg : specialIn K (.builtin "object.__class__") "__get__" = some (some (.builtin "getset_descriptor.__get__"))
  dt : takesIn K (.builtin "object.__class__") = some true
/-- what it says of a class at C -/
structure XCls (K : Frag) (D fI C : Addr) : Prop where
  cls : ∃ nm q N bs bm sn sub ab col dd k0 k1 k2 k3 k5, K.lookup C = some (excClassObj nm q C N bs bm true sn sub ab col dd k0 k1 k2 k3 k5 "ValueError.__new__") ∧ refsVE bm = true
  ini : excInitIn K C veTail "ValueError.__new__" = true
  sup : ks_superIn K C D "__init__" = some (some (.builtin "ValueError.__init__"))
  subD : mroIn K C (.ref D) = some true
  subV : subIn K (.ref C) (.type "ValueError") = some true
  sa : findIn K (.ref C) "__setattr__" = some (some (.builtin "object.__setattr__"))
  ga : findIn K (.ref C) "__getattribute__" = some (some (.builtin "BaseException.__getattribute__"))
  gg : findIn K (.ref C) "__getattr__" = some none
  noN : findIn K (.ref C) "what" = some none
  iC : findIn K (.ref C) "__init__" = some (some (.ref fI))
  kC : keepIn K (.ref C) = true
  exC : subIn K (.ref C) (.type "BaseException") = some true
  tyC : typeIn K (.ref C) = some (.type "type")
  hdC : hasDictIn K C = true
  clC : (clsIn K C).isSome = true
  dcC : findIn K (.ref C) "__class__" = some (some (.builtin "object.__class__"))
  obC : mroIn K C (.type "object") = some true
theorem len1 (v : Value) : [v].length ≤ sizeLine := by
  rw [sizeLine_eq]; exact (by decide : 1 ≤ 16777216)
/-- behind __init__ -/
structure XEnd (h h' : Heap) (x C dx : Addr) (v : Value) : Prop where
  keep : ∀ b o, b ≠ x → h.get? b = some o → h'.get? b = some o
  obj : ∃ t1, h'.get? x = some { cls := .ref C, dict := some dx, data := .fields #[.ref t1, .none, .none, .none, .bool false, .none] }
  dbig : h.objs.size ≤ dx
  dne : dx ≠ x
  ns : h'.Ns1 dx (fun y => if y = "what" then some v else none)
structure XMade (h h' : Heap) (e C d : Addr) (v : Value) : Prop where
  keep : ∀ b o, h.get? b = some o → h'.get? b = some o
  new : h.objs.size ≤ e
  obj : ∃ oe vs, h'.get? e = some oe ∧ oe.cls = .ref C ∧ oe.dict = some d ∧ oe.data = .fields vs ∧ vs[1]? = some .none
  dbig : h.objs.size ≤ d
  dne : d ≠ e
  ns : h'.Ns1 d (fun y => if y = "what" then some v else none)
section
variable {prog : Program} {w : World} {A : Around} {E : Value → Shared → Prop} {R : Result → Shared → Prop} {s : Shared} {K : Frag} {mg : Str → Option Value} {D fI C : Addr} {base : Heap} {l : Nat}
theorem x_init (hll : l = 5 ∨ l = 8) (T : XTop l prog K mg D fI) (T2 : XCls K D fI C) {x : Addr} {v : Value} (B : L2.Mod K mg base) (hbk : ∀ b o, base.get? b = some o → s.heap.get? b = some o) (hx : s.heap.get? x = some (excO C (x - 1))) (hnx : base.get? x = none)
    (hbs : base.objs.size ≤ s.heap.objs.size) (hroom : A.depth < recursionLimit)
    (hq : ∀ h' tk dx, XEnd s.heap h' x C dx v → R (.ok (.ret .none)) { s with heap := h', toks := tk }) :
    codeAny (model prog w) A (.call (.ref fI) ⟨[.ref x, v], []⟩) R s := by
  obtain ⟨oc, od, doc, pm, an, cda, cc, ct, osl, ho, hcd, ⟨ccl, cdd, cvs, ccs, file, tf, hc1, hc2, hc3⟩, cl, cld, csl, hcell⟩ := T.fn
  obtain ⟨nm, q, N, bs, bm, sn, sub, ab, col, dd, k0, k1, k2, k3, k5, hC, hbm⟩ := T2.cls
  obtain ⟨cdD, hDc⟩ := T.cls
  have hcl : clsIn K C = some { name := nm, bases := bs, mro := .ref C :: bm, ns := N, qualname := q, hasDict := true, slotNames := sn, subclasses := sub, abstract := ab, collection := col, hasDel := false } := by unfold clsIn; rw [hC] <;> rfl
  have X0 : K.In s.heap := B.kin.keeps hbk
  obtain ⟨hh0, g, d, tk0, os⟩ := s
  refine ks_codeAny_call_defAt (binds := [("self", .ref x), ("what", v)]) hroom (X0 _ _ ho) rfl (B.nolimit.keeps hbk) (codeRec_of X0 hcd) rfl (BindsTo.of_eq (by first | rfl | with_unfolding_all rfl)) (show ∀ y ∈ xS.names, y.2 ≠ .cell by decide) (locs rfl) (fun h1 hns hk1 => ?_) rfl rfl rfl
  have hx1 := hk1 _ _ hx
  have bk1 : ∀ b o, base.get? b = some o → h1.get? b = some o := fun b o e => hk1 b o (hbk b o e)
  have X1 : K.In h1 := X0.keeps hk1
  have hlt : x < hh0.objs.size := Heap.lt_size hx
  show _root_.PySem.wpAt _ _ _ (execs _ (ksEnv "Refused.__init__" xS hh0.objs.size fI (.ref cda) cc)) _ _ _
  refine ks_wpAt_execs_cons (ks_wpAt_Expr_any (ks_wpAt_MethodCall (name := "__init__") (pl := ?pl) ?_ (by rcases hll with h | h <;> subst h <;> first | rfl | with_unfolding_all rfl)))
  obtain ⟨Gd, hGd⟩ : ∃ Gd, Gd = hideAll hh0 [x] := ⟨_, rfl⟩
  have gof : ∀ b o, Gd.get? b = some o → hh0.get? b = some o := fun b o e => of_hideAll [x] (by rw [← hGd]; exact e)
  have gto : ∀ b o, b ≠ x → hh0.get? b = some o → Gd.get? b = some o := fun b o hb e => by
    rw [hGd]; exact hideAll_get _ e (by simpa using hb)
  have gx : Gd.get? x = none := by rw [hGd]; exact hideAll_none _ (by simp)
  have XG : K.In Gd := fun a o e => gto a o (fun z => by
    have := B.kin a o e
    rw [z, hnx] at this; cases this) (X0 a o e)
  have F1 : Fr Gd hh0.objs.size h1 (fun y => ([("self", Value.ref x), ("what", v)] : List (Str × Value)).reverse.lookup y) := ⟨hns, fun b o e => hk1 b o (gof b o e), by rw [hGd]; exact Nat.le_of_eq (hideAll_size _ _)⟩
  have I1 : PySem.W.InstAt h1 x (excO C (x - 1)) C none := ⟨hx1, rfl, rfl, trivial⟩
  have N1 : News Gd hh0.objs.size h1 [(x, excO C (x - 1))] := fun p hp => by
    rw [List.mem_singleton] at hp
    subst hp
    exact ⟨hx1, Nat.ne_of_lt hlt, gx⟩
  obtain ⟨mb, hb1, hb2⟩ := B.blt
  obtain ⟨oD, hD1, hD2⟩ : ∃ oD, h1.get? D = some oD ∧ oD.data = .cls cdD := by
    unfold clsIn at hDc
    split at hDc
    · rename_i c d cd' sl ho
      cases hDc
      exact ⟨_, X1 _ _ ho, rfl⟩
    · cases hDc
  refine ks_wpAt_super_base (env := ksEnv "Refused.__init__" xS hh0.objs.size fI (.ref cda) cc) rfl rfl (by decide) rfl (X1 _ _ ho) rfl rfl rfl (X1 _ _ hc1) rfl hc2 hc3 T.top ?_
  refine ks_loadName_global rfl rfl (loadGlobal_builtin (B.glob.keeps bk1) T.noS (hb1.keeps bk1) ((hb2 _ (by decide)).trans (by first | rfl | decide +kernel)) ⟨rfl, ?_⟩)
  refine wpAny_loadName_free rfl rfl rfl ⟨_, X1 _ _ hcell, rfl⟩ ?_
  refine wpAny_loadName_local rfl rfl hns (v := .ref x) (by first | rfl | with_unfolding_all rfl | kernel_rfl) ?_
  refine ks_wpAny_isType_cls hD1 hD2 ⟨rfl, ?_⟩
  refine ks_wpAny_call_super hD1 hD2 hx1 rfl (fun c e => by cases e) (looks_mroIn X1 T2.subD) (fun h2 e2 k2 => ?_)
  obtain ⟨F2, N2, l2⟩ := ks_newsPush (s := ⟨h1, g, d, tk0, os⟩) F1 N1 rfl e2 k2
  have I2 : PySem.W.InstAt h2 x (excO C (x - 1)) C none := ⟨k2 _ _ hx1, rfl, rfl, trivial⟩
  refine kxs_method kxs_ValueError F2 XG N2 (List.mem_cons_self) I2 T.stat T2.sup T2.subV (by decide) fun u h3 F3 N3 l3 => ?_
  refine kxs_callWith1 (i := "ValueError.__init__") (x := x) N3 List.mem_cons_self ?_ rfl rfl
  refine spliced_cons ?_
  refine wpAny_Name (wpAny_loadName_local rfl rfl F3.ns (v := v) (by first | rfl | with_unfolding_all rfl | kernel_rfl) ?_) (by decide)
  refine spliced_nil ⟨kxs_at N3 List.mem_cons_self, ?_⟩
  have hxu : x < u := l3 (x, _) (List.mem_cons_of_mem _ List.mem_cons_self)
  have hxs : x < h1.objs.size := l2 (x, _) List.mem_cons_self
  refine kxs_call F3 XG N3 PySem.F.excBase_ValueError T2.ini List.mem_cons_self (.tail (Ne.symm (Nat.ne_of_lt hxu)) (.tail (Ne.symm (Nat.ne_of_lt hxs)) (.head fun _ h => nomatch h))) (len1 v) fun t4 h4 F4 N4 l4 => ?_
  have hx4 : h4.get? x = some (excObj C t4 none .none) := (N4 (x, excObj C t4 none .none) (by simp)).1
  refine wpAt_of_wpAny ?_
  show wpAny _ _ (execs _ _) _ _ _
  have hn4 := F4.ns
  have X4 : K.In h4 := XG.keeps F4.keep
  refine wpAny_execs_cons (plainObj_wpAny_Assign_Attribute ?_)
  refine wpAny_Name (wpAny_loadName_local rfl rfl hn4 (v := v) (by first | rfl | with_unfolding_all rfl | kernel_rfl) ?_) (by decide)
  refine wpAny_Name (wpAny_loadName_local rfl rfl hn4 (v := .ref x) (by first | rfl | with_unfolding_all rfl | kernel_rfl) ?_) (by decide)
  refine set_plain X4 (ox := excObj C t4 none .none) (od := none) ⟨hx4, rfl, rfl, trivial⟩ T2.sa ?_
  refine exc_osa X4 hx4 hcl (show refsVE (.ref C :: bm) = true from hbm) rfl T2.noN (fun h5 tk5 dx k5 dn dne hx5 hn5 => ?_)
  show wpAny _ _ (execs _ _) _ _ _
  have hL4 : hh0.objs.size < h4.objs.size := hn4.lt
  exact wpAny_execs_nil (hq h5 tk5 dx ⟨fun b o hb e => k5 b o hb (F4.keep b o (gto b o hb e)), ⟨t4, hx5⟩, Nat.le_of_lt (Nat.lt_of_lt_of_le hL4 dn), dne, hn5⟩)
theorem x_made (hll : l = 5 ∨ l = 8) (T : XTop l prog K mg D fI) (T2 : XCls K D fI C) {v : Value} (B : L2.Mod K mg base) (hbk : ∀ b o, base.get? b = some o → s.heap.get? b = some o) (hbs : base.objs.size ≤ s.heap.objs.size) (hroom : A.depth + 1 < recursionLimit)
    (hq : ∀ h' tk e d, XMade s.heap h' e C d v → R (.ok (.ret (.ref e))) { s with heap := h', toks := tk }) : codeAny (model prog w) A (.call (.ref C) ⟨[v], []⟩) R s := by
  obtain ⟨nm, q, N, bs, bm, sn, sub, ab, col, dd, k0, k1, k2, k3, k5, hC, hbm⟩ := T2.cls
  obtain ⟨hp, g, dr, tk, os⟩ := s
  have X0 : K.In hp := B.kin.keeps hbk
  have up : ∀ b o, hp.get? b = some o → ((hp.push (kdv_tup [v])).push (excO C hp.objs.size)).get? b = some o := fun b o e => Heap.get?_push_of_some _ (Heap.get?_push_of_some _ e)
  have there : ((hp.push (kdv_tup [v])).push (excO C hp.objs.size)).get? (hp.objs.size + 1) = some (excO C hp.objs.size) := by heap_get
  have hnx : base.get? (hp.objs.size + 1) = none := by
    cases e : base.get? (hp.objs.size + 1) with
    | none => rfl
    | some o => exact absurd (Nat.lt_of_succ_lt (Heap.lt_size (hbk _ _ e))) (Nat.lt_irrefl _)
  refine call_own PySem.F.excBase_ValueError (fun X => refsVE_contains X bm hbm) (X0 _ _ hC) (looks_findIn X0 T2.iC) (fun self => bind_fn X0 self T.tI) (len1 v) ?_
  refine x_init hll (s := ⟨(hp.push (kdv_tup [v])).push (excO C hp.objs.size), g, dr, tk, os⟩) T T2 B (fun b o e => up b o (hbk b o e)) there hnx ?_ ?_ fun h' tk' dx M => ?_
  · rw [Heap.size_push, Heap.size_push]
    exact Nat.le_trans hbs (Nat.le_trans (Nat.le_succ _) (Nat.le_succ _))
  · show A.depth + 1 < recursionLimit
    exact hroom
  · have old : ∀ b o, hp.get? b = some o → h'.get? b = some o := fun b o e => M.keep b o (Nat.ne_of_lt (Nat.lt_succ_of_lt (Heap.lt_size e))) (up b o e)
    have big : hp.objs.size + 1 + 1 ≤ dx := by
      have := M.dbig
      rw [Heap.size_push, Heap.size_push] at this
      exact this
    obtain ⟨t1, ht⟩ := M.obj
    exact ⟨rfl, hq h' tk' (hp.objs.size + 1) dx ⟨old, Nat.le_succ _, ⟨_, _, ht, rfl, rfl, rfl, rfl⟩, Nat.le_trans (Nat.le_trans (Nat.le_succ _) (Nat.le_succ _)) big, M.dne, M.ns⟩⟩
end
end Ev
end

section
set_option Elab.async false
set_option linter.all false
set_option maxRecDepth 100000
set_option autoImplicit false
set_option maxHeartbeats 1000000
/-! raise, try, what is read of an exception -/
namespace Ev
open PySem PySem.Spec PyProof.Rows L2
/-- the exceptions: their classes, names -/
structure XOk (l : Nat) (P : Program) (K : PySem.W.Frag) (mg : Str → Option Value) (g : G) (nms : List Str) : Prop where
  lin : l = 5 ∨ l = 8
  top : ∃ D fI, XTop l P K mg D fI ∧ ∀ c, XCls K D fI (g.cad c)
  nm : ∀ (c : Nat) (x : Str), nms[c]? = some x → mg x = some (.ref (g.cad c))
  exm : ∀ (c h : Nat) (x : Str), nms[h]? = some x → PySem.W.exmOne K (.ref (g.cad c)) (.ref (g.cad h)) = some (catches h c)
  kit : ∀ (c h : Nat) (x : Str), nms[h]? = some x → PySem.W.kitOne K (.ref (g.cad c)) (.ref (g.cad h)) = some (catches h c)
  val : ∀ c : Nat, PySem.W.kitOne K (.ref (g.cad c)) (.type "ValueError") = some true

theorem relO_what {v : V} {v' : Value} (r : RelV v v') (f : Str) : RelO (List.lookup f [(("what" : Str), v)]) (if f = "what" then some v' else none) := by
  by_cases hw : f = "what"
  · subst hw
    have q : List.lookup ("what" : Str) [(("what" : Str), v)] = some v := by simp [List.lookup]
    rw [if_pos rfl, q]; exact r
  · have qw : (f == ("what" : Str)) = false := by simpa using hw
    have q : List.lookup f [(("what" : Str), v)] = none := by simp [List.lookup, qw]
    rw [if_neg hw, q]; trivial
section
variable {X : Cx} {g : G} {W : WX} {a e : Expr} {fa fe : Env → LH → R D} {p p2 pos pos2 : Pos} {l : Nat} {nms : List Str} {x n : Str} {c : Nat}
/-- C(e) -/
theorem pmk_x {ta : TA} {k : Nat} (O : XOk l X.prog X.K X.mg g nms) (hc : nms[c]? = some x) (hr : Room k X.A) (ha : PA X [a] ta) (hg : Gl X x) (hdb : (x == ("__debug__" : Str)) = false) (hn : notStar a = true) :
    PMk X (.Call (.Name x p) [a] [] pos) (fun σ H Q => ta σ H fun vs H1 => ∃ v, vs = [v] ∧ ∀ d, H1 d = none → Q (.ref (g.cad c)) (some d) (upd H1 d (.xd [(("what" : Str), v)]))) := by
  intro pins s σ H Q I h
  obtain ⟨Dd, fI, T, T2⟩ := O.top
  have T2 := T2 c
  refine wpAny_Call_Name_kw (ld_glob I hg (O.nm c x hc) ?_ hdb)
  refine PySem.W.callWith_K (h₀ := X.base) I.ok.mod.kin T2.kC (thn (ha.run pos pins s σ H _ I h) fun us s1 hh => ?_) (starEach_ns hn) rfl
  obtain ⟨vs, H1, I1, r1, v, ev, q1⟩ := hh
  subst ev
  refine ⟨I1.kIn, ?_⟩
  cases r1 with
  | cons rv rn =>
    rename_i v' us'
    cases rn
    show wpAny _ _ (call (.ref (g.cad c)) [v']) _ _ _
    have e0 := I1.env0
    obtain ⟨hp, gs, dr, tk, os⟩ := s1
    refine wpAny_call (x_made O.lin T T2 e0.mod (fun b o e => (e0.bs b o e).1) e0.bsz (by have := hr.dp; omega) fun h' tk' ex d M => ?_)
    show MkP X pins σ Q (.ref ex) ⟨h', gs, dr, tk', os⟩
    obtain ⟨oe, fv, hoe, hcc, hd, hdat, h1⟩ := M.obj
    have hns := M.ns
    obtain ⟨G', g1, g2⟩ := restrict h' fun b => decide (b ≠ ex)
    have gk : ∀ b, b ≠ ex → G'.get? b = h'.get? b := fun b hb => g1 b (decide_eq_true hb)
    have ge : G'.get? ex = none := g2 ex (by simp)
    have old : ∀ b o, hp.get? b = some o → G'.get? b = some o := fun b o q => (gk b (Nat.ne_of_lt (Nat.lt_of_lt_of_le (Heap.lt_size q) M.new))).trans (M.keep b o q)
    have ob : ObjOk X.prog X.w (upd H1 d (.xd [(("what" : Str), v)])) G' d (.xd [(("what" : Str), v)]) :=
      ⟨_, hns.at (fun o q => (gk d M.dne).trans q), fun f => relO_what rv f⟩
    have J : Inv X pins σ (upd H1 d (.xd [(("what" : Str), v)])) ⟨G', gs, dr, tk', os⟩ := I1.laid (t' := tk') old M.dbig ob
    refine ⟨ex, oe, fv, ⟨G', gs, dr, tk', os⟩, _, .ref (g.cad c), some d, rfl, J, fun b o q => ?_, ge, hoe, ⟨hcc, hd⟩, hdat, h1, ?_, rfl, I1.bare, raises_own T2.exC T2.tyC, q1 d (I1.hok.fresh M.dbig)⟩
    · by_cases hb : b = ex
      · have q' : G'.get? b = some o := q
        rw [hb, ge] at q'; cases q'
      · exact (gk b hb).symm.trans q
    · rw [upd_ne (Ne.symm M.dne)]
      exact I1.hok.fresh M.new
theorem ss_raise {k : Nat} (hcalm : X.calm = true) (O : XOk l X.prog X.K X.mg g nms) (hc : nms[c]? = some x) (hr : Room k X.A) (tk : Takes X W) (ha : PE X a (liftE g W fa)) (hg : Gl X x) (hdb : (x == ("__debug__" : Str)) = false) (hn : notStar a = true) :
    PS X (.Raise (some (.Call (.Name x p) [a] [] pos)) none pos2) (liftS g W fun env L => (fa env L).st env fun w L => .exc c w env L) := by
  refine PS.weak (ps_raise hcalm tk (pmk_x O hc hr (pa_cons ha pa_nil (starEach_ns hn)) hg hdb hn)) fun D σ H ⟨env, L, m, R, h⟩ => ⟨env, L, m, R, h.st R fun w L1 v H1 m1 x1 r1 q1 h1 => ?_⟩
  refine ⟨v, rfl, fun d hd => ?_⟩
  have xn : Ext H1 m1 (upd H1 d (.xd [(("what" : Str), v)])) m1 := ext_new hd
  exact h1 (some d) σ _ m1 xn (r1.ext xn (r1.h.new hd)) ⟨d, v, rfl, upd_same, (r1.h.fresh hd).1, Rep.ext xn _ _ q1⟩

/-! ### the clause's pin -/
abbrev G.pa (g : G) (q : Option (Nat × Addr × D × Option Addr)) (a : Option (Addr × Hp × List Addr)) : G := { g with pin := q, amb := a }
abbrev G.pinned (g : G) (q : Option (Nat × Addr × D × Option Addr)) : G := { g with pin := q }
end
section
variable {g : G} {H : Hp} {m : List Addr} {q q2 : Option (Nat × Addr × D × Option Addr)} {u u2 : Option (Addr × Hp × List Addr)}
mutual
theorem Rep.pin : ∀ (x : D) (v : V), Rep (g.pa q u) H m x v → Rep (g.pa q2 u2) H m x v
  | .non, _, h => by cases h; exact .non
  | .bl _, _, h => by cases h; exact .bl _
  | .int _, _, h => by cases h; exact .int _
  | .str _, _, h => by cases h with | str _ z => exact .str _ z
  | .tup ds, _, h => by cases h with | tup h1 z h2 => exact .tup h1 z (Reps.pin ds _ h2)
  | .lst ds, _, h => by cases h with | lst h1 hm z h2 => exact .lst h1 hm z (Reps.pin ds _ h2)
  | .scr ns, _, h => by cases h with | scr h1 hm z => exact .scr h1 hm z
  | .loc l, _, h => by cases h with | loc h => exact .loc h
  | .fn _, _, h => by cases h; exact .fn _
theorem Reps.pin : ∀ (xs : List D) (vs : List V), Reps (g.pa q u) H m xs vs → Reps (g.pa q2 u2) H m xs vs
  | [], _, h => by cases h; exact .nil
  | x :: xs, _, h => by cases h with | cons h1 h2 => exact .cons (Rep.pin x _ h1) (Reps.pin xs _ h2)
end
theorem RepF.pin : ∀ {fs : List (Nat × D)} {xs : List (Str × V)}, RepF (g.pa q u) H m fs xs → RepF (g.pa q2 u2) H m fs xs
  | [], [], _ => trivial
  | (_, x) :: _, (_, _) :: _, ⟨a, b, c⟩ => ⟨a, Rep.pin x _ b, RepF.pin c⟩
  | [], _ :: _, h => h
  | _ :: _, [], h => h
theorem RelH.pin {L : LH} (r : RelH (g.pa q u) H L m) : RelH (g.pa q2 u2) H L m := by
  refine ⟨r.len, r.nd, fun l o e => ?_, r.tabs, r.hid⟩
  obtain ⟨a, h1, h2⟩ := r.objs l o e
  refine ⟨a, h1, ?_⟩
  cases o with
  | lst ds => obtain ⟨xs, e1, z, k⟩ := h2; exact ⟨xs, e1, z, Reps.pin _ _ k⟩
  | ins c fs => obtain ⟨dx, xs, e1, k, ok⟩ := h2; exact ⟨dx, xs, e1, RepF.pin k, ok⟩
theorem RepX.pin {w : D} {d : Option Addr} : RepX (g.pa q u) H m w d → RepX (g.pa q2 u2) H m w d := fun ⟨dd, v, a, b, c, e⟩ => ⟨dd, v, a, b, c, Rep.pin _ _ e⟩
end
section
variable {g : G} {W : WX} {σ : L2.St} {H : Hp} {m : List Addr} {L : LH} {env : Env} {i : Nat} {a : Addr} {w : D} {d : Option Addr}
theorem Rel.pinIn (h0 : i ≠ 0) (r : Rel g σ H env L m) (k : RepX g H m w d) : Rel (g.pinned (some (i, a, w, d))) (σ.set i (some (.ref a))) H (env.set i none) L m := by
  refine ⟨RelH.pin (g := g) (q := g.pin) (u := g.amb) (u2 := g.amb) r.h, by simp [r.len], fun j x e => ?_, fun j b w' d' e => ?_, fun f H0 m0 e => ?_⟩
  · by_cases hj : i = j
    · subst hj
      by_cases hl : i < env.length
      · rw [List.getElem?_set_self hl] at e; cases e
      · rw [List.getElem?_eq_none (by simp; omega)] at e; cases e
    · rw [List.getElem?_set_ne hj] at e ⊢
      obtain ⟨v, e1, e2⟩ := r.vars j x e
      exact ⟨v, e1, Rep.pin (g := g) (q := g.pin) (u := g.amb) (u2 := g.amb) _ _ e2⟩
  · cases e
    refine ⟨fun hk => ?_, RepX.pin (g := g) (q := g.pin) (u := g.amb) (u2 := g.amb) k⟩
    by_cases hl : i < env.length
    · rw [List.getElem?_set_self (by rw [← r.len]; exact hl)]
    · rw [List.getElem?_eq_none (by simp; omega)] at hk; cases hk
  · rw [List.getElem?_set_ne h0, List.getElem?_set_ne h0]
    exact r.amb f H0 m0 e
theorem Rel.pinOut {q : Option (Nat × Addr × D × Option Addr)} (h0 : i ≠ 0) (hp : g.pin = none) (r : Rel (g.pinned q) σ H env L m) : Rel g (σ.set i none) H (env.set i none) L m := by
  refine ⟨RelH.pin (g := g) (q2 := g.pin) (u := g.amb) (u2 := g.amb) r.h, by simp [r.len], fun j x e => ?_, fun j b w' d' e => (by rw [hp] at e; cases e), fun f H0 m0 e => ?_⟩
  · by_cases hj : i = j
    · subst hj
      by_cases hl : i < env.length
      · rw [List.getElem?_set_self hl] at e; cases e
      · rw [List.getElem?_eq_none (by simp; omega)] at e; cases e
    · rw [List.getElem?_set_ne hj] at e ⊢
      obtain ⟨v, e1, e2⟩ := r.vars j x e
      exact ⟨v, e1, Rep.pin (g := g) (q2 := g.pin) (u := g.amb) (u2 := g.amb) _ _ e2⟩
  · rw [List.getElem?_set_ne h0, List.getElem?_set_ne h0]
    exact r.amb f H0 m0 e
/-- a suite's end is the try's -/
theorem endH_out {q : Option (Nat × Addr × D × Option Addr)} {D : Ends} (h0 : i ≠ 0) (hp : g.pin = none) : ∀ {r : RS}, OutS g W D H m (r.endH (some i)) →
    OutS (g.pinned q) W0 { nx := fun σ' H' => D.nx (σ'.set i none) H', rt := D.rt, bk := fun σ' H' => D.bk (σ'.set i none) H', ct := fun σ' H' => D.ct (σ'.set i none) H' } H m r
  | .nx e l, h => fun σ' H' m' x r => h _ H' m' x (r.pinOut h0 hp)
  | .rt e l, h => fun v H' m' x r k => h v H' m' x (RelH.pin (g := g) (q2 := g.pin) (u := g.amb) (u2 := g.amb) r) (Rep.pin (g := g) (q2 := g.pin) (u := g.amb) (u2 := g.amb) _ _ k)
  | .bk e l, h => fun σ' H' m' x r => h _ H' m' x (r.pinOut h0 hp)
  | .ct e l, h => fun σ' H' m' x r => h _ H' m' x (r.pinOut h0 hp)
  | .exc _ _ _ _, h => h.elim
  | .bad, h => h.elim
end
section
variable {X : Cx} {g : G} {W : WX} {e : Expr} {p p2 np pos pos' : Pos} {l : Nat} {nms : List Str} {x n : Str} {i h : Nat} {body suite : List Stmt} {b₀ : Stmt} {fb : Env → LH → RS} {fs : Nat → D → Env → LH → RS}
theorem ss_try_as (h0 : i ≠ 0) (hp : g.pin = none) (O : XOk l X.prog X.K X.mg g nms) (hx : nms[h]? = some x) (hgx : Gl X x) (hdb : (x == ("__debug__" : Str)) = false) (hs : X.stack = X.env :: X.outer) (hf : X.env.frame = some X.env.locals) (hN : X.N.Nodup) (hi : X.N[i]? = some n)
    (hln : X.env.kindOf n = some .local) (tk : Takes X W)
    (hb : ∀ (W' : WX) (pn : List (Addr × Obj)) (xe : Value → Shared → Prop), Takes (X.tr pn xe) W' → PassesOwn (model X.prog X.w) X.A X.env xe → PSs (X.tr pn xe) body (liftS g W' fb))
    (hsu : ∀ (a : Addr) (oe : Obj) (d : Option Addr) (pn : List (Addr × Obj)) (c : Nat) (w : D), Zc (.ref (g.cad c)) d oe → (∃ vs, oe.data = .fields vs) → PSs (X.suite a ((a, oe) :: pn)) (b₀ :: suite) (liftS (g.pinned (some (i, a, w, d))) W0 (fs c w))) :
    PS X (.Try body [.ExceptHandler (some (.Name x np)) (some n) (b₀ :: suite) pos'] [] [] pos) (liftS g W fun env L => match fb env L with
      | .exc c w env L => if catches h c then (fs c w (wipe1 env (some i)) L).endH (some i) else .exc c w env L
      | r => r) := by
  refine PS.weak (ps_try_as (i := i) (c := .ref (g.cad h)) (Wout := W) (tb := fun W' => liftS g W' fb)
    (ts := fun a cls d D σ H => ∃ c w, cls = .ref (g.cad c) ∧ liftS (g.pinned (some (i, a, w, d))) W0 (fs c w) D σ H) hs hf hN hi hln ⟨hgx, hdb, .inl (O.nm h x hx)⟩ tk hb
    fun a oe cls d pn hz hd => ⟨fun pins s σ H D I ⟨c, w, ec, k⟩ => ?_⟩) fun D σ H ⟨env, L, m, R, k⟩ => ⟨env, L, m, R, ?_⟩
  · subst ec
    exact (hsu a oe d pn c w hz hd).run pins s σ H D I k
  · dsimp only at k
    cases ef : fb env L with
    | exc c w e1 L1 =>
      rw [ef] at k
      simp only at k
      intro d σ' H' m' x1 r1 q1
      refine ⟨catches h c, O.exm c h x hx, fun hb a ha => ?_, fun hb => ?_⟩
      · rw [if_pos hb] at k
        exact ⟨c, w, rfl, _, L1, m', r1.pinIn h0 q1, OutS.ext x1 (endH_out h0 hp k)⟩
      · rw [hb, if_neg Bool.false_ne_true] at k
        exact k d σ' H' m' x1 r1 q1
    | nx e1 L1 => rw [ef] at k; exact k
    | rt d L1 => rw [ef] at k; exact k
    | bk e1 L1 => rw [ef] at k; exact k
    | ct e1 L1 => rw [ef] at k; exact k
    | bad => rw [ef] at k; exact k
theorem se_what {a : Addr} {oe : Obj} {c : Nat} {w : D} {d : Option Addr} {pn : List (Addr × Obj)} (hpin : g.pin = some (i, a, w, d)) (O : XOk l X.prog X.K X.mg g nms) (hz : Zc (.ref (g.cad c)) d oe) (hf : ∃ vs, oe.data = .fields vs)
    (hN : X.N[i]? = some n) (hv : Vis X.env.scope n) (hdb : (n == ("__debug__" : Str)) = false) (hcd : (n == ("__classdict__" : Str)) = false) :
    PE (X.suite a ((a, oe) :: pn)) (.Attribute (.Name n p) "what" pos) (liftE g W fun env L => match env[i]? with | some none => .ok w L | _ => .bad) := by
  obtain ⟨Dd, fI, T, T2⟩ := O.top
  have T2 := T2 c
  have hv' : PE (X.suite a ((a, oe) :: pn)) (.Name n p) (tVar i) := pe_var hN hv hdb hcd
  refine ⟨fun pins s σ H Q I ⟨env, L, m, R, k⟩ => ?_⟩
  dsimp only at k
  have e2 : env[i]? = some none := by
    match h : env[i]? with
    | some none => rfl
    | some (some y) => rw [h] at k; exact k.elim
    | none => rw [h] at k; exact k.elim
  rw [e2] at k
  obtain ⟨p1, dd, v, ed, ea, p2, p3⟩ := R.pin i a w d hpin
  subst ed
  refine attr_of rfl (thn (hv'.run pins s σ H (fun x H1 => x = .ref a ∧ H1 = H) I ⟨.ref a, p1 e2, rfl, rfl⟩) fun u s1 hh => ?_)
  obtain ⟨x, H1, I1, rx, ex, eH⟩ := hh
  subst ex; subst eH
  obtain rfl : u = Value.ref a := rx
  obtain ⟨ha, _⟩ := I1.pin (a, oe) (List.mem_append_left _ List.mem_cons_self)
  obtain ⟨vs, hd⟩ := hf
  obtain ⟨mA, hns, hr⟩ := (show ObjOk X.prog X.w H1 s1.heap dd (.xd [(("what" : Str), v)]) from I1.hok dd _ ea)
  obtain ⟨od, ho, hl⟩ := lookIn_ns hns
  have q : List.lookup ("what" : Str) [(("what" : Str), v)] = some v := by simp [List.lookup]
  obtain ⟨u, hu, ru⟩ := RelO.some_of (v := v) (o := mA "what") (by rw [← q]; exact hr "what")
  have J : PySem.W.InstAt s1.heap a oe (g.cad c) (some od) := ⟨ha, hz.1, by unfold PySem.W.notCls; rw [hd] <;> rfl, by rw [hz.2]; exact ho⟩
  exact HandSPX.exc_get I1.kIn J T2.ga T2.gg T2.exC (PySem.W.findObj_own T2.hdC T2.noN rfl (by rw [hl, hu])) (handed_of ru) ⟨v, H1, I1.tok _, ru, k.ok_ R.h p3⟩
theorem se_xis {a : Addr} {oe : Obj} {c c2 : Nat} {w : D} {d : Option Addr} {pn : List (Addr × Obj)} (hpin : g.pin = some (i, a, w, d)) (O : XOk l X.prog X.K X.mg g nms) (hx : nms[c2]? = some x) (hgx : Gl X x) (hdx : (x == ("__debug__" : Str)) = false)
    (hg : Gl X "isinstance") (hm : X.mg "isinstance" = none) (hz : Zc (.ref (g.cad c)) d oe) (hf : ∃ vs, oe.data = .fields vs)
    (hN : X.N[i]? = some n) (hv : Vis X.env.scope n) (hdb : (n == ("__debug__" : Str)) = false) (hcd : (n == ("__classdict__" : Str)) = false) :
    PE (X.suite a ((a, oe) :: pn)) (.Call (.Name "isinstance" np) [.Name n p, .Name x p2] [] pos) (liftE g W fun env L => match env[i]? with | some none => .ok (.bl (c == c2 || c2 == 0)) L | _ => .bad) := by
  obtain ⟨Dd, fI, T, T2⟩ := O.top
  have T2 := T2 c
  have hv' : PE (X.suite a ((a, oe) :: pn)) (.Name n p) (tVar i) := pe_var hN hv hdb hcd
  have hc' : PE (X.suite a ((a, oe) :: pn)) (.Name x p2) (tC (.ref (g.cad c2))) := pe_glob hgx (O.nm c2 x hx) rfl hdx
  have hcall : CallR (X.suite a ((a, oe) :: pn)) (.builtin "isinstance") (fun xs H Q => ∃ m, RepX g H m w d ∧ xs = [.ref a, .ref (g.cad c2)] ∧ Q (.bl (catches c2 c)) H) := by
    intro pins s σ H xs us Q I r ⟨m, ⟨dd, v, ed, ea, _, _⟩, ex, q⟩
    subst ex; subst ed
    obtain ⟨u1, u2, rfl, r1, r2⟩ := vals2 r
    obtain rfl : u1 = Value.ref a := r1
    obtain rfl : u2 = Value.ref (g.cad c2) := r2
    obtain ⟨ha, _⟩ := I.pin (a, oe) (List.mem_append_left _ List.mem_cons_self)
    obtain ⟨vs, hd⟩ := hf
    obtain ⟨mA, hns, hr⟩ := (show ObjOk X.prog X.w H s.heap dd (.xd [(("what" : Str), v)]) from I.hok dd _ ea)
    obtain ⟨od, ho, hl⟩ := lookIn_ns hns
    have J : PySem.W.InstAt s.heap a oe (g.cad c) (some od) := ⟨ha, hz.1, by unfold PySem.W.notCls; rw [hd] <;> rfl, by rw [hz.2]; exact ho⟩
    exact PySem.W.kia_one (PySem.W.kitx_exc T2.clC T2.ga T2.gg T2.exC T2.dcC T.dg T.dt T2.obC) I.kIn J (O.kit c c2 x hx) (fun z => nomatch z) fun tk => ⟨.bl (catches c2 c), H, I.tok tk, rfl, q⟩
  have pa := pa_cons hv' (pa_cons hc' pa_nil (starEach_ns (e := .Name x p2) (es := []) rfl)) (starEach_ns (e := .Name n p) (es := [.Name x p2]) rfl)
  refine PE.weak (pe_callB hcall hg hm (by decide +kernel) pa (he := starEach_ns rfl)) fun σ H Q ⟨env, L, m, R, k⟩ => ?_
  dsimp only at k
  have e2 : env[i]? = some none := by
    match h : env[i]? with
    | some none => rfl
    | some (some y) => rw [h] at k; exact k.elim
    | none => rw [h] at k; exact k.elim
  rw [e2] at k
  obtain ⟨p1, p2⟩ := R.pin i a w d hpin
  refine ⟨.ref a, p1 e2, m, p2, rfl, ?_⟩
  have ec : (c == c2 || c2 == 0) = catches c2 c := by
    simp only [catches]
    rw [Bool.or_comm, show (c == c2) = (c2 == c) from BEq.comm]
  simp only [ec] at k
  exact k.ok_ R.h (.bl _)
theorem se_xisV {a : Addr} {oe : Obj} {c : Nat} {w : D} {d : Option Addr} {pn : List (Addr × Obj)} (hpin : g.pin = some (i, a, w, d)) (O : XOk l X.prog X.K X.mg g nms) (hgx : Gl X "ValueError") (hmx : X.mg "ValueError" = none)
    (hg : Gl X "isinstance") (hm : X.mg "isinstance" = none) (hz : Zc (.ref (g.cad c)) d oe) (hf : ∃ vs, oe.data = .fields vs)
    (hN : X.N[i]? = some n) (hv : Vis X.env.scope n) (hdb : (n == ("__debug__" : Str)) = false) (hcd : (n == ("__classdict__" : Str)) = false) :
    PE (X.suite a ((a, oe) :: pn)) (.Call (.Name "isinstance" np) [.Name n p, .Name "ValueError" p2] [] pos) (liftE g W fun env L => match env[i]? with | some none => .ok (.bl true) L | _ => .bad) := by
  obtain ⟨Dd, fI, T, T2⟩ := O.top
  have T2 := T2 c
  have hv' : PE (X.suite a ((a, oe) :: pn)) (.Name n p) (tVar i) := pe_var hN hv hdb hcd
  have hc' : PE (X.suite a ((a, oe) :: pn)) (.Name "ValueError" p2) (tC (.ty "ValueError")) := pe_bltn hgx hmx (u := .type "ValueError") (by decide +kernel) rfl
  have hcall : CallR (X.suite a ((a, oe) :: pn)) (.builtin "isinstance") (fun xs H Q => ∃ m, RepX g H m w d ∧ xs = [.ref a, .ty "ValueError"] ∧ Q (.bl true) H) := by
    intro pins s σ H xs us Q I r ⟨m, ⟨dd, v, ed, ea, _, _⟩, ex, q⟩
    subst ex; subst ed
    obtain ⟨u1, u2, rfl, r1, r2⟩ := vals2 r
    obtain rfl : u1 = Value.ref a := r1
    obtain rfl : u2 = Value.type "ValueError" := r2
    obtain ⟨ha, _⟩ := I.pin (a, oe) (List.mem_append_left _ List.mem_cons_self)
    obtain ⟨vs, hd⟩ := hf
    obtain ⟨mA, hns, hr⟩ := (show ObjOk X.prog X.w H s.heap dd (.xd [(("what" : Str), v)]) from I.hok dd _ ea)
    obtain ⟨od, ho, hl⟩ := lookIn_ns hns
    have J : PySem.W.InstAt s.heap a oe (g.cad c) (some od) := ⟨ha, hz.1, by unfold PySem.W.notCls; rw [hd] <;> rfl, by rw [hz.2]; exact ho⟩
    exact PySem.W.kia_one (PySem.W.kitx_exc T2.clC T2.ga T2.gg T2.exC T2.dcC T.dg T.dt T2.obC) I.kIn J (O.val c) (fun z => nomatch z) fun tk => ⟨.bl true, H, I.tok tk, rfl, q⟩
  have pa := pa_cons hv' (pa_cons hc' pa_nil (starEach_ns (e := .Name "ValueError" p2) (es := []) rfl)) (starEach_ns (e := .Name n p) (es := [.Name "ValueError" p2]) rfl)
  refine PE.weak (pe_callB hcall hg hm (by decide +kernel) pa (he := starEach_ns rfl)) fun σ H Q ⟨env, L, m, R, k⟩ => ?_
  dsimp only at k
  have e2 : env[i]? = some none := by
    match h : env[i]? with
    | some none => rfl
    | some (some y) => rw [h] at k; exact k.elim
    | none => rw [h] at k; exact k.elim
  rw [e2] at k
  obtain ⟨p1, p2⟩ := R.pin i a w d hpin
  refine ⟨.ref a, p1 e2, m, p2, rfl, ?_⟩
  exact k.ok_ R.h (.bl _)
end
end Ev
end

section
set_option Elab.async false
set_option linter.all false
set_option maxRecDepth 100000
set_option autoImplicit false
set_option maxHeartbeats 1000000
/-! several except clauses, with names or without -/
namespace Ev
open PySem PySem.Spec PyProof.Rows L2
abbrev TSx := Addr → Value → Option Addr → TS
/-- a clause's slot is free again behind it -/
def offE (D : Ends) : Option Nat → Ends
  | none => D
  | some i => { nx := fun σ' H' => D.nx (σ'.set i none) H', rt := D.rt, bk := fun σ' H' => D.bk (σ'.set i none) H', ct := fun σ' H' => D.ct (σ'.set i none) H' }
def onS (σ : L2.St) (a : Addr) : Option Nat → L2.St
  | none => σ
  | some i => σ.set i (some (.ref a))
/-- the clauses' wish -/
def wHs (K : PySem.W.Frag) (Wout : WX) (D : Ends) : List (Value × Option Nat × TSx) → WX
  | [] => Wout
  | (c, sl, ts) :: r => fun cls d σ H => ∃ b, PySem.W.exmOne K cls c = some b ∧ (b = true → ∀ a, H a = none → ts a cls d (offE D sl) (onS σ a sl) H) ∧ (b = false → wHs K Wout D r cls d σ H)
inductive HsN (X : Cx) : List ExceptHandler → List (Value × Option Nat × TSx) → Prop
  | nil : HsN X [] []
  | bare {x : Str} {c : Value} {ts : TSx} {b₀ : Stmt} {su : List Stmt} {np pq : Pos} {hs : List ExceptHandler} {l : List (Value × Option Nat × TSx)} (hc : Names X x c)
      (hsu : ∀ (a : Addr) (oe : Obj) (cls : Value) (d : Option Addr) (pn : List (Addr × Obj)), Zc cls d oe → (∃ vs, oe.data = .fields vs) → PSs (X.suite a ((a, oe) :: pn)) (b₀ :: su) (ts a cls d)) (r : HsN X hs l) :
      HsN X (.ExceptHandler (some (.Name x np)) none (b₀ :: su) pq :: hs) ((c, none, ts) :: l)
  | named {x n : Str} {i : Nat} {c : Value} {ts : TSx} {b₀ : Stmt} {su : List Stmt} {np pq : Pos} {hs : List ExceptHandler} {l : List (Value × Option Nat × TSx)} (hc : Names X x c) (hi : X.N[i]? = some n) (hln : X.env.kindOf n = some .local)
      (hsu : ∀ (a : Addr) (oe : Obj) (cls : Value) (d : Option Addr) (pn : List (Addr × Obj)), Zc cls d oe → (∃ vs, oe.data = .fields vs) → PSs (X.suite a ((a, oe) :: pn)) (b₀ :: su) (ts a cls d)) (r : HsN X hs l) :
      HsN X (.ExceptHandler (some (.Name x np)) (some n) (b₀ :: su) pq :: hs) ((c, some i, ts) :: l)
section
variable {X : Cx} {body : List Stmt} {h₀ : ExceptHandler} {hds : List ExceptHandler} {l : List (Value × Option Nat × TSx)} {pos : Pos} {tb : WX → TS} {Wout : WX}
theorem ps_try_hs (hs : X.stack = X.env :: X.outer) (hf : X.env.frame = some X.env.locals) (hN : X.N.Nodup) (tk : Takes X Wout)
    (hb : ∀ (W : WX) (pn : List (Addr × Obj)) (xe : Value → Shared → Prop), Takes (X.tr pn xe) W → PassesOwn (model X.prog X.w) X.A X.env xe → PSs (X.tr pn xe) body (tb W)) (hh : HsN X (h₀ :: hds) l) :
    PS X (.Try body (h₀ :: hds) [] [] pos) (fun D σ H => tb (wHs X.K Wout D l) D σ H) := by
  refine ⟨fun pins s σ H D I h => ?_⟩
  have okX := I.ok
  have fr0 : X.A.frames = some (X.env :: X.outer) := by rw [okX.frames, hs]
  refine wpAny_Try_except ?_
  refine wpAny_mono ((hb (wHs X.K Wout D l) (X.pn ++ pins) (fun e s₁ => wpAny (model X.prog X.w) X.A (noteFrame e X.env) (fun _ s₂ => wpAny (model X.prog X.w) X.A (setFlight e none) (fun _ s₃ => wpAny (model X.prog X.w) X.A (handleBy e X.env (h₀ :: hds)) (SP X pins D) X.xe s₃) X.xe s₂) X.xe s₁) (fun u s' xx => ?_) PassesOwn.looking).run [] s σ H D (I.toTry _) h) (fun f s1 hsp => ?_) (fun e s1 he => he)
  · obtain ⟨a, B, sI, pins', σ', H', cls, d, rfl, J', nb, up, sky, na, os, ag, w⟩ := xx
    have J : Inv X pins σ' H' sI := J'.ofTry okX
    have skyX : Sky B (X.env :: X.outer) a (Zc cls d) X.env.locals s'.heap := by rw [← hs]; exact sky
    show wpAny (model X.prog X.w) X.A (noteFrame (.ref a) X.env) _ _ _
    refine Sky.land Zc.steady fr0 hf skyX fun h3 fl3 up3 => ?_
    have J3 : Inv X pins σ' H' { s' with heap := h3 } := J.landed nb fl3.1 (up.trans up3) os ag
    obtain ⟨oe3, vs3, he3, hz3, hd3⟩ := fl3.there
    have nfr : a ∉ frs (X.env :: X.outer) := fun hm => by
      obtain ⟨_, o', e', hnf⟩ := fl3.2.2.1.mem hm
      rw [he3] at e'; cases e'
      exact hnf _ hd3
    have nL : a ≠ X.env.locals := fun z => nfr (List.mem_filterMap.mpr ⟨X.env, List.mem_cons_self, by rw [hf, z]⟩)
    have nF : a ∉ X.fs := fun hm => by
      obtain ⟨e, he, q⟩ := List.mem_filterMap.mp hm
      exact nfr (List.mem_filterMap.mpr ⟨e, List.mem_cons_of_mem _ he, q⟩)
    have S3 := J3.suite he3 hd3 na nL nF
    have LT : PySem.W.Looks (model X.prog X.w) h3 (typeOf (.ref a)) cls := fun A Q E s k q => wpAny_typeOf_ref (k _ _ he3) (by rw [hz3.1]; exact q)
    have test : ∀ {x : Str} {c : Value} {np : Pos} {Q : Value → Shared → Prop} {E : Value → Shared → Prop}, Names X x c → Q c { s' with heap := h3 } → wpAny (model X.prog X.w) (X.A.mark (some (.ref a))) (eval (.Name x np) X.env) Q E { s' with heap := h3 } := fun {x c np Q E} hc q => by
      obtain ⟨hg, hdbg, hm | ⟨hm, hv, hnn⟩⟩ := hc
      · exact ld_glob (X := X.suite a ((a, oe3) :: (X.pn ++ pins))) S3 hg hm q hdbg
      · exact ld_blt (X := X.suite a ((a, oe3) :: (X.pn ++ pins))) S3 hg hm hv q hnn hdbg
    have go : ∀ {hs' : List ExceptHandler} {l' : List (Value × Option Nat × TSx)}, HsN X hs' l' → wHs X.K Wout D l' cls d σ' H' → wpAny (model X.prog X.w) X.A (handleBy (.ref a) X.env hs') (SP X pins D) X.xe { s' with heap := h3 } := by
      intro hs' l' hk
      induction hk with
      | nil =>
        intro w
        refine wpAny_handleBy_nil ?_
        obtain ⟨k1, k2, k3, oe, vs, T, oT, ts', he, hz, hd, h1, hr⟩ := id fl3
        unfold PySem.passOn
        refine wpAny_bind (wpAny_field he hd h1 ?_)
        rw [if_neg (show ¬ ((Value.ref T == Value.none) = true) from by simp)]
        have last : wpAny (model X.prog X.w) X.A (setFlight (.ref a) X.env.frame) (fun _ s4 => wpAny (model X.prog X.w) X.A (throw (.ref a) : Sem Flow) (SP X pins D) X.xe s4) X.xe { s' with heap := h3 } := by
          rw [hf]
          exact HandSPX.setFlight_upZ fl3 fun h4 hh4 up4 => wpAny_throw (tk _ _ ⟨a, B, sI, pins, σ', H', cls, d, rfl, J, nb, (up.trans up3).trans up4, .inr (.inr (by rw [hs]; exact hh4)), na, os, ag, w⟩)
        first | exact wpAny_bind (wpAny_pure (wpAny_bind last)) | exact wpAny_bind last
      | @bare x c ts b₀ su np pq hs2 l2 hc hsu r ih =>
        intro w
        obtain ⟨b, hb1, hyes, hno⟩ := w
        refine wpAny_handleBy_cons (codeAny_handlers_test ?_) (by intro q; cases q)
        refine test hc ((PySem.W.exm_one (M := model X.prog X.w) (J3.kIn) LT hb1).here ?_)
        cases b with
        | false =>
          show wpAny _ X.A (handleBy (.ref a) X.env hs2) _ _ _
          exact ih (hno rfl)
        | true =>
          refine codeAny_handlers_suite ?_
          refine HandSPX.lands_againZ fl3 fun h4 fl4 up4 => ?_
          have J4 : Inv X pins σ' H' { s' with heap := h4 } := J.landed nb fl4.1 ((up.trans up3).trans up4) os ag
          obtain ⟨oe4, vs4, he4, hz4, hd4⟩ := fl4.there
          refine wpAny_mono ((hsu a oe4 cls d (X.pn ++ pins) hz4 ⟨_, hd4⟩).run [] _ _ H' _ (J4.suite he4 hd4 na nL nF) (hyes rfl a na)) (fun f s6 hsp => ?_) (fun _ _ z => False.elim z)
          cases f with
          | next => obtain ⟨σ6, H6, S6, q6⟩ := hsp; exact ⟨_, _, S6.unsuite okX, q6⟩
          | brk => obtain ⟨σ6, H6, S6, q6⟩ := hsp; exact ⟨_, _, S6.unsuite okX, q6⟩
          | cont => obtain ⟨σ6, H6, S6, q6⟩ := hsp; exact ⟨_, _, S6.unsuite okX, q6⟩
          | ret u => obtain ⟨v6, σ6, H6, S6, r6, q6⟩ := hsp; exact ⟨_, _, _, S6.unsuite okX, r6, q6⟩
      | @named x n i c ts b₀ su np pq hs2 l2 hc hi hln hsu r ih =>
        intro w
        obtain ⟨b, hb1, hyes, hno⟩ := w
        refine wpAny_handleBy_cons (codeAny_handlers_test ?_) (by intro q; cases q)
        refine test hc ((PySem.W.exm_one (M := model X.prog X.w) (J3.kIn) LT hb1).here ?_)
        cases b with
        | false =>
          show wpAny _ X.A (handleBy (.ref a) X.env hs2) _ _ _
          exact ih (hno rfl)
        | true =>
          refine codeAny_handlers_suite_as ?_
          refine HandSPX.lands_againZ fl3 fun h4 fl4 up4 => ?_
          have J4 : Inv X pins σ' H' { s' with heap := h4 } := J.landed nb fl4.1 ((up.trans up3).trans up4) os ag
          obtain ⟨oe4, vs4, he4, hz4, hd4⟩ := fl4.there
          have S4 := J4.suite he4 hd4 na nL nF
          refine store_ok (X := X.suite a ((a, oe4) :: (X.pn ++ pins))) (v := .ref a) S4 hN hi (.inl hln) rfl (fun s5 S5 => ?_) (.inr hln)
          refine wpAny_mono ((hsu a oe4 cls d (X.pn ++ pins) hz4 ⟨_, hd4⟩).run [] s5 _ H' _ S5 (hyes rfl a na)) (fun f s6 hsp => ?_) (fun _ _ z => False.elim z)
          have goes : ∀ {σ6 : L2.St} {H6 : Hp} {Q : Shared → Prop}, Inv (X.suite a ((a, oe4) :: (X.pn ++ pins))) [] σ6 H6 s6 → (∀ s7, Inv X pins (σ6.set i none) H6 s7 → Q s7) → wpAny (model X.prog X.w) X.A (do bindName X.env n .none; unbindBehindTheSuite X.env n pq) (fun _ s7 => Q s7) X.xe s6 :=
            fun {σ6 H6 Q} S6 hq => gone_ok (S6.unsuite okX) hN hi hln hq
          cases f with
          | next => obtain ⟨σ6, H6, S6, q6⟩ := hsp; exact goes S6 fun s7 J7 => ⟨_, _, J7, q6⟩
          | brk => obtain ⟨σ6, H6, S6, q6⟩ := hsp; exact goes S6 fun s7 J7 => ⟨_, _, J7, q6⟩
          | cont => obtain ⟨σ6, H6, S6, q6⟩ := hsp; exact goes S6 fun s7 J7 => ⟨_, _, J7, q6⟩
          | ret u => obtain ⟨v6, σ6, H6, S6, r6, q6⟩ := hsp; exact goes S6 fun s7 J7 => ⟨_, _, _, J7, r6, q6⟩
    exact go hh w
  · cases f with
    | next => obtain ⟨σ', H', J', q⟩ := hsp; exact wpAny_execs_nil ⟨σ', H', J'.ofTry okX, q⟩
    | brk => obtain ⟨σ', H', J', q⟩ := hsp; exact ⟨σ', H', J'.ofTry okX, q⟩
    | cont => obtain ⟨σ', H', J', q⟩ := hsp; exact ⟨σ', H', J'.ofTry okX, q⟩
    | ret u => obtain ⟨v, σ', H', J', r, q⟩ := hsp; exact ⟨v, σ', H', J'.ofTry okX, r, q⟩
end
section
variable {g : G} {W : WX} {σ : L2.St} {H : Hp} {m : List Addr} {L : LH} {env : Env}
theorem endH_bare {D : Ends} : ∀ {r : RS}, OutS g W D H m (r.endH none) → OutS g W0 D H m r
  | .nx e l, h => h
  | .rt e l, h => h
  | .bk e l, h => h
  | .ct e l, h => h
  | .exc _ _ _ _, h => h.elim
  | .bad, h => h.elim
end
abbrev ClsH := List (Nat × Option Nat × (Nat → D → Env → LH → RS))
/-- clauses beside their suites' functions -/
inductive HsL (X : Cx) (g : G) (nms : List Str) : List ExceptHandler → ClsH → Prop
  | nil : HsL X g nms [] []
  | bare {h : Nat} {x : Str} {f : Nat → D → Env → LH → RS} {b₀ : Stmt} {su : List Stmt} {np pq : Pos} {hs : List ExceptHandler} {l : ClsH} (hx : nms[h]? = some x) (hg : Gl X x) (hdb : (x == ("__debug__" : Str)) = false)
      (hsu : ∀ (a : Addr) (oe : Obj) (d : Option Addr) (pn : List (Addr × Obj)) (c : Nat) (w : D), Zc (.ref (g.cad c)) d oe → (∃ vs, oe.data = .fields vs) → PSs (X.suite a ((a, oe) :: pn)) (b₀ :: su) (liftS g W0 (f c w))) (r : HsL X g nms hs l) :
      HsL X g nms (.ExceptHandler (some (.Name x np)) none (b₀ :: su) pq :: hs) ((h, none, f) :: l)
  | named {h i : Nat} {x n : Str} {f : Nat → D → Env → LH → RS} {b₀ : Stmt} {su : List Stmt} {np pq : Pos} {hs : List ExceptHandler} {l : ClsH} (h0 : i ≠ 0) (hx : nms[h]? = some x) (hg : Gl X x) (hdb : (x == ("__debug__" : Str)) = false) (hi : X.N[i]? = some n) (hln : X.env.kindOf n = some .local)
      (hsu : ∀ (a : Addr) (oe : Obj) (d : Option Addr) (pn : List (Addr × Obj)) (c : Nat) (w : D), Zc (.ref (g.cad c)) d oe → (∃ vs, oe.data = .fields vs) → PSs (X.suite a ((a, oe) :: pn)) (b₀ :: su) (liftS (g.pinned (some (i, a, w, d))) W0 (f c w))) (r : HsL X g nms hs l) :
      HsL X g nms (.ExceptHandler (some (.Name x np)) (some n) (b₀ :: su) pq :: hs) ((h, some i, f) :: l)
section
variable {X : Cx} {g : G} {W : WX} {nms : List Str} {ln : Nat}
theorem hsL_n (hp : g.pin = none) (O : XOk ln X.prog X.K X.mg g nms) : ∀ {hs : List ExceptHandler} {l : ClsH}, HsL X g nms hs l → ∃ ts, HsN X hs ts ∧ ∀ (En : Ends) (σ σ0 : L2.St) (H H0 : Hp) (m m0 : List Addr) (env : Env) (L : LH) (c : Nat) (w : D) (d : Option Addr),
    OutS g W En H0 m0 (exCl c w env L l) → Ext H0 m0 H m → Rel g σ H env L m → RepX g H m w d → wHs X.K W En ts (.ref (g.cad c)) d σ H := by
  intro hs l k
  induction k with
  | nil => exact ⟨[], .nil, fun En σ σ0 H H0 m m0 env L c w d h x r q => h d σ H m x r q⟩
  | @bare h x f b₀ su np pq hs l hx hg hdb hsu r ih =>
    obtain ⟨ts, t1, t2⟩ := ih
    refine ⟨(.ref (g.cad h), none, fun a cls d D σ H => ∃ c w, cls = .ref (g.cad c) ∧ liftS g W0 (f c w) D σ H) :: ts, .bare ⟨hg, hdb, .inl (O.nm h x hx)⟩ (fun a oe cls d pn hz hd => ⟨fun pins s σ H D I ⟨c, w, ec, k⟩ => ?_⟩) t1, fun En σ σ0 H H0 m m0 env L c w d k x1 r1 q1 => ?_⟩
    · subst ec
      exact (hsu a oe d pn c w hz hd).run pins s σ H D I k
    · refine ⟨catches h c, O.exm c h x hx, fun hb a ha => ?_, fun hb => ?_⟩
      · rw [exCl, if_pos hb] at k
        exact ⟨c, w, rfl, _, L, m, r1, OutS.ext x1 (endH_bare k)⟩
      · rw [exCl, hb, if_neg Bool.false_ne_true] at k
        exact t2 En σ σ0 H H0 m m0 env L c w d k x1 r1 q1
  | @named h i x n f b₀ su np pq hs l h0 hx hg hdb hi hln hsu r ih =>
    obtain ⟨ts, t1, t2⟩ := ih
    refine ⟨(.ref (g.cad h), some i, fun a cls d D σ H => ∃ c w, cls = .ref (g.cad c) ∧ liftS (g.pinned (some (i, a, w, d))) W0 (f c w) D σ H) :: ts, .named ⟨hg, hdb, .inl (O.nm h x hx)⟩ hi hln (fun a oe cls d pn hz hd => ⟨fun pins s σ H D I ⟨c, w, ec, k⟩ => ?_⟩) t1, fun En σ σ0 H H0 m m0 env L c w d k x1 r1 q1 => ?_⟩
    · subst ec
      exact (hsu a oe d pn c w hz hd).run pins s σ H D I k
    · refine ⟨catches h c, O.exm c h x hx, fun hb a ha => ?_, fun hb => ?_⟩
      · rw [exCl, if_pos hb] at k
        exact ⟨c, w, rfl, _, L, m, r1.pinIn h0 q1, OutS.ext x1 (endH_out h0 hp k)⟩
      · rw [exCl, hb, if_neg Bool.false_ne_true] at k
        exact t2 En σ σ0 H H0 m m0 env L c w d k x1 r1 q1
theorem ss_try_hs {body : List Stmt} {h₀ : ExceptHandler} {hds : List ExceptHandler} {cl : ClsH} {pos : Pos} {fb : Env → LH → RS} (hp : g.pin = none) (O : XOk ln X.prog X.K X.mg g nms) (hs : X.stack = X.env :: X.outer) (hf : X.env.frame = some X.env.locals) (hN : X.N.Nodup) (tk : Takes X W)
    (hb : ∀ (W' : WX) (pn : List (Addr × Obj)) (xe : Value → Shared → Prop), Takes (X.tr pn xe) W' → PassesOwn (model X.prog X.w) X.A X.env xe → PSs (X.tr pn xe) body (liftS g W' fb)) (hh : HsL X g nms (h₀ :: hds) cl) :
    PS X (.Try body (h₀ :: hds) [] [] pos) (liftS g W fun env L => match fb env L with
      | .exc c w env L => exCl c w env L cl
      | r => r) := by
  obtain ⟨ts, t1, t2⟩ := hsL_n (W := W) hp O hh
  refine PS.weak (ps_try_hs (Wout := W) (tb := fun W' => liftS g W' fb) hs hf hN tk hb t1) fun D σ H ⟨env, L, m, R, k⟩ => ⟨env, L, m, R, ?_⟩
  dsimp only at k
  cases ef : fb env L with
  | exc c w e1 L1 =>
    rw [ef] at k
    intro d σ' H' m' x1 r1 q1
    exact t2 D σ' σ H' H m' m e1 L1 c w d k x1 r1 q1
  | nx e1 L1 => rw [ef] at k; exact k
  | rt d L1 => rw [ef] at k; exact k
  | bk e1 L1 => rw [ef] at k; exact k
  | ct e1 L1 => rw [ef] at k; exact k
  | bad => rw [ef] at k; exact k
end
end Ev
end

section
set_option Elab.async false
set_option linter.all false
set_option maxRecDepth 100000
set_option autoImplicit false
set_option maxHeartbeats 1000000
/-! a lambda handed to a def -/
namespace Ev
open PySem PySem.Spec PyProof.Rows L2 LamX
/-- the lambda at f, made at s, does what th tells -/
structure ThOk (P : Program) (w : World) (K : PySem.W.Frag) (mg : Str → Option Value) (base : Heap) (gd : Bool) (k : Nat) (fr : List Addr) (s : Shared) (H0 : Hp) (m0 : List Addr) (g : G) (f : Addr) (th : LH → R D) : Prop where
  at_ : ∀ (s1 : Shared) (HZ : Hp), Un fr [] H0 HZ s.heap s1.heap → PySem.W.FnAt f s1.heap
  run : ∀ (A : Around) (outer : List PySem.Env) (s1 : Shared) (HZ : Hp) (L : LH) (m : List Addr) (Q : VK) (E : XK), Room k A → (gd = true → A.guards = some []) → Env0 P w K mg base A outer s1 HZ → Un fr [] H0 HZ s.heap s1.heap →
    Ext H0 m0 HZ m → RelH g HZ L m → Out g (Rep g) (fun cls d _ H' => E cls d H') [] HZ m Q (th L) → codeAny (model P w) A (.call (.ref f) ⟨[], []⟩) (CR (L2.CX P w) outer P w HZ s1 Q E) s1
section
variable {X : Cx} {g : G} {W : WX} {a : Str} {p p1 p2 pos : Pos} {th : LH → R D} {gd : Bool} {k : Nat} {f : Addr} {m0 : List Addr}
/-- a(), a the parameter that got the lambda -/
theorem se_thunk (ha : g.amb = some (f, X.H_0, m0)) (T : ThOk X.prog X.w X.K X.mg X.base gd k X.fs X.s_0 X.H_0 m0 (g.pa none none) f th) (hex : X.ex = []) (hr : Room k X.A) (hgd : gd = true → X.A.guards = some []) (tk : Takes X W) (hst : X.stack = X.env :: X.outer)
    (hN : X.N[0]? = some a) (hv : Vis X.env.scope a) (hd : (a == ("__debug__" : Str)) = false) (hcd : (a == ("__classdict__" : Str)) = false) :
    PE X (.Call (.Name a p1) [] [] p2) (liftE g W fun env L => match env[0]?, some th with
    | some none, some th => th L
    | _, _ => .bad) := by
  refine ⟨fun pins s σ H Q I ⟨env, L, m, R, h⟩ => ?_⟩
  dsimp only at h
  have e0 : env[0]? = some none := by
    match e : env[0]? with
    | some none => rfl
    | some (some y) => rw [e] at h; exact h.elim
    | none => rw [e] at h; exact h.elim
  rw [e0] at h
  replace h : Out g (Rep g) W σ H m Q (th L) := h
  obtain ⟨q1, q2⟩ := R.amb f _ m0 ha
  refine wpAny_Call_Name_kw (thn ((pe_var (pos := p1) (i := 0) hN hv hd hcd).run pins s σ H (fun v H1 => v = .ref f ∧ H1 = H) I ⟨.ref f, q1 e0, rfl, rfl⟩) fun u s1 ⟨v, H1, I1, r1, ev, eH⟩ => ?_)
  subst ev; subst eH
  obtain rfl : u = Value.ref f := r1
  have un : Un X.fs [] X.H_0 H1 X.s_0.heap s1.heap := by
    have := I1.base
    rw [hex] at this
    exact this
  refine PySem.W.callWith_F0 (T.at_ s1 H1 un) ?_
  refine wpAny_call (codeAny_mono (T.run X.A X.stack s1 H1 L m Q (fun cls d H' => W cls d σ H') hr hgd I1.env0 un q2 (RelH.pin (g := g) (q := g.pin) (u := g.amb) R.h) ?_) fun res s' hq => ?_)
  · revert h
    cases th L with
    | ok d l => exact fun h v H' m' x r q => h v H' m' x (RelH.pin (g := g) (q2 := g.pin) (u2 := g.amb) r) (Rep.pin (g := g) (q2 := g.pin) (u2 := g.amb) _ _ q)
    | exc c w l => exact fun h d H' m' x r q => h d H' m' x (RelH.pin (g := g) (q2 := g.pin) (u2 := g.amb) r) (RepX.pin (g := g) (q2 := g.pin) (u2 := g.amb) q)
    | bad => exact fun h => h
  · match res, hq with
    | .error err, hq => exact tk err s' (XE.of_call I1 (fun cls d H' q => q) hq)
    | .ok (.ret u), hq => exact I1.after hq
end
/-- out of a def that lets nothing out -/
theorem out_nox {g : G} {W : WX} {σ : L2.St} {H : Hp} {m : List Addr} {Q : VK} : ∀ {r : R D}, Out g (Rep g) W σ H m Q r.nox → Out g (Rep g) W0 σ H m Q r
  | .ok _ _, h => h
  | .exc _ _ _, h => h.elim
  | .bad, h => h
theorem Rel.paOut {g : G} {σ : L2.St} {H : Hp} {m : List Addr} {L : LH} {env : Env} {q : Option (Nat × Addr × D × Option Addr)} {u : Option (Addr × Hp × List Addr)} (hp : g.pin = none ∧ g.amb = none) (r : Rel (g.pa q u) σ H env L m) : Rel g σ H env L m :=
  ⟨RelH.pin (g := g) (q2 := g.pin) (u2 := g.amb) r.h, r.len, fun j x e => let ⟨v, e1, e2⟩ := r.vars j x e; ⟨v, e1, Rep.pin (g := g) (q2 := g.pin) (u2 := g.amb) _ _ e2⟩, fun j b w' d' e => (by rw [hp.1] at e; cases e), fun f H0 m0 e => (by rw [hp.2] at e; cases e)⟩
theorem outS_pa {g : G} {H : Hp} {m : List Addr} {D : Ends} {q : Option (Nat × Addr × Ev.D × Option Addr)} {u : Option (Addr × Hp × List Addr)} (hp : g.pin = none ∧ g.amb = none) : ∀ {r : RS}, OutS g W0 D H m r → OutS (g.pa q u) W0 D H m r
  | .nx _ _, h => fun σ' H' m' x r => h σ' H' m' x (r.paOut hp)
  | .rt _ _, h => fun v H' m' x r k => h v H' m' x (RelH.pin (g := g) (q2 := g.pin) (u2 := g.amb) r) (Rep.pin (g := g) (q2 := g.pin) (u2 := g.amb) _ _ k)
  | .bk _ _, h => fun σ' H' m' x r => h σ' H' m' x (r.paOut hp)
  | .ct _ _, h => fun σ' H' m' x r => h σ' H' m' x (r.paOut hp)
  | .exc _ _ _ _, h => fun d σ' H' m' x r k => h d σ' H' m' x (r.paOut hp) (RepX.pin (g := g) (q2 := g.pin) (u2 := g.amb) k)
  | .bad, h => h
theorem Ext.ofN {H H1 : Hp} {m : List Addr} (e : ExtN H H1) : Ext H m H1 m :=
  ⟨⟨[], by simp, by simp⟩, fun a o h _ t => e a o h t, fun a xs h => e a _ h (fun ps => by simp), fun a o u h => e a _ h (fun ps => by simp), fun a o h t => ⟨o, e a o h t, t⟩⟩
theorem RelH.ofN {g : G} {H H1 : Hp} {m : List Addr} {L : LH} (e : ExtN H H1) (T : Tabs g.tabs H1) (r : RelH g H L m) : RelH g H1 L m := by
  refine ⟨r.len, r.nd, fun l o h => ?_, T, fun a ha => ?_⟩
  · obtain ⟨a, h1, h2⟩ := r.objs l o h
    refine ⟨a, h1, ?_⟩
    cases o with
    | lst ds => obtain ⟨xs, e1, z, k⟩ := h2; exact ⟨xs, e _ _ e1 (fun ps => by simp), z, Reps.ext (Ext.ofN e) _ _ k⟩
    | ins c fs => obtain ⟨dx, xs, e1, k, ok⟩ := h2; exact ⟨dx, xs, e _ _ e1 (fun ps => by simp), k.ext (Ext.ofN e), ok⟩
  · obtain ⟨h1, xs, h2⟩ := r.hid a ha
    exact ⟨h1, xs, e _ _ h2 (fun ps => by simp)⟩
theorem codeO_nm {g : G} {H : Hp} {m : List Addr} {L : LH} {c : Addr} {q : Str} (r : RelH g H L m) (h : H c = some (CodeO c q)) : c ∉ m := fun hm => by
  obtain ⟨i, hi⟩ := List.mem_iff_getElem?.mp hm
  obtain ⟨o, _, ro⟩ := r.at_ hi
  cases o with
  | lst ds => obtain ⟨xs, e1, _⟩ := ro; rw [h] at e1; cases e1
  | ins _ fs => obtain ⟨dx, xs, e1, _⟩ := ro; rw [h] at e1; cases e1
section
variable {X : Cx} {g : G} {W : WX} {gd : Bool} {k kb : Nat} {x a : Str} {gf c P : Addr} {fd : FuncData} {params : Arguments} {bg : List Stmt} {sg : Scope} {dvs : List V} {kws : List (Str × V)} {Ng : List Str} {lparams : Arguments} {body : Expr} {scope : Scope} {p lpos pos : Pos} {fe : Env → LH → R D} {fn : Fn}
  {fbody : (LH → R D) → Env → LH → RS}
/-- x(lambda: body) -/
theorem se_lam (hp : g.pin = none ∧ g.amb = none) (hg : Gl X x) (hm : X.mg x = some (.ref gf)) (hk : PySem.W.keepIn X.K (.ref gf) = true) (F : FunD X.K x x params bg sg dvs kws gf fd) (S : FnScope Ng [a] sg) (hb : L2.Binds X.K fd [a] [])
    (TB : TabB X.base X.mg c P) (hcode : X.env.code = .ref c) (hmT : (P, X.env.qual ++ "<lambda>") ∈ g.tabs) (hu : ∀ p ∈ g.tabs, p.1 = P → p.2 = X.env.qual ++ "<lambda>") (hr : Room (k + 1) X.A) (hkb : kb ≤ k) (hgd : gd = true → X.A.guards = some []) (Ls : LamS X.env.scope scope) (hdef : defaultsOf lparams X.env = ([], []))
    (hbind : ∀ (q : Str) (cl : List (Str × Addr)) (pm cv ctv : Value), bindArgs (PySem.W.kla_fn "<lambda>" q lparams body scope cl pm cv ctv) ⟨[], []⟩ = pure []) (hnl : Ng.length = fn.nl)
    (hbody : ∀ (A : Around) (outer : List PySem.Env) (s : Shared) (H : Hp) (E : XK) (f c' : Addr), Room kb (A.deeper (lamEnv X scope s.heap.objs.size f c')) → (gd = true → A.guards = some []) → PE (lamCx X A outer s H E scope f c') body (liftE g (fun cls d _ H => E cls d H) fe))
    (hdefb : ∀ (cdv : Value) (A : Around) (outer : List PySem.Env) (s : Shared) (H : Hp) (m0 : List Addr) (f : Addr) (th : LH → R D), Room k (A.deeper (envOfC x sg s.heap.objs.size gf cdv)) → (gd = true → A.guards = some []) →
      ThOk X.prog X.w X.K X.mg X.base gd (kb + 1) (frs outer) s H m0 (g.pa none none) f th →
      PSs (cxOf C8.CX0 X.prog X.w X.K X.mg X.base Ng x sg gf cdv A outer s H C8.E0).nox bg (liftS (g.pa none (some (f, H, m0))) W0 (fbody th)))
    (hdb : (x == ("__debug__" : Str)) = false) :
    PE X (.Call (.Name x p) [.Lambda lparams body scope lpos] [] pos) (liftE g W fun env L => (endR fn L (fbody (fe env) (List.replicate fn.nl none) L)).nox) := by
  obtain ⟨oc, od, dV, kV, doc, pm, an, cdv, ct, osl, rfl, lk, hcd, _, _⟩ := F.ex
  refine ⟨fun pins s σ H Q I ⟨env, L, m, R, h⟩ => ?_⟩
  refine wpAny_Call_Name_kw (ld_glob I hg hm ?_ hdb)
  refine PySem.W.callWith_K (h₀ := X.base) I.ok.mod.kin hk ?_ (by rfl) (by rfl)
  show wpAny _ _ (spliced ((false, eval (.Lambda lparams body scope lpos) X.env) :: backTo pos (starEach [] X.env))) _ _ s
  refine Calls.spliced_cons (lam_make2 I TB hcode hmT hu R.h.tabs hdef (Ls.has I.ok) fun f c' pm' ctv H1 s' I1 eN T1 hf hfn hfr hco => ?_)
  refine Calls.spliced_nil ⟨I1.kIn, ?_⟩
  have x1 : Ext H m H1 m := Ext.ofN eN
  have R1 : RelH g H1 L m := R.h.ofN eN T1
  have hgood : OutS g W0 { nx := fun _ H' => Q .non H', rt := Q } H1 m (fbody (fe env) (List.replicate fn.nl none) L) :=
    endR_out (σ := σ) (σ' := σ) R1.len (fun _ _ _ _ _ z => z.elim) (out_nox (Out.ext x1 h))
  have th : ThOk X.prog X.w X.K X.mg X.base gd (kb + 1) (frs X.stack) s' H1 m (g.pa none none) f (fe env) := by
    refine ⟨fun s1 HZ un => ⟨_, _, _, _, un.keep f _ hf hfn hfr (by simp)⟩, fun A1 outer1 s1 HZ L1 m1 Q1 E1 hr1 gd1 e0 un xx rr oo => ?_⟩
    have of1 := un.keep f _ hf hfn hfr (by simp)
    have hcZ : HZ c' = some (CodeO c' (X.env.qual ++ "<lambda>")) := xx.keep c' _ hco (codeO_nm R1 hco) codeO_ne
    obtain ⟨⟨ob, vs, t, hoc, hdc, hvc⟩, _, _⟩ := e0.hok c' _ hcZ
    refine PySem.W.kla_callFunE hr1.depth of1 rfl Ls.co Ls.gen rfl ⟨c', ob, vs, t, rfl, hoc, hdc, hvc⟩ ?_
    rw [hbind]
    refine wpAny_pure (wpAny_newFunctionEnv (fun y hy => (Ls.own y hy).2) (fun y hy => absurd hy (by simp)) (fun h₁ hns hsb => ⟨(e0.mod.nolimit.keeps fun b o e => (e0.bs b o e).1).fresh _ hsb, ?_⟩) Ls.kind)
    show codeAny _ _ (.expr body (lamEnv X scope s1.heap.objs.size f c')) _ _
    have kp : ∀ b o, s1.heap.get? b = some o → h₁.get? b = some o := fun b o e => hsb.extBut b o (Nat.ne_of_lt (Heap.lt_size e)) (Heap.get?_push_of_some _ e)
    have J := lam_start2 (f := f) (c' := c') (E := E1) (tk := s1.toks + ([] : List (Str × Value)).length) I1 Ls e0 hr1.hd un hns kp
    have oo' : Out g (Rep g) (fun cls d _ H' => E1 cls d H') σ HZ m1 Q1 (fe env L1) := by
      revert oo
      cases fe env L1 with
      | ok d l => exact fun h v H' m' x r q => h v H' m' x (RelH.pin (g := g) (q := g.pin) (u := g.amb) r) (Rep.pin (g := g) (q := g.pin) (u := g.amb) _ _ q)
      | exc c w l => exact fun h d H' m' x r q => h d H' m' x (RelH.pin (g := g) (q := g.pin) (u := g.amb) r) (RepX.pin (g := g) (q := g.pin) (u := g.amb) q)
      | bad => exact fun h => h
    have ht : liftE g (fun cls d _ H => E1 cls d H) fe σ HZ Q1 := ⟨env, L1, m1, R.ext (x1.trans xx) (RelH.pin (g := g) (q2 := g.pin) (u2 := g.amb) rr), oo'⟩
    refine PySem.W.kla_codeExpr (wpAny_mono ((hbody A1 outer1 s1 HZ E1 f c' (hr1.deeper _) gd1).run [] _ σ HZ Q1 J ht) (fun v s2 hq => ?_) fun e s2 hq => hq)
    obtain ⟨w', H', J', rv, q⟩ := hq
    exact ⟨w', H', J'.os, J'.bare, J'.base, J'.hok, rv, q⟩
  have e0 := I1.env0
  have hbs := hb s' [.ref f] I1.kIn rfl
  have kinds : (([a].zip [Value.ref f]).all fun y => sg.names.lookup y.1 == some .local || sg.names.lookup y.1 == some .cell) = true := by
    rw [List.all_eq_true]
    intro y hy
    rcases S.par y.1 (List.of_mem_zip hy).1 with q | q <;> simp [q]
  refine wpAny_call (codeAny_mono (Att.call_fn (R := CR C8.CX0 X.stack X.prog X.w H1 s' Q C8.E0) I1.kIn I1.nolimit lk hcd hr.depth hbs kinds (fun s1 ic => ?_) S.co S.gen S.kind) fun r s2 hq => ?_)
  · have Z0 := inv_start (CX := C8.CX0) (E := C8.E0) (vs := [V.ref f]) S hr.hd e0 rfl (.cons rfl .nil) ic
    have body := (hdefb cdv X.A X.stack s' H1 m f (fe env) (hr.deeper _) hgd th).nox
    have nd0 : Ng[0]? = some a := by
      have := S.pre
      cases Ng with
      | nil => cases this
      | cons b r => simp at this; simp [this]
    refine wpAny_mono (body.run [] s1 (L2.start Ng [.ref f]) H1 { nx := fun _ H' => Q .non H', rt := Q } Z0 ⟨List.replicate fn.nl none, L, m, ?_, outS_pa hp hgood⟩) (fun fl s3 hs => ?_) fun e s3 hs => hs
    · refine ⟨RelH.pin (g := g) (q := g.pin) (u := g.amb) R1, ?_, fun i d e => ?_, fun i b w d e => (by cases e), fun f' H0 m0 e => ?_⟩
      · have h1 : 1 ≤ Ng.length := (List.getElem?_eq_some_iff.mp nd0).1
        simp only [L2.start, List.length_append, List.length_map, List.length_replicate, List.length_cons, List.length_nil]; omega
      · rw [List.getElem?_replicate] at e
        split at e <;> cases e
      · cases e
        exact ⟨fun _ => rfl, Ext.refl⟩
    · match fl, hs with
      | .ret u, ⟨v, σ', H', J, rv, q⟩ => exact ⟨v, H', J.os, J.bare, J.base, J.hok, rv, q⟩
      | .next, ⟨σ', H', J, q⟩ => exact ⟨.non, H', J.os, J.bare, J.base, J.hok, rfl, q⟩
      | .brk, ⟨_, _, _, q⟩ => exact q.elim
      | .cont, ⟨_, _, _, q⟩ => exact q.elim
  · match r, hq with
    | .error e, hq => exact (show False from hq).elim
    | .ok (.ret u), hq => exact I1.after hq
end
end Ev
end

section
set_option Elab.async false
set_option linter.all false
set_option maxRecDepth 100000
set_option autoImplicit false
set_option maxHeartbeats 1000000
/-! min(xs, key=f), what f does told with the turns -/
namespace Ev
open PySem PySem.Spec
/-- A0: ahead of the first item; B j: behind the items to j, the best one and its key; C j: one key more is made -/
structure KeyW (prog : Program) (w : World) (A : Around) (q : Value) (S : Addr) (wr : List Addr) (G : Array GenState → Array GenState → Prop) (n : Nat) (P : Nat → Value → Prop) (St : Nat → Shared → Prop)
    (A0 : Shared → Prop) (B : Nat → Value → Value → Shared → Prop) (C : Nat → Value → Value → Value → Value → Shared → Prop) : Prop where
  k0 : ∀ t t', A0 t → Moved (S :: wr) G t t' → A0 t'
  kB : ∀ j vb kb t t', B j vb kb t → Moved (S :: wr) G t t' → B j vb kb t'
  first : ∀ v (t : Shared) (o : Obj) (Q : Value → Shared → Prop) (E : Value → Shared → Prop), P 0 v → A0 t → St 1 t → t.heap.get? S = some o → (∀ k t', B 0 v k t' → St 1 t' → t'.heap.get? S = some o → Q k t') → wpAny (model prog w) A (call q [v]) Q E t
  next : ∀ j vb kb v (t : Shared) (o : Obj) (Q : Value → Shared → Prop) (E : Value → Shared → Prop), j + 1 < n → P (j + 1) v → B j vb kb t → St (j + 1 + 1) t → t.heap.get? S = some o →
    (∀ k t', C j vb kb v k t' → St (j + 1 + 1) t' → t'.heap.get? S = some o → Q k t') → wpAny (model prog w) A (call q [v]) Q E t
  cmp : ∀ j vb kb v k (t : Shared) (Q : Value → Shared → Prop) (E : Value → Shared → Prop), C j vb kb v k t → (∀ b : Bool, (b = true → B (j + 1) v k t) → (b = false → B (j + 1) vb kb t) → Q (.bool b) t) → wpAny (model prog w) A (richCompare .Lt k kb) Q E t
section
variable {prog : Program} {w : World} {A : Around} {E : Value → Shared → Prop} {s : Shared} {R : Result → Shared → Prop} {I q : Addr} {fp wr : List Addr} {G : Array GenState → Array GenState → Prop} {n : Nat} {P : Nat → Value → Prop} {St : Nat → Shared → Prop}
  {A0 : Shared → Prop} {B : Nat → Value → Value → Shared → Prop} {C : Nat → Value → Value → Value → Value → Shared → Prop}
theorem min_turns (Z : WalksS prog w A.in1 I fp wr G n P St) (S : Addr) (nS : S ∉ fp) (Y : KeyW prog w A.in1 (.ref q) S wr G n P St A0 B C) (kw : List (Str × Value)) :
    ∀ (k j : Nat) (t : Shared) (vb kb : Value) (c : Nat), n - (j + 1) = k → j + 1 ≤ n → B j vb kb t → St (j + 1) t →
    t.heap.get? S = some { cls := .type "list", dict := none, data := .seq #[vb, kb] c, slots := #[] } →
    (∀ v k t', B (n - 1) v k t' → R (.ok (.ret v)) t') → codeAny (model prog w) A (.builtin "min.loop" ⟨[.ref I, (.ref q), .ref S], kw⟩) R t := by
  have mS : S ∉ wr := fun h => nS (Z.sub _ h)
  have sb : ∀ b ∈ wr, b ∈ S :: wr := fun b z => List.mem_cons_of_mem S z
  have nm : (toString "min" ++ toString ".loop" : String) = "min.loop" := by decide
  have neS : ∀ {b : Addr}, b ∉ S :: wr → S ≠ b := fun z e => z (e ▸ List.mem_cons_self)
  intro k
  induction k with
  | zero =>
    intro j t vb kb c ek lj bj st gS fin
    have en : j + 1 = n := by omega
    refine codeAny_builtin (PySem.F.entry_min_loop) ?_
    rw [Around.under_plainId (PySem.F.plain_min_loop) _]
    show wpAny _ A.in1 (seqItems? (.ref S) >>= _) _ _ t
    refine wpAny_bind (wpAny_seqItems gS rfl ?_)
    show wpAny _ A.in1 (tryCatch (pyNext (.ref I)) _ >>= _) _ _ t
    refine wpAny_bind (wpAny_tryCatch (Z.done t _ _ (en ▸ st) fun t' mv => ?_))
    have gS' := mv.heap S _ mS gS
    show wpAny _ A.in1 (updateSeq S (fun _ => #[]) >>= _) _ _ t'
    refine wpAny_bind (wpAny_updateSeq gS' rfl (wpAny_bind (wpAny_letGo (wpAny_pure ?_))))
    have bn : B (n - 1) vb kb t := by
      have : n - 1 = j := by omega
      rw [this]; exact bj
    exact fin vb kb _ (Y.kB _ _ _ _ _ bn ((mv.mono sb).then_heap (tk := t'.toks) (Nat.le_refl _) fun b o z e => (Heap.get?_update_other _ _ (neS z)).trans e))
  | succ k ih =>
    intro j t vb kb c ek lj bj st gS fin
    have lt : j + 1 < n := by omega
    refine codeAny_builtin (PySem.F.entry_min_loop) ?_
    rw [Around.under_plainId (PySem.F.plain_min_loop) _]
    show wpAny _ A.in1 (seqItems? (.ref S) >>= _) _ _ t
    refine wpAny_bind (wpAny_seqItems gS rfl ?_)
    show wpAny _ A.in1 (tryCatch (pyNext (.ref I)) _ >>= _) _ _ t
    refine wpAny_bind (wpAny_tryCatch (Z.item (j + 1) t _ _ lt st fun v t' pv st' mv => ?_))
    have gS' := mv.heap S _ mS gS
    have bj' := Y.kB _ _ _ _ _ bj (mv.mono sb)
    show wpAny _ A.in1 (tryCatch (holding [v] (call (.ref q) [v])) _ >>= _) _ _ t'
    refine wpAny_bind (wpAny_tryCatch (wpAny_holding (Y.next j vb kb v t' _ _ _ lt pv bj' st' gS' fun kx u cj stu gSu => ?_)))
    show wpAny _ A.in1 (tryCatch (holding [v, kx] (richCompare .Lt kx kb >>= _)) _ >>= _) _ _ u
    refine wpAny_bind (wpAny_tryCatch (wpAny_holding (wpAny_bind (Y.cmp j vb kb v kx u _ _ cj fun b h1 h2 => ?_))))
    refine wpAny_bind (wpAny_holding (wpAny_truthy_bool ?_))
    refine wpAny_bind (wpAny_letGo (wpAny_pure ?_))
    cases b with
    | true =>
      simp only [if_true]
      refine wpAny_bind (wpAny_updateSeq gSu rfl (wpAny_bind (wpAny_letGo ?_)))
      rw [nm]
      have m2 : Moved (S :: wr) G u { u with heap := u.heap.update S (Obj.mapSeq fun _ => #[v, kx]), toks := u.toks } := (Moved.refl Z.grefl).then_heap (tk := u.toks) (Nat.le_refl _) fun b o z e => (Heap.get?_update_other _ _ (neS z)).trans e
      refine wpAny_pure ⟨plainId_quiet (PySem.F.plain_min_loop) _, ih (j + 1) _ v kx _ (by omega) lt (Y.kB _ _ _ _ _ (h1 rfl) m2) (Z.frame _ u _ u.toks stu (Nat.le_refl _) fun b bf o e => ?_) (Heap.get?_update_self _ gSu rfl) fin⟩
      exact (Heap.get?_update_other _ _ (fun z : S = b => nS (z ▸ bf))).trans e
    | false =>
      simp only [Bool.false_eq_true, if_false]
      refine wpAny_bind (wpAny_letGo ?_)
      rw [nm]
      exact wpAny_pure ⟨plainId_quiet (PySem.F.plain_min_loop) _, ih (j + 1) _ vb kb c (by omega) lt (h2 rfl) stu gSu fin⟩
theorem min_turn0 (Z : WalksS prog w A.in1 I fp wr G n P St) (S : Addr) (nS : S ∉ fp) (Y : KeyW prog w A.in1 (.ref q) S wr G n P St A0 B C) (kw : List (Str × Value)) (n0 : 0 < n) {t : Shared} {c : Nat} (a0 : A0 t) (st : St 0 t)
    (gS : t.heap.get? S = some { cls := .type "list", dict := none, data := .seq #[] c, slots := #[] })
    (fin : ∀ v k t', B (n - 1) v k t' → R (.ok (.ret v)) t') : codeAny (model prog w) A (.builtin "min.loop" ⟨[.ref I, (.ref q), .ref S], kw⟩) R t := by
  have mS : S ∉ wr := fun h => nS (Z.sub _ h)
  have sb : ∀ b ∈ wr, b ∈ S :: wr := fun b z => List.mem_cons_of_mem S z
  have nm : (toString "min" ++ toString ".loop" : String) = "min.loop" := by decide
  have neS : ∀ {b : Addr}, b ∉ S :: wr → S ≠ b := fun z e => z (e ▸ List.mem_cons_self)
  refine codeAny_builtin (PySem.F.entry_min_loop) ?_
  rw [Around.under_plainId (PySem.F.plain_min_loop) _]
  show wpAny _ A.in1 (seqItems? (.ref S) >>= _) _ _ t
  refine wpAny_bind (wpAny_seqItems gS rfl ?_)
  show wpAny _ A.in1 (tryCatch (pyNext (.ref I)) _ >>= _) _ _ t
  refine wpAny_bind (wpAny_tryCatch (Z.item 0 t _ _ n0 st fun v t' pv st' mv => ?_))
  have gS' := mv.heap S _ mS gS
  show wpAny _ A.in1 (tryCatch (holding [v] (call (.ref q) [v])) _ >>= _) _ _ t'
  refine wpAny_bind (wpAny_tryCatch (wpAny_holding (Y.first v t' _ _ _ pv (Y.k0 _ _ a0 (mv.mono sb)) st' gS' fun kx u b0 stu gSu => ?_)))
  show wpAny _ A.in1 (updateSeq S (fun _ => #[v, kx]) >>= _) _ _ u
  refine wpAny_bind (wpAny_updateSeq gSu rfl ?_)
  rw [nm]
  have m2 : Moved (S :: wr) G u { u with heap := u.heap.update S (Obj.mapSeq fun _ => #[v, kx]), toks := u.toks } := (Moved.refl Z.grefl).then_heap (tk := u.toks) (Nat.le_refl _) fun b o z e => (Heap.get?_update_other _ _ (neS z)).trans e
  refine wpAny_pure ⟨plainId_quiet (PySem.F.plain_min_loop) _, min_turns Z S nS Y kw _ 0 _ v kx _ rfl n0 (Y.kB _ _ _ _ _ b0 m2) (Z.frame _ u _ u.toks stu (Nat.le_refl _) fun b bf o e => ?_) (Heap.get?_update_self _ gSu rfl) fin⟩
  exact (Heap.get?_update_other _ _ (fun z : S = b => nS (z ▸ bf))).trans e
/-- min(x, key=f) -/
theorem call_minW {x : Value} {Q : Value → Shared → Prop}
    (h : wpAny (model prog w) A.in1 (pyIter x) (fun it u => ∃ I fp wr G n P St A0 B C, it = .ref I ∧ WalksS prog w A.in1 I fp wr G n P St ∧ St 0 u ∧ (∀ b ∈ fp, b < u.heap.objs.size) ∧ 0 < n ∧
      KeyW prog w A.in1 (.ref q) u.heap.objs.size wr G n P St A0 B C ∧ A0 u ∧ ∀ v k t', B (n - 1) v k t' → Q v t') E s) :
    wpAny (model prog w) A (call (.builtin "min") [x] [(Str.ofString "key", .ref q)]) Q E s := by
  have nm : (toString "min" ++ toString ".loop" : String) = "min.loop" := by decide
  refine PyProof.Rows.kmk_tree (PySem.F.kind_min) (PySem.F.plain_min) (PySem.F.entry_min) (PyProof.Rows.kmk_min_key x (.ref q)) ?_
  show wpAny _ A.in1 (Builtin.Builtins.bindParams "min" ["key", "default"] 0 ⟨[], [(Str.ofString "key", Value.ref q)]⟩ >>= _) _ _ s
  have eb : Builtin.Builtins.bindParams "min" ["key", "default"] 0 ⟨[], [(Str.ofString "key", Value.ref q)]⟩ = pure [some (Value.ref q), none] := rfl
  refine wpAny_bind (wpAny_of_eq eb (wpAny_bind (wpAny_pure (wpAny_bind (wpAny_mono h (fun it u hu => ?_) fun _ _ e => e)))))
  obtain ⟨I, fp, wr, G, n, P, St, A0, B, C, rfl, Z, st, lf, n0, Y, a0, fin⟩ := hu
  refine wpAny_bind (wpAny_newObj_type ?_)
  have nS : u.heap.objs.size ∉ fp := fun z => Nat.lt_irrefl _ (lf _ z)
  rw [nm]
  have m0 : Moved (u.heap.objs.size :: wr) G u { u with heap := u.heap.push { cls := .type "list", data := .seq #[] 0 }, toks := u.toks } := (Moved.refl Z.grefl).then_heap (tk := u.toks) (Nat.le_refl _) fun b o _ e => Heap.get?_push_of_some _ e
  have st' := Z.frame 0 u (u.heap.push { cls := .type "list", data := .seq #[] 0 }) u.toks st (Nat.le_refl _) fun b _ o e => Heap.get?_push_of_some _ e
  exact wpAny_pure ⟨plainId_quiet (PySem.F.plain_min_loop) _, min_turn0 Z u.heap.objs.size nS Y _ n0 (Y.k0 _ _ a0 m0) st' (Heap.get?_push_size _ rfl) fin⟩
end
end Ev
end

section
set_option Elab.async false
set_option linter.all false
set_option maxRecDepth 100000
set_option autoImplicit false
set_option maxHeartbeats 1000000
/-! min(xs, key=lambda p: ..), xs a list of tuples of ints, a key an int and a tuple of ints -/
namespace Ev
open PySem PySem.Spec PyProof.Rows L2 LamX
/-- one parameter, its own name; captured ones and globals besides -/
structure LamP (sc scope : Scope) (p : Str) : Prop where
  kind : scope.kind = .function
  co : scope.isCoroutine = false
  gen : scope.isGenerator = false
  par : scope.names.lookup p = some .local
  own : ∀ y ∈ scope.names, (y.2 = .local → y.1 = p) ∧ y.2 ≠ .cell
  free : ∀ y ∈ scope.names, y.2 = .free → sc.names.lookup y.1 = some .cell ∨ sc.names.lookup y.1 = some .free
def lamPB (sc scope : Scope) (p : Str) : Bool :=
  decide (scope.kind = .function) && !scope.isCoroutine && !scope.isGenerator && decide (scope.names.lookup p = some .local) &&
    scope.names.all fun y => (!decide (y.2 = .local) || decide (y.1 = p)) && !decide (y.2 = .cell) && (!decide (y.2 = .free) || (decide (sc.names.lookup y.1 = some .cell) || decide (sc.names.lookup y.1 = some .free)))
theorem lamP_by {sc scope : Scope} {p : Str} (h : lamPB sc scope p = true) : LamP sc scope p := by
  unfold lamPB at h
  simp only [Bool.and_eq_true, Bool.or_eq_true, Bool.not_eq_true', decide_eq_true_eq, decide_eq_false_iff_not, List.all_eq_true] at h
  obtain ⟨⟨⟨⟨h1, h2⟩, h3⟩, h4⟩, h5⟩ := h
  refine ⟨h1, h2, h3, h4, fun y hy => ⟨fun e => ?_, (h5 y hy).1.2⟩, fun y hy e => ?_⟩
  · rcases (h5 y hy).1.1 with z | z
    · exact absurd e z
    · exact z
  · rcases (h5 y hy).2 with z | z
    · exact absurd e z
    · exact z
theorem bind1 (nm q p : Str) (pp : Pos) (body : Expr) (scope : Scope) (cl : List (Str × Addr)) (pm cv ctv u : Value) : bindArgs (PySem.W.kla_fn nm q ⟨[], [⟨p, none, pp⟩], none, [], [], none, []⟩ body scope cl pm cv ctv) ⟨[u], []⟩ = pure [(p, u)] := by
  have e : (p == p) = true := beq_self_eq_true p
  unfold bindArgs
  simp only [List.map_nil, List.map_cons, List.nil_append, List.zip_cons_cons, List.zip_nil_right, List.forIn_nil, List.length_cons, List.length_nil, pure_bind]
  rw [show (seqItems? Value.none) = pure none from rfl]
  simp [List.lookup, e]
section
variable {X : Cx} {pins : List (Addr × Obj)} {σ : L2.St} {H HZ : Hp} {s s1 : Shared}
theorem lam_startP {A : Around} {outer : List PySem.Env} {E : XK} {scope : Scope} {f c' : Addr} {h₁ : Heap} {tk : Nat} {p : Str} {i : Nat} {v : V} {u : Value} (I : Inv X pins σ H s) (Lp : LamP X.env.scope scope p) (hN : X.N[i]? = some p) (nd : X.N.Nodup) (e0 : Env0 X.prog X.w X.K X.mg X.base A outer s1 HZ) (hd : A.handled = none)
    (un : Un (frs X.stack) [] H HZ s.heap s1.heap) (rv : RelV v u) (hns : h₁.Ns s1.heap.objs.size fun y => [(p, u)].reverse.lookup y) (kp : ∀ b o, s1.heap.get? b = some o → h₁.get? b = some o) :
    Inv (lamCx X A outer s1 HZ E scope f c') [] (σ.set i (some v)) HZ { s1 with heap := h₁, toks := tk } := by
  have fr : ∀ y ∈ scope.names, y.2 = .free → ∃ c, X.env.cells.lookup y.1 = some c := fun y hy e => by
    rcases Lp.free y hy e with z | z
    · exact I.ok.has _ (.inl z)
    · exact I.ok.has _ (.inr z)
  have cm : ∀ {y c}, (cloFrom X.env.cells scope.names []).lookup y = some c → X.env.cells.lookup y = some c := fun {y c} e => by
    rcases cloFrom_mem (PySem.mem_of_lookup e) with hm | ⟨h1, h2⟩
    · cases hm
    · obtain ⟨c1, z⟩ := fr _ h1 rfl
      have z : X.env.cells.lookup y = some c1 := z
      have ec : c = c1 := by rw [h2, z] <;> rfl
      rw [ec]; exact z
  have lk : ∀ {y}, scope.names.lookup y = some .free → ∃ c, (cloFrom X.env.cells scope.names []).lookup y = some c := fun {y} z => mem_lookup (cloFrom_has (cells := X.env.cells) (acc := []) (PySem.mem_of_lookup z))
  have cK : ∀ {c : Addr} {v : Option Value}, H c = none → s.heap.IsCell c v → h₁.IsCell c v := fun {c v} n ⟨o, ho, z⟩ => by
    obtain ⟨sl, q⟩ := un.any ho n (by simp)
    exact ⟨_, kp _ _ q, z⟩
  have nA : ∀ b : Addr, b ∉ (lamCx X A outer s1 HZ E scope f c').ex := fun b z => by cases (show b ∈ ([] : List Addr) from z)
  refine ⟨⟨e0.mod, Lp.kind, rfl, rfl, Nat.le_refl _, fun y z c e1 e2 => I.ok.inj y z c (cm e1) (cm e2), fun y hy => ?_, fun y c z _ => ?_, fun _ => hd, Around.frames_deeper e0.frames, .inr ⟨rfl, rfl⟩, fun b z => absurd z (nA b), e0.bs, e0.bsz, fun b _ _ => nA b,
      fun b z => absurd z (nA b), e0.funs, e0.frf⟩,
    rfl, e0.bare, Un.kept kp, ⟨_, hns, fun j y v' e1 e2 e3 => ?_⟩, fun y c e => ?_, e0.hok.fresh (Nat.le_refl _), fun y c e => ?_, fun q hq => (by cases (show q ∈ ([] : List (Addr × Obj)) from hq)), e0.hok.kept kp, by rw [List.length_set]; exact I.len⟩
  · have hy : scope.names.lookup y = some .cell ∨ scope.names.lookup y = some .free := hy
    rcases hy with hy | hy
    · exact absurd rfl (Lp.own _ (PySem.mem_of_lookup hy)).2
    · exact lk hy
  · have z : false = true := z
    cases z
  · have e1 : X.N[j]? = some y := e1
    have e3 : Vis scope y := e3
    by_cases hyp : y = p
    · subst hyp
      have ej : j = i := by
        exact (List.getElem?_inj (List.getElem?_eq_some_iff.mp e1).1 nd).mp (e1.trans hN.symm)
      subst ej
      have hl : j < σ.length := by
        rw [I.len]; exact (List.getElem?_eq_some_iff.mp e1).1
      rw [List.getElem?_set_self hl] at e2
      cases e2
      refine ⟨u, rv, .inl ⟨Lp.par, ?_⟩⟩
      simp
    · have hji : i ≠ j := fun z => by
        subst z
        rw [hN] at e1; cases e1; exact hyp rfl
      rw [List.getElem?_set_ne hji] at e2
      rcases e3 with k | k | k
      · exact absurd ((Lp.own _ (PySem.mem_of_lookup k)).1 rfl) hyp
      · exact absurd rfl (Lp.own _ (PySem.mem_of_lookup k)).2
      · obtain ⟨m, hn, hl⟩ := I.loc
        have hvis : Vis X.env.scope y := (Lp.free _ (PySem.mem_of_lookup k) rfl).elim (fun k => .inr (.inl k)) (fun k => .inr (.inr k))
        obtain ⟨w', r, q⟩ := hl j y v' e1 e2 hvis
        obtain ⟨c2, h2⟩ := lk k
        refine ⟨w', r, .inr ⟨.inr k, c2, h2, ?_⟩⟩
        have c1 := cm h2
        rcases q with ⟨k', _⟩ | ⟨_, c3, e', z⟩
        · have k' : X.env.scope.names.lookup y = some .local := k'
          rcases Lp.free _ (PySem.mem_of_lookup k) rfl with k2 | k2 <;> rw [show X.env.scope.names.lookup y = _ from k2] at k' <;> cases k'
        · rw [c1] at e'
          cases e'
          exact cK (I.freeC y _ c1) z
  · obtain ⟨w', z⟩ := I.cell y c (cm e)
    exact ⟨w', cK (I.freeC y c (cm e)) z⟩
  · obtain ⟨v, o, ho, z⟩ := I.cell y c (cm e)
    exact un.free c o ho (I.freeC y c (cm e)) (by simp)
end
/-! ### what the key is -/
theorem intsOf_map : ∀ {xs : List D} {ns : List Int}, intsOf xs = some ns → xs = ns.map .int
  | [], ns, h => by simp [intsOf] at h; rw [h]; rfl
  | .int i :: r, ns, h => by
    simp only [intsOf] at h
    cases e : intsOf r with
    | none => rw [e] at h; cases h
    | some m => rw [e] at h; cases h; rw [List.map_cons, ← intsOf_map e]
  | .non :: _, _, h => by simp [intsOf] at h
  | .bl _ :: _, _, h => by simp [intsOf] at h
  | .str _ :: _, _, h => by simp [intsOf] at h
  | .tup _ :: _, _, h => by simp [intsOf] at h
  | .lst _ :: _, _, h => by simp [intsOf] at h
  | .scr _ :: _, _, h => by simp [intsOf] at h
  | .loc _ :: _, _, h => by simp [intsOf] at h
  | .fn _ :: _, _, h => by simp [intsOf] at h
theorem kyOf_eq {d : D} {k : Ky} (h : kyOf d = some k) : d = kyD k := by
  unfold kyOf at h
  split at h
  · rename_i a xs
    cases e : intsOf xs with
    | none => rw [e] at h; cases h
    | some ns => rw [e] at h; cases h; unfold kyD; rw [← intsOf_map e]
  · cases h
theorem isData_ints : ∀ ns : List Int, areData (ns.map D.int) = true
  | [] => rfl
  | n :: ns => by simp [areData, isData, isData_ints ns]
theorem pys_ints : ∀ ns : List Int, pys (ns.map D.int) = ns.map PyData.int
  | [] => rfl
  | n :: ns => by simp [pys, py, pys_ints ns]
theorem alike_ints : ∀ (xs ys : List Int), PySem.W.alikeAll (xs.map PyData.int) (ys.map PyData.int) = true
  | [], _ => by simp [PySem.W.alikeAll]
  | _ :: _, [] => by simp [PySem.W.alikeAll]
  | x :: xs, y :: ys => by simp [PySem.W.alikeAll, PySem.W.alike, alike_ints xs ys]
theorem toks_ints : ∀ (xs ys : List Int), PyProof.Rows.lexLt itemOrd (PySem.W.keyToksAll (xs.map PyData.int)) (PySem.W.keyToksAll (ys.map PyData.int)) = HT.lexLt xs ys
  | [], [] => lex_irrefl (O := itemOrd) _
  | [], y :: ys => by
    simp only [List.map_nil, List.map_cons, PySem.W.keyToksAll]
    rw [lex_diff (O := itemOrd) (by simp)]; rfl
  | x :: xs, [] => by
    simp only [List.map_nil, List.map_cons, PySem.W.keyToksAll]
    rw [lex_diff (O := itemOrd) (by simp)]; rfl
  | x :: xs, y :: ys => by
    rw [List.map_cons, List.map_cons, HT.lexLt_cons]
    by_cases h : x = y
    · rw [if_pos h, PySem.W.dataLt_all_yes (by simp [PySem.W.alike]) (by simp [PyData.eqv, h]), toks_ints xs ys]
    · rw [if_neg h, PySem.W.dataLt_all_no (by simp [PySem.W.alike]) (by simp [PyData.eqv, h]), PySem.W.dataLt_int]
theorem py_kyD (a : Ky) : py (kyD a) = .tuple [.int a.1, .tuple (a.2.map PyData.int)] := by simp [kyD, py, pys, pys_ints]
theorem lt_kyD (a b : Ky) : PySem.W.dataLt (py (kyD a)) (py (kyD b)) = ltK a b := by
  rw [py_kyD, py_kyD, PySem.W.dataLt_tuple, ltK]
  have at_ := alike_ints a.2 b.2
  by_cases h : a.1 = b.1
  · rw [if_pos h, PySem.W.dataLt_all_yes (by simp [PySem.W.alike]) (by simp [PyData.eqv, h])]
    have al : PySem.W.alike (.tuple (a.2.map PyData.int)) (.tuple (b.2.map PyData.int)) = true := by simp [PySem.W.alike, at_]
    by_cases q : PyData.eqv (.tuple (a.2.map PyData.int)) (.tuple (b.2.map PyData.int)) = true
    · have e := (PySem.W.toks_eqv _ _ al).1 q
      have t := toks_ints a.2 b.2
      rw [PySem.W.dataLt_all_yes al q, lex_irrefl (O := itemOrd)]
      simp only [PySem.W.keyToks] at e
      rw [e, lex_irrefl (O := itemOrd)] at t
      exact t
    · have q : PyData.eqv (.tuple (a.2.map PyData.int)) (.tuple (b.2.map PyData.int)) = false := by simpa using q
      rw [PySem.W.dataLt_all_no al q, PySem.W.dataLt_tuple, toks_ints]
  · rw [if_neg h, PySem.W.dataLt_all_no (by simp [PySem.W.alike]) (by simp [PyData.eqv, h]), PySem.W.dataLt_int]
theorem alike_kyD (a b : Ky) : PySem.W.alike (py (kyD a)) (py (kyD b)) = true := by
  rw [py_kyD, py_kyD]
  simp [PySem.W.alike, PySem.W.alikeAll, alike_ints a.2 b.2]
theorem depth_ints : ∀ ns : List Int, PyData.depthAll (ns.map PyData.int) = 0
  | [] => rfl
  | n :: ns => by simp [PyData.depthAll, PyData.depth, depth_ints ns]
theorem depth_kyD (a : Ky) : (py (kyD a)).depth = 2 := by
  rw [py_kyD]
  simp [PyData.depth, PyData.depthAll, depth_ints]
theorem data_kyD (a : Ky) : isData (kyD a) = true := by simp [kyD, isData, areData, isData_ints]
end Ev
end

section
set_option Elab.async false
set_option linter.all false
set_option maxRecDepth 100000
set_option autoImplicit false
set_option maxHeartbeats 1000000
/-! min(xs, key=lambda p: ..): the rule -/
namespace Ev
open PySem PySem.Spec PyProof.Rows L2 LamX
abbrev noE : XK := fun _ _ _ => False
/-- what stands while the keys are made -/
structure AtK (X : Cx) (pins : List (Addr × Obj)) (σ : L2.St) (g : G) (H1 : Hp) (m1 : List Addr) (L : LH) (fps : List Addr) (f : Addr) (ob : Obj) (t : Shared) (H' : Hp) (m' : List Addr) : Prop where
  inv : Inv X pins σ H' t
  ext : Ext H1 m1 H' m'
  rel : RelH g H' L m'
  fp : ∀ b ∈ fps, FpOk X pins H' b ∧ b ≠ f
  fn : t.heap.get? f = some ob ∧ H' f = none ∧ f ∉ frs X.stack
section
variable {X : Cx} {pins : List (Addr × Obj)} {σ : L2.St} {g : G} {H1 H' : Hp} {m1 m' : List Addr} {L : LH} {fps : List Addr} {f : Addr} {ob : Obj} {t t' : Shared}
theorem AtK.moved (K : AtK X pins σ g H1 m1 L fps f ob t H' m') (mv : Moved fps (fun a b => b = a) t t') : AtK X pins σ g H1 m1 L fps f ob t' H' m' := by
  obtain ⟨h, gn, d, tk, os⟩ := t'
  have e1 : gn = t.gens := mv.gens
  have e2 : d = t.drawn := mv.drawn
  have e3 : os = t.os := mv.os
  subst e1 e2 e3
  have k : ∀ b o, b ∉ fps → t.heap.get? b = some o → h.get? b = some o := fun b o z e => mv.heap b o z e
  exact ⟨K.inv.turnedL k fun b hb => (K.fp b hb).1, K.ext, K.rel, K.fp, k f _ (fun z => (K.fp f z).2 rfl) K.fn.1, K.fn.2⟩
theorem FpOk.still {b : Addr} (h : FpOk X pins H1 b) (n : H' b = none) : FpOk X pins H' b := ⟨n, h.2⟩
variable {c' : Addr} {p : Str} {pp : Pos} {i kb : Nat} {scope : Scope} {body : Expr} {pm ctv : Value} {fe : Env → LH → R D} {gd : Bool} {env : Env}
theorem key_call (K : AtK X pins σ g H1 m1 L fps f (PySem.W.kla_obj "<lambda>" (X.env.qual ++ "<lambda>") ⟨[], [⟨p, none, pp⟩], none, [], [], none, []⟩ body scope (cloFrom X.env.cells scope.names []) pm c' ctv) t H' m') (Lp : LamP X.env.scope scope p) (hN : X.N[i]? = some p) (nd : X.N.Nodup)
    (hco : H1 c' = some (CodeO c' (X.env.qual ++ "<lambda>"))) (ncm : c' ∉ m1) (hr : Room (kb + 1) X.A.in1) (hgd : gd = true → X.A.guards = some [])
    (hbody : ∀ (A : Around) (outer : List PySem.Env) (s : Shared) (H : Hp) (f c' : Addr), Room kb (A.deeper (lamEnv X scope s.heap.objs.size f c')) → (gd = true → A.guards = some []) → PE (lamCx X A outer s H noE scope f c') body (liftE g W0 fe))
    {d kd : D} {v : V} {u : Value} (qd : Rep g H' m' d v) (ru : RelV v u) (R' : Rel g σ H' env L m') (ef : fe (env.set i (some d)) L = .ok kd L) (hex : ∀ b ∈ fps, ∃ o, t.heap.get? b = some o) (E : Value → Shared → Prop) (Q : Value → Shared → Prop)
    (h : ∀ (k : Value) (t' : Shared) (H'' : Hp) (m'' : List Addr) (kv : V), AtK X pins σ g H1 m1 L fps f (PySem.W.kla_obj "<lambda>" (X.env.qual ++ "<lambda>") ⟨[], [⟨p, none, pp⟩], none, [], [], none, []⟩ body scope (cloFrom X.env.cells scope.names []) pm c' ctv) t' H'' m'' →
      (∀ b o, b ∈ fps → t.heap.get? b = some o → t'.heap.get? b = some o) → Ext H' m' H'' m'' → Rep g H'' m'' kd kv → RelV kv k → Q k t') :
    wpAny (model X.prog X.w) X.A.in1 (call (.ref f) [u]) Q E t := by
  have e0 := K.inv.env0.in1
  have hcZ : H' c' = some (CodeO c' (X.env.qual ++ "<lambda>")) := K.ext.keep c' _ hco ncm codeO_ne
  obtain ⟨⟨oc, vs, tq, hoc, hdc, hvc⟩, _, _⟩ := e0.hok c' _ hcZ
  have run : codeAny (model X.prog X.w) X.A.in1 (.call (.ref f) ⟨[u], []⟩) (CR (L2.CX X.prog X.w) X.stack X.prog X.w H' t (fun kv H'' => ∃ m'', Ext H' m' H'' m'' ∧ RelH g H'' L m'' ∧ Rep g H'' m'' kd kv) noE) t := by
    refine PySem.W.kla_callFunE hr.depth K.fn.1 rfl Lp.co Lp.gen rfl ⟨c', oc, vs, tq, rfl, hoc, hdc, hvc⟩ ?_
    rw [bind1]
    refine wpAny_pure (wpAny_newFunctionEnv (fun y hy => (Lp.own y hy).2) (fun y hy => ?_) (fun h₁ hns hsb => ⟨(e0.mod.nolimit.keeps fun b o e => (e0.bs b o e).1).fresh _ hsb, ?_⟩) Lp.kind)
    · rw [List.mem_singleton.mp hy]; exact Lp.par
    · show codeAny _ _ (.expr body (lamEnv X scope t.heap.objs.size f c')) _ _
      have kp : ∀ b o, t.heap.get? b = some o → h₁.get? b = some o := fun b o e => hsb.extBut b o (Nat.ne_of_lt (Heap.lt_size e)) (Heap.get?_push_of_some _ e)
      have J := lam_startP (f := f) (c' := c') (E := noE) (tk := t.toks + [(p, u)].length) K.inv Lp hN nd e0 hr.hd Un.refl ru hns kp
      have ht : liftE g W0 fe (σ.set i (some v)) H' (fun kv H'' => ∃ m'', Ext H' m' H'' m'' ∧ RelH g H'' L m'' ∧ Rep g H'' m'' kd kv) := by
        refine ⟨env.set i (some d), L, m', R'.set i qd, ?_⟩
        rw [ef]
        exact fun v H'' m'' x r q => ⟨m'', x, r, q⟩
      refine PySem.W.kla_codeExpr (wpAny_mono ((hbody X.A.in1 X.stack t H' f c' (hr.deeper _) hgd).run [] _ _ H' _ J ht) (fun v s2 hq => ?_) fun e s2 hq => hq)
      obtain ⟨w', H'', J', rv, q⟩ := hq
      exact ⟨w', H'', J'.os, J'.bare, J'.base, J'.hok, rv, q⟩
  refine wpAny_call (codeAny_mono run fun r s' hq => ?_)
  match r, hq with
  | .error e, hq =>
    obtain ⟨_, _, _, _, _, _, _, _, _, _, _, _, z⟩ := hq
    exact z.elim
  | .ok (.ret k), hq =>
    obtain ⟨kv, H'', os, bare, un, hok, rk, m'', x, r, q⟩ := hq
    have nfr : ∀ b ∈ fps, b ∉ frs X.stack := fun b hb z => by
      obtain ⟨⟨_, z1, z2, _⟩, _⟩ := K.fp b hb
      rcases List.mem_cons.mp (K.inv.stkSub b z) with e | e
      · exact z1 e
      · exact z2 e
    refine h k s' H'' m'' kv ⟨?_, K.ext.trans x, r, fun b hb => ?_, un.keep f _ K.fn.1 K.fn.2.1 K.fn.2.2 (by simp), ?_, K.fn.2.2⟩ (fun b o hb e => un.keep b o e (K.fp b hb).1.1 (nfr b hb) (by simp)) x q rk
    · obtain ⟨hh, gn, dd, tk, os'⟩ := s'
      obtain rfl : os' = t.os := os
      exact K.inv.call (h' := hh) (g' := gn) (d' := dd) (t' := tk) (ch := []) un hok bare (fun b z => absurd z (by simp))
    · obtain ⟨o, ho⟩ := hex b hb
      exact ⟨FpOk.still (K.fp b hb).1 (un.free b o ho (K.fp b hb).1.1 (by simp)), (K.fp b hb).2⟩
    · exact un.free f _ K.fn.1 K.fn.2.1 (by simp)
end
theorem vals_uniq : ∀ {xs : List V} {us us' : List Value}, Vals xs us → Vals xs us' → (∀ x ∈ xs, ∃ a, x = V.ref a) → us = us'
  | _, _, _, .nil, .nil, _ => rfl
  | _, _, _, .cons r t, .cons r' t', h => by
    obtain ⟨a, e⟩ := h _ List.mem_cons_self
    subst e
    cases r
    cases r'
    rw [vals_uniq t t' fun x hx => h x (List.mem_cons_of_mem _ hx)]
theorem reps_at {g : G} {H : Hp} {m : List Addr} : ∀ {ds : List D} {xs : List V}, Reps g H m ds xs → ∀ (j : Nat) (x : V), xs[j]? = some x → ∃ d, ds[j]? = some d ∧ Rep g H m d x
  | _, _, .nil, j, x, h => by simp at h
  | _, _, .cons r t, 0, x, h => by simp at h; subst h; exact ⟨_, rfl, r⟩
  | _, _, .cons r t, j + 1, x, h => by simp at h; simpa using reps_at t j x h
theorem keysGo_at {fb : D → LH → R D} {L : LH} : ∀ {ds : List D} {ks : List Ky}, keysGo fb L ds = some ks → ks.length = ds.length ∧ ∀ (j : Nat) (d : D), ds[j]? = some d → fb d L = .ok (kyD (ks.getD j (0, []))) L
  | [], ks, h => by
    simp only [keysGo] at h
    cases h
    exact ⟨rfl, fun j d e => by simp at e⟩
  | d :: r, ks, h => by
    simp only [keysGo] at h
    cases e : fb d L with
    | ok kd L' =>
      rw [e] at h
      simp only at h
      cases e1 : kyOf kd with
      | none => rw [e1] at h; cases h
      | some k =>
        cases e2 : keysGo fb L r with
        | none => rw [e1, e2] at h; cases h
        | some ks' =>
          rw [e1, e2] at h
          simp only at h
          split at h
          · rename_i eL
            cases h
            obtain ⟨i1, i2⟩ := keysGo_at e2
            refine ⟨by simp [i1], fun j x ex => ?_⟩
            cases j with
            | zero =>
              simp at ex
              subst ex
              rw [e, eL, kyOf_eq e1]
              rfl
            | succ j =>
              simp only [List.getElem?_cons_succ] at ex
              rw [i2 j x ex]
              rfl
          · cases h
    | exc c w L' => rw [e] at h; cases h
    | bad => rw [e] at h; cases h
theorem tips_refs {g : G} {H : Hp} {m : List Addr} : ∀ {ds : List D} {xs : List V}, Reps g H m ds xs → tipsB ds = true → ∀ x ∈ xs, ∃ a, x = V.ref a
  | _, _, .nil, _, x, h => by cases h
  | _, _, .cons r t, hb, x, h => by
    cases r with
    | tup h1 z q =>
      simp only [tipsB, Bool.and_eq_true] at hb
      rcases List.mem_cons.mp h with e | h
      · exact ⟨_, e⟩
      · exact tips_refs t hb.2 x h
    | _ => simp [tipsB] at hb
section
variable {X : Cx} {g : G} {W : WX} {i kb : Nat} {a body : Expr} {p : Str} {pp p1 lpos kpos pos : Pos} {scope : Scope} {fa fe : Env → LH → R D} {gd : Bool} {c P : Addr}
theorem se_mink (hK : X.K = g.K) (hp : g.pin = none ∧ g.amb = none) (hc : X.calm = true) (hu6 : X.A.units + 64 < cLine) (hg : Gl X "min") (hm : X.mg "min" = none) (ha : PE X a (liftE g W fa)) (na : notStar a = true)
    (TB : TabB X.base X.mg c P) (hcode : X.env.code = .ref c) (hmT : (P, X.env.qual ++ "<lambda>") ∈ g.tabs) (hu : ∀ p ∈ g.tabs, p.1 = P → p.2 = X.env.qual ++ "<lambda>") (hr : Room (kb + 2) X.A) (hgd : gd = true → X.A.guards = some []) (Lp : LamP X.env.scope scope p) (hN : X.N[i]? = some p) (nd : X.N.Nodup)
    (hbody : ∀ (A : Around) (outer : List PySem.Env) (s : Shared) (H : Hp) (f c' : Addr), Room kb (A.deeper (lamEnv X scope s.heap.objs.size f c')) → (gd = true → A.guards = some []) → PE (lamCx X A outer s H noE scope f c') body (liftE g W0 fe)) :
    PE X (.Call (.Name "min" p1) [a] [⟨some "key", .Lambda ⟨[], [⟨p, none, pp⟩], none, [], [], none, []⟩ body scope lpos, kpos⟩] pos) (liftE g W (minkF i fa fe)) := by
  refine ⟨fun pins s σ H Q I ⟨env, L, m, R, h⟩ => ?_⟩
  refine wpAny_Call_Name_kw (ld_blt I hg hm PyProof.Rows.boot_min ?_ (by decide) (by decide))
  have hb : backTo pos (starEach [a] X.env) = (false, eval a X.env) :: backTo pos (starEach [] X.env) := by rw [starEach_ns na]; rfl
  refine callWith_kw ?_ hb (by rw [hb]; rfl) rfl rfl
  rw [hb]
  let cont : D → LH → Ev.R D := fun x L => match x with
    | .lst ds => if tipsB ds && !ds.isEmpty then (match keysGo (fun d L => fe (env.set i (some d)) L) L ds with
      | some ks => .ok (ds.getD (bestK ks) .non) L
      | none => .bad) else .bad
    | _ => .bad
  have hA : liftE g W fa σ H (fun v H0 => ∃ L1 m1 xd, Ext H m H0 m1 ∧ RelH g H0 L1 m1 ∧ Rep g H0 m1 xd v ∧ Out g (Rep g) W σ H0 m1 Q (cont xd L1)) :=
    ⟨env, L, m, R, Out.bind (f := cont) h fun xd L1 v H0 m1 x1 r1 q1 h1 => ⟨L1, m1, xd, x1, r1, q1, h1⟩⟩
  refine Calls.spliced_cons (thn (ha.run pins s σ H _ I hA) fun u s1 ⟨v, H0, I0, ru, L1, m1, xd, x1, r1, q1, h1⟩ => ?_)
  refine Calls.spliced_nil ?_
  show wpAny _ _ (evalAll ((do let v ← eval (.Lambda ⟨[], [⟨p, none, pp⟩], none, [], [], none, []⟩ body scope lpos) X.env; standAt pos; pure v) :: [])) _ _ s1
  have fr : ∀ y ∈ scope.names, y.2 = .free → ∃ c, X.env.cells.lookup y.1 = some c := fun y hy e => by
    rcases Lp.free y hy e with z | z
    · exact I0.ok.has _ (.inl z)
    · exact I0.ok.has _ (.inr z)
  refine wpAny_evalAll_cons (wpAny_bind (lam_make2 I0 TB hcode hmT hu r1.tabs rfl fr fun f c' pm ctv H1 s' I1 eN T1 hf hfn hfr hco => wpAny_bind (wpAny_standAt (wpAny_pure (wpAny_evalAll_nil ?_)))))
  have R1 : Rel g σ H1 env L1 m1 := (R.ext x1 r1).ext (Ext.ofN eN) (r1.ofN eN T1)
  have ncm : c' ∉ m1 := codeO_nm R1.h hco
  cases xd with
  | lst ds =>
    simp only [cont] at h1
    by_cases hb1 : (tipsB ds && !ds.isEmpty) = true
    · rw [if_pos hb1] at h1
      simp only [Bool.and_eq_true, Bool.not_eq_true'] at hb1
      cases ek : keysGo (fun d L => fe (env.set i (some d)) L) L1 ds with
      | none => rw [ek] at h1; exact h1.elim
      | some ks =>
        rw [ek] at h1
        simp only at h1
        obtain ⟨lk, kat⟩ := keysGo_at ek
        have q1' := Rep.ext (Ext.ofN (m := m1) eN) _ _ q1
        cases q1' with
        | @lst l xs _ hl hfree hz q =>
          cases ru
          have refs := tips_refs q hb1.1
          obtain ⟨its, rv, pl, hz2⟩ := I1.list (SqL.of hl)
          have l1 : xs.length = ds.length := q.len.symm
          have l2 : its.length = xs.length := rv.length.symm
          have d0 : 0 < ds.length := by
            cases ds with
            | nil => simp at hb1
            | cons _ _ => simp
          show wpAny _ _ (call (.builtin "min") [.ref l] [(Str.ofString "key", .ref f)]) _ _ s'
          refine call_minW (PySem.W.iter_listW (A := X.A.in1) (I1.ok.hd hc) pl.isList fun s₂ e Wk st hfp hw hk => ?_)
          have fsz : f < s'.heap.objs.size := Heap.lt_size hf
          have sz : s₂.heap.objs.size = s'.heap.objs.size + 1 := by rw [e]; exact Heap.size_push ..
          generalize hob : PySem.W.kla_obj "<lambda>" (X.env.qual ++ "<lambda>") ⟨[], [⟨p, none, pp⟩], none, [], [], none, []⟩ body scope (cloFrom X.env.cells scope.names []) pm c' ctv = ob at hf
          have K0 : AtK X pins σ g H1 m1 L1 (s₂.heap.objs.size :: [s'.heap.objs.size]) f ob s₂ H1 m1 := by
            refine ⟨by rw [e]; exact I1.kept (t' := s'.toks) fun b o g => Heap.get?_push_of_some _ g, Ext.refl, R1.h, fun b hb => ?_, hk f _ hf, hfn, hfr⟩
            have hb' : s'.heap.objs.size ≤ b := by
              rcases List.mem_cons.mp hb with z | z
              · rw [z, sz]; exact Nat.le_succ _
              · rw [List.mem_singleton.mp z]; exact Nat.le_refl _
            exact ⟨I1.fpOk hb' (I1.hok.fresh hb'), fun z => Nat.lt_irrefl _ (Nat.lt_of_lt_of_le fsz (by rw [z] at hb'; exact hb'))⟩
          let bt : Nat → Nat → Bool := fun a b => ltK (ks.getD a (0, [])) (ks.getD b (0, []))
          let AK : Shared → Hp → List Addr → Prop := fun t H' m' => AtK X pins σ g H1 m1 L1 (s₂.heap.objs.size :: [s'.heap.objs.size]) f ob t H' m'
          have hA1 : Room (kb + 1) X.A.in1 := hr.in1
          have hitem : ∀ (j : Nat) (w : Value), its[j]? = some w → ∃ (x : V) (d : D), RelV x w ∧ ds[j]? = some d ∧ Rep g H1 m1 d x ∧ fe (env.set i (some d)) L1 = .ok (kyD (ks.getD j (0, []))) L1 := fun j w ew => by
            obtain ⟨x, ex, rx⟩ := vals_at rv j w ew
            obtain ⟨d, ed, rd⟩ := reps_at q j x ex
            exact ⟨x, d, rx, ed, rd, kat j d ed⟩
          -- the key of one more item
          have step : ∀ (j : Nat) (w : Value) (t : Shared) (H' : Hp) (m' : List Addr) (o : Obj) (Q' : Value → Shared → Prop) (E : Value → Shared → Prop), its[j]? = some w → AK t H' m' → t.heap.IsListIter s'.heap.objs.size l (j + 1) → t.heap.get? s₂.heap.objs.size = some o →
              (∀ k t' H'' m'' kv, AK t' H'' m'' → Ext H' m' H'' m'' → Rep g H'' m'' (kyD (ks.getD j (0, []))) kv → RelV kv k → (t'.heap.IsListIter s'.heap.objs.size l (j + 1) ∧ t'.heap.IsList l its.toArray) → t'.heap.get? s₂.heap.objs.size = some o → Q' k t') →
              wpAny (model X.prog X.w) X.A.in1 (call (.ref f) [w]) Q' E t := fun j w t H' m' o Q' E ew K it go hq => by
            obtain ⟨x, d, rx, ed, rd, ef⟩ := hitem j w ew
            obtain ⟨oi, hi1, hi2, hi3⟩ := it
            have K' : AtK X pins σ g H1 m1 L1 (s₂.heap.objs.size :: [s'.heap.objs.size]) f (PySem.W.kla_obj "<lambda>" (X.env.qual ++ "<lambda>") ⟨[], [⟨p, none, pp⟩], none, [], [], none, []⟩ body scope (cloFrom X.env.cells scope.names []) pm c' ctv) t H' m' := by rw [hob]; exact K
            refine key_call K' Lp hN nd hco ncm hA1 hgd hbody (Rep.ext K.ext _ _ rd) rx (R1.ext K.ext K.rel) ef (fun b hb => ?_) E Q' fun k t' H'' m'' kv K'' keep xx qk rk => ?_
            · rcases List.mem_cons.mp hb with z | z
              · rw [z]; exact ⟨_, go⟩
              · rw [List.mem_singleton.mp z]; exact ⟨_, hi1⟩
            · rw [hob] at K''
              refine hq k t' H'' m'' kv K'' xx qk rk ⟨⟨oi, keep _ _ (by simp) hi1, hi2, hi3⟩, ?_⟩ (keep _ _ (by simp) go)
              have hl'' : H'' l = some (.lst xs) := K''.ext.keep l _ hl hfree.1 (fun ps => by simp)
              obtain ⟨its', rv', pl', _⟩ := K''.inv.list (SqL.of hl'')
              rw [vals_uniq rv rv' refs]
              exact pl'.isList
          refine ⟨_, _, _, _, _, _, _, fun t => ∃ H' m', AK t H' m',
            fun j vb kk t => ∃ H' m' kv, AK t H' m' ∧ its[argBest bt j]? = some vb ∧ Rep g H' m' (kyD (ks.getD (argBest bt j) (0, []))) kv ∧ RelV kv kk,
            fun j vb kk w k t => ∃ H' m' kv1 kv2, AK t H' m' ∧ its[argBest bt j]? = some vb ∧ Rep g H' m' (kyD (ks.getD (argBest bt j) (0, []))) kv1 ∧ RelV kv1 kk ∧ its[j + 1]? = some w ∧ Rep g H' m' (kyD (ks.getD (j + 1) (0, []))) kv2 ∧ RelV kv2 k,
            rfl, Wk, st, hfp, by rw [List.size_toArray]; omega, ⟨?_, ?_, ?_, ?_, ?_⟩, ⟨H1, m1, K0⟩, ?_⟩
          · exact fun t t' ⟨H', m', K⟩ mv => ⟨H', m', K.moved mv⟩
          · exact fun j vb kk t t' ⟨H', m', kv, K, z⟩ mv => ⟨H', m', kv, K.moved mv, z⟩
          · intro w t o Q' E pw ⟨H', m', K⟩ st1 go hq
            have ew : its[0]? = some w := by simpa using pw
            exact step 0 w t H' m' o Q' E ew K st1.1 go fun k t' H'' m'' kv K'' xx qk rk st2 go2 => hq k t' ⟨H'', m'', kv, K'', ew, qk, rk⟩ st2 go2
          · intro j vb kk w t o Q' E _ pw ⟨H', m', kv1, K, e1, q2, r2⟩ st1 go hq
            have ew : its[j + 1]? = some w := by simpa using pw
            exact step (j + 1) w t H' m' o Q' E ew K st1.1 go fun k t' H'' m'' kv K'' xx qk rk st2 go2 => hq k t' ⟨H'', m'', kv1, kv, K'', e1, Rep.ext xx _ _ q2, r2, ew, qk, rk⟩ st2 go2
          · intro j vb kk w k t Q' E ⟨H', m', kv1, kv2, K, e1, q2, r2, e3, q4, r4⟩ hq
            obtain ⟨as1, rd1⟩ := Dp.reads K.inv _ kv1 kk (by rw [hK]; exact Rep.dp _ _ (data_kyD _) q2) r2
            obtain ⟨as2, rd2⟩ := Dp.reads K.inv _ kv2 k (by rw [hK]; exact Rep.dp _ _ (data_kyD _) q4) r4
            refine PySem.W.rcLt_alike _ _ X.A.in1 t k kk as2 as1 rd2 rd1 (alike_kyD _ _) (by rw [py_kyD]; simp) (by rw [depth_kyD, depth_kyD]; show X.A.units + 1 + 2 < cLine; omega) X.prog X.w E Q' ?_
            rw [lt_kyD]
            refine hq _ (fun eb => ⟨H', m', kv2, K, ?_, ?_, r4⟩) (fun eb => ⟨H', m', kv1, K, ?_, ?_, r2⟩)
            · have : argBest bt (j + 1) = j + 1 := by simp only [argBest]; rw [if_pos eb]
              rw [this]; exact e3
            · have : argBest bt (j + 1) = j + 1 := by simp only [argBest]; rw [if_pos eb]
              rw [this]; exact q4
            · have : argBest bt (j + 1) = argBest bt j := by simp only [argBest]; rw [if_neg (by rw [show bt (j + 1) (argBest bt j) = false from eb]; simp)]
              rw [this]; exact e1
            · have : argBest bt (j + 1) = argBest bt j := by simp only [argBest]; rw [if_neg (by rw [show bt (j + 1) (argBest bt j) = false from eb]; simp)]
              rw [this]; exact q2
          · rintro vb kk t ⟨H', m', kv, K, e1, _, _⟩
            obtain ⟨x, d, rx, ed, rd, _⟩ := hitem _ vb e1
            have eb : bestK ks = argBest bt (its.toArray.size - 1) := by
              unfold bestK
              rw [List.size_toArray, l2, l1, ← lk]
            rw [← eb] at ed
            rw [List.getD_eq_getElem?_getD, ed] at h1
            exact ⟨x, H', K.inv, rx, h1 x H' m' ((Ext.ofN eN).trans K.ext) K.rel (Rep.ext K.ext _ _ rd)⟩
        | _ => skip
    · rw [if_neg hb1] at h1; exact h1.elim
  | _ => exact h1.elim
end
end Ev
end

section
set_option Elab.async false
set_option linter.all false
set_option maxRecDepth 100000
set_option autoImplicit false
set_option maxHeartbeats 1000000
/-! forms of the text that the rules ask for -/
namespace Ev
open PySem PySem.Spec PyProof.Rows L2
/-! ### what assignments ask -/
def isLc : Expr → Bool
  | .ListComp _ _ _ _ => true | .SetComp _ _ _ _ => true | .DictComp _ _ _ _ _ => true
  | _ => false
theorem swaps_no {v : Expr} {t : Option Expr} {n : Nat} {env : PySem.Env} (h : isLc v = false) : swapsWith v t n env = pure false := by
  unfold swapsWith
  cases v <;> first | rfl | cases h
/-- a comprehension's value, its name: is it used at once -/
def swLc (sc lsc : Scope) (y : Str) (py vp : Pos) : Bool :=
  decide (sc.kind = .function) && decide (sc.names.lookup y = some .local) && py.line == vp.line && !(lsc.names.any fun (n, k) => n == y && (k == .local || k == .cell))
theorem swaps_lc {elt : Expr} {gens : List Comprehension} {lsc : Scope} {pos py : Pos} {y : Str} {n : Nat} {env : PySem.Env} (hk : env.scope.kind = .function) :
    swapsWith (.ListComp elt gens lsc pos) (some (.Name y py)) n env = pure (swLc env.scope lsc y py pos) := by
  have hb : env.blockKind = .function := by
    unfold PySem.Env.blockKind
    rw [hk]; rfl
  unfold swapsWith
  simp only [swLc, PySem.Env.kindOf, hb, hk]
  have e : ∀ k : Option NameKind, (k == some NameKind.local) = decide (k = some NameKind.local) := fun k => by
    by_cases h : k = some NameKind.local
    · subst h; rfl
    · rw [beq_eq_false_iff_ne.mpr h]; simp [h]
  rw [e]
  rfl
def isTupE : Expr → Bool
  | .Tuple _ _ _ => true
  | _ => false
theorem stores_no {t v : Expr} {env : PySem.Env} (h : isTupE v = false) : swappedStores [t] v env = pure none := by
  unfold swappedStores
  cases v <;> first | (cases t <;> rfl) | cases h
def isTL : Expr → Bool
  | .Tuple _ _ _ => true | .List _ _ => true
  | _ => false
theorem stores_no2 {t v : Expr} {env : PySem.Env} (h : isTL t = false) : swappedStores [t] v env = pure none := by
  unfold swappedStores
  cases t <;> first | (cases v <;> rfl) | cases h
/-- which names are stored, the last first -/
def parNames (sc : Scope) (ts : List Expr) : List Str :=
  let line := (ts.head?.map (·.pos.line)).getD 0
  ts.filterMap fun
    | .Name id pos => if sc.names.lookup id == some .local && pos.line == line then some id else none
    | _ => none
def parS (sc : Scope) (ts vs : List Expr) : Option (Option (List Str)) :=
  if !(ts.length == 2 || ts.length == 3) || vs.length != ts.length then some none
  else if (vs.any fun | .Starred .. => true | _ => false) then some none
  else if (parNames sc ts).length != ts.length || (parNames sc ts).eraseDups.length != (parNames sc ts).length then some none
  else if vs.all (foldedForSure 8) then some none
  else if vs.all (constantsAlone 8) then none
  else some (some (parNames sc ts))
theorem stores_par {ts vs : List Expr} {k k2 : Nat} {p p2 : Pos} {env : PySem.Env} {r : Option (List Str)} (hk : env.scope.kind = .function) (h : parS env.scope ts vs = some r) : swappedStores [.Tuple ts k p] (.Tuple vs k2 p2) env = pure r := by
  have hb : (env.blockKind != .function) = false := by
    unfold PySem.Env.blockKind
    rw [hk]; rfl
  unfold swappedStores
  simp only [hb, Bool.or_false]
  unfold parS parNames at h
  simp only at h
  simp only [PySem.Env.kindOf]
  split at h
  · rename_i c; cases h; exact if_pos c
  rename_i c; refine (if_neg c).trans ?_
  split at h
  · rename_i c2; cases h; exact if_pos c2
  rename_i c2; refine (if_neg c2).trans ?_
  split at h
  · rename_i c3; cases h; exact if_pos c3
  rename_i c3; refine (if_neg c3).trans ?_
  split at h
  · rename_i c4; cases h; exact if_pos c4
  rename_i c4; refine (if_neg c4).trans ?_
  split at h
  · cases h
  rename_i c5; cases h; exact if_neg c5
theorem assign_one {t : Expr} {env : PySem.Env} (h : notStar t = true) : (assignEach [t] env).map (·.2) = [assign t env] := by
  cases t <;> first | rfl | cases h
theorem assign_cons {t : Expr} {ts : List Expr} {env : PySem.Env} (h : notStar t = true) : assignEach (t :: ts) env = (false, assign t env) :: assignEach ts env := by
  cases t <;> first | rfl | cases h
theorem assign_len : ∀ {ts : List Expr} {env : PySem.Env}, (assignEach ts env).length = ts.length
  | [], _ => rfl
  | t :: ts, env => by
    cases t <;> (simp only [assignEach, List.length_cons]; rw [assign_len])
theorem assign_nostar : ∀ {ts : List Expr} {env : PySem.Env}, ts.all notStar = true → (assignEach ts env).findIdx? (·.1) = none
  | [], _, _ => rfl
  | t :: ts, env, h => by
    rw [List.all_cons, Bool.and_eq_true] at h
    rw [assign_cons h.1, List.findIdx?_cons]
    simp [assign_nostar h.2]
section
variable {X : Cx} {a : Expr} {pos : Pos} {t : TE}
theorem se_and1 (h : PE X a t) : PE X (.BoolOp .And [a] pos) t := ⟨fun pins s σ H Q I k => by
  have e : eval (.BoolOp .And [a] pos) X.env = eval a X.env := by first | rfl | (rw [arm_eval_BoolOp]; rfl)
  rw [e]; exact h.run pins s σ H Q I k⟩
theorem se_or1 (h : PE X a t) : PE X (.BoolOp .Or [a] pos) t := ⟨fun pins s σ H Q I k => by
  have e : eval (.BoolOp .Or [a] pos) X.env = eval a X.env := by first | rfl | (rw [arm_eval_BoolOp]; rfl)
  rw [e]; exact h.run pins s σ H Q I k⟩
end
/-! ### targets by their text -/
/-- the own cells of a comprehension's block -/
def ownFn (lsc : Scope) : Str → Bool := fun x => lsc.names.lookup x == some .cell
def ckNm (N : List Str) (sc : Scope) (fn : Str → Bool) (x : Str) (i : Nat) : Bool :=
  decide (N[i]? = some x) && (decide (sc.names.lookup x = some .local) || (fn x && decide (sc.names.lookup x = some .cell)))
def ckNms (N : List Str) (sc : Scope) (fn : Str → Bool) : List Expr → List Nat → Bool
  | [], [] => true
  | .Name x _ :: ts, i :: is => ckNm N sc fn x i && ckNms N sc fn ts is
  | _, _ => false
def ckTg (N : List Str) (sc : Scope) (fn : Str → Bool) : Expr → Tg → Bool
  | .Name x _, .nm i => ckNm N sc fn x i
  | .Tuple ts _ _, .tp is => ckNms N sc fn ts is
  | _, _ => false
section
variable {X : Cx} {N : List Str} {sc : Scope} {fn : Str → Bool}
theorem ckNm_ok {x : Str} {i : Nat} {p : Pos} (hN : X.N = N) (hs : X.env.scope = sc) (hf : fn x = true → X.fn x = true ∨ X.env.scope.names.lookup x = some .local) (h : ckNm N sc fn x i = true) :
    X.N[i]? = some x ∧ Loc X.env.scope x ∧ (X.fn x = true ∨ X.env.scope.names.lookup x = some .local) := by
  simp only [ckNm, Bool.and_eq_true, Bool.or_eq_true, decide_eq_true_eq] at h
  obtain ⟨h1, h2⟩ := h
  subst hs
  refine ⟨by rw [hN]; exact h1, ?_, ?_⟩
  · rcases h2 with h2 | h2
    · exact .inl h2
    · exact .inr h2.2
  · rcases h2 with h2 | h2
    · exact .inr h2
    · exact hf h2.1
theorem ckNms_star : ∀ {ts : List Expr} {is : List Nat}, ckNms N sc fn ts is = true → ts.all notStar = true ∧ ts.length = is.length
  | [], [], _ => ⟨rfl, rfl⟩
  | t :: ts, i :: is, h => by
    cases t <;> try (simp [ckNms] at h; done)
    rename_i x p
    simp only [ckNms, Bool.and_eq_true] at h
    have := ckNms_star h.2
    exact ⟨by rw [List.all_cons, this.1]; rfl, by simp [this.2]⟩
  | [], _ :: _, h => by simp [ckNms] at h
  | t :: _, [], h => by cases t <;> simp [ckNms] at h
theorem ckNms_ok (hN : X.N = N) (nd : X.N.Nodup) (hs : X.env.scope = sc) (hf : ∀ x, fn x = true → X.fn x = true ∨ X.env.scope.names.lookup x = some .local) : ∀ {ts : List Expr} {is : List Nat}, ckNms N sc fn ts is = true → PGs X ts (gNs is)
  | [], [], _ => pgs_nil
  | t :: ts, i :: is, h => by
    cases t <;> try (simp [ckNms] at h; done)
    rename_i x p
    simp only [ckNms, Bool.and_eq_true] at h
    obtain ⟨a, b, c⟩ := ckNm_ok (p := p) hN hs (hf x) h.1
    exact pgs_cons (pg_name nd a b c) (ckNms_ok hN nd hs hf h.2) (by rw [assign_cons rfl]; rfl)
  | [], _ :: _, h => by simp [ckNms] at h
  | t :: _, [], h => by cases t <;> simp [ckNms] at h
theorem ckTg_ok {K : PySem.W.Frag} {e : Expr} {t : Tg} (hK : X.K = K) (hc : X.calm = true) (hN : X.N = N) (nd : X.N.Nodup) (hs : X.env.scope = sc) (hf : ∀ x, fn x = true → X.fn x = true ∨ X.env.scope.names.lookup x = some .local) (h : ckTg N sc fn e t = true) : PG X e (tgR K t) := by
  cases e <;> try (cases t <;> simp [ckTg] at h <;> done)
  case Name x p =>
    cases t with
    | nm i =>
      obtain ⟨a, b, c⟩ := ckNm_ok (p := p) hN hs (hf x) h
      exact pg_name nd a b c
    | tp is => simp [ckTg] at h
  case Tuple ts k p =>
    cases t with
    | nm i => simp [ckTg] at h
    | tp is =>
      have st := ckNms_star h
      subst hK
      exact pg_tup hc (ckNms_ok hN nd hs hf h) (by rw [assign_len, st.2]) (assign_nostar st.1)
end
end Ev
end

section
set_option Elab.async false
set_option linter.all false
set_option maxRecDepth 100000
set_option autoImplicit false
set_option maxHeartbeats 1000000
/-! the checker of expressions -/
namespace Ev
open PySem PySem.Spec PyProof.Rows L2
structure CC where
  N : List Str
  fs : List (Str × Nat)
  ls : List (Str × Nat)
  ks : List (Str × Nat × List Str) := []
  cs : List (Str × Int)
  xs : List Str
  bn : List Str
  ln : Nat
  gd : Bool
  hot : Bool := false
  side : Bool := false
  pin : Option Nat := none
  th : Option Str := none
  fn : Bool := true
  lam : Bool := false
  /-- own classes, fields' names, a class's fields, methods (class, name, def, what fills up), makings -/
  kl : List Str := []
  fl : List Str := []
  kf : List (Nat × Nat) := []
  mt : List (Nat × Str × Nat × List D) := []
  mks : List (Nat × Nat) := []
abbrev G.base (g : G) : G := { g with hid := [], pin := none, amb := none }
theorem G.base_with {g : G} (h : g.pin = none ∧ g.amb = none) : g = g.base.with g.hid := by
  obtain ⟨K, a, b, c, k1, k2, d, e, p, q⟩ := g
  obtain ⟨h1, h2⟩ := h
  simp only at h1 h2
  subst h1; subst h2
  rfl
/-- a def that gets a lambda -/
def FnTh (P : Program) (w : World) (K : PySem.W.Frag) (mg : Str → Option Value) (base : Heap) (gd : Bool) (n : Nat) (x : Str) (gf : Addr) (g0 : G) (callL : (LH → R D) → LH → R D) : Prop :=
  ∃ (fd : FuncData) (params : Arguments) (bg : List Stmt) (sg : Scope) (dvs : List V) (kws : List (Str × V)) (Ng : List Str) (a : Str) (fn : Fn) (fbody : (LH → R D) → Env → LH → RS),
    PySem.W.keepIn K (.ref gf) = true ∧ FunD K x x params bg sg dvs kws gf fd ∧ FnScope Ng [a] sg ∧ L2.Binds K fd [a] [] ∧ Ng.length = fn.nl ∧ (∀ th L, callL th L = (endR fn L (fbody th (List.replicate fn.nl none) L)).nox) ∧
    ∀ (hid : List Addr) (cdv : Value) (A : Around) (outer : List PySem.Env) (s : Shared) (H : Hp) (m0 : List Addr) (f : Addr) (th : LH → R D), Room (4 * n + 2) (A.deeper (envOfC x sg s.heap.objs.size gf cdv)) → (gd = true → A.guards = some []) →
      ThOk P w K mg base gd (4 * n + 2) (frs outer) s H m0 ((g0.with hid).pa none none) f th →
      PSs (cxOf C8.CX0 P w K mg base Ng x sg gf cdv A outer s H C8.E0).nox bg (liftS ((g0.with hid).pa none (some (f, H, m0))) W0 (fbody th))
/-- what the head tells of own classes -/
def ClsOk (P : Program) (w : World) (K : PySem.W.Frag) (mg : Str → Option Value) (base : Heap) (gd : Bool) (n : Nat) (g0 : G) (kl fl : List Str) (kf : List (Nat × Nat)) (mt : List (Nat × Str × Nat × List D)) (mk : List (Nat × Nat)) (call : Nat → List D → LH → R D) : Prop :=
  (∀ c x, kl[c]? = some x → mg x = some (.ref (g0.kad c)) ∧ Cls K (g0.kad c)) ∧ (∀ i x, fl[i]? = some x → g0.fld i = x) ∧ (∀ p ∈ kf, NoAttr K (g0.kad p.1) (g0.fld p.2)) ∧
  (∀ p ∈ mt, p.2.2.2.all conB = true ∧ ∃ f fd ps ds, Meth K (g0.kad p.1) p.2.1 f ∧ L2.Binds K fd ps ds ∧ Vals (p.2.2.2.map vOf) ds ∧ FnG P w K mg base gd (4 * n) f fd ps (spF g0 (call p.2.2.1))) ∧
  (∀ p ∈ mk, ∃ f fd ps, Mk K (g0.kad p.1) f ∧ L2.Binds K fd ps [] ∧ FnG P w K mg base gd (4 * n) f fd ps (spF g0 (call p.2)))
structure Good (cc : CC) (sc : Scope) (n : Nat) (X : Cx) (g : G) (W : WX) (C : Cf) : Prop where
  sc : X.env.scope = sc
  kind : X.env.scope.kind = .function
  N : X.N = cc.N
  nd : X.N.Nodup
  K : X.K = g.K
  un : X.A.units + 64 < cLine
  tk : Takes X W
  gdA : cc.gd = true → X.A.guards = some []
  room : cc.hot = false → Room (4 * n + 1) X.A ∧ X.calm = true
  side : cc.side = false → g.pin = none ∧ g.amb = none
  pn : cc.pin = none → g.pin = none
  bn : ∀ x ∈ cc.bn, X.mg x = none
  cs : ∀ p ∈ cc.cs, ∃ t, X.mg p.1 = some (.int p.2 t)
  fs : ∀ p ∈ cc.fs, ∃ f fd ps, X.mg p.1 = some (.ref f) ∧ PySem.W.keepIn X.K (.ref f) = true ∧ L2.Binds X.K fd ps [] ∧ FnG X.prog X.w X.K X.mg X.base cc.gd (4 * n) f fd ps (spF g.base (C.call p.2))
  xs : XOk cc.ln X.prog X.K X.mg g cc.xs
  fnT : cc.fn = true → ∀ x, X.fn x = true
  pin : ∀ i, cc.pin = some i → ∃ (X' : Cx) (a : Addr) (oe : Obj) (c : Nat) (w : D) (d : Option Addr) (pn : List (Addr × Obj)), X = X'.suite a ((a, oe) :: pn) ∧ g.pin = some (i, a, w, d) ∧ C.cur = some (c, w) ∧ Zc (.ref (g.cad c)) d oe ∧ ∃ vs, oe.data = .fields vs
  th : ∀ a, cc.th = some a → ∃ f m0 th k, C.thunk = some th ∧ g.amb = some (f, X.H_0, m0) ∧ ThOk X.prog X.w X.K X.mg X.base cc.gd k X.fs X.s_0 X.H_0 m0 (g.pa none none) f th ∧ X.ex = [] ∧ X.stack = X.env :: X.outer ∧ Room k X.A ∧ X.N[0]? = some a
  lam : cc.lam = true → (g.pin = none ∧ g.amb = none) ∧ Room (4 * n + 3) X.A ∧ (∃ c P, LamX.TabB X.base X.mg c P ∧ X.env.code = .ref c ∧ (P, X.env.qual ++ "<lambda>") ∈ g.tabs ∧ ∀ p ∈ g.tabs, p.1 = P → p.2 = X.env.qual ++ "<lambda>") ∧
    ∀ p ∈ cc.ls, ∃ gf, X.mg p.1 = some (.ref gf) ∧ FnTh X.prog X.w X.K X.mg X.base cc.gd n p.1 gf g.base (C.callL p.2)
  ks : ∀ p ∈ cc.ks, ∃ f fd, X.mg p.1 = some (.ref f) ∧ PySem.W.keepIn X.K (.ref f) = true ∧ BindsK fd p.2.2 ∧ FnG X.prog X.w X.K X.mg X.base cc.gd (4 * n) f fd p.2.2 (spF g.base (C.call p.2.1))
  cl : ClsOk X.prog X.w X.K X.mg X.base cc.gd n g.base cc.kl cc.fl cc.kf cc.mt cc.mks C.call
abbrev Ck := CC → Scope → Expr → E → Bool
def Snd (R : Ck) : Prop := ∀ (cc : CC) (sc : Scope) (n : Nat) (X : Cx) (g : G) (W : WX) (C : Cf), Good cc sc n X g W C → ∀ e ee, R cc sc e ee = true → PE X e (liftE g W (evE C ee))
def SndT (R : Ck) : Prop := ∀ (cc : CC) (sc : Scope) (n : Nat) (X : Cx) (g : G) (W : WX) (C : Cf), Good cc sc n X g W C → ∀ e ee, R cc sc e ee = true → PT X e (liftT g W (truR (evE C ee)))
/-! ### parts -/
def visB (sc : Scope) (x : Str) : Bool := match sc.names.lookup x with
  | some .local => true | some .cell => true | some .free => true
  | _ => false
theorem vis_ok {X : Cx} {x : Str} (h : visB X.env.scope x = true) : Vis X.env.scope x := by
  unfold visB at h
  split at h
  · rename_i e; exact .inl e
  · rename_i e; exact .inr (.inl e)
  · rename_i e; exact .inr (.inr e)
  · cases h
def glB (sc : Scope) (x : Str) : Bool := decide (sc.names.lookup x = some .globalImplicit)
theorem gl_ok {X : Cx} {x : Str} (h : glB X.env.scope x = true) : Gl X x := by
  have := of_decide_eq_true h
  exact this
def ndB (x : Str) : Bool := !(x == ("__debug__" : Str)) && !(x == ("__classdict__" : Str))
theorem nd_ok {x : Str} (h : ndB x = true) : (x == ("__debug__" : Str)) = false ∧ (x == ("__classdict__" : Str)) = false := by
  simpa [ndB] using h
def all2 {α β : Type} (f : α → β → Bool) : List α → List β → Bool
  | [], [] => true
  | a :: as, b :: bs => f a b && all2 f as bs
  | _, _ => false
theorem all2_len {α β : Type} {f : α → β → Bool} : ∀ {as : List α} {bs : List β}, all2 f as bs = true → as.length = bs.length
  | [], [], _ => rfl
  | _ :: _, _ :: _, h => by simp only [all2, Bool.and_eq_true] at h; simp [all2_len h.2]
  | [], _ :: _, h => by simp [all2] at h
  | _ :: _, [], h => by simp [all2] at h
def coE : CmpOp → Co → Bool
  | .Lt, .lt => true | .LtE, .le => true | .Gt, .gt => true | .GtE, .ge => true | .Eq, .eq => true | .NotEq, .ne => true
  | .Is, .is => true | .IsNot, .isnot => true | .In, .in_ => true | .NotIn, .notin => true
  | _, _ => false
theorem coE_ok {a : CmpOp} {b : Co} (h : coE a b = true) : a = coP b := by
  cases a <;> cases b <;> first | rfl | cases h
def boE : Operator → Bo → Bool
  | .Add, .add => true | .Sub, .sub => true | .Mult, .mul => true | .FloorDiv, .fdiv => true | .Mod, .mod => true | .Pow, .pow => true
  | _, _ => false
theorem boE_ok {a : Operator} {b : Bo} (h : boE a b = true) : a = boP b := by
  cases a <;> cases b <;> first | rfl | cases h
def ckC : Const → D → Bool
  | .int i, .int j => i == j
  | .bool b, .bl c => b == c
  | .none, .non => true
  | .str x, .str y => decide (x = y) && decide (x.length ≤ size16)
  | _, _ => false
section
variable {R RT : Ck} {cc : CC} {sc : Scope} {n : Nat} {X : Cx} {g : G} {W : WX} {C : Cf}
theorem ckC_ok {c : Const} {d : D} {k : Nat} {p : Pos} (h : ckC c d = true) : PE X (.Constant c k p) (liftE g W (evE C (.con d))) := by
  cases c <;> cases d <;> try (simp [ckC] at h <;> done)
  case bool.bl b c => simp only [ckC, beq_iff_eq] at h; subst h; exact se_con pe_bl fun H m => .bl _
  case int.int i j => simp only [ckC, beq_iff_eq] at h; subst h; exact se_con pe_int fun H m => .int _
  case none.non => exact se_con pe_non fun H m => .non
  case str.str x y =>
    simp only [ckC, Bool.and_eq_true, decide_eq_true_eq] at h
    obtain ⟨rfl, h2⟩ := h
    exact se_con pe_str fun H m => .str _ (by rw [← size16_eq]; exact h2)
theorem args_ok (S : Snd R) (o : Good cc sc n X g W C) : ∀ {es : List Expr} {es' : List E}, es.all notStar = true → all2 (R cc sc) es es' = true → PA X es (liftA g W (evEs C es'))
  | [], [], _, _ => sa_nil
  | e :: es, f :: fs, hn, h => by
    rw [List.all_cons, Bool.and_eq_true] at hn
    simp only [all2, Bool.and_eq_true] at h
    exact sa_cons (S cc sc n X g W C o e f h.1) (args_ok S o hn.2 h.2) (starEach_ns hn.1)
  | [], _ :: _, _, h => by simp [all2] at h
  | _ :: _, [], _, h => by simp [all2] at h
end
/-! ### the forms -/
def kName (cc : CC) (sc : Scope) (x : Str) : E → Bool
  | .var i => decide (cc.N[i]? = some x) && visB sc x && ndB x
  | .con (.int i) => glB sc x && decide ((x, i) ∈ cc.cs) && ndB x
  | _ => false
def kUn (R : Expr → E → Bool) (op : UnaryOp) (a : Expr) : E → Bool
  | .neg a' => (match op with | .USub => true | _ => false) && R a a'
  | .not a' => (match op with | .Not => true | _ => false) && R a a'
  | _ => false
def co2E : CmpOp → Co2 → Bool
  | .NotIn, .notinD => true | .In, .inD => true | .NotEq, .neL => true | .Lt, .ltT => true
  | _, _ => false
theorem co2E_ok {p : CmpOp} {o : Co2} (h : co2E p o = true) : p = co2P o := by
  cases p <;> cases o <;> first | rfl | cases h
def kCmp (R : Expr → E → Bool) (a : Expr) (ops : List CmpOp) (bs : List Expr) : E → Bool
  | .cmp o a' b' => (match ops, bs with
    | [p], [b] => coE p o && !behindInMarks p b && R a a' && R b b'
    | _, _ => false)
  | .cmp2 o a' b' => (match ops, bs with
    | [p], [b] => co2E p o && !behindInMarks p b && R a a' && R b b'
    | _, _ => false)
  | .chain o o' a' b' c' => (match ops, bs with
    | [p, p'], [b, c] => coE p o && coE p' o' && !behindInMarks p' c && R a a' && R b b' && R c c'
    | _, _ => false)
  | _ => false
def kBool (R : Expr → E → Bool) (op : BoolOp) (es : List Expr) (p : Pos) (ee : E) : Bool := match es with
  | [] => false
  | [a] => R a ee
  | a :: r => match ee with
    | .and a' b' => (match op with | .And => true | _ => false) && R a a' && R (.BoolOp op r p) b'
    | .or a' b' => (match op with | .Or => true | _ => false) && R a a' && R (.BoolOp op r p) b'
    | _ => false
def kO (R : Expr → E → Bool) (k : Bool) (e : Option Expr) (ee : E) : Bool := match k, e with
  | true, some e => R e ee
  | false, none => (match ee with | .con .non => true | _ => false)
  | _, _ => false
def kSub (R : Expr → E → Bool) (a b : Expr) : E → Bool
  | .idx a' b' => plainI b && R a a' && R b b'
  | .rev a' => (match b with
    | .Slice none none (some (.UnaryOp .USub (.Constant (.int 1) _ _) _)) _ => R a a'
    | _ => false)
  | .slice kl kh a' lo' hi' => (match b with
    | .Slice lo hi none _ => R a a' && kO R kl lo lo' && kO R kh hi hi'
    | _ => false)
  | _ => false
section
variable {R RT : Ck} {cc : CC} {sc : Scope} {n : Nat} {X : Cx} {g : G} {W : WX} {C : Cf}
theorem kName_ok (o : Good cc sc n X g W C) {x : Str} {p : Pos} {ee : E} (h : kName cc sc x ee = true) : PE X (.Name x p) (liftE g W (evE C ee)) := by
  have hs := o.sc
  subst hs
  cases ee <;> try (simp [kName] at h <;> done)
  case var i =>
    simp only [kName, Bool.and_eq_true, decide_eq_true_eq] at h
    obtain ⟨⟨h1, h2⟩, h3⟩ := h
    exact se_var (by rw [o.N]; exact h1) (vis_ok h2) (nd_ok h3).1 (nd_ok h3).2
  case con d =>
    cases d <;> try (simp [kName] at h <;> done)
    case int i =>
      simp only [kName, Bool.and_eq_true, decide_eq_true_eq] at h
      obtain ⟨⟨h1, h2⟩, h3⟩ := h
      obtain ⟨t, ht⟩ := o.cs _ h2
      exact se_con (pe_glob (v := .int i) (gl_ok h1) ht ⟨t, rfl⟩ (nd_ok h3).1) fun H m => .int _
theorem kUn_ok (S : Snd R) (o : Good cc sc n X g W C) {op : UnaryOp} {a : Expr} {p : Pos} {ee : E} (h : kUn (R cc sc) op a ee = true) : PE X (.UnaryOp op a p) (liftE g W (evE C ee)) := by
  cases ee <;> try (simp [kUn] at h <;> done)
  case neg a' =>
    simp only [kUn, Bool.and_eq_true] at h
    cases op <;> try (simp at h <;> done)
    exact se_neg (S _ _ _ _ _ _ _ o _ _ h.2)
  case not a' =>
    simp only [kUn, Bool.and_eq_true] at h
    cases op <;> try (simp at h <;> done)
    exact se_not o.K (S _ _ _ _ _ _ _ o _ _ h.2)
theorem kCmp_ok (S : Snd R) (o : Good cc sc n X g W C) {a : Expr} {ops : List CmpOp} {bs : List Expr} {p : Pos} {ee : E} (h : kCmp (R cc sc) a ops bs ee = true) : PE X (.Compare a ops bs p) (liftE g W (evE C ee)) ∧ PT X (.Compare a ops bs p) (liftT g W (truR (evE C ee))) := by
  cases ee <;> try (simp [kCmp] at h <;> done)
  case cmp co a' b' =>
    simp only [kCmp] at h
    split at h
    · simp only [Bool.and_eq_true, Bool.not_eq_true'] at h
      obtain ⟨⟨⟨h1, h2⟩, h3⟩, h4⟩ := h
      have e1 := coE_ok h1
      subst e1
      obtain ⟨r, r1, r2⟩ := cmp_all o.K o.un co
      exact ⟨se_cmp r1 r2 (S _ _ _ _ _ _ _ o _ _ h3) (S _ _ _ _ _ _ _ o _ _ h4) h2, st_cmp r1 r2 (S _ _ _ _ _ _ _ o _ _ h3) (S _ _ _ _ _ _ _ o _ _ h4) h2⟩
    · cases h
  case cmp2 co a' b' =>
    simp only [kCmp] at h
    split at h
    · simp only [Bool.and_eq_true, Bool.not_eq_true'] at h
      obtain ⟨⟨⟨h1, h2⟩, h3⟩, h4⟩ := h
      have e1 := co2E_ok h1
      subst e1
      obtain ⟨r, r1, r2⟩ := cmp2_all o.K o.un co
      exact ⟨se_cmp r1 r2 (S _ _ _ _ _ _ _ o _ _ h3) (S _ _ _ _ _ _ _ o _ _ h4) h2, st_cmp r1 r2 (S _ _ _ _ _ _ _ o _ _ h3) (S _ _ _ _ _ _ _ o _ _ h4) h2⟩
    · cases h
  case chain co co' a' b' c' =>
    simp only [kCmp] at h
    split at h
    · simp only [Bool.and_eq_true, Bool.not_eq_true'] at h
      obtain ⟨⟨⟨⟨⟨h1, h1'⟩, h2⟩, h3⟩, h4⟩, h5⟩ := h
      have e1 := coE_ok h1
      have e2 := coE_ok h1'
      subst e1; subst e2
      obtain ⟨r, r1, r2⟩ := cmp_all o.K o.un co
      obtain ⟨r', r1', r2'⟩ := cmp_all o.K o.un co'
      exact ⟨se_chain r1 r1' r2 r2' (S _ _ _ _ _ _ _ o _ _ h3) (S _ _ _ _ _ _ _ o _ _ h4) (S _ _ _ _ _ _ _ o _ _ h5) h2, st_chain r1 r1' r2 r2' (S _ _ _ _ _ _ _ o _ _ h3) (S _ _ _ _ _ _ _ o _ _ h4) (S _ _ _ _ _ _ _ o _ _ h5) h2⟩
    · cases h
theorem kBool_ok (S : Snd R) (o : Good cc sc n X g W C) {op : BoolOp} {es : List Expr} {p : Pos} {ee : E} (h : kBool (R cc sc) op es p ee = true) : PE X (.BoolOp op es p) (liftE g W (evE C ee)) := by
  match es with
  | [] => simp [kBool] at h
  | [a] =>
    simp only [kBool] at h
    cases op with
    | And => exact se_and1 (S _ _ _ _ _ _ _ o _ _ h)
    | Or => exact se_or1 (S _ _ _ _ _ _ _ o _ _ h)
  | a :: b :: r =>
    simp only [kBool] at h
    cases ee <;> try (simp at h <;> done)
    case and a' b' =>
      simp only [Bool.and_eq_true] at h
      cases op <;> try (simp at h <;> done)
      exact se_and o.K (S _ _ _ _ _ _ _ o _ _ h.1.2) (S _ _ _ _ _ _ _ o _ _ h.2)
    case or a' b' =>
      simp only [Bool.and_eq_true] at h
      cases op <;> try (simp at h <;> done)
      exact se_or o.K (S _ _ _ _ _ _ _ o _ _ h.1.2) (S _ _ _ _ _ _ _ o _ _ h.2)
theorem kO_ok (S : Snd R) (o : Good cc sc n X g W C) {k : Bool} {e : Option Expr} {ee : E} (h : kO (R cc sc) k e ee = true) : PO X e (liftB g W (bndR k (evE C ee))) := by
  cases k <;> cases e <;> try (simp [kO] at h <;> done)
  · cases ee <;> try (simp [kO] at h <;> done)
    rename_i d
    cases d <;> try (simp [kO] at h <;> done)
    exact so_none
  · simp only [kO] at h
    exact so_some (S _ _ _ _ _ _ _ o _ _ h)
theorem kSub_ok (S : Snd R) (o : Good cc sc n X g W C) {a b : Expr} {p : Pos} {ee : E} (h : kSub (R cc sc) a b ee = true) : PE X (.Subscript a b p) (liftE g W (evE C ee)) := by
  cases ee <;> try (simp [kSub] at h <;> done)
  case idx a' b' =>
    simp only [kSub, Bool.and_eq_true] at h
    obtain ⟨⟨h1, h2⟩, h3⟩ := h
    have K := o.K
    exact se_ix (r := rIx X.K) ix_seq (by rw [K]; exact o_idx) (S _ _ _ _ _ _ _ o _ _ h2) (S _ _ _ _ _ _ _ o _ _ h3) (plainIx h1)
  case rev a' =>
    simp only [kSub] at h
    split at h
    · exact se_rev o.K (S _ _ _ _ _ _ _ o _ _ h)
    · cases h
  case slice kl kh a' lo' hi' =>
    simp only [kSub] at h
    split at h
    · simp only [Bool.and_eq_true] at h
      obtain ⟨⟨h1, h2⟩, h3⟩ := h
      exact se_slice o.K (S _ _ _ _ _ _ _ o _ _ h1) (kO_ok S o h2) (kO_ok S o h3)
    · cases h
end
end Ev
end

section
set_option Elab.async false
set_option linter.all false
set_option maxRecDepth 100000
set_option autoImplicit false
set_option maxHeartbeats 1000000
namespace Ev
open PySem PySem.Spec PyProof.Rows L2
def noParams : Arguments → Bool
  | ⟨[], [], none, [], [], none, []⟩ => true
  | _ => false
def ownOf (N : List Str) (vs : List Nat) : List (Str × Nat) := vs.map fun v => (N.getD v (Str.ofString ""), v)
theorem ownOf_map (N : List Str) (vs : List Nat) : (ownOf N vs).map (·.2) = vs := by
  induction vs with
  | nil => rfl
  | cons v vs ih => simp only [ownOf, List.map_cons] at ih ⊢; rw [ih]
def isTuple : Expr → Bool
  | .Tuple _ _ _ => true
  | _ => false
/-- what is walked -/
def kIt (cc : CC) (sc : Scope) (R : Expr → E → Bool) (tg : Expr) (k : ItK) (iter : Expr) (es' : List E) : Bool :=
  notSet iter && match k with
  | .seq => (match es' with
    | [e'] => R iter e'
    | _ => false)
  | .rng => (match iter with
    | .Call (.Name x _) es [] _ => x == ("range" : Str) && glB sc x && decide (x ∈ cc.bn) && es.all notStar && all2 R es es' && (es.length == 1 || es.length == 2 || es.length == 3)
    | _ => false)
  | .enum => (match iter with
    | .Call (.Name x _) es [] _ => isTuple tg && x == ("enumerate" : Str) && glB sc x && decide (x ∈ cc.bn) && es.all notStar && all2 R es es' && es.length == 1
    | _ => false)
  | .zip => (match iter with
    | .Call (.Name x _) es [] _ => isTuple tg && x == ("zip" : Str) && glB sc x && decide (x ∈ cc.bn) && es.all notStar && all2 R es es' && (es.length == 2 || es.length == 3)
    | _ => false)
def blkCC (cc : CC) : CC := { cc with fn := false, th := none, pin := none, lam := false }
def kLc (R RT : Ck) (cc : CC) (sc : Scope) (elt : Expr) (gens : List Comprehension) (lsc : Scope) : E → Bool
  | .lc mu vs t k es' c' elt' => (match gens with
    | [⟨tg, iter, ifs, 0⟩] => !cc.hot && !cc.side && blkC cc.N sc lsc (ownOf cc.N vs) && t.slots.all (fun v => decide (v ∈ vs)) && kIt cc sc (R cc sc) tg k iter es' && ckTg cc.N (relS lsc sc) (ownFn lsc) tg t &&
      (match ifs with
        | [] => (match c' with | .con (.bl true) => true | _ => false)
        | [c] => RT (blkCC cc) (relS lsc sc) c c'
        | _ => false) && R (blkCC cc) (relS lsc sc) elt elt'
    | _ => false)
  | .lcl mu vs t e' c' elt' => (match gens with
    | [⟨tg, iter, ifs, 0⟩] => !cc.hot && !cc.side && blkC cc.N sc lsc (ownOf cc.N vs) && t.slots.all (fun v => decide (v ∈ vs)) && (notSet iter && R cc sc iter e') && ckTg cc.N (relS lsc sc) (ownFn lsc) tg t &&
      (match ifs with
        | [] => (match c' with | .con (.bl true) => true | _ => false)
        | [c] => RT (blkCC cc) (relS lsc sc) c c'
        | _ => false) && R (blkCC cc) (relS lsc sc) elt elt'
    | _ => false)
  | _ => false
def kLc2 (R RT : Ck) (cc : CC) (sc : Scope) (elt : Expr) (gens : List Comprehension) (lsc : Scope) : E → Bool
  | .lc2 mu vs vs1 t k es' c' t1 k1 es1' c1' elt' => (match gens with
    | [⟨tg, iter, ifs, 0⟩, ⟨tg1, iter1, ifs1, 0⟩] => !cc.hot && !cc.side && blkC cc.N sc lsc (ownOf cc.N vs) && (t.slots.all (fun v => decide (v ∈ vs)) && t1.slots.all (fun v => decide (v ∈ vs1)) && vs1.all (fun v => decide (v ∈ vs))) && kIt cc sc (R cc sc) tg k iter es' && ckTg cc.N (relS lsc sc) (ownFn lsc) tg t &&
      (match ifs with
        | [] => (match c' with | .con (.bl true) => true | _ => false)
        | [c] => RT (blkCC cc) (relS lsc sc) c c'
        | _ => false) && R (blkCC cc) (relS lsc sc) elt elt' && (kIt (blkCC cc) (relS lsc sc) (R (blkCC cc) (relS lsc sc)) tg1 k1 iter1 es1' && ckTg cc.N (relS lsc sc) (ownFn lsc) tg1 t1 &&
      (match ifs1 with
        | [] => (match c1' with | .con (.bl true) => true | _ => false)
        | [c] => RT (blkCC cc) (relS lsc sc) c c1'
        | _ => false))
    | _ => false)
  | _ => false
/-- constants -/
def eqC : D → D → Bool
  | .int i, .int j => i == j | .bl b, .bl c => b == c | .non, .non => true
  | _, _ => false
def eqCs : List D → List D → Bool
  | [], [] => true
  | a :: as, b :: bs => eqC a b && eqCs as bs
  | _, _ => false
def conE : List E → Option (List D)
  | [] => some []
  | .con d :: es => (conE es).map (d :: ·)
  | _ => none
theorem lookup_memN {c j : Nat} : ∀ {ms : List (Nat × Nat)}, ms.lookup c = some j → (c, j) ∈ ms
  | [], h => by cases h
  | (a, b) :: r, h => by
    by_cases q : c = a
    · subst q
      have h1 : (c == c) = true := beq_self_eq_true c
      simp only [List.lookup, h1, Option.some.injEq] at h
      subst h; exact List.mem_cons_self
    · have h1 : (c == a) = false := beq_eq_false_iff_ne.mpr q
      simp only [List.lookup, h1] at h
      exact List.mem_cons_of_mem _ (lookup_memN h)
theorem eqC_ok {a b : D} (h : eqC a b = true) : a = b := by
  cases a <;> cases b <;> simp_all [eqC]
theorem eqCs_ok : ∀ {a b : List D}, eqCs a b = true → a = b
  | [], [], _ => rfl
  | a :: as, b :: bs, h => by
    simp only [eqCs, Bool.and_eq_true] at h
    rw [eqC_ok h.1, eqCs_ok h.2]
  | [], _ :: _, h => by simp [eqCs] at h
  | _ :: _, [], h => by simp [eqCs] at h
theorem conE_ev {C : Cf} : ∀ {es : List E} {cs : List D}, conE es = some cs → ∀ env L, evEs C es env L = .ok cs L
  | [], cs, h, env, L => by simp only [conE, Option.some.injEq] at h; subst h; simp only [evEs]
  | e :: es, cs, h, env, L => by
    cases e <;> try (simp [conE] at h <;> done)
    rename_i d
    simp only [conE] at h
    cases q : conE es with
    | none => rw [q] at h; cases h
    | some r =>
      rw [q] at h
      simp only [Option.map_some, Option.some.injEq] at h
      subst h
      simp only [evEs, evE, Ev.R.bind_ok, conE_ev q env L]
theorem evEs_app {C : Cf} : ∀ {es fs : List E} (env : Env) (L : LH), evEs C (es ++ fs) env L = (evEs C es env L).bind fun xs L => (evEs C fs env L).bind fun ys L => .ok (xs ++ ys) L
  | [], fs, env, L => by
    simp only [List.nil_append, evEs, Ev.R.bind_ok]
    cases evEs C fs env L <;> rfl
  | e :: es, fs, env, L => by
    simp only [List.cons_append, evEs]
    cases evE C e env L with
    | ok x L1 =>
      simp only [Ev.R.bind_ok, evEs_app (es := es) env L1]
      cases evEs C es env L1 with
      | ok xs L2 =>
        simp only [Ev.R.bind_ok]
        cases evEs C fs env L2 <;> rfl
      | exc c w L2 => rfl
      | bad => rfl
    | exc c w L1 => rfl
    | bad => rfl
def kCall (R : Ck) (cc : CC) (sc : Scope) (x : Str) (es : List Expr) : E → Bool
  | .call f es' => !cc.hot && !cc.side && glB sc x && ndB x && decide ((x, f) ∈ cc.fs) && es.all notStar && all2 (R cc sc) es es'
  | .bi b es' => !cc.hot && x == biN b && glB sc x && decide (x ∈ cc.bn) && (decide (b ≠ .repr) || cc.gd) && !es.isEmpty && es.all notStar && all2 (R cc sc) es es'
  | .isin a' [t] => (match es with
    | [a, .Name y _] => x == ("isinstance" : Str) && glB sc x && decide (x ∈ cc.bn) && y == Str.ofString (tyN t) && glB sc y && decide (y ∈ cc.bn) && notStar a && R cc sc a a'
    | _ => false)
  | .lam f b' => (match es with
    | [.Lambda ps b lsc _] => cc.lam && glB sc x && ndB x && decide ((x, f) ∈ cc.ls) && noParams ps && LamX.lamSB sc lsc && R { blkCC cc with fn := false } lsc b b'
    | _ => false)
  | .lenset a' => (match es with
    | [.Call (.Name y _) [a] [] _] => !cc.hot && x == ("len" : Str) && glB sc x && decide (x ∈ cc.bn) && y == ("set" : Str) && glB sc y && decide (y ∈ cc.bn) && notStar a && R cc sc a a'
    | _ => false)
  | .new c f es' => !cc.hot && !cc.side && glB sc x && ndB x && decide (cc.kl[c]? = some x) && decide ((c, f) ∈ cc.mks) && es.all notStar && all2 (R cc sc) es es'
  | .mlist a' => (match es with
    | [a] => x == ("list" : Str) && glB sc x && decide (x ∈ cc.bn) && notStar a && R cc sc a a'
    | _ => false)
  | .mint a' => (match es with
    | [a] => !cc.hot && x == ("min" : Str) && glB sc x && decide (x ∈ cc.bn) && notStar a && R cc sc a a'
    | _ => false)
  | .thunk => (match es with
    | [] => decide (cc.th = some x) && visB sc x && ndB x
    | _ => false)
  | .xis i c => (match es with
    | [.Name n _, .Name y _] => x == ("isinstance" : Str) && glB sc x && decide (x ∈ cc.bn) && decide (cc.pin = some i) && decide (cc.N[i]? = some n) && visB sc n && ndB n && decide (cc.xs[c]? = some y) && glB sc y && ndB y
    | _ => false)
  | .xisV i => (match es with
    | [.Name n _, .Name y _] => x == ("isinstance" : Str) && glB sc x && decide (x ∈ cc.bn) && decide (cc.pin = some i) && decide (cc.N[i]? = some n) && visB sc n && ndB n && y == ("ValueError" : Str) && glB sc y && decide (y ∈ cc.bn)
    | _ => false)
  | _ => false
def kCallK (R : Expr → E → Bool) (cc : CC) (sc : Scope) (x : Str) (kws : List Keyword) : E → Bool
  | .call f es' => !cc.hot && !cc.side && glB sc x && ndB x && (cc.ks.any fun p => decide (p.1 = x) && decide (p.2.1 = f) && decide (kws.map (·.arg) = p.2.2.map some)) && all2 (fun k e => R k.value e) kws es'
  | _ => false
/-- min(a, key=lambda p: b) -/
def kMin (R : Ck) (cc : CC) (sc : Scope) (x : Str) (a : Expr) (kw : Keyword) : E → Bool
  | .mink i b' a' => (match kw with
    | ⟨some key, .Lambda ⟨[], [⟨p, none, _⟩], none, [], [], none, []⟩ b lsc _, _⟩ => !cc.hot && key == ("key" : Str) && x == ("min" : Str) && cc.lam && glB sc x && decide (x ∈ cc.bn) && notStar a && R cc sc a a' && lamPB sc lsc p && decide (cc.N[i]? = some p) && R { blkCC cc with fn := false } lsc b b'
    | _ => false)
  | _ => false
def kAttr (R : Expr → E → Bool) (cc : CC) (o : Expr) (m : Str) (ap : Pos) (es : List Expr) (cp : Pos) : E → Bool
  | .ext o' a' => (match es with
    | [a] => m == ("extend" : Str) && baseOk o && (ap.endLine == cp.line) && notStar a && R o o' && R a a'
    | _ => false)
  | .meth o' ms es' => !cc.hot && !cc.side && baseOk o && (ap.endLine == cp.line) && es.all notStar && decide (es.length < 30) && R o o' && all2 R es (es'.take es.length) && (match conE (es'.drop es.length) with
    | some cs => ms.all fun p => cc.mt.any fun q => q.1 == p.1 && decide (q.2.1 = m) && q.2.2.1 == p.2 && eqCs q.2.2.2 cs
    | none => false)
  | .app o' a' => (match es with
    | [a] => m == ("append" : Str) && baseOk o && (ap.endLine == cp.line) && notStar a && R o o' && R a a'
    | _ => false)
  | _ => false
def kFld (R : Expr → E → Bool) (cc : CC) (sc : Scope) (o : Expr) (m : Str) : E → Bool
  | .xwhat i => (match o with
    | .Name n _ => m == ("what" : Str) && decide (cc.pin = some i) && decide (cc.N[i]? = some n) && visB sc n && ndB n
    | _ => false)
  | .attr o' i => baseOk o && decide (cc.fl[i]? = some m) && R o o'
  | _ => false
def ckE1 (R RT : Ck) : Ck := fun cc sc e ee => match e with
  | .Name x _ => kName cc sc x ee
  | .Constant c _ _ => (match ee with
    | .con d => ckC c d
    | _ => false)
  | .BinOp a op b _ => (match ee with
    | .bin o a' b' => boE op o && R cc sc a a' && R cc sc b b'
    | _ => false)
  | .UnaryOp op a _ => kUn (R cc sc) op a ee
  | .Compare a ops bs _ => kCmp (R cc sc) a ops bs ee
  | .BoolOp op es p => kBool (R cc sc) op es p ee
  | .IfExp c a b _ => (match ee with
    | .ife c' a' b' => RT cc sc c c' && R cc sc a a' && R cc sc b b'
    | _ => false)
  | .Tuple es _ _ => (match ee with
    | .tup es' => es.all notStar && all2 (R cc sc) es es'
    | _ => false)
  | .List es _ => (match ee with
    | .lst es' => es.all notStar && all2 (R cc sc) es es'
    | .mlst es' => es.all notStar && all2 (R cc sc) es es'
    | _ => false)
  | .Subscript a b _ => kSub (R cc sc) a b ee
  | .Call (.Name x _) es [] _ => kCall R cc sc x es ee
  | .Call (.Name x _) [] (k :: ks) _ => kCallK (R cc sc) cc sc x (k :: ks) ee
  | .Call (.Name x _) [a] [k] _ => kMin R cc sc x a k ee
  | .Call (.Attribute o m ap) es [] cp => kAttr (R cc sc) cc o m ap es cp ee
  | .Attribute o m _ => kFld (R cc sc) cc sc o m ee
  | .ListComp elt gens lsc _ => kLc R RT cc sc elt gens lsc ee || kLc2 R RT cc sc elt gens lsc ee
  | _ => false
section
variable {R RT : Ck} {cc : CC} {sc : Scope} {n : Nat} {X : Cx} {g : G} {W : WX} {C : Cf}
theorem takesW0 {X : Cx} : Takes X W0 := LamX.takes0
theorem XOk.same {l : Nat} {P : Program} {K : PySem.W.Frag} {mg : Str → Option Value} {g g' : G} {nms : List Str} (h : g'.cad = g.cad) (x : XOk l P K mg g nms) : XOk l P K mg g' nms :=
  ⟨x.lin, by rw [h]; exact x.top, by rw [h]; exact x.nm, by rw [h]; exact x.exm, by rw [h]; exact x.kit, by rw [h]; exact x.val⟩
theorem kIt_ok (S : Snd R) (o : Good cc sc n X g W C) {tg iter : Expr} {k : ItK} {es' : List E} (h : kIt cc sc (R cc sc) tg k iter es' = true) : PI X tg iter (liftI g W (itF k (evEs C es'))) ∧ notSet iter = true := by
  have hsc := o.sc
  subst hsc
  simp only [kIt, Bool.and_eq_true] at h
  obtain ⟨h0, h⟩ := h
  refine ⟨?_, h0⟩
  cases k with
  | seq =>
    match es', h with
    | [e'], h =>
      have e : itF .seq (evEs C [e']) = fun env L => (evE C e' env L).bind fun x L => opt (itemsD x) L := by
        funext env L
        simp only [itF, evEs]
        cases evE C e' env L <;> rfl
      rw [e]
      exact si_seq o.K (S _ _ _ _ _ _ _ o _ _ h)
  | rng =>
    cases iter <;> try (simp at h <;> done)
    rename_i f es kw p
    cases f <;> try (simp at h <;> done)
    rename_i x p2
    cases kw <;> try (simp at h <;> done)
    simp only [Bool.and_eq_true, Bool.or_eq_true, beq_iff_eq, decide_eq_true_eq] at h
    obtain ⟨⟨⟨⟨⟨h1, h2⟩, h3⟩, h4⟩, h5⟩, h6⟩ := h
    have hb := o.bn _ h3
    have gx := gl_ok h2
    subst h1
    have pa := args_ok S o h4 h5
    have ln := all2_len h5
    match es, h6 with
    | [a], _ => 
      simp only [List.all_cons, List.all_nil, Bool.and_true] at h4
      exact si_rng1 (fun env L xs L' e => by rw [evEs_len e, ← ln]; rfl) gx hb h4 pa
    | [a, b], _ =>
      simp only [List.all_cons, List.all_nil, Bool.and_true, Bool.and_eq_true] at h4
      exact si_rng2 (fun env L xs L' e => by rw [evEs_len e, ← ln]; rfl) gx hb h4.1 h4.2 pa
    | [a, b, c], _ =>
      simp only [List.all_cons, List.all_nil, Bool.and_true, Bool.and_eq_true] at h4
      exact si_rng3 (fun env L xs L' e => by rw [evEs_len e, ← ln]; rfl) gx hb h4.1 h4.2.1 h4.2.2 pa
    | [], h6 => simp at h6
    | _ :: _ :: _ :: _ :: _, h6 => simp at h6
  | enum =>
    cases iter <;> try (simp at h <;> done)
    rename_i f es kw p
    cases f <;> try (simp at h <;> done)
    rename_i x p2
    cases kw <;> try (simp at h <;> done)
    simp only [Bool.and_eq_true, beq_iff_eq, decide_eq_true_eq] at h
    obtain ⟨⟨⟨⟨⟨⟨h0, h1⟩, h2⟩, h3⟩, h4⟩, h5⟩, h6⟩ := h
    cases tg <;> try (simp [isTuple] at h0 <;> done)
    have hb := o.bn _ h3
    have gx := gl_ok h2
    subst h1
    have pa := args_ok S o h4 h5
    have ln := all2_len h5
    match es, h6 with
    | [a], _ =>
      simp only [List.all_cons, List.all_nil, Bool.and_true] at h4
      exact si_enum o.K (fun env L xs L' e => by rw [evEs_len e, ← ln]; rfl) gx hb h4 pa
  | zip =>
    cases iter <;> try (simp at h <;> done)
    rename_i f es kw p
    cases f <;> try (simp at h <;> done)
    rename_i x p2
    cases kw <;> try (simp at h <;> done)
    simp only [Bool.and_eq_true, Bool.or_eq_true, beq_iff_eq, decide_eq_true_eq] at h
    obtain ⟨⟨⟨⟨⟨⟨h0, h1⟩, h2⟩, h3⟩, h4⟩, h5⟩, h6⟩ := h
    cases tg <;> try (simp [isTuple] at h0 <;> done)
    have hb := o.bn _ h3
    have gx := gl_ok h2
    subst h1
    have pa := args_ok S o h4 h5
    have ln := all2_len h5
    match es, h6 with
    | [a, b], _ =>
      simp only [List.all_cons, List.all_nil, Bool.and_true, Bool.and_eq_true] at h4
      exact si_zip o.K (fun env L xs L' e => by rw [evEs_len e, ← ln]; rfl) gx hb h4.1 h4.2 pa
    | [a, b, c], _ =>
      simp only [List.all_cons, List.all_nil, Bool.and_true, Bool.and_eq_true] at h4
      exact si_zip3 o.K (fun env L xs L' e => by rw [evEs_len e, ← ln]; rfl) gx hb h4.1 h4.2.1 h4.2.2 pa
    | [], h6 => simp at h6
    | [_], h6 => simp at h6
    | _ :: _ :: _ :: _ :: _, h6 => simp at h6
/-- a comprehension's block -/
theorem Good.blk (o : Good cc sc n X g W C) (hh : cc.hot = false) (hsd : cc.side = false) {lsc : Scope} {own : List (Str × Nat)} (ok : BlkOk X.N X.env.scope lsc own) (s : Shared) (H : Hp) (Cd : Addr) (cl : List (Str × Addr)) (fp hs : List Addr) :
    Good (blkCC cc) (relS lsc sc) n (X.blk s H lsc (compEnvC lsc cl Cd X.env) fp) (g.with hs) W0 C := by
  have hsc := o.sc
  subst hsc
  exact ⟨rfl, ok.kind, o.N, o.nd, o.K, o.un, takesW0, o.gdA, fun _ => o.room hh, fun _ => o.side hsd, fun _ => (o.side hsd).1, o.bn, o.cs, o.fs, XOk.same (g := g) rfl o.xs,
    fun h => (by cases h), fun i h => (by cases h), fun a h => (by cases h), fun h => (by cases h), o.ks, o.cl⟩
theorem kLc_ok (S : Snd R) (ST : SndT RT) (o : Good cc sc n X g W C) {elt : Expr} {gens : List Comprehension} {lsc : Scope} {ee : E} (h : kLc R RT cc sc elt gens lsc ee = true) : ∃ (tg iter : Expr) (ifs : List Expr) (own : List (Str × Nat)) (gt : TG) (wi : TI) (tt : TT) (te : TE), gens = [⟨tg, iter, ifs, 0⟩] ∧
    (∀ (σ : L2.St) (H : Hp) (Q : VK), liftE g W (evE C ee) σ H Q → tLc wi gt tt te (own.map (·.2)) σ H Q) ∧ X.calm = true ∧ BlkOk X.N X.env.scope lsc own ∧ PI X tg iter wi ∧ notSet iter = true ∧
    (∀ (s : Shared) (H : Hp) (C : Addr) (cl : List (Str × Addr)) (fp : List Addr), PG (X.blk s H lsc (compEnvC lsc cl C X.env) fp) tg gt) ∧
    (∀ (s : Shared) (H : Hp) (C : Addr) (cl : List (Str × Addr)) (fp : List Addr), PTs (X.blk s H lsc (compEnvC lsc cl C X.env) fp) ifs tt) ∧
    (∀ (s : Shared) (H : Hp) (C : Addr) (cl : List (Str × Addr)) (fp : List Addr), PE (X.blk s H lsc (compEnvC lsc cl C X.env) fp) elt te) := by
  have parts : ∀ {tg : Expr} {ifs : List Expr} {vs : List Nat} {t : Tg} {c' elt' : E}, cc.hot = false → cc.side = false → blkC cc.N sc lsc (ownOf cc.N vs) = true → ckTg cc.N (relS lsc sc) (ownFn lsc) tg t = true → (match ifs with
        | [] => (match c' with | .con (.bl true) => true | _ => false)
        | [c] => RT (blkCC cc) (relS lsc sc) c c'
        | _ => false) = true → R (blkCC cc) (relS lsc sc) elt elt' = true → BlkOk X.N X.env.scope lsc (ownOf cc.N vs) ∧
      (∀ (s : Shared) (H : Hp) (C : Addr) (cl : List (Str × Addr)) (fp : List Addr), PG (X.blk s H lsc (compEnvC lsc cl C X.env) fp) tg (tgR g.K t)) ∧
      (∀ (s : Shared) (H : Hp) (Cd : Addr) (cl : List (Str × Addr)) (fp : List Addr), PTs (X.blk s H lsc (compEnvC lsc cl Cd X.env) fp) ifs (anyT g (evE C c'))) ∧
      (∀ (s : Shared) (H : Hp) (Cd : Addr) (cl : List (Str × Addr)) (fp : List Addr), PE (X.blk s H lsc (compEnvC lsc cl Cd X.env) fp) elt (anyE g (evE C elt'))) := fun {tg ifs vs t c' elt'} h1 h2 h3 h6 h7 h8 => by
    have ok : BlkOk X.N X.env.scope lsc (ownOf cc.N vs) := by rw [o.N, o.sc]; exact blkOk_by h3
    refine ⟨ok, fun s H Cd cl fp => ?_, fun s H Cd cl fp => ?_, fun s H Cd cl fp => ?_⟩
    · have G0 := o.blk h1 h2 ok s H Cd cl fp []
      exact ckTg_ok (N := cc.N) (sc := relS lsc sc) (fn := ownFn lsc) G0.K (o.room h1).2 G0.N G0.nd G0.sc (fun x z => .inl z) h6
    · cases ifs with
      | nil =>
        simp only at h7
        split at h7
        · exact PTs.any0
        · cases h7
      | cons c r =>
        cases r with
        | nil => exact PTs.any1 fun hs => ST _ _ _ _ _ _ _ (o.blk h1 h2 ok s H Cd cl fp hs) _ _ h7
        | cons _ _ => cases h7
    · exact PE.any fun hs => S _ _ _ _ _ _ _ (o.blk h1 h2 ok s H Cd cl fp hs) _ _ h8
  cases ee <;> try (simp [kLc] at h <;> done)
  case lc mu vs t k es' c' elt' =>
    simp only [kLc] at h
    split at h
    case h_2 => cases h
    rename_i tg iter ifs
    simp only [Bool.and_eq_true, Bool.not_eq_true', List.all_eq_true, decide_eq_true_eq] at h
    obtain ⟨⟨⟨⟨⟨⟨⟨h1, h2⟩, h3⟩, h4⟩, h5⟩, h6⟩, h7⟩, h8⟩ := h
    obtain ⟨ok, p1, p2, p3⟩ := parts h1 h2 h3 h6 h7 h8
    obtain ⟨i1, i2⟩ := kIt_ok S o h5
    refine ⟨tg, iter, ifs, ownOf cc.N vs, tgR g.K t, _, _, _, rfl, fun σ H Q hh => ?_, (o.room h1).2, ok, i1, i2, p1, p2, p3⟩
    have e : evE C (.lc mu vs t k es' c' elt') = lcF mu t.put ((ownOf cc.N vs).map (·.2)) (itF k (evEs C es')) (evE C c') (evE C elt') := by
      funext env L
      simp only [evE, lcF, itF, ownOf_map]
      cases evEs C es' env L with
      | ok xs L1 => simp only [Ev.R.bind_ok]; cases itD k xs <;> rfl
      | exc c w L1 => rfl
      | bad => rfl
    rw [e] at hh
    exact lc_core' (o.side h2) (tgR_ok g.K t) (fun v hv => by rw [ownOf_map]; exact h4 v hv) hh
  case lcl mu vs t e' c' elt' =>
    simp only [kLc] at h
    split at h
    case h_2 => cases h
    rename_i tg iter ifs
    simp only [Bool.and_eq_true, Bool.not_eq_true', List.all_eq_true, decide_eq_true_eq] at h
    obtain ⟨⟨⟨⟨⟨⟨⟨h1, h2⟩, h3⟩, h4⟩, h5⟩, h6⟩, h7⟩, h8⟩ := h
    obtain ⟨ok, p1, p2, p3⟩ := parts h1 h2 h3 h6 h7 h8
    refine ⟨tg, iter, ifs, ownOf cc.N vs, tgR g.K t, _, _, _, rfl, fun σ H Q hh => ?_, (o.room h1).2, ok, si_loc o.K (S _ _ _ _ _ _ _ o _ _ h5.2), h5.1, p1, p2, p3⟩
    have e : evE C (.lcl mu vs t e' c' elt') = lclF mu t.put ((ownOf cc.N vs).map (·.2)) (locF (evE C e')) (evE C c') (evE C elt') := by
      funext env L
      simp only [evE, lclF, locF, ownOf_map]
      cases evE C e' env L with
      | ok x L1 => simp only [Ev.R.bind_ok]
      | exc c w L1 => rfl
      | bad => rfl
    rw [e] at hh
    exact lcl_core (o.side h2) (tgR_ok g.K t) (fun v hv => by rw [ownOf_map]; exact h4 v hv) hh
theorem kLc2_ok (S : Snd R) (ST : SndT RT) (o : Good cc sc n X g W C) {elt : Expr} {gens : List Comprehension} {lsc : Scope} {ee : E} (h : kLc2 R RT cc sc elt gens lsc ee = true) : ∃ (tg iter tg1 iter1 : Expr) (ifs ifs1 : List Expr) (own : List (Str × Nat)) (vs1 : List Nat) (gt gt1 : TG) (wi wi1 : TI) (tt tt1 : TT) (te : TE), gens = [⟨tg, iter, ifs, 0⟩, ⟨tg1, iter1, ifs1, 0⟩] ∧
    (∀ (σ : L2.St) (H : Hp) (Q : VK), liftE g W (evE C ee) σ H Q → tLc2 wi gt tt wi1 gt1 tt1 te (own.map (·.2)) vs1 σ H Q) ∧ X.calm = true ∧ BlkOk X.N X.env.scope lsc own ∧ (∀ i ∈ vs1, i ∈ own.map (·.2)) ∧ PI X tg iter wi ∧ notSet iter = true ∧ notSet iter1 = true ∧
    (∀ (s : Shared) (H : Hp) (C : Addr) (cl : List (Str × Addr)) (fp : List Addr), PG (X.blk s H lsc (compEnvC lsc cl C X.env) fp) tg gt) ∧
    (∀ (s : Shared) (H : Hp) (C : Addr) (cl : List (Str × Addr)) (fp : List Addr), PTs (X.blk s H lsc (compEnvC lsc cl C X.env) fp) ifs tt) ∧
    (∀ (s : Shared) (H : Hp) (C : Addr) (cl : List (Str × Addr)) (fp : List Addr), PI (X.blk s H lsc (compEnvC lsc cl C X.env) fp) tg1 iter1 wi1) ∧
    (∀ (s : Shared) (H : Hp) (C : Addr) (cl : List (Str × Addr)) (fp : List Addr), PG (X.blk s H lsc (compEnvC lsc cl C X.env) fp) tg1 gt1) ∧
    (∀ (s : Shared) (H : Hp) (C : Addr) (cl : List (Str × Addr)) (fp : List Addr), PTs (X.blk s H lsc (compEnvC lsc cl C X.env) fp) ifs1 tt1) ∧
    (∀ (s : Shared) (H : Hp) (C : Addr) (cl : List (Str × Addr)) (fp : List Addr), PE (X.blk s H lsc (compEnvC lsc cl C X.env) fp) elt te) := by
  cases ee <;> try (simp [kLc2] at h <;> done)
  case lc2 mu vs vs1 t k es' c' t1 k1 es1' c1' elt' =>
    simp only [kLc2] at h
    split at h
    case h_2 => cases h
    rename_i tg iter ifs tg1 iter1 ifs1
    simp only [Bool.and_eq_true, Bool.not_eq_true', List.all_eq_true, decide_eq_true_eq] at h
    obtain ⟨⟨⟨⟨⟨⟨⟨⟨h1, h2⟩, h3⟩, ⟨h4, h4a⟩, h4b⟩, h5⟩, h6⟩, h7⟩, h8⟩, ⟨h9, h10⟩, h11⟩ := h
    have ok : BlkOk X.N X.env.scope lsc (ownOf cc.N vs) := by rw [o.N, o.sc]; exact blkOk_by h3
    obtain ⟨i1, i2⟩ := kIt_ok S o h5
    have ptg : ∀ {tg : Expr} {t : Tg}, ckTg cc.N (relS lsc sc) (ownFn lsc) tg t = true → ∀ (s : Shared) (H : Hp) (C : Addr) (cl : List (Str × Addr)) (fp : List Addr), PG (X.blk s H lsc (compEnvC lsc cl C X.env) fp) tg (tgR g.K t) := fun {tg t} h6 s H Cd cl fp => by
      have G0 := o.blk h1 h2 ok s H Cd cl fp []
      exact ckTg_ok (N := cc.N) (sc := relS lsc sc) (fn := ownFn lsc) G0.K (o.room h1).2 G0.N G0.nd G0.sc (fun x z => .inl z) h6
    have pts : ∀ {ifs : List Expr} {c' : E}, (match ifs with
        | [] => (match c' with | .con (.bl true) => true | _ => false)
        | [c] => RT (blkCC cc) (relS lsc sc) c c'
        | _ => false) = true → ∀ (s : Shared) (H : Hp) (Cd : Addr) (cl : List (Str × Addr)) (fp : List Addr), PTs (X.blk s H lsc (compEnvC lsc cl Cd X.env) fp) ifs (anyT g (evE C c')) := fun {ifs c'} h7 s H Cd cl fp => by
      cases ifs with
      | nil =>
        simp only at h7
        split at h7
        · exact PTs.any0
        · cases h7
      | cons c r =>
        cases r with
        | nil => exact PTs.any1 fun hs => ST _ _ _ _ _ _ _ (o.blk h1 h2 ok s H Cd cl fp hs) _ _ h7
        | cons _ _ => cases h7
    have hns : notSet iter1 = true := by
      unfold kIt at h9
      simp only [Bool.and_eq_true] at h9
      exact h9.1
    refine ⟨tg, iter, tg1, iter1, ifs, ifs1, ownOf cc.N vs, vs1, tgR g.K t, tgR g.K t1, _, _, _, _, _, rfl, fun σ H Q hh => ?_, (o.room h1).2, ok, fun i hi => by rw [ownOf_map]; exact h4b i hi, i1, i2, hns, ptg h6, pts h7,
      fun s H Cd cl fp => PI.any fun hs => (kIt_ok S (o.blk h1 h2 ok s H Cd cl fp hs) h9).1, ptg h10, pts h11, fun s H Cd cl fp => PE.any fun hs => S _ _ _ _ _ _ _ (o.blk h1 h2 ok s H Cd cl fp hs) _ _ h8⟩
    have e : evE C (.lc2 mu vs vs1 t k es' c' t1 k1 es1' c1' elt') = lc2F mu t.put ((ownOf cc.N vs).map (·.2)) (itF k (evEs C es')) (evE C c') (itF k1 (evEs C es1')) vs1 t1.put (evE C c1') (evE C elt') := by
      funext env L
      simp only [evE, lc2F, itF, ownOf_map]
      cases evEs C es' env L with
      | ok xs L1 => simp only [Ev.R.bind_ok]; cases itD k xs <;> rfl
      | exc c w L1 => rfl
      | bad => rfl
    rw [e] at hh
    exact lc2_core' (o.side h2) (tgR_ok g.K t) (fun v hv => by rw [ownOf_map]; exact h4 v hv) (tgR_ok g.K t1) h4a hh
theorem kMin_ok (S : Snd R) (o : Good cc sc n X g W C) {x : Str} {a : Expr} {kw : Keyword} {p pos : Pos} {ee : E} (h : kMin R cc sc x a kw ee = true) : PE X (.Call (.Name x p) [a] [kw] pos) (liftE g W (evE C ee)) := by
  have hsc := o.sc
  subst hsc
  cases ee <;> try (simp [kMin] at h <;> done)
  case mink i b' a' =>
    simp only [kMin] at h
    split at h
    · rename_i key pn pp b lsc lp kp
      simp only [Bool.and_eq_true, Bool.not_eq_true', decide_eq_true_eq, beq_iff_eq] at h
      obtain ⟨⟨⟨⟨⟨⟨⟨⟨⟨⟨h0, h1⟩, h2⟩, h3⟩, h4⟩, h5⟩, h6⟩, h7⟩, h8⟩, h9⟩, h10⟩ := h
      subst h1
      subst h2
      obtain ⟨q0, q1, ⟨c, P, q2, q3, q4, q5⟩, _⟩ := o.lam h3
      have Lp := lamP_by h8
      have e : evE C (.mink i b' a') = minkF i (evE C a') (evE C b') := by
        funext env L
        simp only [evE]
      rw [e]
      refine se_mink (kb := 4 * n + 1) (gd := cc.gd) o.K q0 (o.room h0).2 o.un (gl_ok h4) (o.bn _ h5) (S _ _ _ _ _ _ _ o _ _ h7) h6 q2 q3 q4 q5 q1 o.gdA Lp (by rw [o.N]; exact h9) o.nd (fun A outer s H fa c' hr hg => ?_)
      have G1 : Good { blkCC cc with fn := false } lsc n (LamX.lamCx X A outer s H noE lsc fa c') g W0 C :=
        ⟨rfl, Lp.kind, o.N, o.nd, o.K, by have := hr.un; show (A.deeper _).units + 64 < cLine; omega, takes_of rfl rfl rfl rfl, hg, fun _ => ⟨hr, rfl⟩, o.side, fun _ => q0.1, o.bn, o.cs, o.fs, o.xs, fun h => (by cases h), fun i h => (by cases h), fun a h => (by cases h), fun h => (by cases h), o.ks, o.cl⟩
      exact S _ _ n _ _ _ _ G1 _ _ h10
    · cases h
theorem kCall_ok (S : Snd R) (o : Good cc sc n X g W C) {x : Str} {es : List Expr} {p pos : Pos} {ee : E} (h : kCall R cc sc x es ee = true) : PE X (.Call (.Name x p) es [] pos) (liftE g W (evE C ee)) := by
  have hsc := o.sc
  subst hsc
  cases ee <;> try (simp [kCall] at h <;> done)
  case call f es' =>
    simp only [kCall, Bool.and_eq_true, Bool.not_eq_true', decide_eq_true_eq] at h
    obtain ⟨⟨⟨⟨⟨⟨h1, h2⟩, h3⟩, h4⟩, h5⟩, h7⟩, h8⟩ := h
    obtain ⟨fa, fd, ps, m1, m2, m3, m4⟩ := o.fs _ h5
    match es, es', h7, h8 with
    | [], [], _, _ =>
      have e : evE C (.call f []) = fun _ L => C.call f [] L := by
        funext env L
        simp only [evE, evEs, Ev.R.bind_ok]
      rw [e]
      exact se_call0 (G.base_with (o.side h2)) m4 ((o.room h1).1.mono (Nat.le_succ _)) o.gdA (gl_ok h3) m1 m2 m3 o.tk (nd_ok h4).1
    | [], _ :: _, _, h8 => simp [all2] at h8
    | e :: es, es', h7, h8 => exact se_call (hid := g.hid) (G.base_with (o.side h2)) m4 ((o.room h1).1.mono (Nat.le_succ _)) o.gdA (gl_ok h3) m1 m2 m3 o.tk (args_ok S o h7 h8) h7 (nd_ok h4).1
  case bi b es' =>
    simp only [kCall, Bool.and_eq_true, Bool.not_eq_true', Bool.or_eq_true, decide_eq_true_eq, beq_iff_eq] at h
    obtain ⟨⟨⟨⟨⟨⟨⟨h1, h2⟩, h3⟩, h4⟩, h5⟩, h6⟩, h7⟩, h8⟩ := h
    subst h2
    match es, h6, h7, h8 with
    | e :: es, _, h7, h8 => exact se_bi o.K (o.room h1).2 o.un b (fun hb => h5.elim (fun z => absurd hb z) o.gdA) (gl_ok h3) (o.bn _ h4) h7 (args_ok S o h7 h8)
  case isin a' ts =>
    match ts, h with
    | [t], h =>
      simp only [kCall] at h
      split at h
      · simp only [Bool.and_eq_true, decide_eq_true_eq, beq_iff_eq] at h
        obtain ⟨⟨⟨⟨⟨⟨⟨h1, h2⟩, h3⟩, h4⟩, h5⟩, h6⟩, h7⟩, h8⟩ := h
        subst h1; subst h4
        exact se_isin o.K (gl_ok h2) (o.bn _ h3) (gl_ok h5) (o.bn _ h6) h7 (S _ _ _ _ _ _ _ o _ _ h8)
      · cases h
    | [], h => simp [kCall] at h
    | _ :: _ :: _, h => simp [kCall] at h
  case new c f es' =>
    simp only [kCall, Bool.and_eq_true, Bool.not_eq_true', decide_eq_true_eq] at h
    obtain ⟨⟨⟨⟨⟨⟨⟨h1, h2⟩, h3⟩, h4⟩, h5⟩, h6⟩, h7⟩, h8⟩ := h
    obtain ⟨k1, k2, k3, k4, k5⟩ := o.cl
    obtain ⟨q1, q2⟩ := k1 c x h5
    obtain ⟨fa, fd, ps, m1, m2, m3⟩ := k5 _ h6
    have e : evE C (.new c f es') = fun env L => (evEs C es' env L).bind fun xs L => (C.call f (.loc L.length :: xs) (L ++ [.ins c []])).bind (newEnd L.length) := by
      funext env L
      simp only [evE]
    rw [e]
    refine se_new (g0 := g.base) (c := c) (call := C.call f) o.K (G.base_with (o.side h2)) m1 q2 m3 (o.room h1).1 o.gdA (gl_ok h3) q1 m2 o.tk (args_ok S o h7 h8) h7 (fun he env L => ?_) (nd_ok h4).1
    subst he
    cases es' with
    | nil => simp only [evEs]
    | cons _ _ => simp [all2] at h8
  case mlist a' =>
    simp only [kCall] at h
    split at h
    · rename_i a
      simp only [Bool.and_eq_true, decide_eq_true_eq, beq_iff_eq] at h
      obtain ⟨⟨⟨⟨h1, h2⟩, h3⟩, h7⟩, h8⟩ := h
      subst h1
      have e : evE C (.mlist a') = fun env L => (evE C a' env L).bind fun x L => (opt (itemsL L x) L).bind fun xs L => if xs.length ≤ size16 then .ok (.loc L.length) (L ++ [.lst xs]) else .bad := by
        funext env L
        simp only [evE]
      rw [e]
      exact se_mlist o.K (gl_ok h2) (o.bn _ h3) h7 (S _ _ _ _ _ _ _ o _ _ h8)
    · cases h
  case mint a' =>
    simp only [kCall] at h
    split at h
    · rename_i a
      simp only [Bool.and_eq_true, Bool.not_eq_true', decide_eq_true_eq, beq_iff_eq] at h
      obtain ⟨⟨⟨⟨⟨h0, h1⟩, h2⟩, h3⟩, h7⟩, h8⟩ := h
      subst h1
      have e : evE C (.mint a') = fun env L => (evE C a' env L).bind fun x L => opt (mintD L x) L := by
        funext env L
        simp only [evE]
      rw [e]
      exact se_mint o.K (o.room h0).2 o.un (gl_ok h2) (o.bn _ h3) h7 (S _ _ _ _ _ _ _ o _ _ h8)
    · cases h
  case lenset a' =>
    simp only [kCall] at h
    split at h
    · rename_i y yp a q
      simp only [Bool.and_eq_true, Bool.not_eq_true', decide_eq_true_eq, beq_iff_eq] at h
      obtain ⟨⟨⟨⟨⟨⟨⟨⟨h0, h1⟩, h2⟩, h3⟩, h4⟩, h5⟩, h6⟩, h7⟩, h8⟩ := h
      subst h1
      subst h4
      have e : evE C (.lenset a') = fun env L => (evE C a' env L).bind fun x L => opt (lensetD x) L := by
        funext env L
        simp only [evE]
      rw [e]
      exact se_lenset o.K (o.room h0).2 (gl_ok h2) (o.bn _ h3) (gl_ok h5) (o.bn _ h6) h7 (S _ _ _ _ _ _ _ o _ _ h8)
    · cases h
  case lam f b' =>
    simp only [kCall] at h
    split at h
    · rename_i ps b lsc lp
      simp only [Bool.and_eq_true, decide_eq_true_eq] at h
      obtain ⟨⟨⟨⟨⟨⟨h1, h2⟩, h3⟩, h4⟩, h5⟩, h6⟩, h7⟩ := h
      obtain ⟨q0, q1, ⟨c, P, q2, q3, q4, q5⟩, q6⟩ := o.lam h1
      obtain ⟨gf, m1, fd, params, bg, sg, dvs, kws, Ng, a, fn, fbody, r1, r2, r3, r4, r5, r6, r7⟩ := q6 _ h4
      have hps : ps = ⟨[], [], none, [], [], none, []⟩ := by
        obtain ⟨a1, a2, a3, a4, a5, a6, a7⟩ := ps
        cases a1 <;> cases a2 <;> cases a3 <;> cases a4 <;> cases a5 <;> cases a6 <;> cases a7 <;> first | rfl | cases h5
      subst hps
      have Ls := LamX.lamS_by h6
      have hbw := G.base_with q0
      have main := se_lam (X := X) (g := g) (W := W) (gd := cc.gd) (k := 4 * n + 2) (kb := 4 * n + 1) (lparams := ⟨[], [], none, [], [], none, []⟩) (lpos := lp) (p := p) (pos := pos) (body := b) (fbody := fbody) (fe := evE C b') q0 (gl_ok h2) m1 r1 r2 r3 r4 q2 q3 q4 q5 q1 (Nat.le_succ _) o.gdA Ls rfl (fun q cl pm cv ctv => rfl) r5
        (fun A outer s H E fa c' hr hg => ?_) (fun cdv A outer s H m0 fa th hr hg ht => ?_) (nd_ok h3).1
      · have e : evE C (.lam f b') = fun env L => (endR fn L (fbody (evE C b' env) (List.replicate fn.nl none) L)).nox := by
          funext env L
          simp only [evE]
          exact r6 _ L
        rw [e]
        exact main
      · have G1 : Good { blkCC cc with fn := false } lsc n (LamX.lamCx X A outer s H E lsc fa c') g (fun cls d _ H => E cls d H) C :=
          ⟨rfl, Ls.kind, o.N, o.nd, o.K, by have := hr.un; show (A.deeper _).units + 64 < cLine; omega, takes_of rfl rfl rfl rfl, hg, fun _ => ⟨hr, rfl⟩, o.side, fun _ => q0.1, o.bn, o.cs, o.fs, o.xs, fun h => (by cases h), fun i h => (by cases h), fun a h => (by cases h), fun h => (by cases h), o.ks, o.cl⟩
        exact S _ _ n _ _ _ _ G1 _ _ h7
      · have := r7 g.hid cdv A outer s H m0 fa th hr hg
        rw [← hbw] at this
        exact this ht
    · cases h
  case thunk =>
    simp only [kCall] at h
    split at h
    · simp only [Bool.and_eq_true, decide_eq_true_eq] at h
      obtain ⟨⟨h1, h2⟩, h3⟩ := h
      obtain ⟨f, m0, th, k, t1, t2, t3, t4, t5, t6, t7⟩ := o.th x h1
      have main := se_thunk (p1 := p) (p2 := pos) t2 t3 t4 t6 o.gdA o.tk t5 t7 (vis_ok h2) (nd_ok h3).1 (nd_ok h3).2
      have e : evE C .thunk = fun env L => match env[0]?, some th with
        | some none, some th => th L
        | _, _ => .bad := by
        funext env L
        simp only [evE, t1]
        cases env[0]? with
        | none => rfl
        | some o => cases o <;> rfl
      rw [e]
      exact main
    · cases h
  case xis i c =>
    simp only [kCall] at h
    split at h
    · rename_i nn pn y py
      simp only [Bool.and_eq_true, decide_eq_true_eq, beq_iff_eq] at h
      obtain ⟨⟨⟨⟨⟨⟨⟨⟨⟨h1, h2⟩, h3⟩, h4⟩, h5⟩, h6⟩, h7⟩, h8⟩, h9⟩, h10⟩ := h
      obtain ⟨X', a, oe, c0, w, d, pn', rfl, p1, p2, p3, p4⟩ := o.pin i h4
      subst h1
      have main := se_xis (X := X') (W := W) (np := p) (pos := pos) (p := pn) (p2 := py) (pn := pn') p1 o.xs h8 (gl_ok h9) (nd_ok h10).1 (gl_ok h2) (o.bn _ h3) p3 p4 (show X'.N[i]? = some nn from by rw [show X'.N = cc.N from o.N]; exact h5) (vis_ok h6) (nd_ok h7).1 (nd_ok h7).2
      have e : evE C (.xis i c) = fun env L => match env[i]? with | some none => .ok (.bl (c0 == c || c == 0)) L | _ => .bad := by
        funext env L
        simp only [evE, p2]
        cases env[i]? with
        | none => rfl
        | some o => cases o <;> rfl
      rw [e]
      exact main
    · cases h
  case xisV i =>
    simp only [kCall] at h
    split at h
    · rename_i nn pn y py
      simp only [Bool.and_eq_true, decide_eq_true_eq, beq_iff_eq] at h
      obtain ⟨⟨⟨⟨⟨⟨⟨⟨⟨h1, h2⟩, h3⟩, h4⟩, h5⟩, h6⟩, h7⟩, h8⟩, h9⟩, h10⟩ := h
      obtain ⟨X', a, oe, c0, w, d, pn', rfl, p1, p2, p3, p4⟩ := o.pin i h4
      subst h1; subst h8
      have main := se_xisV (X := X') (W := W) (np := p) (pos := pos) (p := pn) (p2 := py) (pn := pn') p1 o.xs (gl_ok h9) (o.bn _ h10) (gl_ok h2) (o.bn _ h3) p3 p4 (show X'.N[i]? = some nn from by rw [show X'.N = cc.N from o.N]; exact h5) (vis_ok h6) (nd_ok h7).1 (nd_ok h7).2
      have e : evE C (.xisV i) = fun env L => match env[i]? with | some none => .ok (.bl true) L | _ => .bad := by
        funext env L
        simp only [evE, p2]
        cases env[i]? with
        | none => rfl
        | some o => cases o <;> rfl
      rw [e]
      exact main
    · cases h
theorem kws_ok (S : Snd R) (o : Good cc sc n X g W C) : ∀ {kws : List Keyword} {es' : List E}, all2 (fun (k : Keyword) e => R cc sc k.value e) kws es' = true → PK X kws (liftA g W (evEs C es'))
  | [], [], _ => by
    have e : evEs C [] = fun _ L => Ev.R.ok [] L := by funext env L; simp only [evEs]
    rw [e]; exact sk_nil
  | ⟨nm, a, kp⟩ :: kws, f :: fs, h => by
    simp only [all2, Bool.and_eq_true] at h
    have e : evEs C (f :: fs) = fun env L => (evE C f env L).bind fun x L => (evEs C fs env L).bind fun xs L => .ok (x :: xs) L := by funext env L; simp only [evEs]
    rw [e]
    exact sk_cons (S cc sc n X g W C o a f h.1) (kws_ok S o h.2)
  | [], _ :: _, h => by simp [all2] at h
  | _ :: _, [], h => by simp [all2] at h
theorem kCallK_ok (S : Snd R) (o : Good cc sc n X g W C) {x : Str} {kws : List Keyword} {p pos : Pos} {ee : E} (h : kCallK (R cc sc) cc sc x kws ee = true) : PE X (.Call (.Name x p) [] kws pos) (liftE g W (evE C ee)) := by
  have hsc := o.sc
  subst hsc
  cases ee <;> try (simp [kCallK] at h <;> done)
  case call f es' =>
    simp only [kCallK, Bool.and_eq_true, Bool.not_eq_true'] at h
    obtain ⟨⟨⟨⟨⟨h1, h2⟩, h3⟩, h4⟩, h5⟩, h6⟩ := h
    obtain ⟨q, hq, h5⟩ := List.any_eq_true.mp h5
    simp only [Bool.and_eq_true, decide_eq_true_eq] at h5
    obtain ⟨⟨e1, e2⟩, e3⟩ := h5
    subst e1; subst e2
    obtain ⟨fa, fd, m1, m2, m3, m4⟩ := o.ks _ hq
    exact se_callK (G.base_with (o.side h2)) m4 ((o.room h1).1.mono (Nat.le_succ _)) o.gdA (gl_ok h3) m1 m2 m3 o.tk (kws_ok S o h6) e3 (nd_ok h4).1
theorem kAttr_ok (S : Snd R) (o : Good cc sc n X g W C) {ob : Expr} {m : Str} {ap cp : Pos} {es : List Expr} {ee : E} (h : kAttr (R cc sc) cc ob m ap es cp ee = true) : PE X (.Call (.Attribute ob m ap) es [] cp) (liftE g W (evE C ee)) := by
  cases ee <;> try (simp [kAttr] at h <;> done)
  case app o' a' =>
    simp only [kAttr] at h
    split at h
    · simp only [Bool.and_eq_true, beq_iff_eq] at h
      obtain ⟨⟨⟨⟨⟨h1, h2⟩, h3⟩, h4⟩, h5⟩, h6⟩ := h
      subst h1
      exact se_app o.K (S _ _ _ _ _ _ _ o _ _ h5) (S _ _ _ _ _ _ _ o _ _ h6) h2 (by simp [h3]) h4
    · cases h
  case ext o' a' =>
    simp only [kAttr] at h
    split at h
    · simp only [Bool.and_eq_true, beq_iff_eq] at h
      obtain ⟨⟨⟨⟨⟨h1, h2⟩, h3⟩, h4⟩, h5⟩, h6⟩ := h
      subst h1
      exact se_ext (apos := ap) (cpos := cp) o.K (S _ _ _ _ _ _ _ o _ _ h5) (S _ _ _ _ _ _ _ o _ _ h6) h2 (by simp [h3]) h4
    · cases h
  case meth o' ms es' =>
    simp only [kAttr, Bool.and_eq_true, Bool.not_eq_true', decide_eq_true_eq] at h
    obtain ⟨⟨⟨⟨⟨⟨⟨⟨h1, h2⟩, h3⟩, h4⟩, h5⟩, h6⟩, h7⟩, h8⟩, h9⟩ := h
    cases ec : conE (es'.drop es.length) with
    | none => rw [ec] at h9; cases h9
    | some cs =>
      rw [ec] at h9
      obtain ⟨k1, k2, k3, k4, k5⟩ := o.cl
      have e : evE C (.meth o' ms es') = fun env L => (evE C o' env L).bind fun x L => (opt (methAt L x ms) L).bind fun j L => (evEs C (es'.take es.length) env L).bind fun xs L => C.call j (x :: (xs ++ cs)) L := by
        funext env L
        have ev : ∀ L, evEs C es' env L = (evEs C (es'.take es.length) env L).bind fun xs L => .ok (xs ++ cs) L := fun L => by
          conv => lhs; rw [← List.take_append_drop es.length es']
          rw [evEs_app]
          simp only [conE_ev ec, Ev.R.bind_ok]
        simp only [evE, ev]
        cases evE C o' env L with
        | ok x L1 =>
          simp only [Ev.R.bind_ok]
          cases opt (methAt L1 x ms) L1 with
          | ok j L2 =>
            simp only [Ev.R.bind_ok]
            cases evEs C (es'.take es.length) env L2 <;> rfl
          | exc c w L2 => rfl
          | bad => rfl
        | exc c w L1 => rfl
        | bad => rfl
      rw [e]
      have mem : ∀ c j, ms.lookup c = some j → ∃ q ∈ cc.mt, q.1 = c ∧ q.2.1 = m ∧ q.2.2.1 = j ∧ q.2.2.2 = cs := fun c j hl => by
        have hm := lookup_memN hl
        obtain ⟨q, hq, hh⟩ := List.any_eq_true.mp (List.all_eq_true.mp h9 _ hm)
        simp only [Bool.and_eq_true, beq_iff_eq, decide_eq_true_eq] at hh
        exact ⟨q, hq, hh.1.1.1, hh.1.1.2, hh.1.2, eqCs_ok hh.2⟩
      have hcs : ms = [] ∨ cs.all conB = true := by
        cases ms with
        | nil => exact .inl rfl
        | cons p r =>
          obtain ⟨q, hq, e1, e2, e3, e4⟩ := mem p.1 p.2 (by simp [List.lookup])
          have := (k4 q hq).1
          rw [e4] at this
          exact .inr this
      have M : MsOk X g g.base cc.gd (4 * n) C.call m ms cs := fun c j hl => by
        obtain ⟨q, hq, e1, e2, e3, e4⟩ := mem c j hl
        obtain ⟨_, f, fd, ps, ds, m1, m2, m3, m4⟩ := k4 q hq
        rw [e1, e2] at m1
        rw [e4] at m3
        rw [e3] at m4
        exact ⟨f, fd, ps, ds, m1, m2, m3, m4⟩
      rcases hcs with hcs | hcs
      · subst hcs
        refine ⟨fun pins s σ H Q I ⟨env, L, m', R, hh⟩ => ?_⟩
        have bad : (fun env L => (evE C o' env L).bind fun x L => (opt (methAt L x []) L).bind fun j L => (evEs C (es'.take es.length) env L).bind fun xs L => C.call j (x :: (xs ++ cs)) L) = fun env L => (evE C o' env L).bind fun x L => (opt (methAt L x []) L).bind fun j L => (evEs C (es'.take es.length) env L).bind fun xs L => C.call j (x :: (xs ++ [])) L := by
          funext env L
          cases evE C o' env L with
          | ok x L1 =>
            have z : methAt L1 x [] = none := by
              unfold methAt
              split
              · split <;> rfl
              · rfl
            simp only [Ev.R.bind_ok, z, opt_none, Ev.R.bind_bad]
          | exc c w L1 => rfl
          | bad => rfl
        have main := se_meth (apos := ap) (cpos := cp) (g0 := g.base) (ms := []) (cs := []) (call := C.call) (mn := m) (W := W) o.K (G.base_with (o.side h2)) rfl (fun c j hl => by cases hl) ((o.room h1).1.mono (Nat.le_succ _)) o.gdA o.tk (S _ _ _ _ _ _ _ o _ _ h7) (args_ok S o h5 h8) h5 (fun he env L => by
          subst he; simp only [List.length_nil, List.take_zero, evEs]) h3 h4 (decide_eq_true h6)
        refine main.run pins s σ H Q I ⟨env, L, m', R, ?_⟩
        have e2 := congrFun (congrFun bad env) L
        exact Eq.mp (congrArg (Out g (Rep g) W σ H m' Q) e2) hh
      · exact se_meth (apos := ap) (cpos := cp) (g0 := g.base) o.K (G.base_with (o.side h2)) hcs M ((o.room h1).1.mono (Nat.le_succ _)) o.gdA o.tk (S _ _ _ _ _ _ _ o _ _ h7) (args_ok S o h5 h8) h5 (fun he env L => by
          subst he; simp only [List.length_nil, List.take_zero, evEs]) h3 h4 (decide_eq_true h6)
theorem kFld_ok (S : Snd R) (o : Good cc sc n X g W C) {ob : Expr} {m : Str} {pos : Pos} {ee : E} (h : kFld (R cc sc) cc sc ob m ee = true) : PE X (.Attribute ob m pos) (liftE g W (evE C ee)) := by
  cases ee <;> try (simp [kFld] at h <;> done)
  case attr o' i =>
    simp only [kFld, Bool.and_eq_true, decide_eq_true_eq] at h
    obtain ⟨⟨h1, h2⟩, h3⟩ := h
    have e : evE C (.attr o' i) = fun env L => (evE C o' env L).bind fun x L => opt (attrD L x i) L := by
      funext env L
      simp only [evE]
    rw [e]
    exact se_attr o.K (S _ _ _ _ _ _ _ o _ _ h3) (o.cl.2.1 i m h2) h1
  case xwhat i =>
    simp only [kFld] at h
    split at h
    · rename_i nn pn
      simp only [Bool.and_eq_true, decide_eq_true_eq, beq_iff_eq] at h
      obtain ⟨⟨⟨⟨h1, h2⟩, h3⟩, h4⟩, h5⟩ := h
      have hsc := o.sc
      subst hsc
      obtain ⟨X', a, oe, c0, w, d, pn', rfl, p1, p2, p3, p4⟩ := o.pin i h2
      subst h1
      have main := se_what (X := X') (W := W) (p := pn) (pos := pos) (pn := pn') p1 o.xs p3 p4 (show X'.N[i]? = some nn from by rw [show X'.N = cc.N from o.N]; exact h3) (vis_ok h4) (nd_ok h5).1 (nd_ok h5).2
      have e : evE C (.xwhat i) = fun env L => match env[i]? with | some none => .ok w L | _ => .bad := by
        funext env L
        simp only [evE, p2]
        cases env[i]? with
        | none => rfl
        | some o => cases o <;> rfl
      rw [e]
      exact main
    · cases h
theorem ckE1_ok (S : Snd R) (ST : SndT RT) : Snd (ckE1 R RT) := by
  intro cc sc n X g W C o e ee h
  unfold ckE1 at h
  split at h
  · exact kName_ok o h
  · split at h
    · exact ckC_ok h
    · cases h
  · split at h
    · simp only [Bool.and_eq_true] at h
      have e1 := boE_ok h.1.1
      subst e1
      rename_i op _ _
      obtain ⟨r, r1, r2⟩ := bin_all (g := g) o.K op
      exact se_op r1 r2 (S _ _ _ _ _ _ _ o _ _ h.1.2) (S _ _ _ _ _ _ _ o _ _ h.2)
    · cases h
  · exact kUn_ok S o h
  · exact (kCmp_ok S o h).1
  · exact kBool_ok S o h
  · split at h
    · simp only [Bool.and_eq_true] at h
      exact se_ife (ST _ _ _ _ _ _ _ o _ _ h.1.1) (S _ _ _ _ _ _ _ o _ _ h.1.2) (S _ _ _ _ _ _ _ o _ _ h.2)
    · cases h
  · split at h
    · simp only [Bool.and_eq_true] at h
      exact se_tup (args_ok S o h.1 h.2)
    · cases h
  · split at h
    · simp only [Bool.and_eq_true] at h
      exact se_lst (args_ok S o h.1 h.2)
    · simp only [Bool.and_eq_true] at h
      exact se_mlst (args_ok S o h.1 h.2)
    · cases h
  · exact kSub_ok S o h
  · exact kCall_ok S o h
  · exact kCallK_ok S o h
  · exact kMin_ok S o h
  · exact kAttr_ok S o h
  · exact kFld_ok S o h
  · rcases Bool.or_eq_true_iff.mp h with h | h
    · obtain ⟨tg, iter, ifs, own, gt, wi, tt, te, rfl, e2, e4, e5, e7, e8, e9, e10, e11⟩ := kLc_ok S ST o h
      exact PE.weak (pe_lc e4 o.nd e7 e5 e9 e10 e11 (folded_ns e8)) e2
    · obtain ⟨tg, iter, tg1, iter1, ifs, ifs1, own, vs1, gt, gt1, wi, wi1, tt, tt1, te, rfl, e2, e4, e5, e6, e7, e8, e8a, e9, e10, e11, e12, e13, e14⟩ := kLc2_ok S ST o h
      exact PE.weak (pe_lc2 e4 o.nd e7 e5 e6 e9 e10 e11 e12 e13 e14 (folded_ns e8) (fun env => folded_ns e8a)) e2
  · cases h
end
end Ev
end

section
set_option Elab.async false
set_option linter.all false
set_option maxRecDepth 100000
set_option autoImplicit false
set_option maxHeartbeats 1000000
namespace Ev
open PySem PySem.Spec PyProof.Rows L2
def isAnd : BoolOp → Bool
  | .And => true | .Or => false
def kW (RT : Expr → E → Bool) (op : BoolOp) : List Expr → E → Bool
  | [], _ => false
  | [a], ee => RT a ee
  | a :: b :: r, ee => match ee with
    | .and a' b' => isAnd op && RT a a' && kW RT op (b :: r) b'
    | .or a' b' => !isAnd op && RT a a' && kW RT op (b :: r) b'
    | _ => false
def ckT1 (R RT : Ck) : Ck := fun cc sc e ee => match e with
  | .Compare a ops bs _ => kCmp (R cc sc) a ops bs ee
  | .UnaryOp .Not a _ => (match ee with
    | .not a' => RT cc sc a a'
    | _ => false)
  | .BoolOp op es _ => kW (RT cc sc) op es ee
  | e => plainT e && R cc sc e ee
def ck : Nat → Bool → Ck
  | 0, _ => fun _ _ _ _ => false
  | n + 1, false => ckE1 (ck n false) (ck n true)
  | n + 1, true => ckT1 (ck n false) (ck n true)
section
variable {R RT : Ck} {cc : CC} {sc : Scope} {n : Nat} {X : Cx} {g : G} {W : WX} {C : Cf}
theorem kW_ok (ST : SndT RT) (o : Good cc sc n X g W C) {op : BoolOp} {p : Pos} : ∀ {es : List Expr} {ee : E}, kW (RT cc sc) op es ee = true → PW X (.BoolOp op es p) (liftT g W (truR (evE C ee)))
  | [], _, h => by cases h
  | [a], ee, h => by
    cases op with
    | And => exact sw_and1 (ST _ _ _ _ _ _ _ o _ _ h)
    | Or => exact sw_or1 (ST _ _ _ _ _ _ _ o _ _ h)
  | a :: b :: r, ee, h => by
    cases ee <;> try (simp [kW] at h <;> done)
    case and a' b' =>
      simp only [kW, Bool.and_eq_true] at h
      cases op with
      | And => exact sw_and (ST _ _ _ _ _ _ _ o _ _ h.1.2) (kW_ok ST o h.2)
      | Or => cases h.1.1
    case or a' b' =>
      simp only [kW, Bool.and_eq_true] at h
      cases op with
      | Or => exact sw_or (ST _ _ _ _ _ _ _ o _ _ h.1.2) (kW_ok ST o h.2)
      | And => cases h.1.1
theorem ckT1_ok (S : Snd R) (ST : SndT RT) : SndT (ckT1 R RT) := by
  intro cc sc n X g W C o e ee h
  unfold ckT1 at h
  split at h
  · exact (kCmp_ok S o h).2
  · split at h
    · exact st_not (ST _ _ _ _ _ _ _ o _ _ h)
    · cases h
  · exact (kW_ok ST o h).pt
  · simp only [Bool.and_eq_true] at h
    exact st_val o.K (S _ _ _ _ _ _ _ o _ _ h.2) (isTrue_plain h.1)
theorem ck_ok : ∀ n, Snd (ck n false) ∧ SndT (ck n true)
  | 0 => ⟨fun _ _ _ _ _ _ _ _ _ _ h => (by cases h), fun _ _ _ _ _ _ _ _ _ _ h => (by cases h)⟩
  | n + 1 => ⟨ckE1_ok (ck_ok n).1 (ck_ok n).2, ckT1_ok (ck_ok n).1 (ck_ok n).2⟩
end
end Ev
end

section
set_option Elab.async false
set_option linter.all false
set_option maxRecDepth 100000
set_option autoImplicit false
set_option maxHeartbeats 1000000
/-! the checker of statements -/
namespace Ev
open PySem PySem.Spec PyProof.Rows L2
structure GoodS (cc : CC) (sc : Scope) (n : Nat) (X : Cx) (g : G) (W : WX) (C : Cf) : Prop where
  o : Good cc sc n X g W C
  st : X.stack = X.env :: X.outer
  fr : X.env.frame = some X.env.locals
  pass : PassesOwn (model X.prog X.w) X.A X.env X.xe
abbrev CkS := CC → Scope → Stmt → S → Bool
def SndS (Q : CkS) : Prop := ∀ (cc : CC) (sc : Scope) (n : Nat) (X : Cx) (g : G) (W : WX) (C : Cf), GoodS cc sc n X g W C → ∀ s ss, Q cc sc s ss = true → PS X s (liftS g W (exS C ss))
def SndL (Q : CC → Scope → List Stmt → List S → Bool) : Prop := ∀ (cc : CC) (sc : Scope) (n : Nat) (X : Cx) (g : G) (W : WX) (C : Cf), GoodS cc sc n X g W C → ∀ s ss, Q cc sc s ss = true → PSs X s (liftS g W (exSs C ss))
theorem list_ok {Q : CkS} (h : SndS Q) : SndL fun cc sc => all2 (Q cc sc) := by
  intro cc sc n X g W C o s
  induction s with
  | nil =>
    intro ss h1
    cases ss with
    | nil => exact ss_nil
    | cons _ _ => cases h1
  | cons st r ih =>
    intro ss h1
    cases ss with
    | nil => cases h1
    | cons s' r' =>
      simp only [all2, Bool.and_eq_true] at h1
      exact ss_cons (h _ _ _ _ _ _ _ o _ _ h1.1) (ih _ h1.2)
def sFor (cc : CC) (sc : Scope) (R : Expr → E → Bool) (Q : List Stmt → List S → Bool) (tg iter : Expr) (body orelse : List Stmt) : S → Bool
  | .forl t e' body' => !cc.hot && orelse.isEmpty && notSet iter && R iter e' && ckTg cc.N sc (fun _ => cc.fn) tg t && Q body body'
  | .for_ t k es' body' => !cc.hot && orelse.isEmpty && kIt cc sc R tg k iter es' && ckTg cc.N sc (fun _ => cc.fn) tg t && Q body body'
  | _ => false
def ckTa (cc : CC) (sc : Scope) : Expr → Ta → Bool
  | .Name x _, .nm i => ckNm cc.N sc (fun _ => cc.fn) x i
  | .Attribute (.Name x _) y _, .at_ i cs f => decide (cc.N[i]? = some x) && visB sc x && ndB x && decide (cc.fl[f]? = some y) && cs.all fun c => decide ((c, f) ∈ cc.kf)
  | _, _ => false
def sAsg (R RT : Ck) (cc : CC) (sc : Scope) (ts : List Expr) (v : Expr) : S → Bool
  | .set t e => (match ts with
    | [.Name y py] => (match t with
      | .nm i => (match v with
        | .ListComp elt gens lsc vp => if swLc sc lsc y py vp then decide (cc.N[i]? = some y) && decide (sc.names.lookup y = some .local) && (kLc R RT cc sc elt gens lsc e || kLc2 R RT cc sc elt gens lsc e) else ckNm cc.N sc (fun _ => cc.fn) y i && R cc sc v e
        | v => !isLc v && ckNm cc.N sc (fun _ => cc.fn) y i && R cc sc v e)
      | _ => false)
    | [.Tuple ts' k p] => !cc.hot && !isLc v && ckTg cc.N sc (fun _ => cc.fn) (.Tuple ts' k p) t && R cc sc v e && (match v with
      | .Tuple vs _ _ => (match parS sc ts' vs with
        | some none => true
        | _ => false)
      | _ => true)
    | _ => false)
  | .par is es' => (match ts, v, is with
    | [.Tuple [.Name x px, .Name y py] kt pt], .Tuple [a, b] k2 pt2, [i, j] => !cc.hot && decide (parS sc [.Name x px, .Name y py] [a, b] = some (some [x, y])) && decide (i ≠ j) && decide (cc.N[i]? = some x) && decide (cc.N[j]? = some y) &&
      decide (sc.names.lookup x = some .local) && decide (sc.names.lookup y = some .local) && notStar a && notStar b && all2 (R cc sc) [a, b] es'
    | _, _, _ => false)
  | .setA cs o' i v' => (match ts with
    | [.Attribute o y _] => !isLc v && R cc sc v v' && R cc sc o o' && decide (cc.fl[i]? = some y) && cs.all fun c => decide ((c, i) ∈ cc.kf)
    | _ => false)
  | .unp tas e' => (match ts with
    | [.Tuple tts _ _] => !cc.hot && !isLc v && !isTupE v && R cc sc v e' && all2 (ckTa cc sc) tts tas
    | _ => false)
  | .setI o' i' v' => (match ts with
    | [.Subscript o i _] => plainI i && !isLc v && R cc sc v v' && R cc sc o o' && R cc sc i i'
    | _ => false)
  | _ => false
def sRaise (R : Ck) (cc : CC) (sc : Scope) (e : Option Expr) (f : Option Expr) : S → Bool
  | .raise c e' => (match e, f with
    | some (.Call (.Name x _) [a] [] _), none => !cc.hot && decide (cc.xs[c]? = some x) && glB sc x && ndB x && notStar a && R cc sc a e'
    | _, _ => false)
  | _ => false
abbrev ccN (cc : CC) (i : Nat) : CC := { cc with hot := true, side := true, pin := some i, th := none, lam := false }
abbrev cc0 (cc : CC) : CC := { cc with hot := true, side := true, pin := none, th := none, lam := false }
def sHs (cc : CC) (sc : Scope) (Q : CC → List Stmt → List S → Bool) : List ExceptHandler → Hs → Bool
  | [], .nil => true
  | .ExceptHandler (some (.Name x _)) none (b₀ :: su) _ :: r, .cons h none sb hs => decide (cc.xs[h]? = some x) && glB sc x && ndB x && Q (cc0 cc) (b₀ :: su) sb && sHs cc sc Q r hs
  | .ExceptHandler (some (.Name x _)) (some n) (b₀ :: su) _ :: r, .cons h (some i) sb hs => decide (i ≠ 0) && decide (cc.xs[h]? = some x) && glB sc x && ndB x && decide (cc.N[i]? = some n) && decide (sc.names.lookup n = some .local) && Q (ccN cc i) (b₀ :: su) sb && sHs cc sc Q r hs
  | _, _ => false
def sTry (cc : CC) (sc : Scope) (Q : CC → List Stmt → List S → Bool) (body : List Stmt) (hs : List ExceptHandler) (orelse fin : List Stmt) : S → Bool
  | .try_ body' hs' => orelse.isEmpty && fin.isEmpty && decide (cc.pin = none) && !hs.isEmpty && Q cc body body' && sHs cc sc Q hs hs'
  | _ => false
def ckS1 (R RT : Ck) (Q : CC → Scope → List Stmt → List S → Bool) : CkS := fun cc sc s ss => match s with
  | .Pass _ => (match ss with | .pass => true | _ => false)
  | .Break _ => (match ss with | .brk => true | _ => false)
  | .Continue _ => (match ss with | .cont => true | _ => false)
  | .Return (some e) _ => (match ss with | .ret e' => R cc sc e e' | _ => false)
  | .Return none _ => (match ss with | .retN => true | _ => false)
  | .Expr e _ => (match ss with | .expr e' => !isLc e && R cc sc e e' | _ => false)
  | .If c a b _ => (match ss with | .ife c' a' b' => RT cc sc c c' && Q cc sc a a' && Q cc sc b b' | _ => false)
  | .While c a b _ => (match ss with | .whl _ c' a' => b.isEmpty && RT cc sc c c' && Q cc sc a a' | _ => false)
  | .For tg iter a b _ => sFor cc sc (R cc sc) (Q cc sc) tg iter a b ss
  | .Assign ts v _ => sAsg R RT cc sc ts v ss
  | .AugAssign t op e _ => (match t, ss with
    | .Name x _, .aug i o e' => boE op o && ckNm cc.N sc (fun _ => cc.fn) x i && R cc sc e e'
    | _, _ => false)
  | .Raise e f _ => sRaise R cc sc e f ss
  | .Try b hs oe f _ => sTry cc sc (fun c => Q c sc) b hs oe f ss
  | _ => false
theorem swaps_sole {t v : Expr} {n : Nat} {env : PySem.Env} (h : isLc v = false) : swapsWithSole [t] v n env = pure false := swaps_no h
section
variable {R RT : Ck} {Q : CC → Scope → List Stmt → List S → Bool} {cc : CC} {sc : Scope} {n : Nat} {X : Cx} {g : G} {W : WX} {C : Cf}
theorem sFor_ok (SR : Snd R) (SQ : SndL Q) (G0 : GoodS cc sc n X g W C) {tg iter : Expr} {body orelse : List Stmt} {pos : Pos} {ss : S} (h : sFor cc sc (R cc sc) (Q cc sc) tg iter body orelse ss = true) : PS X (.For tg iter body orelse pos) (liftS g W (exS C ss)) := by
  have o := G0.o
  cases ss <;> try (simp [sFor] at h <;> done)
  case forl t e' body' =>
    simp only [sFor, Bool.and_eq_true, Bool.not_eq_true', List.isEmpty_iff] at h
    obtain ⟨⟨⟨⟨⟨h1, h2⟩, h3⟩, h4⟩, h5⟩, h6⟩ := h
    subst h2
    have e : exS C (.forl t e' body') = forlF t.put (locF (evE C e')) (exSs C body') := by
      funext env L
      simp only [exS, forlF, locF]
      cases evE C e' env L with
      | ok x L1 => simp only [Ev.R.bind_ok, Ev.R.st_ok]
      | exc c w L1 => rfl
      | bad => rfl
    rw [e]
    exact PS.weak (ps_for G0.pass (o.room h1).2 (si_loc o.K (SR _ _ _ _ _ _ _ o _ _ h4)) (ckTg_ok (N := cc.N) (sc := sc) (fn := fun _ => cc.fn) o.K (o.room h1).2 o.N o.nd o.sc (fun x z => .inl (o.fnT z x)) h5) (SQ _ _ _ _ _ _ _ G0 _ _ h6) (folded_ns h3)) fun D σ H hh => forl_core (tgR_ok g.K t) hh
  rename_i t k es' body'
  simp only [sFor, Bool.and_eq_true, Bool.not_eq_true', List.isEmpty_iff] at h
  obtain ⟨⟨⟨⟨h1, h2⟩, h3⟩, h4⟩, h5⟩ := h
  subst h2
  obtain ⟨i1, i2⟩ := kIt_ok SR o h3
  have main := ss_for (pos := pos) (tgR_ok g.K t) G0.pass (o.room h1).2 i1 (ckTg_ok (N := cc.N) (sc := sc) (fn := fun _ => cc.fn) o.K (o.room h1).2 o.N o.nd o.sc (fun x z => .inl (o.fnT z x)) h4) (SQ _ _ _ _ _ _ _ G0 _ _ h5) (folded_ns i2)
  have e : exS C (.for_ t k es' body') = forF t.put (itF k (evEs C es')) (exSs C body') := by
    funext env L
    simp only [exS, forF, itF]
    cases evEs C es' env L with
    | ok xs L1 => simp only [Ev.R.bind_ok, Ev.R.st_ok]; cases itD k xs <;> rfl
    | exc c w L1 => rfl
    | bad => rfl
  rw [e]
  exact main
theorem ckTas_star : ∀ {tts : List Expr} {tas : List Ta}, all2 (ckTa cc sc) tts tas = true → tts.all notStar = true
  | [], [], _ => rfl
  | t :: tts, a :: tas, h => by
    simp only [all2, Bool.and_eq_true] at h
    rw [List.all_cons, ckTas_star h.2, Bool.and_true]
    cases t <;> first | rfl | (cases a <;> simp [ckTa] at h)
  | [], _ :: _, h => by simp [all2] at h
  | _ :: _, [], h => by simp [all2] at h
theorem ckTas_ok (o : Good cc sc n X g W C) : ∀ {tts : List Expr} {tas : List Ta}, all2 (ckTa cc sc) tts tas = true → PGs X tts (taR g.K g.fld tas) ∧ ∀ t ∈ tas, ∀ i cs f, t = .at_ i cs f → ∀ c ∈ cs, NoAttr g.K (g.kad c) (g.fld f)
  | [], [], _ => ⟨pgs_nil, fun t ht => by cases ht⟩
  | t :: tts, a :: tas, h => by
    have hst := ckTas_star h
    rw [List.all_cons, Bool.and_eq_true] at hst
    simp only [all2, Bool.and_eq_true] at h
    obtain ⟨ih1, ih2⟩ := ckTas_ok o h.2
    have hsc := o.sc
    have key : PG X t (ta1 g.K g.fld a) ∧ ∀ i cs f, a = .at_ i cs f → ∀ c ∈ cs, NoAttr g.K (g.kad c) (g.fld f) := by
      cases a with
      | nm i =>
        cases t <;> try (simp [ckTa] at h <;> done)
        rename_i x p
        have h1 : ckNm cc.N sc (fun _ => cc.fn) x i = true := h.1
        obtain ⟨a1, b1, c1⟩ := ckNm_ok (p := p) o.N hsc (fun z => .inl (o.fnT z x)) h1
        exact ⟨pg_name o.nd a1 b1 c1, fun i cs f e => by cases e⟩
      | at_ i cs f =>
        cases t <;> try (simp [ckTa] at h <;> done)
        rename_i b y p
        cases b <;> try (simp [ckTa] at h <;> done)
        rename_i x px
        subst hsc
        have h1 := h.1
        simp only [ckTa, Bool.and_eq_true, decide_eq_true_eq, List.all_eq_true] at h1
        obtain ⟨⟨⟨⟨h1, h2⟩, h3⟩, h4⟩, h5⟩ := h1
        obtain ⟨k1, k2, k3, k4, k5⟩ := o.cl
        have ef : g.fld f = y := k2 f y h4
        refine ⟨?_, fun i' cs' f' e c hc => ?_⟩
        · show PG X _ (gFld g.K (tVar i) (g.fld f))
          rw [ef, ← o.K]
          exact pg_fld (pe_var (by rw [o.N]; exact h1) (vis_ok h2) (nd_ok h3).1 (nd_ok h3).2)
        · cases e
          have := k3 _ (h5 c hc)
          rw [o.K] at this
          exact this
    refine ⟨pgs_cons key.1 ih1 (by rw [assign_cons hst.1]; rfl), fun t' ht => ?_⟩
    rcases List.mem_cons.mp ht with rfl | ht
    · exact key.2
    · exact ih2 t' ht
  | [], _ :: _, h => by simp [all2] at h
  | _ :: _, [], h => by simp [all2] at h
theorem sAsg_ok (SR : Snd R) (ST : SndT RT) (G0 : GoodS cc sc n X g W C) {ts : List Expr} {v : Expr} {pos : Pos} {ss : S} (h : sAsg R RT cc sc ts v ss = true) : PS X (.Assign ts v pos) (liftS g W (exS C ss)) := by
  have o := G0.o
  have hsc := o.sc
  cases ss <;> try (simp [sAsg] at h <;> done)
  case set t e =>
    simp only [sAsg] at h
    split at h
    · rename_i y py
      cases t with
      | tp is => cases h
      | nm i =>
        simp only at h
        have plain : ∀ (v : Expr), ckNm cc.N sc (fun _ => cc.fn) y i = true → R cc sc v e = true → swapsWith v (some (.Name y py)) pos.line X.env = pure false → PS X (.Assign [.Name y py] v pos) (liftS g W (exS C (.set (.nm i) e))) := fun v h1 h2 h3 => by
          obtain ⟨a, b, c⟩ := ckNm_ok (p := py) o.N hsc (fun z => .inl (o.fnT z y)) h1
          exact ss_set o.nd a b (SR _ _ _ _ _ _ _ o _ _ h2) h3 c
        split at h
        · rename_i elt gens lsc vp
          split at h
          · rename_i hsw
            simp only [Bool.and_eq_true, decide_eq_true_eq] at h
            obtain ⟨⟨h1, h2⟩, h3⟩ := h
            rcases Bool.or_eq_true_iff.mp h3 with h3 | h3
            · obtain ⟨tg, iter, ifs, own, gt, wi, tt, te, rfl, e2, e4, e5, e7, e8, e9, e10, e11⟩ := kLc_ok SR ST o h3
              exact PS.weak (ps_setLc (i := i) e4 o.nd (by rw [o.N]; exact h1) (by rw [hsc]; exact h2) (by rw [swaps_lc o.kind, hsc, hsw]) e7 e5 e9 e10 e11 (folded_ns e8)) fun D σ H hh => e2 σ H _ (asg_core (tgR_ok g.K (.nm i)) hh)
            · obtain ⟨tg, iter, tg1, iter1, ifs, ifs1, own, vs1, gt, gt1, wi, wi1, tt, tt1, te, rfl, e2, e4, e5, e6, e7, e8, e8a, e9, e10, e11, e12, e13, e14⟩ := kLc2_ok SR ST o h3
              exact PS.weak (ps_setLc2 (i := i) e4 o.nd (by rw [o.N]; exact h1) (by rw [hsc]; exact h2) (by rw [swaps_lc o.kind, hsc, hsw]) e7 e5 e6 e9 e10 e11 e12 e13 e14 (folded_ns e8) (fun env => folded_ns e8a)) fun D σ H hh => e2 σ H _ (asg_core (tgR_ok g.K (.nm i)) hh)
          · rename_i hsw
            simp only [Bool.and_eq_true] at h
            exact plain _ h.1 h.2 (by rw [swaps_lc o.kind, hsc, Bool.eq_false_iff.mpr hsw])
        · simp only [Bool.and_eq_true, Bool.not_eq_true'] at h
          exact plain _ h.1.2 h.2 (swaps_no h.1.1)
    · rename_i ts' k p
      simp only [Bool.and_eq_true, Bool.not_eq_true'] at h
      obtain ⟨⟨⟨⟨h1, h2⟩, h3⟩, h4⟩, h5⟩ := h
      have hw : swappedStores [.Tuple ts' k p] v X.env = pure none := by
        cases v <;> try exact stores_no rfl
        rename_i vs k2 p2
        simp only at h5
        split at h5
        · rename_i e5; exact stores_par o.kind (by rw [hsc]; exact e5)
        · cases h5
      exact ss_asg (tgR_ok g.K t) (SR _ _ _ _ _ _ _ o _ _ h4) (ckTg_ok (N := cc.N) (sc := sc) (fn := fun _ => cc.fn) o.K (o.room h1).2 o.N o.nd hsc (fun x z => .inl (o.fnT z x)) h3) (swaps_sole h2) hw (assign_one rfl)
    · cases h
  case par is es' =>
    simp only [sAsg] at h
    split at h
    · simp only [Bool.and_eq_true, Bool.not_eq_true', decide_eq_true_eq] at h
      obtain ⟨⟨⟨⟨⟨⟨⟨⟨⟨h1, h2⟩, h3⟩, h4⟩, h5⟩, h6⟩, h7⟩, h8⟩, h9⟩, h10⟩ := h
      have ln := all2_len h10
      exact ss_par (pos := pos) (fs := evEs C es') (W := W) (g := g) (fun env L xs L' e => by rw [evEs_len e, ← ln]; rfl) (o.room h1).2 o.nd (by rw [o.N]; exact h4) (by rw [o.N]; exact h5) h3 (by rw [hsc]; exact h6) (by rw [hsc]; exact h7) (args_ok SR o (by rw [List.all_cons, List.all_cons, h8, h9]; rfl) h10) (stores_par o.kind (by rw [hsc]; exact h2))
    · cases h
  case setA cs o' i v' =>
    simp only [sAsg] at h
    split at h
    · simp only [Bool.and_eq_true, Bool.not_eq_true', decide_eq_true_eq, List.all_eq_true] at h
      rename_i oo y sp
      obtain ⟨⟨⟨⟨h1, h2⟩, h3⟩, h4⟩, h5⟩ := h
      obtain ⟨k1, k2, k3, k4, k5⟩ := o.cl
      exact ss_setA o.K (SR _ _ _ _ _ _ _ o _ _ h2) (SR _ _ _ _ _ _ _ o _ _ h3) (k2 i y h4) (fun c hc => by
        have := k3 _ (h5 c hc)
        rw [o.K] at this
        exact this) (swaps_no h1)
    · cases h
  case unp tas e' =>
    simp only [sAsg] at h
    split at h
    · simp only [Bool.and_eq_true, Bool.not_eq_true'] at h
      obtain ⟨⟨⟨⟨h0, h1⟩, h2⟩, h3⟩, h4⟩ := h
      obtain ⟨p1, p2⟩ := ckTas_ok o h4
      have st := ckTas_star h4
      exact ss_unp o.K (o.room h0).2 (SR _ _ _ _ _ _ _ o _ _ h3) p1 (all2_len h4) st p2 (swaps_sole h1) (stores_no h2) (assign_one rfl) assign_len (assign_nostar st)
    · cases h
  case setI o' i' v' =>
    simp only [sAsg] at h
    split at h
    · simp only [Bool.and_eq_true, Bool.not_eq_true'] at h
      rename_i oo ix sp
      obtain ⟨⟨⟨⟨h0, h1⟩, h2⟩, h3⟩, h4⟩ := h
      exact ss_setI (SR _ _ _ _ _ _ _ o _ _ h2) (SR _ _ _ _ _ _ _ o _ _ h3) (SR _ _ _ _ _ _ _ o _ _ h4) (swaps_sole h1) (stores_no2 rfl) (assign_one rfl) (fun v => by
        clear h4
        cases ix <;> first | rfl | cases h0)
    · cases h
theorem sRaise_ok (SR : Snd R) (G0 : GoodS cc sc n X g W C) {e f : Option Expr} {pos : Pos} {ss : S} (h : sRaise R cc sc e f ss = true) : PS X (.Raise e f pos) (liftS g W (exS C ss)) := by
  have o := G0.o
  have hsc := o.sc
  subst hsc
  cases ss <;> try (simp [sRaise] at h <;> done)
  rename_i c e'
  simp only [sRaise] at h
  split at h
  · simp only [Bool.and_eq_true, Bool.not_eq_true', decide_eq_true_eq] at h
    obtain ⟨⟨⟨⟨⟨h1, h2⟩, h3⟩, h4⟩, h5⟩, h6⟩ := h
    exact ss_raise (o.room h1).2 o.xs h2 ((o.room h1).1.mono (Nat.le_succ _)) o.tk (SR _ _ _ _ _ _ _ o _ _ h6) (gl_ok h3) (nd_ok h4).1 h5
  · cases h
theorem sHs_ok (SQ : SndL Q) (G0 : GoodS cc sc n X g W C) (gp : g.pin = none) : ∀ {hs : List ExceptHandler} {hs' : Hs}, sHs cc sc (fun c => Q c sc) hs hs' = true → HsL X g cc.xs hs (hsF C hs')
  | [], .nil, _ => by rw [hsF]; exact .nil
  | .ExceptHandler (some (.Name x px)) none (b₀ :: su) p2 :: r, .cons h none sb hs, hh => by
    have o := G0.o
    simp only [sHs, Bool.and_eq_true, decide_eq_true_eq] at hh
    obtain ⟨⟨⟨⟨h1, h2⟩, h3⟩, h4⟩, h5⟩ := hh
    have more := sHs_ok SQ G0 gp h5
    have hsc := o.sc
    subst hsc
    rw [hsF]
    refine .bare h1 (gl_ok h2) (nd_ok h3).1 (fun a ob d pn c w hz hf => ?_) more
    have G1 : GoodS (cc0 cc) X.env.scope n (X.suite a ((a, ob) :: pn)) g W0 { C with cur := some (c, w) } :=
      ⟨⟨rfl, o.kind, o.N, o.nd, o.K, o.un, takesW0, o.gdA, fun h => (by cases h), fun h => (by cases h), fun _ => gp, o.bn, o.cs, o.fs, XOk.same (g := g) rfl o.xs, o.fnT, fun j hj => (by cases hj), fun a h => (by cases h), fun h => (by cases h), o.ks, o.cl⟩, G0.st, G0.fr, PassesOwn.never⟩
    exact SQ _ _ _ _ _ _ _ G1 _ _ h4
  | .ExceptHandler (some (.Name x px)) (some nn) (b₀ :: su) p2 :: r, .cons h (some i) sb hs, hh => by
    have o := G0.o
    simp only [sHs, Bool.and_eq_true, decide_eq_true_eq] at hh
    obtain ⟨⟨⟨⟨⟨⟨⟨h0, h1⟩, h2⟩, h3⟩, h6⟩, h7⟩, h4⟩, h5⟩ := hh
    have more := sHs_ok SQ G0 gp h5
    have hsc := o.sc
    subst hsc
    rw [hsF]
    refine .named h0 h1 (gl_ok h2) (nd_ok h3).1 (by rw [o.N]; exact h6) h7 (fun a ob d pn c w hz hf => ?_) more
    have G1 : GoodS (ccN cc i) X.env.scope n (X.suite a ((a, ob) :: pn)) (g.pinned (some (i, a, w, d))) W0 { C with cur := some (c, w) } :=
      ⟨⟨rfl, o.kind, o.N, o.nd, o.K, o.un, takesW0, o.gdA, fun h => (by cases h), fun h => (by cases h), fun h => (by cases h), o.bn, o.cs, o.fs, XOk.same (g := g) rfl o.xs, o.fnT, fun j hj => (by cases hj; exact ⟨X, a, ob, c, w, d, pn, rfl, rfl, rfl, hz, hf⟩), fun a h => (by cases h), fun h => (by cases h), o.ks, o.cl⟩, G0.st, G0.fr, PassesOwn.never⟩
    exact SQ _ _ _ _ _ _ _ G1 _ _ h4
theorem sTry_ok (SQ : SndL Q) (G0 : GoodS cc sc n X g W C) {body : List Stmt} {hs : List ExceptHandler} {oe fin : List Stmt} {pos : Pos} {ss : S} (hh : sTry cc sc (fun c => Q c sc) body hs oe fin ss = true) : PS X (.Try body hs oe fin pos) (liftS g W (exS C ss)) := by
  have o := G0.o
  cases ss <;> try (simp [sTry] at hh <;> done)
  rename_i body' hs'
  simp only [sTry, Bool.and_eq_true, decide_eq_true_eq, List.isEmpty_iff, Bool.not_eq_true'] at hh
  obtain ⟨⟨⟨⟨⟨h1, h2⟩, hcp⟩, h3⟩, h4⟩, h5⟩ := hh
  subst h1; subst h2
  cases hs with
  | nil => cases h3
  | cons h₀ hs =>
    have main := ss_try_hs (pos := pos) (body := body) (fb := exSs C body') (W := W) (o.pn hcp) o.xs G0.st G0.fr o.nd o.tk (fun W' pn xe tk pa => ?_) (sHs_ok SQ G0 (o.pn hcp) h5)
    · have e : exS C (.try_ body' hs') = fun env L => match exSs C body' env L with
        | .exc c w env L => exCl c w env L (hsF C hs')
        | r => r := by
        funext env L
        simp only [exS]
        cases exSs C body' env L with
        | exc c w env1 L1 => exact exHs_eq C c w env1 L1 hs'
        | _ => rfl
      rw [e]
      exact main
    · have hsc := o.sc
      subst hsc
      have G1 : GoodS cc X.env.scope n (X.tr pn xe) g W' C := ⟨⟨rfl, o.kind, o.N, o.nd, o.K, o.un, tk, o.gdA, o.room, o.side, o.pn, o.bn, o.cs, o.fs, o.xs, o.fnT, fun i hi => (by rw [hcp] at hi; cases hi), o.th, o.lam, o.ks, o.cl⟩, G0.st, G0.fr, pa⟩
      exact SQ _ _ _ _ _ _ _ G1 _ _ h4
theorem ckS1_ok (SR : Snd R) (ST : SndT RT) (SQ : SndL Q) : SndS (ckS1 R RT Q) := by
  intro cc sc n X g W C G0 s ss h
  have o := G0.o
  unfold ckS1 at h
  split at h
  · split at h
    · exact ss_pass
    · cases h
  · split at h
    · exact ss_brk
    · cases h
  · split at h
    · exact ss_cont
    · cases h
  · split at h
    · exact ss_ret (SR _ _ _ _ _ _ _ o _ _ h)
    · cases h
  · split at h
    · exact ss_retN
    · cases h
  · split at h
    · simp only [Bool.and_eq_true, Bool.not_eq_true'] at h
      exact ss_expr (SR _ _ _ _ _ _ _ o _ _ h.2) (swaps_no h.1)
    · cases h
  · split at h
    · simp only [Bool.and_eq_true] at h
      exact ss_if (ST _ _ _ _ _ _ _ o _ _ h.1.1) (SQ _ _ _ _ _ _ _ G0 _ _ h.1.2) (SQ _ _ _ _ _ _ _ G0 _ _ h.2)
    · cases h
  · split at h
    · simp only [Bool.and_eq_true, List.isEmpty_iff] at h
      obtain ⟨⟨h1, h2⟩, h3⟩ := h
      subst h1
      exact ss_while G0.pass (ST _ _ _ _ _ _ _ o _ _ h2) (SQ _ _ _ _ _ _ _ G0 _ _ h3)
    · cases h
  · exact sFor_ok SR SQ G0 h
  · exact sAsg_ok SR ST G0 h
  · split at h
    · simp only [Bool.and_eq_true] at h
      have e1 := boE_ok h.1.1
      subst e1
      obtain ⟨a, b, c⟩ := ckNm_ok (p := ⟨0, 0, 0, 0⟩) o.N o.sc (fun z => .inl (o.fnT z _)) h.1.2
      exact ss_aug o.nd a b (SR _ _ _ _ _ _ _ o _ _ h.2) c
    · cases h
  · exact sRaise_ok SR G0 h
  · exact sTry_ok SQ G0 h
  · cases h
end
/-- m: how deep statements go, e: how deep expressions go -/
def ckS (e : Nat) : Nat → CkS
  | 0 => fun _ _ _ _ => false
  | m + 1 => ckS1 (ck e false) (ck e true) (fun cc sc => all2 (ckS e m cc sc))
theorem ckS_ok (e : Nat) : ∀ m, SndS (ckS e m)
  | 0 => fun _ _ _ _ _ _ _ _ _ _ h => (by cases h)
  | m + 1 => ckS1_ok (ck_ok e).1 (ck_ok e).2 (list_ok (ckS_ok e m))
def ckB (cc : CC) (sc : Scope) (body : List Stmt) (ss : List S) : Bool := all2 (ckS 12 8 cc sc) body ss
theorem ckB_ok : SndL ckB := list_ok (ckS_ok 12 8)
end Ev
end

section
set_option Elab.async false
set_option linter.all false
set_option maxRecDepth 100000
set_option autoImplicit false
set_option maxHeartbeats 1000000
/-! all defs of a program -/
namespace Ev
open PySem PySem.Spec PyProof.Rows L2
/-- a def: its text, its slots, its datum -/
structure DI where
  x : Str
  id : Nat
  ps : List Str
  N : List Str
  params : Arguments
  body : List Stmt
  sc : Scope
  fn : Fn
  th : Bool := false
  lam : Bool := false
  /-- a method's class, and its name -/
  cls : Option (Nat × Str) := none
  /-- what may fill up parameters that lack -/
  css : List (List D) := [[]]
  dv : List D := []
def DI.defn (d : DI) : Str × Option Str := match d.cls with
  | none => (d.x, none)
  | some c => (c.2, some d.x)
def qualOf : Str × Option Str → Str
  | (x, none) => x
  | (c, some m) => (c ++ ".") ++ m
def DI.qual (d : DI) : Str := qualOf d.defn
def ccD (cc : CC) (d : DI) : CC := { cc with N := d.N, side := d.th, th := if d.th then d.ps[0]? else none, lam := d.lam, hot := false, pin := none, fn := true }
def fnScopeB (N P : List Str) (sc : Scope) : Bool :=
  decide (sc.kind = .function) && !sc.isCoroutine && !sc.isGenerator && decide N.Nodup && decide (N.take P.length = P) && (P.all fun x => decide (sc.names.lookup x = some .local) || decide (sc.names.lookup x = some .cell)) && sc.names.all fun y => !decide (y.2 = .free)
theorem fnScope_ok {N P : List Str} {sc : Scope} (h : fnScopeB N P sc = true) : FnScope N P sc := by
  simp only [fnScopeB, Bool.and_eq_true, Bool.not_eq_true', decide_eq_true_eq, List.all_eq_true, Bool.or_eq_true, decide_eq_false_iff_not] at h
  obtain ⟨⟨⟨⟨⟨⟨h1, h2⟩, h3⟩, h4⟩, h5⟩, h6⟩, h7⟩ := h
  exact ⟨h1, h2, h3, h4, h5, h6, h7⟩
/-- a def's own look: that the datum is the text's -/
def lookD (cc : CC) (d : DI) : Bool := fnScopeB d.N d.ps d.sc && decide (d.N.length = d.fn.nl) && decide (d.fn.np = d.ps.length) && (!d.th || decide (d.ps.length = 1)) && !(d.th && d.lam) && ckB (ccD cc d) d.sc d.body d.fn.body
/-- where a def stands -/
def AtD (K : PySem.W.Frag) (mg : Str → Option Value) (kad : Nat → Addr) (d : DI) (f : Addr) : Prop := match d.cls with
  | none => mg d.x = some (.ref f)
  | some c => Meth K (kad c.1) d.x f
/-- what the head tells of a def -/
def FactD (K : PySem.W.Frag) (mg : Str → Option Value) (kad : Nat → Addr) (d : DI) : Prop := ∃ (f : Addr) (fd : FuncData) (dvs : List V) (kws : List (Str × V)), AtD K mg kad d f ∧ FunD K d.x d.qual d.params d.body d.sc dvs kws f fd ∧ ∀ cs ∈ d.css, ∃ ds, Vals (cs.map vOf) ds ∧ L2.Binds K fd d.ps ds
/-- what a def that makes lambdas is told of its code -/
def TabD (K : PySem.W.Frag) (mg : Str → Option Value) (kad : Nat → Addr) (base : Heap) (T : List (Addr × Str)) (d : DI) : Prop := ∀ (f : Addr) (cdv : Value), AtD K mg kad d f → (∃ (oc : Value) (od : Option Addr) (dV kV doc pm : Value) (an : Option Addr) (ct : Value) (osl : Array (Option Value)), K.lookup f = some ⟨oc, od, .func (PySem.W.fnOf d.x d.qual d.params d.body d.sc dV kV doc pm an cdv ct), osl⟩) →
  ∃ c P, cdv = .ref c ∧ LamX.TabB base mg c P ∧ (P, (d.qual ++ ".<locals>.") ++ "<lambda>") ∈ T ∧ ∀ p ∈ T, p.1 = P → p.2 = (d.qual ++ ".<locals>.") ++ "<lambda>"
structure Glob (w : World) (P : Program) (K : PySem.W.Frag) (mg : Str → Option Value) (base : Heap) (g : G) (cc : CC) (T : Tbl) (ds : List DI) : Prop where
  kk : K = g.K
  gp : g.pin = none ∧ g.amb = none ∧ g.hid = []
  bn : ∀ x ∈ cc.bn, mg x = none
  cs : ∀ p ∈ cc.cs, ∃ t, mg p.1 = some (.int p.2 t)
  xs : XOk cc.ln P K mg g cc.xs
  fact : ∀ d ∈ ds, FactD K mg g.kad d
  look : ∀ d ∈ ds, lookD cc d = true
  tab : ∀ d ∈ ds, T d.id = some d.fn
  fs : ∀ p ∈ cc.fs, ∃ d ∈ ds, d.x = p.1 ∧ d.id = p.2 ∧ d.th = false ∧ d.cls = none ∧ [] ∈ d.css
  ls : ∀ p ∈ cc.ls, ∃ d ∈ ds, d.x = p.1 ∧ d.id = p.2 ∧ d.th = true ∧ d.cls = none ∧ [] ∈ d.css
  lam : ∀ d ∈ ds, d.lam = true → TabD K mg g.kad base g.tabs d
  ks : ∀ p ∈ cc.ks, ∃ d ∈ ds, d.x = p.1 ∧ d.id = p.2.1 ∧ d.ps = p.2.2 ∧ d.th = false ∧ d.cls = none ∧ ∃ (f : Addr) (fd : FuncData) (dvs : List V) (kws : List (Str × V)), mg d.x = some (.ref f) ∧ FunD K d.x d.qual d.params d.body d.sc dvs kws f fd ∧ BindsK fd d.ps
  kl : ∀ c x, cc.kl[c]? = some x → mg x = some (.ref (g.kad c)) ∧ L2.Cls K (g.kad c) ∧ ∃ f, L2.Mk K (g.kad c) f
  fl : ∀ i x, cc.fl[i]? = some x → g.fld i = x
  kf : ∀ p ∈ cc.kf, NoAttr K (g.kad p.1) (g.fld p.2)
  mts : ∀ p ∈ cc.mt, p.2.2.2.all conB = true ∧ ∃ d ∈ ds, ∃ cn, d.x = p.2.1 ∧ d.id = p.2.2.1 ∧ d.th = false ∧ d.cls = some (p.1, cn) ∧ p.2.2.2 ∈ d.css
  mks : ∀ p ∈ cc.mks, (∃ x, cc.kl[p.1]? = some x) ∧ ∃ d ∈ ds, ∃ cn, d.x = ("__init__" : Str) ∧ d.id = p.2 ∧ d.th = false ∧ d.cls = some (p.1, cn) ∧ [] ∈ d.css
section
variable {w : World} {P : Program} {K : PySem.W.Frag} {mg : Str → Option Value} {base : Heap} {g : G} {cc : CC} {T : Tbl} {ds : List DI}
/-- each def keeps its datum's word, n calls deep -/
def AllOk (w : World) (P : Program) (K : PySem.W.Frag) (mg : Str → Option Value) (base : Heap) (g : G) (gd : Bool) (T : Tbl) (ds : List DI) (n : Nat) : Prop :=
  ∀ d ∈ ds, d.th = false → ∀ (f : Addr) (fd : FuncData) (dvs : List V) (kws : List (Str × V)), AtD K mg g.kad d f → FunD K d.x d.qual d.params d.body d.sc dvs kws f fd → FnG P w K mg base gd (4 * n) f fd d.ps (spF g (callN T n d.id))
theorem atD_none {kad : Nat → Addr} {d : DI} {f : Addr} (h : d.cls = none) : AtD K mg kad d f ↔ mg d.x = some (.ref f) := by
  unfold AtD; rw [h]
theorem atD_some {kad : Nat → Addr} {d : DI} {f : Addr} {c : Nat × Str} (h : d.cls = some c) : AtD K mg kad d f ↔ Meth K (kad c.1) d.x f := by
  unfold AtD; rw [h]
theorem binds_nil {fd : FuncData} {ps : List Str} (h : ∃ ds, Vals (([] : List D).map vOf) ds ∧ L2.Binds K fd ps ds) : L2.Binds K fd ps [] := by
  obtain ⟨ds, h1, h2⟩ := h
  cases h1
  exact h2
theorem fs_of (Gl : Glob w P K mg base g cc T ds) {n : Nat} (h : AllOk w P K mg base g cc.gd T ds n) : ∀ p ∈ cc.fs, ∃ f fd ps, mg p.1 = some (.ref f) ∧ PySem.W.keepIn K (.ref f) = true ∧ L2.Binds K fd ps [] ∧ FnG P w K mg base cc.gd (4 * n) f fd ps (spF g (callN T n p.2)) := fun p hp => by
  obtain ⟨d, hd, e1, e2, e3, ec, en⟩ := Gl.fs p hp
  obtain ⟨f, fd, dvs, kws, m1, m2, m3⟩ := Gl.fact d hd
  refine ⟨f, fd, d.ps, by rw [← e1]; exact (atD_none ec).mp m1, m2.kp, binds_nil (m3 [] en), ?_⟩
  have := h d hd e3 f fd dvs kws m1 m2
  rw [e2] at this
  exact this
theorem ks_of (Gl : Glob w P K mg base g cc T ds) {n : Nat} (h : AllOk w P K mg base g cc.gd T ds n) : ∀ p ∈ cc.ks, ∃ f fd, mg p.1 = some (.ref f) ∧ PySem.W.keepIn K (.ref f) = true ∧ BindsK fd p.2.2 ∧ FnG P w K mg base cc.gd (4 * n) f fd p.2.2 (spF g (callN T n p.2.1)) := fun p hp => by
  obtain ⟨d, hd, e1, e2, e4, e3, ec, f, fd, dvs, kws, m1, m2, m3⟩ := Gl.ks p hp
  refine ⟨f, fd, by rw [← e1]; exact m1, m2.kp, by rw [← e4]; exact m3, ?_⟩
  have := h d hd e3 f fd dvs kws ((atD_none ec).mpr m1) m2
  rw [e2, e4] at this
  exact this
theorem cl_of (Gl : Glob w P K mg base g cc T ds) {n : Nat} (h : AllOk w P K mg base g cc.gd T ds n) : ClsOk P w K mg base cc.gd n g cc.kl cc.fl cc.kf cc.mt cc.mks (callN T n) := by
  refine ⟨fun c x hc => ?_, Gl.fl, Gl.kf, fun p hp => ?_, fun p hp => ?_⟩
  · obtain ⟨h1, h2, _⟩ := Gl.kl c x hc
    exact ⟨h1, h2⟩
  · obtain ⟨c0, d, hd, cn, e1, e2, e3, ec, en⟩ := Gl.mts p hp
    obtain ⟨f, fd, dvs, kws, m1, m2, m3⟩ := Gl.fact d hd
    obtain ⟨dv, b1, b2⟩ := m3 _ en
    have := h d hd e3 f fd dvs kws m1 m2
    rw [e2] at this
    have mm := (atD_some ec).mp m1
    rw [e1] at mm
    exact ⟨c0, f, fd, d.ps, dv, mm, b2, b1, this⟩
  · obtain ⟨⟨x, hx⟩, d, hd, cn, e1, e2, e3, ec, en⟩ := Gl.mks p hp
    obtain ⟨_, _, f2, k2⟩ := Gl.kl _ _ hx
    obtain ⟨f, fd, dvs, kws, m1, m2, m3⟩ := Gl.fact d hd
    have := h d hd e3 f fd dvs kws m1 m2
    rw [e2] at this
    have mm := (atD_some ec).mp m1
    rw [e1] at mm
    have ef : f2 = f := by
      have a := k2.init
      have b := mm.at_
      rw [a] at b
      injection b with b; injection b with b; injection b with b
    subst ef
    exact ⟨f2, fd, d.ps, k2, binds_nil (m3 [] en), this⟩
theorem base_eq (Gl : Glob w P K mg base g cc T ds) : g.base = g := by
  obtain ⟨h1, h2, h3⟩ := Gl.gp
  obtain ⟨a, b, c, d, k1, k2, e, f, p, q⟩ := g
  simp only at h1 h2 h3
  subst h1; subst h2; subst h3
  rfl
theorem lookD_ok {d : DI} (h : lookD cc d = true) : FnScope d.N d.ps d.sc ∧ d.N.length = d.fn.nl ∧ d.fn.np = d.ps.length ∧ (d.th = true → d.ps.length = 1 ∧ d.lam = false) ∧ ckB (ccD cc d) d.sc d.body d.fn.body = true := by
  simp only [lookD, Bool.and_eq_true, decide_eq_true_eq, Bool.or_eq_true, Bool.not_eq_true'] at h
  obtain ⟨⟨⟨⟨⟨h1, h2⟩, h3⟩, h4⟩, h5⟩, h6⟩ := h
  refine ⟨fnScope_ok h1, h2, h3, fun ht => ?_, h6⟩
  rcases h4 with h4 | h4
  · rw [ht] at h4; cases h4
  · refine ⟨h4, ?_⟩
    rw [ht] at h5
    simpa using h5
theorem thOk_of (Gl : Glob w P K mg base g cc T ds) {n : Nat} (ih : ∀ m, m < n → AllOk w P K mg base g cc.gd T ds m) : ∀ p ∈ cc.ls, ∃ gf, mg p.1 = some (.ref gf) ∧ FnTh P w K mg base cc.gd n p.1 gf g (callT T n p.2) := fun p hp => by
  obtain ⟨d, hd, e1, e2, e3, ec, en⟩ := Gl.ls p hp
  obtain ⟨f, fd, dvs, kws, m1, m2, m3⟩ := Gl.fact d hd
  have m1 := (atD_none ec).mp m1
  have m3 := binds_nil (m3 [] en)
  have eq : d.qual = d.x := by unfold DI.qual DI.defn; rw [ec]; rfl
  rw [eq] at m2
  obtain ⟨l1, l2, l3, l4, l5⟩ := lookD_ok (Gl.look d hd)
  obtain ⟨l4, l6⟩ := l4 e3
  obtain ⟨x, id⟩ := p
  simp only at e1 e2
  subst e1; subst e2
  obtain ⟨a, ha⟩ : ∃ a, d.ps = [a] := by
    match d.ps, l4 with
    | [a], _ => exact ⟨a, rfl⟩
  rw [ha] at l1 m3
  have nd0 : d.N[0]? = some a := by
    have := l1.pre
    cases hN : d.N with
    | nil => rw [hN] at this; cases this
    | cons b r => rw [hN] at this; simp at this; simp [this]
  refine ⟨f, m1, ?_⟩
  cases n with
  | zero =>
    refine ⟨fd, d.params, d.body, d.sc, dvs, kws, d.N, a, d.fn, fun _ _ _ => .bad, m2.kp, m2, l1, m3, l2, fun th L => rfl, fun hid cdv A outer s H m0 f th hr hg ht => ⟨fun pins s σ H D I ⟨env, L, m, R, k⟩ => k.elim⟩⟩
  | succ n =>
    refine ⟨fd, d.params, d.body, d.sc, dvs, kws, d.N, a, d.fn, fun th => exSs { call := callN T n, callL := callT T n, thunk := some th, cur := none } d.fn.body, m2.kp, m2, l1, m3, l2, fun th L => ?_, fun hid cdv A outer s H m0 fa th hr hg ht => ?_⟩
    · rw [callT, Gl.tab d hd]
      simp only
      rw [if_pos (by rw [l3, l4])]
    · have o : GoodS (ccD cc d) d.sc n (cxOf C8.CX0 P w K mg base d.N d.x d.sc f cdv A outer s H C8.E0).nox ((g.with hid).pa none (some (fa, H, m0))) W0 { call := callN T n, callL := callT T n, thunk := some th, cur := none } := by
        refine ⟨⟨rfl, l1.kind, rfl, l1.nd, Gl.kk, (by have := hr.un; (try dsimp only at this ⊢); show (A.deeper _).units + 64 < cLine; omega), takesW0, hg, fun _ => ⟨hr.mono (by omega), rfl⟩, fun h => ?_, fun _ => rfl, Gl.bn, Gl.cs, ?_, XOk.same (g := g) rfl Gl.xs, fun _ _ => rfl, fun i h => (by cases h), fun b hb => ?_, fun h => ?_, ?_, ?_⟩, rfl, rfl, PassesOwn.never⟩
        · have : (ccD cc d).side = d.th := rfl
          rw [this, e3] at h; cases h
        · have := fs_of Gl (ih n (Nat.lt_succ_self n))
          have eb : (((g.with hid).pa none (some (fa, H, m0)))).base = g := by
            have := base_eq Gl
            exact this
          rw [eb]
          exact this
        · have e : (ccD cc d).th = some a := by simp [ccD, e3, ha]
          rw [e] at hb
          cases hb
          exact ⟨fa, m0, th, _, rfl, rfl, ht, rfl, rfl, hr, nd0⟩
        · have : (ccD cc d).lam = d.lam := rfl
          rw [this, l6] at h; cases h
        · have := ks_of Gl (ih n (Nat.lt_succ_self n))
          have eb : (((g.with hid).pa none (some (fa, H, m0)))).base = g := base_eq Gl
          rw [eb]
          exact this
        · have := cl_of Gl (ih n (Nat.lt_succ_self n))
          have eb : (((g.with hid).pa none (some (fa, H, m0)))).base = g := base_eq Gl
          rw [eb]
          exact this
      exact ckB_ok _ _ _ _ _ _ _ o _ _ l5
theorem startE_rel {g : G} {H : Hp} {m : List Addr} {L : LH} {N : List Str} {ds : List D} {vs : List V} {nl : Nat} (hg : g.pin = none ∧ g.amb = none) (r : RelH g H L m) (q : Reps g H m ds vs) (hn : N.length = nl) : Rel g (L2.start N vs) H (startE nl ds) L m := by
  refine ⟨r, ?_, fun i d e => ?_, fun i a w d e => (by rw [hg.1] at e; cases e), fun f H0 m0 e => (by rw [hg.2] at e; cases e)⟩
  · simp only [startE, L2.start, List.length_append, List.length_map, List.length_replicate, q.len, hn]
  · simp only [startE] at e
    by_cases hi : i < ds.length
    · rw [List.getElem?_append_left (by simpa using hi), List.getElem?_map] at e
      cases e2 : ds[i]? with
      | none => rw [e2] at e; cases e
      | some d' =>
        rw [e2] at e
        simp only [Option.map_some, Option.some.injEq] at e
        subst e
        obtain ⟨v, h1, h2⟩ := q.get e2
        refine ⟨v, ?_, h2⟩
        simp only [L2.start]
        rw [List.getElem?_append_left (by rw [List.length_map, ← q.len]; exact hi), List.getElem?_map, h1]
        rfl
    · rw [List.getElem?_append_right (by simpa using hi), List.getElem?_replicate] at e
      split at e <;> cases e
theorem all_ok (Gl : Glob w P K mg base g cc T ds) : ∀ n, AllOk w P K mg base g cc.gd T ds n := by
  intro n
  induction n using Nat.strongRecOn with
  | _ n ih =>
    intro d hd hth f fd dvs kws m1 m2
    cases n with
    | zero =>
      have no : ∀ vs H Q E, ¬ spF g (callN T 0 d.id) vs H Q E := fun vs H Q E ⟨hid, xs, L, m, h1, h2, h3⟩ => by
        rw [callN] at h3; exact h3
      exact ⟨fun vs H Q E h => (no _ _ _ _ h).elim, fun A outer s H args us vs Q E _ _ _ _ _ h => (no _ _ _ _ h).elim⟩
    | succ n =>
      obtain ⟨l1, l2, l3, l4, l5⟩ := lookD_ok (Gl.look d hd)
      have tb := Gl.tab d hd
      have inv : ∀ vs H Q E, spF g (callN T (n + 1) d.id) vs H Q E → ∃ hid xs L m, RelH (g.with hid) H L m ∧ Reps (g.with hid) H m xs vs ∧ xs.length = d.fn.np ∧ Out (g.with hid) (Rep (g.with hid)) (fun cls d _ H' => E cls d H') [] H m Q (endR d.fn L (exSs (cfN T n) d.fn.body (startE d.fn.nl xs) L)) := fun vs H Q E ⟨hid, xs, L, m, h1, h2, h3⟩ => by
        rw [callN_succ, tb] at h3
        simp only at h3
        by_cases hl : xs.length = d.fn.np
        · rw [if_pos hl] at h3; exact ⟨hid, xs, L, m, h1, h2, hl, h3⟩
        · rw [if_neg hl] at h3; exact h3.elim
      have core := fn_ofG (w := w) (P := P) (mg := mg) (base := base) (gd := cc.gd) (k := 4 * n + 3) (sp := spF g (callN T (n + 1) d.id)) m2 l1 (fun vs H Q E h => by
          obtain ⟨hid, xs, L, m, h1, h2, h3, _⟩ := inv vs H Q E h
          rw [← h2.len, h3, l3])
        (fun cdv A outer s H vs Q E hlk hr hg h => ?_)
      · exact core.mono (by omega)
      · obtain ⟨hid, xs, L, m, h1, h2, h3, h4⟩ := inv vs H Q E h
        have hpa : (g.with hid).pin = none ∧ (g.with hid).amb = none := ⟨Gl.gp.1, Gl.gp.2.1⟩
        refine ⟨liftS (g.with hid) (fun cls d _ H => E cls d H) (exSs (cfN T n) d.fn.body), ?_, startE d.fn.nl xs, L, m, startE_rel hpa h1 h2 l2, endR_out (σ := []) (σ' := []) h1.len (fun _ _ _ _ _ z => z) h4⟩
        have eb : (g.with hid).base = g := base_eq Gl
        have o : GoodS (ccD cc d) d.sc n (cxOf (L2.CX P w) P w K mg base d.N d.qual d.sc f cdv A outer s H E) (g.with hid) (fun cls d _ H => E cls d H) (cfN T n) := by
          refine ⟨⟨rfl, l1.kind, rfl, l1.nd, Gl.kk, (by have := hr.un; (try dsimp only at this ⊢); show (A.deeper _).units + 64 < cLine; omega), takes_of rfl rfl rfl rfl, hg, fun _ => ⟨hr.mono (by omega), rfl⟩, fun _ => hpa, fun _ => hpa.1, Gl.bn, Gl.cs, ?_, XOk.same (g := g) rfl Gl.xs, fun _ _ => rfl, fun i h => (by cases h), fun b hb => ?_, fun h => ?_, ?_, ?_⟩, rfl, rfl, passes_of rfl⟩
          · rw [eb]
            exact fs_of Gl (ih n (Nat.lt_succ_self n))
          · have e : (ccD cc d).th = none := by simp [ccD, hth]
            rw [e] at hb; cases hb
          · have hl : d.lam = true := h
            refine ⟨hpa, hr, ?_, ?_⟩
            · obtain ⟨c, Pt, e1, e2, e3, e4⟩ := Gl.lam d hd hl f cdv m1 hlk
              subst e1
              exact ⟨c, Pt, e2, rfl, e3, e4⟩
            · rw [eb]
              exact thOk_of Gl fun m hm => ih m (Nat.lt_trans hm (Nat.lt_succ_self n))
          · rw [eb]
            exact ks_of Gl (ih n (Nat.lt_succ_self n))
          · rw [eb]
            exact cl_of Gl (ih n (Nat.lt_succ_self n))
        exact ckB_ok _ _ _ _ _ _ _ o _ _ l5
end
end Ev
end

section
set_option Elab.async false
set_option linter.all false
set_option maxRecDepth 100000
set_option autoImplicit false
set_option maxHeartbeats 1000000
/-! the law's call, with the caller's guards told -/
namespace Ev
open PySem PySem.Spec PyProof.Rows L2 LamX
section
variable {P : Program} {w : World} {K : PySem.W.Frag} {mg mb : Str → Option Value} {k : Nat} {fa sc : Addr} {cs : List (Addr × Addr)} {fd : FuncData} {x : Str} {sp : Sp} {st : Shared} {us : List Value} {ns : List Int}
/-- the script and the tables are tracked, all else is ground -/
structure Start (K : PySem.W.Frag) (cs : List (Addr × Addr)) (st : Shared) (sc : Addr) (us : List Value) (ns : List Int) (H : Hp) : Prop where
  tb : ∀ p ∈ cs, H p.2 = some (.tbl #[])
  sq : SqL K H sc (ns.map V.int)
  ty : ∀ b u, H b = some u → (u = .tbl #[] ∧ ∃ p ∈ cs, p.2 = b) ∨ (b = sc ∧ K.lookup sc = none ∧ u = .frz { cls := .type "list", data := .seq us.toArray } (.lst (ns.map V.int)))
theorem start_of (KX : K.In st.heap) (tE : ∀ p ∈ cs, st.heap.get? p.2 = some { cls := .none, data := .fields #[] }) (ha : st.heap.get? sc = some { cls := .type "list", data := .seq us.toArray }) (hi : IntsAre us ns) (hl : ns.length ≤ sizeLine) : ∃ H, Start K cs st sc us ns H := by
  have scNo : ∀ p ∈ cs, p.2 ≠ sc := fun p hp z => by
    have t := tE p hp
    rw [z, ha] at t
    injection t with t
    have t2 := congrArg Obj.data t
    cases t2
  have key : ∀ b, (∃ p ∈ cs, p.2 = b) ∨ ¬ ∃ p ∈ cs, p.2 = b := fun b => Classical.em _
  let H : Hp := fun b => open Classical in if ∃ p ∈ cs, p.2 = b then some (.tbl #[]) else if b = sc ∧ K.lookup sc = none then some (.frz { cls := .type "list", data := .seq us.toArray } (.lst (ns.map V.int))) else none
  have hno : ¬ ∃ p ∈ cs, p.2 = sc := fun ⟨p, hp, z⟩ => scNo p hp z
  refine ⟨H, fun p hp => if_pos ⟨p, hp, rfl⟩, ?_, fun b u e => ?_⟩
  · cases hk : K.lookup sc with
    | none => exact .inl (.inr ⟨_, (if_neg hno).trans (if_pos ⟨rfl, hk⟩)⟩)
    | some o =>
      have t := KX sc o hk
      rw [ha] at t
      injection t with t
      subst t
      exact .inr ⟨_, us.toArray, _, hk, rfl, rfl, rfl, by rw [List.size_toArray, hi.length]; exact hl, by simpa using vals_ints hi⟩
  · rcases key b with hb | hb
    · have t := (if_pos hb).symm.trans e
      injection t with t
      exact .inl ⟨t.symm, hb⟩
    · have t := (if_neg hb).symm.trans e
      by_cases hc : b = sc ∧ K.lookup sc = none
      · rw [if_pos hc] at t
        injection t with t
        exact .inr ⟨hc.1, hc.2, t.symm⟩
      · rw [if_neg hc] at t; cases t
theorem law_run (KX : K.In st.heap) (nsG : st.heap.Ns mainGlobals mg) (nsB : st.heap.Ns builtinsNs mb) (blt : ∀ x : Str, x ≠ "__name__" → mb x = bootBuiltins x) (lim : st.heap.NoLimit) (gens : st.gens = #[])
    (tE : ∀ p ∈ cs, st.heap.get? p.2 = some { cls := .none, data := .fields #[] }) (tN : ∀ p ∈ cs, K.lookup p.2 = none) (tC : ∀ p ∈ cs, PySem.W.CodeHd st.heap p.1 p.2)
    (mod : ∃ (bm : Addr) (ob : Obj), mg "__builtins__" = some (.ref bm) ∧ bm ≠ builtinsNs ∧ st.heap.get? bm = some ob ∧ ob.cls = .type "module" ∧ ob.dict = some builtinsNs ∧ ob.data = .plain)
    (ha : st.heap.get? sc = some { cls := .type "list", data := .seq us.toArray }) (hi : IntsAre us ns) (hl : ns.length ≤ sizeLine) (room : Room k callerA)
    (F : ∀ base : Heap, K.In base → base.Ns mainGlobals mg → (∀ p ∈ cs, TabB base mg p.1 p.2) → FnG P w K mg base true k fa fd [x] sp) (bind : ∀ (s : Shared) (u : Value), BindsTo s fd ⟨[u], []⟩ [(x, u)])
    (want : ∀ H : Hp, Start K cs st sc us ns H → sp [.ref sc] H (fun v _ => v = .bl true) fun _ _ _ => False) :
    codeAny (model P w) callerA (.call (.ref fa) ⟨[.ref sc], []⟩) (fun r s' => r = .ok (.ret (.bool true)) ∧ OldK st.heap s'.heap ∧ s'.os = st.os ∧ AllBare s'.gens) st := by
  obtain ⟨H, S⟩ := start_of (cs := cs) KX tE ha hi hl
  -- what stands in the heap for a tracked address
  have objs : ∀ b u, H b = some u → st.heap.get? b = some { cls := .none, data := .fields #[] } ∨ st.heap.get? b = some { cls := .type "list", data := .seq us.toArray } := fun b u e => by
    rcases S.ty b u e with ⟨_, p, hp, z⟩ | ⟨z, _, _⟩
    · rw [← z]; exact .inl (tE p hp)
    · rw [z]; exact .inr ha
  have free : ∀ {b : Addr} {o : Obj}, st.heap.get? b = some o → o ≠ { cls := .none, data := .fields #[] } → o ≠ { cls := .type "list", data := .seq us.toArray } → H b = none := fun {b o} e n1 n2 => by
    cases q : H b with
    | none => rfl
    | some u =>
      rcases objs b u q with z | z
      · rw [e] at z; injection z with z; exact absurd z n1
      · rw [e] at z; injection z with z; exact absurd z n2
  have ground : ∀ {b : Addr} {o : Obj}, st.heap.get? b = some o → o ≠ { cls := .none, data := .fields #[] } → o ≠ { cls := .type "list", data := .seq us.toArray } → (hidT st.heap H).get? b = some o := fun e n1 n2 => hidT_get e (free e n1 n2)
  have dictNs : ∀ {b : Addr} {m : Str → Option Value}, st.heap.Ns b m → (hidT st.heap H).Ns b m := fun {b m} ⟨o, es, ep, e, dd, rest⟩ => ⟨o, es, ep, ground e (fun z => by rw [z] at dd; cases dd) (fun z => by rw [z] at dd; cases dd), dd, rest⟩
  have KB : K.In (hidT st.heap H) := fun b o e => hidT_get (KX b o e) (by
    cases q : H b with
    | none => rfl
    | some u =>
      rcases S.ty b u q with ⟨_, p, hp, z⟩ | ⟨z, z2, _⟩
      · rw [← z, tN p hp] at e; cases e
      · rw [z, z2] at e; cases e)
  have M : L2.Mod K mg (hidT st.heap H) := ⟨KB, dictNs nsG, ⟨mb, dictNs nsB, blt⟩, by obtain ⟨mc, l1, l2⟩ := lim; exact ⟨mc, dictNs l1, l2⟩⟩
  have ok : HOk P w H st.heap := fun b u e => by
    rcases S.ty b u e with ⟨rfl, p, hp, z⟩ | ⟨z, _, rfl⟩
    · rw [← z]; exact tE p hp
    · rw [z]
      exact ⟨ha, by rw [List.length_map]; exact hl, us, _, vals_ints hi, ha⟩
  have TB : ∀ p ∈ cs, TabB (hidT st.heap H) mg p.1 p.2 := fun p hp => by
    have here := tE p hp
    refine ⟨?_, ?_, fun z => ?_⟩
    · obtain ⟨o, fs, file, tf, fl, tg, inF, text, tt, a1, a2, a3, rest⟩ := tC p hp
      exact ⟨o, fs, file, tf, fl, tg, inF, text, tt, ground a1 (fun z => by rw [z] at a3; injection a3 with a3; rw [← a3] at rest; simp at rest) (fun z => by rw [z] at a3; cases a3), a2, a3, rest⟩
    · obtain ⟨bm, ob, c1, c2, c3, c4, c5, c6⟩ := mod
      have ng : bm ≠ mainGlobals := fun q => by
        obtain ⟨o, es, ep, e, dd, _⟩ := nsG
        rw [q, e] at c3
        injection c3 with c3
        rw [c3, c6] at dd; cases dd
      have np : bm ≠ p.2 := fun q => by
        rw [q, here] at c3
        injection c3 with c3
        rw [← c3] at c6; cases c6
      exact ⟨bm, ob, c1, c2, ng, np, ground c3 (fun z => by rw [z] at c6; cases c6) (fun z => by rw [z] at c6; cases c6), c4, c5, c6⟩
    · obtain ⟨o, es, ep, e, dd, _⟩ := nsG
      rw [z, here] at e
      injection e with e
      rw [← e] at dd; cases dd
  have E0 : Env0 P w K mg (hidT st.heap H) callerA [] st H := ⟨rfl, M, fun b o e => of_hidT e, Nat.le_of_eq (hidT_size _ _), trivial, fun b hb => (by cases hb), ok, .of_eq gens⟩
  refine codeAny_mono ((F _ KB (dictNs nsG) TB).run callerA [] st H ⟨[.ref sc], []⟩ [.ref sc] [.ref sc] _ _ room (fun _ => rfl) E0 (bind st (.ref sc)) (.cons rfl .nil) (want H S)) fun r s' h => ?_
  match r, h with
  | .error e, ⟨_, _, _, _, _, _, _, _, _, _, _, _, z⟩ => exact z.elim
  | .ok (.ret u), ⟨v, H', os, bare, un, ok', rv, q⟩ =>
    have q' : v = .bl true := q
    subst q'
    obtain rfl : u = Value.bool true := rv
    -- each old object stands; a table may have grown
    have old : ∀ b o, st.heap.get? b = some o → s'.heap.get? b = some o ∨ ∃ p ∈ cs, p.2 = b ∧ ∃ more : Array Value, s'.heap.get? b = some { cls := .none, data := .fields more } := fun b o e => by
      cases q : H b with
      | none => exact .inl (un.keep b o e q (by simp [frs]) (by simp))
      | some u =>
        rcases S.ty b u q with ⟨rfl, p, hp, z⟩ | ⟨rfl, _, rfl⟩
        · obtain ⟨more, t⟩ := un.tbls b #[] q
          exact .inr ⟨p, hp, z, _, ok' b _ t⟩
        · have t := ok' b _ (un.frzs b _ _ q)
          rw [ha] at e
          injection e with e
          rw [← e]; exact .inl t.1
    refine ⟨rfl, ⟨fun b o e => ?_, fun b o e => ?_⟩, os, bare⟩
    · rcases old b o e with t | ⟨p, hp, rfl, more, t⟩
      · exact .inl t
      · rw [tE p hp] at e
        injection e with e
        subst e
        exact .inr (.inl ⟨((tC p hp).tab (tE p hp)).isCodeTable, rfl, #[], more, rfl, by rw [Array.empty_append]; exact t⟩)
    · rcases old b o e with t | ⟨p, hp, rfl, more, t⟩
      · exact ⟨o, t⟩
      · exact ⟨_, t⟩
end
end Ev
end

section
set_option Elab.async false
set_option linter.all false
set_option maxRecDepth 100000
set_option autoImplicit false
set_option maxHeartbeats 1000000
/-! what the head must tell -/
namespace Ev
open PySem PySem.Spec PyProof.Rows L2 He LamX
abbrev XW : Type := Option (Str × Str × Arguments × FuncBody × Scope × Addr × List Str × Addr)
def xIni (K : PySem.W.Frag) : Addr := ma K (ga K "Refused") "__init__"
/-- the first exception's __init__ -/
def xW (K : PySem.W.Frag) : XW := match K.lookup (xIni K) with
  | some ⟨_, _, .func fd, _⟩ => some (fd.name, fd.qualname, fd.params, fd.body, fd.scope, fd.globals, fd.closure.map (·.1), fd.builtins)
  | _ => none
def xVal (l : Nat) : XW := some ("__init__", "Refused.__init__", xA l, .stmts (xB l), xS, mainGlobals, ["__class__"], builtinsNs)
def oo (a b : Option (Option Value)) : Bool := decide (a = b)
theorem oo_ok {a b : Option (Option Value)} (h : oo a b = true) : a = b := of_decide_eq_true h
def filB (file : Str) (vs : Array Value) : Bool := match (vs[2]? : Option Value) with
  | some (.str f _) => (file == f)
  | _ => false
def xTopB (file : Str) (K : PySem.W.Frag) : Bool :=
  (match K.lookup (xIni K) with
    | some ⟨_, _, .func fd, _⟩ => (match fd.code with
      | .ref c => PySem.W.codeIn K (.ref c) "Refused.__init__" && (match K.lookup c with
        | some ⟨_, _, .fields vs, _⟩ => filB file vs
        | _ => false)
      | _ => false) && ((match fd.closure with
        | [(_, cc)] => (match K.lookup cc with
          | some ⟨_, _, .cell (some (.ref D')), _⟩ => decide (D' = ga K "Refused")
          | _ => false)
        | _ => false) && (match fd.defaults, fd.kwdefaults with
        | .none, .none => true
        | _, _ => false))
    | _ => false) && ((PySem.W.clsIn K (ga K "Refused")).isSome && (oo (PySem.W.nsIn K mainGlobals "super") (some none) && (oo (PySem.W.nsIn K cStatics "thirdparty.any") (some none) && (decide (PySem.W.typeIn K (.ref (xIni K)) = some (.type "function")) &&
      (oo (PySem.W.specialIn K (.builtin "object.__class__") "__get__") (some (some (.builtin "getset_descriptor.__get__"))) && decide (PySem.W.takesIn K (.builtin "object.__class__") = some true))))))
def xClsB (K : PySem.W.Frag) (C : Addr) : Bool :=
  (match K.lookup C with
    | some ⟨.type t, _, .cls cd, sl⟩ => decide (t = "type") && (match cd.mro, sl.toList with
      | .ref C' :: bm, [_, _, _, _, some (.builtin n), _] => decide (C' = C) && (decide (n = "ValueError.__new__") && (!cd.hasDel && (cd.hasDict && HandSPX.refsVE bm)))
      | _, _ => false)
    | _ => false) && (PySem.W.excInitIn K C HandSPX.veTail "ValueError.__new__" && (oo (PySem.W.ks_superIn K C (ga K "Refused") "__init__") (some (some (.builtin "ValueError.__init__"))) && (decide (PySem.W.mroIn K C (.ref (ga K "Refused")) = some true) &&
    (decide (PySem.W.subIn K (.ref C) (.type "ValueError") = some true) && (oo (PySem.W.findIn K (.ref C) "__setattr__") (some (some (.builtin "object.__setattr__"))) && (oo (PySem.W.findIn K (.ref C) "__getattribute__") (some (some (.builtin "BaseException.__getattribute__"))) &&
    (oo (PySem.W.findIn K (.ref C) "__getattr__") (some none) && (oo (PySem.W.findIn K (.ref C) "what") (some none) && (oo (PySem.W.findIn K (.ref C) "__init__") (some (some (.ref (xIni K)))) && (PySem.W.keepIn K (.ref C) &&
    (decide (PySem.W.subIn K (.ref C) (.type "BaseException") = some true) && (decide (PySem.W.typeIn K (.ref C) = some (.type "type")) && (PySem.W.hasDictIn K C && ((PySem.W.clsIn K C).isSome && (oo (PySem.W.findIn K (.ref C) "__class__") (some (some (.builtin "object.__class__"))) && decide (PySem.W.mroIn K C (.type "object") = some true))))))))))))))))
def cadOf (K : PySem.W.Frag) (xs : List Str) (c : Nat) : Addr := ga K (xs.getD c "Refused")
def xExmB (K : PySem.W.Frag) (xs : List Str) : Bool := (List.range (xs.length + 1)).all fun c => (List.range xs.length).all fun h =>
  decide (PySem.W.exmOne K (.ref (cadOf K xs c)) (.ref (cadOf K xs h)) = some (catches h c)) && decide (PySem.W.kitOne K (.ref (cadOf K xs c)) (.ref (cadOf K xs h)) = some (catches h c))
def xValB (K : PySem.W.Frag) (xs : List Str) : Bool := (List.range (xs.length + 1)).all fun c => decide (PySem.W.kitOne K (.ref (cadOf K xs c)) (.type "ValueError") = some true)
def tabsNe (K : PySem.W.Frag) (tf : List Defn) : Bool := tf.all fun x => tf.all fun y => decide (x = y) || decide ((cT K x).2 ≠ (cT K y).2)
/-- all that is asked of K beyond the defs -/
def exB (file : Str) (xs : List Str) (tf : List Defn) (K : PySem.W.Frag) : Bool := xTopB file K && (xs.all (fun x => xClsB K (ga K x)) && (xExmB K xs && (decide (xs.getD 0 "" = "Refused") && (tabsNe K tf && xValB K xs))))
theorem and2 {a b : Bool} (h : (a && b) = true) : a = true ∧ b = true := by simpa using h
section
variable {P : Program} {K : PySem.W.Frag} {mg : Str → Option Value} {h : Heap} {l : Nat}
theorem xTop_ok (X : K.In h) (G : h.Ns mainGlobals mg) (hw : xW K = xVal l) (hb : xTopB P.main.file K = true) (htop : (P.main.scope.names.lookup ("super" : Str)).isSome = false) : XTop l P K mg (ga K "Refused") (xIni K) := by
  obtain ⟨h1, h2⟩ := and2 hb
  obtain ⟨h3, h4⟩ := and2 h2
  obtain ⟨h5, h6⟩ := and2 h4
  obtain ⟨h7, h8⟩ := and2 h6
  obtain ⟨h9, h10⟩ := and2 h8
  obtain ⟨h11, h12⟩ := and2 h10
  unfold xW at hw
  refine ⟨?_, Option.isSome_iff_exists.mp h3, PySem.W.mg_none_of X G (oo_ok h5), htop, oo_ok h7, of_decide_eq_true h9, oo_ok h11, of_decide_eq_true h12⟩
  cases q : K.lookup (xIni K) with
  | none => rw [q] at hw; cases hw
  | some ob =>
    obtain ⟨oc, od, dt, osl⟩ := ob
    rw [q] at hw h1
    cases dt with
    | func fd =>
      simp only at hw h1
      obtain ⟨fname, fqual, fpar, fbody, fsc, fgl, fcl, fdef, fkd, fdoc, fpm, fan, fcode, fct, fbl⟩ := fd
      simp only at hw h1
      have e := Option.some.inj hw
      simp only [Prod.mk.injEq] at e
      obtain ⟨rfl, rfl, rfl, rfl, rfl, rfl, e7, rfl⟩ := e
      obtain ⟨a1, a2⟩ := and2 h1
      obtain ⟨a3, a4⟩ := and2 a2
      cases fcode <;> try (cases a1 <;> done)
      rename_i c
      simp only at a1
      obtain ⟨a5, a6⟩ := and2 a1
      match fcl, e7, a3 with
      | [(nm, cc)], e7, a3 =>
        simp only [List.map_cons, List.map_nil, List.cons.injEq, and_true] at e7
        subst e7
        cases fdef <;> cases fkd <;> try (cases a4 <;> done)
        refine ⟨oc, od, fdoc, fpm, fan, c, cc, fct, osl, rfl, a5, ?_, ?_⟩
        · split at a6
          · rename_i w1 w2 vs w3 hv
            unfold filB at a6
            split at a6
            · rename_i f tf hf; exact ⟨_, _, vs, _, f, tf, hv, hf, a6⟩
            · cases a6
          · cases a6
        · simp only at a3
          split at a3
          · rename_i w1 w2 D' w3 hv
            have := of_decide_eq_true a3
            subst this
            exact ⟨_, _, _, hv⟩
          · cases a3
    | _ => cases hw
theorem xCls_ok {C : Addr} (hb : xClsB K C = true) : XCls K (ga K "Refused") (xIni K) C := by
  obtain ⟨h1, hb⟩ := and2 hb
  obtain ⟨h2, hb⟩ := and2 hb
  obtain ⟨h3, hb⟩ := and2 hb
  obtain ⟨h4, hb⟩ := and2 hb
  obtain ⟨h5, hb⟩ := and2 hb
  obtain ⟨h6, hb⟩ := and2 hb
  obtain ⟨h7, hb⟩ := and2 hb
  obtain ⟨h8, hb⟩ := and2 hb
  obtain ⟨h9, hb⟩ := and2 hb
  obtain ⟨h10, hb⟩ := and2 hb
  obtain ⟨h11, hb⟩ := and2 hb
  obtain ⟨h12, hb⟩ := and2 hb
  obtain ⟨h13, hb⟩ := and2 hb
  obtain ⟨h14, hb⟩ := and2 hb
  obtain ⟨h15, hb⟩ := and2 hb
  obtain ⟨h16, h17⟩ := and2 hb
  refine ⟨?_, h2, oo_ok h3, of_decide_eq_true h4, of_decide_eq_true h5, oo_ok h6, oo_ok h7, oo_ok h8, oo_ok h9, oo_ok h10, h11, of_decide_eq_true h12, of_decide_eq_true h13, h14, h15, oo_ok h16, of_decide_eq_true h17⟩
  split at h1
  · rename_i t dd cd sl hk
    obtain ⟨a1, a2⟩ := and2 h1
    have a1 := of_decide_eq_true a1
    subst a1
    split at a2
    · rename_i C' bm k0 k1 k2 k3 nn k5 hm hs
      obtain ⟨b1, a2⟩ := and2 a2
      obtain ⟨b2, a2⟩ := and2 a2
      obtain ⟨b3, a2⟩ := and2 a2
      obtain ⟨b4, b5⟩ := and2 a2
      have b1 := of_decide_eq_true b1
      have b2 := of_decide_eq_true b2
      subst b1; subst b2
      have b6 : cd.hasDel = false := by simpa using b3
      clear b3
      obtain ⟨nm, bs, mro, nsp, qn, hd, sn, sub, ab, col, del⟩ := cd
      dsimp only at hm b6 b4
      subst hm; subst b6; subst b4
      obtain ⟨ls⟩ := sl
      simp only at hs
      subst hs
      exact ⟨nm, qn, nsp, bs, bm, sn, sub, ab, col, dd, k0, k1, k2, k3, k5, hk, b5⟩
    · cases a2
  · cases h1
theorem getD_ge {xs : List Str} {c : Nat} {d : Str} (h : xs.length ≤ c) : xs.getD c d = d := by
  rw [List.getD_eq_getElem?_getD, List.getElem?_eq_none h]; rfl
theorem xOk_of (X : K.In h) (Gn : h.Ns mainGlobals mg) {xs : List Str} {tf : List Defn} (hl : l = 5 ∨ l = 8) (hw : xW K = xVal l) (hb : exB P.main.file xs tf K = true) (htop : (P.main.scope.names.lookup ("super" : Str)).isSome = false) (hglo : ∀ x ∈ xs, mg x = some (.ref (ga K x))) {g : G} (hg : g.cad = cadOf K xs) : XOk l P K mg g xs := by
  obtain ⟨h1, hb⟩ := and2 hb
  obtain ⟨h2, hb⟩ := and2 hb
  obtain ⟨h3, hb⟩ := and2 hb
  obtain ⟨h4, hb⟩ := and2 hb
  obtain ⟨h5, h6⟩ := and2 hb
  have h4 := of_decide_eq_true h4
  have ne : 0 < xs.length := by
    cases xs with
    | nil => revert h4; decide
    | cons _ _ => simp
  have c0 : ∀ c, ∃ c', c' < xs.length ∧ cadOf K xs c = cadOf K xs c' := fun c => by
    by_cases hc : c < xs.length
    · exact ⟨c, hc, rfl⟩
    · refine ⟨0, ne, ?_⟩
      unfold cadOf
      rw [getD_ge (Nat.le_of_not_lt hc)]
      have : xs.getD 0 "Refused" = "Refused" := by
        cases xs with
        | nil => rfl
        | cons x r => exact h4
      rw [this]
  have mem : ∀ c, c < xs.length → xs.getD c "Refused" ∈ xs := fun c hc => by
    rw [List.getD_eq_getElem?_getD, List.getElem?_eq_getElem hc]
    exact List.getElem_mem hc
  have pairs : ∀ c h, h < xs.length → PySem.W.exmOne K (.ref (cadOf K xs c)) (.ref (cadOf K xs h)) = some (catches h c) ∧ PySem.W.kitOne K (.ref (cadOf K xs c)) (.ref (cadOf K xs h)) = some (catches h c) := fun c h hh => by
    have look : ∀ c, c ≤ xs.length → PySem.W.exmOne K (.ref (cadOf K xs c)) (.ref (cadOf K xs h)) = some (catches h c) ∧ PySem.W.kitOne K (.ref (cadOf K xs c)) (.ref (cadOf K xs h)) = some (catches h c) := fun c hc => by
      have t := List.all_eq_true.mp (List.all_eq_true.mp h3 c (List.mem_range.mpr (Nat.lt_succ_of_le hc))) h (List.mem_range.mpr hh)
      obtain ⟨t1, t2⟩ := and2 t
      exact ⟨of_decide_eq_true t1, of_decide_eq_true t2⟩
    by_cases hc : c ≤ xs.length
    · exact look c hc
    · have e : cadOf K xs c = cadOf K xs xs.length := by
        unfold cadOf
        rw [getD_ge (by omega), getD_ge (Nat.le_refl _)]
      have e2 : catches h c = catches h xs.length := by
        unfold catches
        have n1 : (h == c) = false := by simp; omega
        have n2 : (h == xs.length) = false := by simp; omega
        rw [n1, n2]
      rw [e, e2]
      exact look xs.length (Nat.le_refl _)
  have idx : ∀ {c : Nat} {x : Str}, xs[c]? = some x → c < xs.length ∧ xs.getD c "Refused" = x := fun {c x} hc => by
    refine ⟨(List.getElem?_eq_some_iff.mp hc).1, ?_⟩
    rw [List.getD_eq_getElem?_getD, hc]; rfl
  refine ⟨hl, ⟨_, _, xTop_ok X Gn hw h1 htop, fun c => ?_⟩, fun c x hc => ?_, fun c h x hx => ?_, fun c h x hx => ?_, fun c => ?_⟩
  · obtain ⟨c', hc, e⟩ := c0 c
    rw [hg, e]
    exact xCls_ok (List.all_eq_true.mp h2 _ (mem c' hc))
  · obtain ⟨i1, i2⟩ := idx hc
    rw [hg]
    unfold cadOf
    rw [i2]
    exact hglo x (List.mem_of_getElem? hc)
  · rw [hg]; exact (pairs c h (idx hx).1).1
  · rw [hg]; exact (pairs c h (idx hx).1).2
  · obtain ⟨c', hc, e⟩ := c0 c
    rw [hg, e]
    exact of_decide_eq_true (List.all_eq_true.mp h6 c' (List.mem_range.mpr (by omega)))
end
end Ev
end

section
set_option Elab.async false
set_option linter.all false
set_option maxRecDepth 100000
set_option autoImplicit false
set_option maxHeartbeats 1000000
/-! from the head to the law -/
namespace Ev
open PySem PySem.Spec PyProof.Rows L2 He LamX
def dvOf : D → Dv
  | .int i => .int i | .bl b => .bl b
  | _ => .non
theorem dvOf_v (K : PySem.W.Frag) (d : D) : (dvOf d).v K = vOf d := by cases d <;> rfl
def dOf (d : DI) : DefD := ⟨d.defn, d.x, d.qual, d.params, d.body, d.sc, d.dv.map dvOf, []⟩
def fnsOf (ds : List DI) : List DefD := ds.map dOf
def faD (d : DI) : Fa := match d.cls with
  | none => .glo d.x
  | some c => .meth c.2 d.x
def clN (cc : CC) (c : Nat) : Str := cc.kl.getD c "Refused"
def fasK (cc : CC) : List Fa := cc.kl.map Fa.glo ++ (cc.kl.map Fa.cls ++ (cc.kl.map Fa.mkr ++ cc.kf.map fun p => Fa.noat (clN cc p.1) (cc.fl.getD p.2 "")))
def fasOf (cc : CC) (ds : List DI) : List Fa := ds.map faD ++ (cc.xs.map Fa.glo ++ (cc.bn.map Fa.free ++ ((cc.cs.map fun p => Fa.int p.1 p.2) ++ fasK cc)))
def tfD (ds : List DI) : List Defn := (ds.filter (·.lam)).map DI.defn
abbrev AlY : Type := (AlD × XW) × Bool
def partY (n : Nat) (g : Addr → Option Obj) : PySem.W.Frag := frT g (asD g n ++ [cStatics])
def obsY (n : Nat) (file : Str) (cc : CC) (ds : List DI) (g : Addr → Option Obj) : AlY :=
  ((obsD (fasOf cc ds) (fnsOf ds) (partY n g), xW (partY n g)), exB file cc.xs (tfD ds) (partY n g) && tabsB g (tfD ds) (partY n g))
def valY (cc : CC) (ds : List DI) : AlY := ((valD (fnsOf ds), xVal cc.ln), true)
structure SaysY (file : Str) (cc : CC) (ds : List DI) (h : Heap) (K : PySem.W.Frag) : Prop where
  d : SaysD (fasOf cc ds) (fnsOf ds) K
  x : xW K = xVal cc.ln
  more : exB file cc.xs (tfD ds) K = true
  hd : ∀ p ∈ tfD ds, PySem.W.codeHdIn K (cT K p).1 (cT K p).2 = true
  out : ∀ p ∈ tfD ds, K.lookup (cT K p).2 = none
  empty : ∀ p ∈ tfD ds, h.get? (cT K p).2 = some { cls := .none, data := .fields #[] }
theorem saysY_of {n : Nat} {file : Str} {cc : CC} {ds : List DI} {h : Heap} (e : obsY n file cc ds h.get? = valY cc ds) : SaysY file cc ds h (partY n h.get?) := by
  have e1 : obsD (fasOf cc ds) (fnsOf ds) (partY n h.get?) = valD (fnsOf ds) := congrArg (fun z : AlY => z.1.1) e
  have e2 : xW (partY n h.get?) = xVal cc.ln := congrArg (fun z : AlY => z.1.2) e
  have e3 : (exB file cc.xs (tfD ds) (partY n h.get?) && tabsB h.get? (tfD ds) (partY n h.get?)) = true := congrArg (fun z : AlY => z.2) e
  obtain ⟨a1, a2⟩ := and2 e3
  have tab : ∀ p ∈ tfD ds, PySem.W.codeHdIn (partY n h.get?) (cT (partY n h.get?) p).1 (cT (partY n h.get?) p).2 = true ∧ ∃ o, h.get? (cT (partY n h.get?) p).2 = some o ∧ emptyTab o = true := fun p hp => by
    obtain ⟨b1, b2⟩ := and2 (List.all_eq_true.mp a2 p hp)
    refine ⟨b1, ?_⟩
    split at b2
    · rename_i o ho; exact ⟨o, ho, b2⟩
    · cases b2
  refine ⟨e1, e2, a1, fun p hp => (tab p hp).1, fun p hp => ?_, fun p hp => ?_⟩
  · obtain ⟨_, o, q, z⟩ := tab p hp
    exact frT_none q z
  · obtain ⟨_, o, q, z⟩ := tab p hp
    rw [q, emptyTab_eq z]
def hookY (n : Nat) (file : Str) (cc : CC) (ds : List DI) : PySem.W.Hook where
  α := AlY
  obs := fun s => obsY n file cc ds s.heap.get?
  val := fun _ => valY cc ds
  says := fun _ h => ∃ K : PySem.W.Frag, K.In h ∧ SaysY file cc ds h K
  of := fun _ _ e => ⟨_, frT_in, saysY_of e⟩
  keeps := fun _ _ _ ⟨K, hK, c⟩ k => ⟨K, PySem.W.Frag.In.keeps hK k, ⟨c.d, c.x, c.more, c.hd, c.out, fun p hp => k _ _ (c.empty p hp)⟩⟩
theorem obsY_eq {n : Nat} {file : Str} {cc : CC} {ds : List DI} {g : Addr → Option Obj} {s : Shared} (h : ∀ a, g a = s.heap.get? a) : obsY n file cc ds g = (hookY n file cc ds).obs s := by
  have e : g = s.heap.get? := funext h
  rw [e] <;> rfl
/-- arguments of a def go to its parameters -/
def BindOk (d : DI) : Prop := ∀ (kV doc pm : Value) (an : Option Addr) (cdv ct : Value) (us : List Value), us.length = d.ps.length → bindArgs (PySem.W.fnOf d.x d.qual d.params d.body d.sc .none kV doc pm an cdv ct) ⟨us, []⟩ = pure (d.ps.zip us)
/-- .. by keywords alone, in the parameters' order -/
def BindKOk (d : DI) : Prop := ∀ (kV doc pm : Value) (an : Option Addr) (cdv ct : Value) (us : List Value), us.length = d.ps.length → bindArgs (PySem.W.fnOf d.x d.qual d.params d.body d.sc .none kV doc pm an cdv ct) ⟨[], d.ps.zip us⟩ = pure (d.ps.zip us)
theorem FunD.bindsKA {K : PySem.W.Frag} {x qual : Str} {params : Arguments} {body : List Stmt} {scope : Scope} {kws : List (Str × V)} {f : Addr} {fd : FuncData} {ps : List Str} (F : FunD K x qual params body scope [] kws f fd)
    (h : ∀ (kV doc pm : Value) (an : Option Addr) (cdv ct : Value) (us : List Value), us.length = ps.length → bindArgs (PySem.W.fnOf x qual params body scope .none kV doc pm an cdv ct) ⟨[], ps.zip us⟩ = pure (ps.zip us)) : BindsK fd ps := fun s us hl => by
  obtain ⟨oc, od, dV, kV, doc, pm, an, cdv, ct, osl, rfl, lk, hcd, hD, hK⟩ := F.ex
  rcases hD with ⟨_, rfl⟩ | ⟨e, _⟩
  · exact .of_eq (h kV doc pm an cdv ct us hl)
  · exact absurd rfl e
/-- with defaults: n are written, those behind the first j fill up -/
def BindDOk (d : DI) (n j : Nat) : Prop := ∀ (T : Addr) (kV doc pm : Value) (an : Option Addr) (cdv ct : Value) (us its : List Value), us.length = n → its.length = d.dv.length →
  ∃ k, bindArgs (PySem.W.fnOf d.x d.qual d.params d.body d.sc (.ref T) kV doc pm an cdv ct) ⟨us, []⟩ = seqItems? (.ref T) >>= k ∧ k (some its.toArray) = pure (d.ps.zip (us ++ its.drop j))
def BndOk (d : DI) : Prop := (d.dv = [] ∧ d.css = [[]] ∧ BindOk d) ∨ (d.dv ≠ [] ∧ ∀ cs ∈ d.css, ∃ n j, cs = d.dv.drop j ∧ n + (d.dv.length - j) = d.ps.length ∧ BindDOk d n j)
def flOk (fl : List Str) : Prop := fl.Nodup ∧ ∀ x ∈ fl, x.cps.size < 100
/-- what a law's data must keep, no program in sight -/
structure DataOk (cc : CC) (T : Tbl) (ds : List DI) : Prop where
  bind : ∀ d ∈ ds, BndOk d
  look : ∀ d ∈ ds, lookD cc d = true
  tab : ∀ d ∈ ds, T d.id = some d.fn
  fs : ∀ p ∈ cc.fs, ∃ d ∈ ds, d.x = p.1 ∧ d.id = p.2 ∧ d.th = false ∧ d.cls = none ∧ [] ∈ d.css
  ls : ∀ p ∈ cc.ls, ∃ d ∈ ds, d.x = p.1 ∧ d.id = p.2 ∧ d.th = true ∧ d.cls = none ∧ [] ∈ d.css
  ln : cc.ln = 5 ∨ cc.ln = 8
  ks : ∀ p ∈ cc.ks, ∃ d ∈ ds, d.x = p.1 ∧ d.id = p.2.1 ∧ d.ps = p.2.2 ∧ d.th = false ∧ d.cls = none ∧ d.dv = [] ∧ BindKOk d := by intro p hp; cases hp
  flk : flOk cc.fl := by exact ⟨List.nodup_nil, fun x hx => by cases hx⟩
  kn : ∀ d ∈ ds, ∀ c, d.cls = some c → cc.kl[c.1]? = some c.2
  kf : ∀ p ∈ cc.kf, p.1 < cc.kl.length ∧ p.2 < cc.fl.length := by intro p hp; cases hp
  mts : ∀ p ∈ cc.mt, p.2.2.2.all conB = true ∧ ∃ d ∈ ds, ∃ cn, d.x = p.2.1 ∧ d.id = p.2.2.1 ∧ d.th = false ∧ d.cls = some (p.1, cn) ∧ p.2.2.2 ∈ d.css := by intro p hp; cases hp
  mks : ∀ p ∈ cc.mks, (∃ x, cc.kl[p.1]? = some x) ∧ ∃ d ∈ ds, ∃ cn, d.x = ("__init__" : Str) ∧ d.id = p.2 ∧ d.th = false ∧ d.cls = some (p.1, cn) ∧ [] ∈ d.css := by intro p hp; cases hp
def fldOf (fl : List Str) (i : Nat) : Str := match fl[i]? with
  | some x => x
  | none => ⟨Array.replicate (i + 100) 0⟩
theorem fldOf_inj {fl : List Str} (h : flOk fl) (i j : Nat) (e : fldOf fl i = fldOf fl j) : i = j := by
  unfold fldOf at e
  cases hi : fl[i]? with
  | some x =>
    rw [hi] at e
    cases hj : fl[j]? with
    | some y =>
      rw [hj] at e
      simp only at e
      subst e
      obtain ⟨i1, i2⟩ := List.getElem?_eq_some_iff.mp hi
      obtain ⟨j1, j2⟩ := List.getElem?_eq_some_iff.mp hj
      exact (List.getElem_inj h.1).mp (i2.trans j2.symm)
    | none =>
      rw [hj] at e
      simp only at e
      have := h.2 x (List.mem_of_getElem? hi)
      rw [e] at this
      simp at this
      omega
  | none =>
    rw [hi] at e
    cases hj : fl[j]? with
    | some y =>
      rw [hj] at e
      simp only at e
      have := h.2 y (List.mem_of_getElem? hj)
      rw [← e] at this
      simp at this
      omega
    | none =>
      rw [hj] at e
      simp only at e
      have := congrArg (fun z : Str => z.cps.size) e
      simp at this
      omega
def gOf (K : PySem.W.Frag) (cc : CC) (ds : List DI) (h : flOk cc.fl) : G where
  K := K
  fad := fun _ => 0
  cad := cadOf K cc.xs
  fld := fldOf cc.fl
  kad := fun c => ga K (clN cc c)
  finj := fldOf_inj h
  tabs := (ds.filter (·.lam)).map fun d => ((cT K d.defn).2, (d.qual ++ ".<locals>.") ++ "<lambda>")
section
variable {w : World} {P : Program} {K : PySem.W.Frag} {mg : Str → Option Value} {h base : Heap} {cc : CC} {T : Tbl} {ds : List DI}
theorem glob_of (X : K.In h) (Gn : h.Ns mainGlobals mg) (c : SaysY P.main.file cc ds h K) (o : DataOk cc T ds) (htop : (P.main.scope.names.lookup ("super" : Str)).isSome = false) (TB : ∀ p ∈ (tfD ds).map (cT K), TabB base mg p.1 p.2) :
    Glob w P K mg base (gOf K cc ds o.flk) cc T ds := by
  have fk : ∀ {f : Fa}, f ∈ fasK cc → f.ok K = true := fun hf => c.d.facts (List.mem_append_right _ (List.mem_append_right _ (List.mem_append_right _ (List.mem_append_right _ hf))))
  have glo : ∀ x, Fa.glo x ∈ fasOf cc ds → mg x = some (.ref (ga K x)) := fun x hx => He.glo_ok X Gn (c.d.facts hx)
  have gx : ∀ x ∈ cc.xs, mg x = some (.ref (ga K x)) := fun x hx => glo x (List.mem_append_right _ (List.mem_append_left _ (List.mem_map.mpr ⟨x, hx, rfl⟩)))
  have nm : ∀ {i : Nat} {x : Str}, cc.kl[i]? = some x → clN cc i = x := fun {i x} h => by
    unfold clN
    rw [List.getD_eq_getElem?_getD, h]; rfl
  have at_ : ∀ d ∈ ds, AtD K mg (fun c => ga K (clN cc c)) d (fAd K d.defn) := fun d hd => by
    have hf : (faD d).ok K = true := c.d.facts (List.mem_append_left _ (List.mem_map.mpr ⟨d, hd, rfl⟩))
    cases hc : d.cls with
    | none =>
      rw [atD_none hc]
      unfold faD at hf
      rw [hc] at hf
      have := He.glo_ok X Gn hf
      unfold DI.defn
      rw [hc]
      exact this
    | some q =>
      rw [atD_some hc]
      unfold faD at hf
      rw [hc] at hf
      have := He.meth_ok hf
      unfold DI.defn
      rw [hc, nm (o.kn d hd q hc)]
      exact this
  have fun_ : ∀ d ∈ ds, ∃ fd, FunD K d.x d.qual d.params d.body d.sc (d.dv.map vOf) [] (fAd K d.defn) fd := fun d hd => by
    obtain ⟨fd, F⟩ := c.d.defs (d := dOf d) (List.mem_map.mpr ⟨d, hd, rfl⟩)
    refine ⟨fd, ?_⟩
    have e : (dOf d).dvs K = d.dv.map vOf := by
      unfold DefD.dvs dOf
      rw [List.map_map]
      exact List.map_congr_left fun x _ => dvOf_v K x
    rw [e] at F
    exact F
  refine ⟨rfl, ⟨rfl, rfl, rfl⟩, fun x hx => He.free_ok X Gn (c.d.facts (f := .free x) (List.mem_append_right _ (List.mem_append_right _ (List.mem_append_left _ (List.mem_map.mpr ⟨x, hx, rfl⟩))))),
    fun p hp => He.int_ok X Gn (c.d.facts (f := .int p.1 p.2) (List.mem_append_right _ (List.mem_append_right _ (List.mem_append_right _ (List.mem_append_left _ (List.mem_map.mpr ⟨p, hp, rfl⟩)))))),
    xOk_of X Gn o.ln c.x c.more htop gx rfl, fun d hd => ?_, o.look, o.tab, o.fs, o.ls, fun d hd hl f cdv hf ⟨oc, od, dV, kV, doc, pm, an, ct, osl, lk⟩ => ?_, fun p hp => ?_, fun i x hx => ?_, fun i x hx => ?_, fun p hp => ?_, o.mts, o.mks⟩
  · obtain ⟨fd, F⟩ := fun_ d hd
    refine ⟨_, fd, _, [], at_ d hd, F, fun cs hcs => ?_⟩
    rcases o.bind d hd with ⟨b1, b2, b3⟩ | ⟨b1, b2⟩
    · rw [b2] at hcs
      have e := List.mem_singleton.mp hcs
      subst e
      rw [b1] at F
      exact ⟨[], .nil, FunD.bindsN F b3⟩
    · obtain ⟨n, j, e1, e2, e3⟩ := b2 cs hcs
      obtain ⟨dsv, h1, h2⟩ := FunD.binds1 F n j (by simpa using b1) (by simpa using e2) (fun T kV doc pm an cdv ct us its h1 h2 => e3 T kV doc pm an cdv ct us its h1 (by simpa using h2))
      refine ⟨dsv, ?_, h2⟩
      rw [e1, List.map_drop]
      exact h1
  · have ef : f = fAd K d.defn := by
      have h0 := at_ d hd
      cases hc : d.cls with
      | none =>
        rw [atD_none hc] at h0 hf
        rw [h0] at hf
        injection hf with hf
        injection hf with hf
        exact hf.symm
      | some q =>
        rw [atD_some hc] at h0 hf
        have a := h0.at_
        have b := hf.at_
        have b' : PySem.W.findIn K (.ref (ga K (clN cc q.1))) d.x = some (some (.ref f)) := b
        rw [a] at b'
        injection b' with b'; injection b' with b'; injection b' with b'
        exact b'.symm
    subst ef
    obtain ⟨fd, F⟩ := fun_ d hd
    obtain ⟨oc', od', dV', kV', doc', pm', an', cdv', ct', osl', _, lk', hcd, _, _⟩ := F.ex
    rw [lk] at lk'
    injection lk' with lk'
    have ecd : cdv = cdv' := by
      have := congrArg Obj.data lk'
      injection this with this
      rename_i efd _ 
      first
        | exact congrArg FuncData.code (by assumption)
        | (subst_vars; exact congrArg FuncData.code this)
    subst ecd
    obtain ⟨cd, ec⟩ := codeIn_ref hcd
    subst ec
    have e1 : codeOf K d.defn = cd := codeOf_eq (p := d.defn) lk rfl
    have hm : d ∈ ds.filter (·.lam) := List.mem_filter.mpr ⟨hd, hl⟩
    have hm2 : d.defn ∈ tfD ds := List.mem_map.mpr ⟨d, hm, rfl⟩
    refine ⟨cd, (cT K d.defn).2, rfl, ?_, List.mem_map.mpr ⟨d, hm, rfl⟩, fun p hp hpe => ?_⟩
    · have := TB (cT K d.defn) (List.mem_map.mpr ⟨d.defn, hm2, rfl⟩)
      rw [show (cT K d.defn).1 = cd from e1] at this
      exact this
    · obtain ⟨y, hy, rfl⟩ := List.mem_map.mp hp
      have ne := (and2 (and2 (and2 (and2 (and2 c.more).2).2).2).2).1
      have t := List.all_eq_true.mp (List.all_eq_true.mp ne y.defn (List.mem_map.mpr ⟨y, hy, rfl⟩)) d.defn hm2
      simp only [Bool.or_eq_true, decide_eq_true_eq] at t
      rcases t with t | t
      · show (y.qual ++ ".<locals>.") ++ "<lambda>" = _
        unfold DI.qual
        rw [t]
      · exact absurd hpe t
  · obtain ⟨d, hd, e1, e2, e3, e4, ec, edv, hb⟩ := o.ks p hp
    obtain ⟨fd, F⟩ := fun_ d hd
    have m := (atD_none ec).mp (at_ d hd)
    rw [edv] at F
    exact ⟨d, hd, e1, e2, e3, e4, ec, _, fd, [], [], m, F, FunD.bindsKA F hb⟩
  · have hm := List.mem_of_getElem? hx
    have e := nm hx
    have k1 : mg x = some (.ref (ga K x)) := He.glo_ok X Gn (fk (List.mem_append_left _ (List.mem_map.mpr ⟨x, hm, rfl⟩)))
    have k2 := He.cls_ok (fk (List.mem_append_right _ (List.mem_append_left _ (List.mem_map.mpr ⟨x, hm, rfl⟩))))
    have k3 := He.mkr_ok (fk (List.mem_append_right _ (List.mem_append_right _ (List.mem_append_left _ (List.mem_map.mpr ⟨x, hm, rfl⟩)))))
    show mg x = some (.ref (ga K (clN cc i))) ∧ L2.Cls K (ga K (clN cc i)) ∧ ∃ f, L2.Mk K (ga K (clN cc i)) f
    rw [e]
    exact ⟨k1, k2, _, k3⟩
  · show fldOf cc.fl i = x
    unfold fldOf
    rw [hx]
  · obtain ⟨h1, h2⟩ := o.kf p hp
    have := He.noat_ok (fk (List.mem_append_right _ (List.mem_append_right _ (List.mem_append_right _ (List.mem_map.mpr ⟨p, hp, rfl⟩)))))
    show NoAttr K (ga K (clN cc p.1)) (fldOf cc.fl p.2)
    unfold fldOf
    rw [List.getD_eq_getElem?_getD, List.getElem?_eq_getElem h2] at this
    rw [List.getElem?_eq_getElem h2]
    exact this
end
end Ev
end

section
set_option Elab.async false
set_option linter.all false
set_option maxRecDepth 100000
set_option autoImplicit false
set_option maxHeartbeats 1000000
namespace Ev
open PySem PySem.Spec PyProof.Rows L2 He LamX
theorem law_walk {l : PySem.W.OpenLaw} {n k m : Nat} {q : Program} {loose : List Str} {XP : (Str → Option Value) → Heap → Prop} {d : DefRec} {cc : CC} {T : Tbl} {ds : List DI} {dl : DI} {x : Str}
    (hn : l.most = some n) (hn2 : n ≤ sizeLine) (hdf : d.params.defaults = []) (room : Room (4 * k) callerA) (o : DataOk cc T ds) (hgd : cc.gd = true) (htop : (l.prog.main.scope.names.lookup ("super" : Str)).isSome = false)
    (hdl : dl ∈ ds) (hth : dl.th = false) (hcl : dl.cls = none) (hdv : dl.dv = []) (hps : dl.ps = [x]) (hname : dl.x = d.name) (hev : ∀ ns : List Int, ns.length ≤ n → (∀ z ∈ ns, Builtin.Int.intBits z ≤ 1048576) → ∃ L, callN T k dl.id [.scr ns] [] = .ok (.bl true) L) :
    PySem.W.WalkO q loose XP (hookY m l.prog.main.file cc ds).says l.row.toRowW d [] (fun f vs => PySem.call f vs) := by
  refine Att.attach_callB hn hdf fun w s₀ s₁ mg mb fa ob pm cd doc a vs ns G0 Y ho hd hcd hmg hobj hints hlen hbits hg => ?_
  obtain ⟨K, KX, c⟩ := Y
  have Gn := G0.T.g
  have glo : mg dl.x = some (.ref (ga K dl.x)) := He.glo_ok KX Gn (c.d.facts (f := .glo dl.x) (List.mem_append_left _ (List.mem_map.mpr ⟨dl, hdl, by unfold faD; rw [hcl]⟩)))
  have efa : fa = ga K dl.x := by
    rw [hname, hmg] at glo
    injection glo with glo
    injection glo with glo
    rw [glo, hname]
  subst efa
  have edf : dl.defn = (dl.x, none) := by unfold DI.defn; rw [hcl]
  have eql : dl.qual = dl.x := by unfold DI.qual; rw [edf]; rfl
  obtain ⟨fd, F⟩ : ∃ fd, FunD K dl.x dl.qual dl.params dl.body dl.sc [] [] (ga K dl.x) fd := by
    obtain ⟨fd, F⟩ := c.d.defs (d := dOf dl) (List.mem_map.mpr ⟨dl, hdl, rfl⟩)
    have e : (dOf dl).dvs K = [] := by unfold DefD.dvs dOf; rw [hdv]; rfl
    have e2 : fAd K (dOf dl).at_ = ga K dl.x := by show fAd K dl.defn = _; rw [edf]; rfl
    rw [e, e2] at F
    exact ⟨fd, F⟩
  have bind : ∀ (s : Shared) (u : Value), BindsTo s fd ⟨[u], []⟩ [(x, u)] := fun s u => by
    have hbk : BindOk dl := by
      rcases o.bind dl hdl with ⟨_, _, b3⟩ | ⟨b1, _⟩
      · exact b3
      · exact absurd hdv b1
    have := FunD.bindsA F hbk s [u] (by rw [hps]; rfl)
    rw [hps] at this
    exact this
  refine law_run (cs := (tfD ds).map (cT K)) (k := 4 * k) (x := x) (sp := spF (gOf K cc ds o.flk) (callN T k dl.id)) KX Gn G0.T.b G0.T.builtins G0.T.nolimit hg (fun p hp => ?_) (fun p hp => ?_) (fun p hp => ?_) G0.T.bmain hobj hints (Nat.le_trans hlen hn2) room (fun base KB nsB TB => ?_) bind fun H S => ?_
  · obtain ⟨y, hy, rfl⟩ := List.mem_map.mp hp
    exact c.empty y hy
  · obtain ⟨y, hy, rfl⟩ := List.mem_map.mp hp
    exact c.out y hy
  · obtain ⟨y, hy, rfl⟩ := List.mem_map.mp hp
    exact PySem.W.codeHd_of_K KX (c.hd y hy)
  · have Gl : Glob w l.prog K mg base (gOf K cc ds o.flk) cc T ds := glob_of KX Gn c o htop TB
    have := all_ok Gl k dl hdl hth _ fd [] [] ((atD_none hcl).mpr glo) F
    rw [hgd, hps] at this
    exact this
  · obtain ⟨L, he⟩ := hev ns hlen hbits
    refine ⟨[], [.scr ns], [], [], ⟨rfl, List.nodup_nil, fun i u e => (by simp at e), fun p hp => ?_, fun b hb => (by cases hb)⟩, .cons (.scr S.sq (.inl ⟨fun z => (by cases z), fun z => (by cases z)⟩) (Nat.le_trans hlen hn2)) .nil, ?_⟩
    · obtain ⟨y, hy, rfl⟩ := List.mem_map.mp hp
      exact TabS.nil (S.tb (cT K y.defn) (List.mem_map.mpr ⟨y.defn, List.mem_map.mpr ⟨y, hy, rfl⟩, rfl⟩))
    · rw [he]
      intro v H' m' x' r q
      cases q
      rfl
end Ev
end

section
set_option Elab.async false
set_option linter.all false
set_option maxRecDepth 100000
set_option maxHeartbeats 0
namespace Lw
open PySem Ev
abbrev i__wall : Nat := 0
abbrev i_is_whole : Nat := 1
abbrev i_is_between : Nat := 2
abbrev i_is_below : Nat := 3
abbrev i_is_links : Nat := 4
abbrev i_has_size : Nat := 5
abbrev i_wrong_entry : Nat := 6
abbrev i_made_book : Nat := 7
abbrev i_many_parts : Nat := 8
abbrev i_is_part : Nat := 9
abbrev i_is_change : Nat := 10
abbrev i_is_changes : Nat := 11
abbrev i_first_outside : Nat := 12
abbrev i_at_first : Nat := 13
abbrev i_put_to : Nat := 14
abbrev i_state_behind : Nat := 15
abbrev i_standing_at_first : Nat := 16
abbrev i_want_ties : Nat := 17
abbrev i_nearest : Nat := 18
abbrev i_halves : Nat := 19
abbrev i_is_move : Nat := 20
abbrev i_want_history : Nat := 21
abbrev i_strays_of : Nat := 22
abbrev i_run : Nat := 23
abbrev i_strays : Nat := 24
abbrev i__law_pool : Nat := 25
abbrev i__law_take : Nat := 26
abbrev i__law_one : Nat := 27
abbrev i__law_plain_links : Nat := 28
abbrev i__law_drawn_links : Nat := 29
abbrev i__law_drawn_steps : Nat := 30
abbrev i__law_plain_book : Nat := 31
abbrev i__law_linked_book : Nat := 32
abbrev i__law_some_book : Nat := 33
abbrev i__law_drawn_history : Nat := 34
abbrev i__law_noughts : Nat := 35
abbrev i__law_stepped : Nat := 36
abbrev i__law_strays_of : Nat := 37
abbrev i__law_is_formed : Nat := 38
abbrev i__law_is_near : Nat := 39
abbrev i__law_ties_refused : Nat := 40
abbrev i__law_wrong_ties_right : Nat := 41
abbrev i__law_moves_right : Nat := 42
abbrev i__law_copies_right : Nat := 43
abbrev i_law : Nat := 44
abbrev i_Standing___init__ : Nat := 45
abbrev i_Standing_branch : Nat := 46
abbrev i_Standing_step : Nat := 47
abbrev i_Standing_go : Nat := 48
abbrev i_HalvesPlayer___init__ : Nat := 49
abbrev i_HalvesPlayer_copy : Nat := 50
abbrev i_HalvesPlayer_number : Nat := 51
abbrev i_HalvesPlayer_moved : Nat := 52
abbrev k_Standing : Nat := 0
abbrev k_HalvesPlayer : Nat := 1
abbrev a_book : Nat := 0
abbrev a_player : Nat := 1
abbrev a_state : Nat := 2
abbrev a_ties : Nat := 3
abbrev a_truths : Nat := 4
abbrev m_copy : List (Nat × Nat) := [(k_HalvesPlayer, i_HalvesPlayer_copy)]
abbrev m_go : List (Nat × Nat) := [(k_Standing, i_Standing_go)]
abbrev m_moved : List (Nat × Nat) := [(k_HalvesPlayer, i_HalvesPlayer_moved)]
abbrev m_step : List (Nat × Nat) := [(k_Standing, i_Standing_step)]
abbrev m_number : List (Nat × Nat) := [(k_HalvesPlayer, i_HalvesPlayer_number)]
def eT : E := .con (.bl true)
abbrev c_Refused : Nat := 0
abbrev c_BadBook : Nat := 1
abbrev c_BadHistory : Nat := 2
abbrev c_BadTies : Nat := 3
abbrev c_Broken : Nat := 4
/-- _wall: 0 k -/
def e__wall_1 : E := (.con (.bl true))
def s__wall_1 : List S := [
    .pass]
def f__wall : Fn := { np := 1, nl := 1, drop := false, body := [
    .whl (fun _ _ => 0) e__wall_1 s__wall_1] }
/-- is_whole: 0 thing -/
def f_is_whole : Fn := { np := 1, nl := 1, drop := false, body := [
    .ret (.and (.isin (.var 0) [.int]) (.not (.isin (.var 0) [.bool])))] }
/-- is_between: 0 thing, 1 least, 2 most -/
def f_is_between : Fn := { np := 3, nl := 3, drop := false, body := [
    .ret (.and (.call i_is_whole [(.var 0)]) (.chain .le .le (.var 1) (.var 0) (.var 2)))] }
/-- is_below: 0 thing, 1 bound -/
def f_is_below : Fn := { np := 2, nl := 2, drop := false, body := [
    .ret (.call i_is_between [(.var 0), (.con (.int 0)), (.bin .sub (.var 1) (.con (.int 1)))])] }
/-- is_links: 0 thing, 1 part, 2 many, 3 one, 4 at -/
def e_is_links_1 : E := (.call i_is_below [(.var 3), (.var 2)])
def e_is_links_2 : E := (.cmp .lt (.idx (.var 0) (.var 4)) (.idx (.var 0) (.bin .add (.var 4) (.con (.int 1)))))
def f_is_links : Fn := { np := 3, nl := 5, drop := false, body := [
    .ife (.or (.not (.isin (.var 0) [.tuple])) (.not (.bi .all [(.lc false [3] (.nm 3) .seq [(.var 0)] eT e_is_links_1)]))) [
      .ret (.con (.bl false))] [],
    .ret (.and (.cmp .in_ (.var 1) (.var 0)) (.bi .all [(.lc false [4] (.nm 4) .rng [(.bin .sub (.bi .len [(.var 0)]) (.con (.int 1)))] eT e_is_links_2)]))] }
/-- has_size: 0 thing, 1 half -/
def e_has_size_1 : E := (.isin (.var 1) [.tuple])
def f_has_size : Fn := { np := 1, nl := 2, drop := false, body := [
    .ife (.or (.not (.isin (.var 0) [.tuple])) (.or (.cmp .ne (.bi .len [(.var 0)]) (.con (.int 2))) (.not (.bi .all [(.lc false [1] (.nm 1) .seq [(.var 0)] eT e_has_size_1)])))) [
      .ret (.con (.bl false))] [],
    .ret (.and (.cmp .eq (.bi .len [(.idx (.var 0) (.con (.int 0)))]) (.bi .len [(.idx (.var 0) (.con (.int 1)))])) (.chain .le .le (.con (.int 1)) (.bi .len [(.idx (.var 0) (.con (.int 0)))]) (.con (.int 6))))] }
/-- wrong_entry: 0 thing, 1 steps, 2 links, 3 part, 4 many, 5 others -/
def s_wrong_entry_1 : List S := [
    .ife (.not (.call i_is_between [(.var 4), (.con (.int 1)), (.con (.int 60))])) [
      .ret (.tup [(.con (.int 0)), (.var 3)])] []]
def s_wrong_entry_2 : List S := [
    .ife (.not (.call i_is_links [(.var 5), (.var 3), (.bi .len [(.var 1)])])) [
      .ret (.tup [(.con (.int 1)), (.var 3)])] []]
def f_wrong_entry : Fn := { np := 1, nl := 6, drop := false, body := [
    .set (.tp [1, 2]) (.var 0),
    .for_ (.tp [3, 4]) .enum [(.var 1)] s_wrong_entry_1,
    .for_ (.tp [3, 5]) .enum [(.var 2)] s_wrong_entry_2,
    .ret (.con .non)] }
/-- made_book: 0 thing, 1 where -/
def f_made_book : Fn := { np := 1, nl := 2, drop := false, body := [
    .ife (.not (.call i_has_size [(.var 0)])) [
      .raise c_BadBook (.neg (.con (.int 1)))] [],
    .set (.nm 1) (.call i_wrong_entry [(.var 0)]),
    .ife (.cmp .isnot (.var 1) (.con .non)) [
      .raise c_BadBook (.var 1)] [],
    .ret (.var 0)] }
/-- many_parts: 0 book -/
def f_many_parts : Fn := { np := 1, nl := 1, drop := false, body := [
    .ret (.bi .len [(.idx (.var 0) (.con (.int 0)))])] }
/-- is_part: 0 book, 1 thing -/
def f_is_part : Fn := { np := 2, nl := 2, drop := false, body := [
    .ret (.call i_is_below [(.var 1), (.call i_many_parts [(.var 0)])])] }
/-- is_change: 0 book, 1 thing -/
def f_is_change : Fn := { np := 2, nl := 2, drop := false, body := [
    .ife (.or (.not (.isin (.var 1) [.tuple])) (.cmp .ne (.bi .len [(.var 1)]) (.con (.int 2)))) [
      .ret (.con (.bl false))] [],
    .ret (.and (.call i_is_part [(.var 0), (.idx (.var 1) (.con (.int 0)))]) (.and (.call i_is_whole [(.idx (.var 1) (.con (.int 1)))]) (.cmp .ne (.idx (.var 1) (.con (.int 1))) (.con (.int 0)))))] }
/-- is_changes: 0 book, 1 thing, 2 change, 3 at -/
def e_is_changes_1 : E := (.call i_is_change [(.var 0), (.var 2)])
def e_is_changes_2 : E := (.cmp .lt (.idx (.idx (.var 1) (.var 3)) (.con (.int 0))) (.idx (.idx (.var 1) (.bin .add (.var 3) (.con (.int 1)))) (.con (.int 0))))
def f_is_changes : Fn := { np := 2, nl := 4, drop := false, body := [
    .ife (.or (.not (.isin (.var 1) [.tuple])) (.not (.bi .all [(.lc false [2] (.nm 2) .seq [(.var 1)] eT e_is_changes_1)]))) [
      .ret (.con (.bl false))] [],
    .ret (.bi .all [(.lc false [3] (.nm 3) .rng [(.bin .sub (.bi .len [(.var 1)]) (.con (.int 1)))] eT e_is_changes_2)])] }
/-- first_outside: 0 book, 1 part, 2 changes, 3 other, 4 _ -/
def s_first_outside_1 : List S := [
    .ife (.cmp .notin (.var 3) (.idx (.idx (.var 0) (.con (.int 1))) (.var 1))) [
      .ret (.var 3)] []]
def f_first_outside : Fn := { np := 3, nl := 5, drop := false, body := [
    .for_ (.tp [3, 4]) .seq [(.var 2)] s_first_outside_1,
    .ret (.con .non)] }
/-- at_first: 0 book -/
def f_at_first : Fn := { np := 1, nl := 1, drop := false, body := [
    .ret (.tup [(.bin .mul (.tup [(.con (.int 0))]) (.call i_many_parts [(.var 0)])), (.bin .mul (.tup [(.con (.int 0))]) (.call i_many_parts [(.var 0)]))])] }
/-- put_to: 0 numbers, 1 part, 2 by -/
def f_put_to : Fn := { np := 3, nl := 3, drop := false, body := [
    .ret (.bin .add (.bin .add (.slice false true (.var 0) (.con .non) (.var 1)) (.tup [(.bin .add (.idx (.var 0) (.var 1)) (.var 2))])) (.slice true false (.var 0) (.bin .add (.var 1) (.con (.int 1))) (.con .non)))] }
/-- state_behind: 0 state, 1 move, 2 changes, 3 truths, 4 shown, 5 part, 6 by -/
def s_state_behind_1 : List S := [
    .set (.nm 4) (.call i_put_to [(.var 4), (.var 5), (.var 6)])]
def f_state_behind : Fn := { np := 3, nl := 7, drop := false, body := [
    .set (.tp [3, 4]) (.var 0),
    .for_ (.tp [5, 6]) .seq [(.var 2)] s_state_behind_1,
    .ret (.tup [(.call i_put_to [(.var 3), (.idx (.var 1) (.con (.int 0))), (.idx (.var 1) (.con (.int 1)))]), (.var 4)])] }
/-- standing_at_first: 0 book, 1 player -/
def f_standing_at_first : Fn := { np := 2, nl := 2, drop := false, body := [
    .ret (.new k_Standing i_Standing___init__ [(.var 0), (.meth (.var 1) m_copy []), (.call i_at_first [(.var 0)])])] }
/-- want_ties: 0 book, 1 ties, 2 part, 3 tie -/
def s_want_ties_1 : List S := [
    .ife (.not (.call i_is_between [(.var 3), (.con (.int 0)), (.con (.int 1))])) [
      .raise c_BadTies (.var 2)] []]
def f_want_ties : Fn := { np := 2, nl := 4, drop := false, body := [
    .ife (.or (.not (.isin (.var 1) [.tuple])) (.cmp .ne (.bi .len [(.var 1)]) (.call i_many_parts [(.var 0)]))) [
      .raise c_BadTies (.neg (.con (.int 1)))] [],
    .for_ (.tp [2, 3]) .enum [(.var 1)] s_want_ties_1] }
/-- nearest: 0 truth, 1 steps, 2 tie -/
def f_nearest : Fn := { np := 3, nl := 3, drop := false, body := [
    .ret (.bin .fdiv (.bin .add (.var 0) (.bin .fdiv (.bin .add (.bin .sub (.var 1) (.con (.int 1))) (.var 2)) (.con (.int 2)))) (.var 1))] }
/-- halves: 0 book, 1 ties -/
def f_halves : Fn := { np := 2, nl := 2, drop := false, body := [
    .set (.nm 0) (.call i_made_book [(.var 0)]),
    .expr (.call i_want_ties [(.var 0), (.var 1)]),
    .ret (.new k_HalvesPlayer i_HalvesPlayer___init__ [(.var 0), (.var 1), (.bin .mul (.tup [(.con (.int 0))]) (.call i_many_parts [(.var 0)]))])] }
/-- is_move: 0 book, 1 thing -/
def f_is_move : Fn := { np := 2, nl := 2, drop := false, body := [
    .ife (.or (.not (.isin (.var 1) [.tuple])) (.or (.cmp .ne (.bi .len [(.var 1)]) (.con (.int 2))) (.not (.call i_is_part [(.var 0), (.idx (.var 1) (.con (.int 0)))])))) [
      .ret (.con (.bl false))] [],
    .ret (.and (.call i_is_whole [(.idx (.var 1) (.con (.int 1)))]) (.cmp .in_ (.idx (.var 1) (.con (.int 1))) (.tup [(.con (.int 1)), (.con (.int (-1)))])))] }
/-- want_history: 0 book, 1 thing, 2 index, 3 move -/
def s_want_history_1 : List S := [
    .ife (.not (.call i_is_move [(.var 0), (.var 3)])) [
      .raise c_BadHistory (.var 2)] []]
def f_want_history : Fn := { np := 2, nl := 4, drop := false, body := [
    .ife (.not (.isin (.var 1) [.tuple])) [
      .raise c_BadHistory (.neg (.con (.int 1)))] [],
    .for_ (.tp [2, 3]) .enum [(.var 1)] s_want_history_1] }
/-- strays_of: 0 book, 1 state, 2 truths, 3 shown, 4 truth, 5 number, 6 steps -/
def e_strays_of_1 : E := (.bin .sub (.bin .mul (.var 5) (.var 6)) (.var 4))
def f_strays_of : Fn := { np := 2, nl := 7, drop := false, body := [
    .set (.tp [2, 3]) (.var 1),
    .ret (.bi .tuple [(.lc false [4, 5, 6] (.tp [4, 5, 6]) .zip [(.var 2), (.var 3), (.idx (.var 0) (.con (.int 0)))] eT e_strays_of_1)])] }
/-- run: 0 book, 1 player, 2 history, 3 standing, 4 index -/
def f_run : Fn := { np := 3, nl := 5, drop := true, body := [
    .set (.nm 0) (.call i_made_book [(.var 0)]),
    .expr (.call i_want_history [(.var 0), (.var 2)]),
    .set (.nm 3) (.call i_standing_at_first [(.var 0), (.var 1)]),
    .set (.nm 4) (.meth (.var 3) m_go [(.var 2)]),
    .ife (.cmp .isnot (.var 4) (.con .non)) [
      .raise c_Broken (.var 4)] [],
    .ret (.attr (.var 3) a_state)] }
/-- strays: 0 book, 1 state -/
def f_strays : Fn := { np := 2, nl := 2, drop := false, body := [
    .ret (.call i_strays_of [(.call i_made_book [(.var 0)]), (.var 1)])] }
/-- _law_pool: 0 _law_script, 1 _law_k, 2 _law_cell, 3 _law_big, 4 _law_mixed -/
def f__law_pool : Fn := { np := 2, nl := 5, drop := false, body := [
    .set (.nm 2) (.con (.int 0)),
    .ife (.cmp .lt (.var 1) (.bi .len [(.var 0)])) [
      .set (.nm 2) (.idx (.var 0) (.var 1))] [
      .ife (.cmp .ne (.var 0) (.lst [])) [
        .set (.nm 2) (.idx (.var 0) (.con (.int 0)))] []],
    .set (.nm 3) (.bi .max [(.bi .int [(.var 2)]), (.bi .int [(.bin .sub (.neg (.con (.int 1))) (.var 2))])]),
    .set (.nm 4) (.bin .mod (.bi .int [(.bin .mul (.bin .add (.bin .add (.bin .add (.bin .mod (.bi .int [(.var 3)]) (.con (.int 2147483629))) (.bin .mul (.bin .mul (.con (.int 7919)) (.var 1)) (.var 1))) (.bin .mul (.con (.int 31)) (.var 1))) (.con (.int 17))) (.con (.int 48271)))]) (.con (.int 2147483647))),
    .ret (.mlst [(.bin .mul (.var 3) (.bi .int [(.and (.cmp .ge (.var 3) (.bin .pow (.con (.int 10)) (.con (.int 18)))) (.cmp .lt (.var 1) (.bi .len [(.var 0)])))])), (.var 4)])] }
/-- _law_take: 0 _law_source, 1 _law_top, 2 _law_drawn -/
def f__law_take : Fn := { np := 2, nl := 3, drop := false, body := [
    .ife (.cmp .gt (.idx (.var 0) (.con (.int 0))) (.con (.int 0))) [
      .set (.nm 2) (.bin .mod (.bi .int [(.idx (.var 0) (.con (.int 0)))]) (.var 1)),
      .setI (.var 0) (.con (.int 0)) (.bin .fdiv (.idx (.var 0) (.con (.int 0))) (.var 1)),
      .ret (.var 2)] [],
    .setI (.var 0) (.con (.int 1)) (.bin .mod (.bi .int [(.bin .add (.bin .mul (.idx (.var 0) (.con (.int 1))) (.con (.int 39373))) (.con (.int 7)))]) (.con (.int 2147483647))),
    .ret (.bin .mod (.bi .int [(.bin .fdiv (.bin .mod (.bi .int [(.bin .mul (.idx (.var 0) (.con (.int 1))) (.idx (.var 0) (.con (.int 1))))]) (.con (.int 2147483629))) (.con (.int 32)))]) (.var 1))] }
/-- _law_one: 0 _law_source, 1 _law_things -/
def f__law_one : Fn := { np := 2, nl := 2, drop := false, body := [
    .ret (.idx (.var 1) (.call i__law_take [(.var 0), (.bi .len [(.var 1)])]))] }
/-- _law_plain_links: 0 _law_many, 1 _law_i -/
def e__law_plain_links_1 : E := (.tup [(.var 1)])
def f__law_plain_links : Fn := { np := 1, nl := 2, drop := false, body := [
    .ret (.bi .tuple [(.lc false [1] (.nm 1) .rng [(.var 0)] eT e__law_plain_links_1)])] }
/-- _law_drawn_links: 0 _law_source, 1 _law_many, 2 _law_found, 3 _law_common, 4 _law_is_common, 5 _law_i, 6 _law_more, 7 _law_j -/
def e__law_drawn_links_1 : E := (.cmp .eq (.call i__law_take [(.var 0), (.con (.int 3))]) (.con (.int 0)))
def e__law_drawn_links_2 : E := (.var 7)
def e__law_drawn_links_3 : E := (.or (.cmp .eq (.var 7) (.var 5)) (.cmp .in_ (.var 7) (.var 6)))
def e__law_drawn_links_4 : E := (.var 7)
def s__law_drawn_links_1 : List S := [
    .set (.nm 6) (.ife (.var 4) (.lst [(.var 3)]) (.lc false [7] (.nm 7) .rng [(.var 1)] e__law_drawn_links_1 e__law_drawn_links_2)),
    .expr (.app (.var 2) (.bi .tuple [(.lc false [7] (.nm 7) .rng [(.var 1)] e__law_drawn_links_3 e__law_drawn_links_4)]))]
def f__law_drawn_links : Fn := { np := 2, nl := 8, drop := true, body := [
    .par [2, 3] [(.mlst []), (.call i__law_take [(.var 0), (.var 1)])],
    .set (.nm 4) (.cmp .eq (.call i__law_take [(.var 0), (.con (.int 4))]) (.con (.int 0))),
    .for_ (.nm 5) .rng [(.var 1)] s__law_drawn_links_1,
    .ret (.bi .tuple [(.var 2)])] }
/-- _law_drawn_steps: 0 _law_source, 1 _law_many, 2 _law_most, 3 _law_i -/
def e__law_drawn_steps_1 : E := (.bin .add (.con (.int 1)) (.call i__law_take [(.var 0), (.var 2)]))
def f__law_drawn_steps : Fn := { np := 3, nl := 4, drop := false, body := [
    .ife (.cmp .gt (.call i__law_take [(.var 0), (.con (.int 3))]) (.con (.int 0))) [
      .ret (.bin .mul (.tup [(.bin .add (.con (.int 1)) (.call i__law_take [(.var 0), (.var 2)]))]) (.var 1))] [],
    .ret (.bi .tuple [(.lc false [3] (.nm 3) .rng [(.var 1)] eT e__law_drawn_steps_1)])] }
/-- _law_plain_book: 0 _law_source, 1 _law_parts, 2 _law_most, 3 _law_many -/
def f__law_plain_book : Fn := { np := 3, nl := 4, drop := false, body := [
    .set (.nm 3) (.bin .add (.con (.int 1)) (.call i__law_take [(.var 0), (.var 1)])),
    .ret (.tup [(.call i__law_drawn_steps [(.var 0), (.var 3), (.var 2)]), (.call i__law_plain_links [(.var 3)])])] }
/-- _law_linked_book: 0 _law_source, 1 _law_parts, 2 _law_most, 3 _law_many -/
def f__law_linked_book : Fn := { np := 3, nl := 4, drop := false, body := [
    .set (.nm 3) (.bin .add (.con (.int 1)) (.call i__law_take [(.var 0), (.var 1)])),
    .ret (.tup [(.call i__law_drawn_steps [(.var 0), (.var 3), (.var 2)]), (.call i__law_drawn_links [(.var 0), (.var 3)])])] }
/-- _law_some_book: 0 _law_source, 1 _law_parts, 2 _law_most -/
def f__law_some_book : Fn := { np := 3, nl := 3, drop := false, body := [
    .ret (.ife (.cmp .eq (.call i__law_take [(.var 0), (.con (.int 2))]) (.con (.int 0))) (.call i__law_plain_book [(.var 0), (.var 1), (.var 2)]) (.call i__law_linked_book [(.var 0), (.var 1), (.var 2)]))] }
/-- _law_drawn_history: 0 _law_source, 1 _law_many, 2 _law_length, 3 _law_found, 4 _law_turn, 5 _law_move, 6 _law_times -/
def s__law_drawn_history_1 : List S := [
    .ife (.and (.cmp .lt (.bi .len [(.var 3)]) (.var 2)) (.cmp .gt (.call i__law_take [(.var 0), (.con (.int 6))]) (.con (.int 0)))) [
      .par [5, 6] [(.tup [(.call i__law_take [(.var 0), (.var 1)]), (.bin .sub (.con (.int 1)) (.bin .mul (.con (.int 2)) (.call i__law_take [(.var 0), (.con (.int 2))])))]), (.con (.int 1))],
      .ife (.cmp .eq (.call i__law_take [(.var 0), (.con (.int 3))]) (.con (.int 0))) [
        .set (.nm 6) (.bin .add (.con (.int 1)) (.call i__law_take [(.var 0), (.con (.int 6))]))] [],
      .expr (.ext (.var 3) (.bin .mul (.lst [(.var 5)]) (.bi .min [(.var 6), (.bin .sub (.var 2) (.bi .len [(.var 3)]))])))] []]
def f__law_drawn_history : Fn := { np := 3, nl := 7, drop := true, body := [
    .set (.nm 3) (.mlst []),
    .for_ (.nm 4) .rng [(.var 2)] s__law_drawn_history_1,
    .ret (.bi .tuple [(.var 3)])] }
/-- _law_noughts: 0 _law_book -/
def f__law_noughts : Fn := { np := 1, nl := 1, drop := false, body := [
    .ret (.tup [(.bin .mul (.tup [(.con (.int 0))]) (.bi .len [(.idx (.var 0) (.con (.int 0)))])), (.bin .mul (.tup [(.con (.int 0))]) (.bi .len [(.idx (.var 0) (.con (.int 0)))]))])] }
/-- _law_stepped: 0 _law_state, 1 _law_move, 2 _law_changes, 3 _law_truths, 4 _law_shown, 5 _law_j, 6 _law_by -/
def s__law_stepped_1 : List S := [
    .setI (.var 4) (.var 5) (.bin .add (.idx (.var 4) (.var 5)) (.var 6))]
def f__law_stepped : Fn := { np := 3, nl := 7, drop := true, body := [
    .par [3, 4] [(.mlist (.idx (.var 0) (.con (.int 0)))), (.mlist (.idx (.var 0) (.con (.int 1))))],
    .setI (.var 3) (.idx (.var 1) (.con (.int 0))) (.bin .add (.idx (.var 3) (.idx (.var 1) (.con (.int 0)))) (.idx (.var 1) (.con (.int 1)))),
    .for_ (.tp [5, 6]) .seq [(.var 2)] s__law_stepped_1,
    .ret (.tup [(.bi .tuple [(.var 3)]), (.bi .tuple [(.var 4)])])] }
/-- _law_strays_of: 0 _law_book, 1 _law_state, 2 _law_i -/
def e__law_strays_of_1 : E := (.bin .sub (.bin .mul (.idx (.idx (.var 1) (.con (.int 1))) (.var 2)) (.idx (.idx (.var 0) (.con (.int 0))) (.var 2))) (.idx (.idx (.var 1) (.con (.int 0))) (.var 2)))
def f__law_strays_of : Fn := { np := 2, nl := 3, drop := false, body := [
    .ret (.bi .tuple [(.lc false [2] (.nm 2) .rng [(.bi .len [(.idx (.var 0) (.con (.int 0)))])] eT e__law_strays_of_1)])] }
/-- _law_is_formed: 0 _law_book, 1 _law_changes, 2 _law_ahead, 3 _law_pair, 4 _law_number -/
def s__law_is_formed_1 : List S := [
    .ife (.or (.not (.isin (.var 4) [.int])) (.isin (.var 4) [.bool])) [
      .ret (.con (.bl false))] []]
def s__law_is_formed_2 : List S := [
    .ife (.or (.not (.isin (.var 3) [.tuple])) (.cmp .ne (.bi .len [(.var 3)]) (.con (.int 2)))) [
      .ret (.con (.bl false))] [],
    .for_ (.nm 4) .seq [(.var 3)] s__law_is_formed_1,
    .ife (.or (.not (.chain .lt .lt (.var 2) (.idx (.var 3) (.con (.int 0))) (.bi .len [(.idx (.var 0) (.con (.int 0)))]))) (.cmp .eq (.idx (.var 3) (.con (.int 1))) (.con (.int 0)))) [
      .ret (.con (.bl false))] [],
    .set (.nm 2) (.idx (.var 3) (.con (.int 0)))]
def f__law_is_formed : Fn := { np := 2, nl := 5, drop := false, body := [
    .ife (.not (.isin (.var 1) [.tuple])) [
      .ret (.con (.bl false))] [],
    .set (.nm 2) (.neg (.con (.int 1))),
    .for_ (.nm 3) .seq [(.var 1)] s__law_is_formed_2,
    .ret (.con (.bl true))] }
/-- _law_is_near: 0 _law_truth, 1 _law_m, 2 _law_tie, 3 _law_shown, 4 _law_far -/
def f__law_is_near : Fn := { np := 4, nl := 5, drop := false, body := [
    .set (.nm 4) (.bin .mul (.con (.int 2)) (.bin .sub (.bin .mul (.var 3) (.var 1)) (.var 0))),
    .ife (.cmp .eq (.var 4) (.var 1)) [
      .ret (.cmp .eq (.var 2) (.con (.int 1)))] [],
    .ret (.ife (.cmp .eq (.var 4) (.neg (.var 1))) (.cmp .eq (.var 2) (.con (.int 0))) (.chain .lt .lt (.neg (.var 1)) (.var 4) (.var 1)))] }
/-- _law_ties_refused: 0 _law_book, 1 _law_ties, 2 fault -/
def s__law_ties_refused_1 : List S := [
    .expr (.call i_halves [(.var 0), (.var 1)])]
def s__law_ties_refused_2 : List S := [
    .ret (.tup [(.con (.str "ties")), (.xwhat 2)])]
def s__law_ties_refused_3 : List S := [
    .ret (.tup [(.con (.str "other")), (.xwhat 2)])]
def f__law_ties_refused : Fn := { np := 2, nl := 3, drop := false, body := [
    .try_ s__law_ties_refused_1 (.cons c_BadTies (some 2) s__law_ties_refused_2 (.cons c_Refused (some 2) s__law_ties_refused_3 .nil)),
    .ret (.con .non)] }
/-- _law_wrong_ties_right: 0 _law_source, 1 _law_book, 2 _law_ties, 3 _law_many, 4 _law_thing, 5 _law_at, 6 _law_odd -/
def s__law_wrong_ties_right_1 : List S := [
    .ife (.cmp .ne (.call i__law_ties_refused [(.var 1), (.var 4)]) (.tup [(.con (.str "ties")), (.neg (.con (.int 1)))])) [
      .ret (.con (.bl false))] []]
def f__law_wrong_ties_right : Fn := { np := 3, nl := 7, drop := false, body := [
    .set (.nm 3) (.bi .len [(.idx (.var 1) (.con (.int 0)))]),
    .for_ (.nm 4) .seq [(.lst [(.con .non), (.bin .add (.var 2) (.tup [(.con (.int 0))])), (.slice true false (.var 2) (.con (.int 1)) (.con .non)), (.con (.str "ties")), (.con (.int 0))])] s__law_wrong_ties_right_1,
    .set (.nm 5) (.call i__law_take [(.var 0), (.var 3)]),
    .set (.nm 6) (.call i__law_one [(.var 0), (.lst [(.con (.int 2)), (.neg (.con (.int 1))), (.con .non), (.con (.str "1")), (.tup [(.con (.int 0))])])]),
    .ret (.cmp .eq (.call i__law_ties_refused [(.var 1), (.bin .add (.bin .add (.slice false true (.var 2) (.con .non) (.var 5)) (.tup [(.var 6)])) (.bin .mul (.tup [(.con .non)]) (.bin .sub (.bin .sub (.var 3) (.var 5)) (.con (.int 1)))))]) (.tup [(.con (.str "ties")), (.var 5)]))] }
/-- _law_moves_right: 0 _law_book, 1 _law_ties, 2 _law_history, 3 _law_player, 4 _law_state, 5 _law_rims, 6 _law_part, 7 _law_way, 8 _law_changes, 9 _law_elder, 10 _law_one_here, 11 _law_at, 12 _law_far -/
def e__law_moves_right_1 : E := (.or (.cmp .ne (.idx (.var 10) (.con (.int 0))) (.var 6)) (.cmp .notin (.idx (.var 10) (.con (.int 1))) (.tup [(.con (.int 1)), (.neg (.con (.int 1)))])))
def e__law_moves_right_2 : E := (.var 10)
def e__law_moves_right_3 : E := (.and (.cmp .ne (.var 11) (.var 6)) (.cmp .ne (.idx (.idx (.var 4) (.con (.int 1))) (.var 11)) (.idx (.idx (.var 9) (.con (.int 1))) (.var 11))))
def e__law_moves_right_4 : E := (.var 11)
def e__law_moves_right_5 : E := (.tup [(.bi .min [(.idx (.idx (.var 5) (.var 11)) (.con (.int 0))), (.idx (.var 12) (.var 11))]), (.bi .max [(.idx (.idx (.var 5) (.var 11)) (.con (.int 1))), (.idx (.var 12) (.var 11))])])
def e__law_moves_right_6 : E := (.cmp .ge (.bin .sub (.idx (.idx (.var 5) (.var 11)) (.con (.int 1))) (.idx (.idx (.var 5) (.var 11)) (.con (.int 0)))) (.idx (.idx (.var 0) (.con (.int 0))) (.var 11)))
def e__law_moves_right_7 : E := (.var 11)
def s__law_moves_right_1 : List S := [
    .set (.tp [8, 9]) (.tup [(.meth (.var 3) m_moved [(.var 6), (.var 7)]), (.var 4)]),
    .ife (.not (.call i__law_is_formed [(.var 0), (.var 8)])) [
      .ret (.con (.bl false))] [],
    .ife (.cmp .ne (.lc false [10] (.nm 10) .seq [(.var 8)] e__law_moves_right_1 e__law_moves_right_2) (.lst [])) [
      .ret (.con (.bl false))] [],
    .set (.nm 4) (.call i__law_stepped [(.var 4), (.tup [(.var 6), (.var 7)]), (.var 8)]),
    .ife (.not (.call i__law_is_near [(.idx (.idx (.var 4) (.con (.int 0))) (.var 6)), (.idx (.idx (.var 0) (.con (.int 0))) (.var 6)), (.idx (.var 1) (.var 6)), (.idx (.idx (.var 4) (.con (.int 1))) (.var 6))])) [
      .ret (.con (.bl false))] [],
    .ife (.cmp .ne (.lc false [11] (.nm 11) .rng [(.bi .len [(.idx (.var 0) (.con (.int 0)))])] e__law_moves_right_3 e__law_moves_right_4) (.lst [])) [
      .ret (.con (.bl false))] [],
    .set (.nm 12) (.call i__law_strays_of [(.var 0), (.var 4)]),
    .set (.nm 5) (.lc false [11] (.nm 11) .rng [(.bi .len [(.var 12)])] eT e__law_moves_right_5),
    .ife (.cmp .ne (.lc false [11] (.nm 11) .rng [(.bi .len [(.var 12)])] e__law_moves_right_6 e__law_moves_right_7) (.lst [])) [
      .ret (.con (.bl false))] []]
def f__law_moves_right : Fn := { np := 3, nl := 13, drop := true, body := [
    .set (.tp [3, 4, 5]) (.tup [(.call i_halves [(.var 0), (.var 1)]), (.call i__law_noughts [(.var 0)]), (.bin .mul (.lst [(.tup [(.con (.int 0)), (.con (.int 0))])]) (.bi .len [(.idx (.var 0) (.con (.int 0)))]))]),
    .for_ (.tp [6, 7]) .seq [(.var 2)] s__law_moves_right_1,
    .ife (.cmp .ne (.bi .repr [(.call i_run [(.var 0), (.call i_halves [(.var 0), (.var 1)]), (.var 2)])]) (.bi .repr [(.var 4)])) [
      .ret (.con (.bl false))] [],
    .ret (.cmp .eq (.bi .repr [(.call i_strays [(.var 0), (.var 4)])]) (.bi .repr [(.call i__law_strays_of [(.var 0), (.var 4)])]))] }
/-- _law_copies_right: 0 _law_book, 1 _law_ties, 2 _law_history, 3 _law_player, 4 _law_half, 5 _law_part, 6 _law_way, 7 _law_other, 8 _law_one_here -/
def s__law_copies_right_1 : List S := [
    .expr (.meth (.var 3) m_moved [(.var 5), (.var 6)])]
def e__law_copies_right_1 : E := (.meth (.var 3) m_moved [(.var 5), (.var 6)])
def e__law_copies_right_2 : E := (.meth (.var 7) m_moved [(.var 5), (.var 6)])
def f__law_copies_right : Fn := { np := 3, nl := 9, drop := true, body := [
    .set (.tp [3, 4]) (.tup [(.call i_halves [(.var 0), (.var 1)]), (.bin .fdiv (.bi .len [(.var 2)]) (.con (.int 2)))]),
    .for_ (.tp [5, 6]) .seq [(.slice false true (.var 2) (.con .non) (.var 4))] s__law_copies_right_1,
    .set (.nm 7) (.meth (.var 3) m_copy []),
    .set (.nm 8) (.lc false [5, 6] (.tp [5, 6]) .seq [(.slice true false (.var 2) (.var 4) (.con .non))] eT e__law_copies_right_1),
    .ret (.cmp .eq (.bi .repr [(.var 8)]) (.bi .repr [(.lc false [5, 6] (.tp [5, 6]) .seq [(.slice true false (.var 2) (.var 4) (.con .non))] eT e__law_copies_right_2)]))] }
/-- law: 0 _law_script, 1 _law_source, 2 _law_second, 3 _law_book, 4 _law_ties, 5 _law_part, 6 _law_turn, 7 _law_history -/
def e_law_1 : E := (.call i__law_take [(.var 1), (.con (.int 2))])
def s_law_1 : List S := [
    .set (.nm 7) (.call i__law_drawn_history [(.var 2), (.bi .len [(.idx (.var 3) (.con (.int 0)))]), (.bin .add (.con (.int 5)) (.call i__law_take [(.var 2), (.con (.int 56))]))]),
    .ife (.or (.not (.call i__law_moves_right [(.var 3), (.var 4), (.var 7)])) (.not (.call i__law_copies_right [(.var 3), (.var 4), (.var 7)]))) [
      .ret (.con (.bl false))] []]
def f_law : Fn := { np := 1, nl := 8, drop := false, body := [
    .set (.tp [1, 2]) (.tup [(.call i__law_pool [(.var 0), (.con (.int 0))]), (.call i__law_pool [(.var 0), (.con (.int 1))])]),
    .set (.nm 3) (.call i__law_some_book [(.var 1), (.con (.int 4)), (.call i__law_one [(.var 1), (.lst [(.con (.int 3)), (.con (.int 8)), (.con (.int 8)), (.con (.int 60))])])]),
    .set (.nm 4) (.bi .tuple [(.lc false [5] (.nm 5) .seq [(.idx (.var 3) (.con (.int 0)))] eT e_law_1)]),
    .ife (.not (.call i__law_wrong_ties_right [(.var 2), (.var 3), (.var 4)])) [
      .ret (.con (.bl false))] [],
    .for_ (.nm 6) .rng [(.con (.int 2))] s_law_1,
    .ret (.con (.bl true))] }
/-- Standing___init__: 0 self, 1 book, 2 player, 3 state -/
def f_Standing___init__ : Fn := { np := 4, nl := 4, drop := false, body := [
    .setA [k_Standing] (.var 0) a_book (.var 1),
    .setA [k_Standing] (.var 0) a_player (.var 2),
    .setA [k_Standing] (.var 0) a_state (.var 3)] }
/-- Standing_branch: 0 self -/
def f_Standing_branch : Fn := { np := 1, nl := 1, drop := false, body := [
    .expr (.call i__wall [(.con (.int 0))])] }
/-- Standing_step: 0 self, 1 move, 2 changes -/
def f_Standing_step : Fn := { np := 2, nl := 3, drop := false, body := [
    .set (.nm 2) (.meth (.attr (.var 0) a_player) m_moved [(.idx (.var 1) (.con (.int 0))), (.idx (.var 1) (.con (.int 1)))]),
    .ife (.or (.not (.call i_is_changes [(.attr (.var 0) a_book), (.var 2)])) (.cmp .isnot (.call i_first_outside [(.attr (.var 0) a_book), (.idx (.var 1) (.con (.int 0))), (.var 2)]) (.con .non))) [
      .ret (.con .non)] [],
    .setA [k_Standing] (.var 0) a_state (.call i_state_behind [(.attr (.var 0) a_state), (.var 1), (.var 2)]),
    .ret (.var 2)] }
/-- Standing_go: 0 self, 1 history, 2 index, 3 move -/
def s_Standing_go_1 : List S := [
    .ife (.cmp .is (.meth (.var 0) m_step [(.var 3)]) (.con .non)) [
      .ret (.var 2)] []]
def f_Standing_go : Fn := { np := 2, nl := 4, drop := false, body := [
    .for_ (.tp [2, 3]) .enum [(.var 1)] s_Standing_go_1,
    .ret (.con .non)] }
/-- HalvesPlayer___init__: 0 self, 1 book, 2 ties, 3 truths -/
def f_HalvesPlayer___init__ : Fn := { np := 4, nl := 4, drop := false, body := [
    .setA [k_HalvesPlayer] (.var 0) a_book (.var 1),
    .setA [k_HalvesPlayer] (.var 0) a_ties (.var 2),
    .setA [k_HalvesPlayer] (.var 0) a_truths (.var 3)] }
/-- HalvesPlayer_copy: 0 self -/
def f_HalvesPlayer_copy : Fn := { np := 1, nl := 1, drop := false, body := [
    .ret (.new k_HalvesPlayer i_HalvesPlayer___init__ [(.attr (.var 0) a_book), (.attr (.var 0) a_ties), (.attr (.var 0) a_truths)])] }
/-- HalvesPlayer_number: 0 self, 1 part -/
def f_HalvesPlayer_number : Fn := { np := 2, nl := 2, drop := false, body := [
    .ret (.call i_nearest [(.idx (.attr (.var 0) a_truths) (.var 1)), (.idx (.idx (.attr (.var 0) a_book) (.con (.int 0))) (.var 1)), (.idx (.attr (.var 0) a_ties) (.var 1))])] }
/-- HalvesPlayer_moved: 0 self, 1 part, 2 way, 3 before, 4 by -/
def f_HalvesPlayer_moved : Fn := { np := 3, nl := 5, drop := false, body := [
    .set (.nm 3) (.meth (.var 0) m_number [(.var 1)]),
    .setA [k_HalvesPlayer] (.var 0) a_truths (.call i_put_to [(.attr (.var 0) a_truths), (.var 1), (.var 2)]),
    .set (.nm 4) (.bin .sub (.meth (.var 0) m_number [(.var 1)]) (.var 3)),
    .ret (.ife (.cmp .ne (.var 4) (.con (.int 0))) (.tup [(.tup [(.var 1), (.var 4)])]) (.tup []))] }
def T : Tbl := fun i => match i with
  | 0 => some f__wall
  | 1 => some f_is_whole
  | 2 => some f_is_between
  | 3 => some f_is_below
  | 4 => some f_is_links
  | 5 => some f_has_size
  | 6 => some f_wrong_entry
  | 7 => some f_made_book
  | 8 => some f_many_parts
  | 9 => some f_is_part
  | 10 => some f_is_change
  | 11 => some f_is_changes
  | 12 => some f_first_outside
  | 13 => some f_at_first
  | 14 => some f_put_to
  | 15 => some f_state_behind
  | 16 => some f_standing_at_first
  | 17 => some f_want_ties
  | 18 => some f_nearest
  | 19 => some f_halves
  | 20 => some f_is_move
  | 21 => some f_want_history
  | 22 => some f_strays_of
  | 23 => some f_run
  | 24 => some f_strays
  | 25 => some f__law_pool
  | 26 => some f__law_take
  | 27 => some f__law_one
  | 28 => some f__law_plain_links
  | 29 => some f__law_drawn_links
  | 30 => some f__law_drawn_steps
  | 31 => some f__law_plain_book
  | 32 => some f__law_linked_book
  | 33 => some f__law_some_book
  | 34 => some f__law_drawn_history
  | 35 => some f__law_noughts
  | 36 => some f__law_stepped
  | 37 => some f__law_strays_of
  | 38 => some f__law_is_formed
  | 39 => some f__law_is_near
  | 40 => some f__law_ties_refused
  | 41 => some f__law_wrong_ties_right
  | 42 => some f__law_moves_right
  | 43 => some f__law_copies_right
  | 44 => some f_law
  | 45 => some f_Standing___init__
  | 46 => some f_Standing_branch
  | 47 => some f_Standing_step
  | 48 => some f_Standing_go
  | 49 => some f_HalvesPlayer___init__
  | 50 => some f_HalvesPlayer_copy
  | 51 => some f_HalvesPlayer_number
  | 52 => some f_HalvesPlayer_moved
  | _ => none
end Lw
end

section
set_option Elab.async false
set_option linter.all false
set_option maxRecDepth 100000
set_option maxHeartbeats 0
namespace Lw
open PySem PySem.Spec PyProof.Rows L2 Ev
abbrev PR : Program := PySem.Challenge.pw_byhalves_k04_each_part_rounded_by_itself
def top (i : Nat) : Stmt := PR.main.body.getD i (.Pass ⟨0, 0, 0, 0⟩)
def clsB : Stmt → List Stmt := fun s => match s with | .ClassDef (body := b) .. => b | _ => []
def cm (i j : Nat) : Stmt := (clsB (top i)).getD j (.Pass ⟨0, 0, 0, 0⟩)
def d__wall : DI := { x := "_wall", id := i__wall, ps := ["k"], N := ["k"], params := defArgs (top 0), body := defBody (top 0), sc := defScope (top 0), fn := f__wall, th := false, lam := false }
def d_is_whole : DI := { x := "is_whole", id := i_is_whole, ps := ["thing"], N := ["thing"], params := defArgs (top 10), body := defBody (top 10), sc := defScope (top 10), fn := f_is_whole, th := false, lam := false }
def d_is_between : DI := { x := "is_between", id := i_is_between, ps := ["thing", "least", "most"], N := ["thing", "least", "most"], params := defArgs (top 11), body := defBody (top 11), sc := defScope (top 11), fn := f_is_between, th := false, lam := false }
def d_is_below : DI := { x := "is_below", id := i_is_below, ps := ["thing", "bound"], N := ["thing", "bound"], params := defArgs (top 12), body := defBody (top 12), sc := defScope (top 12), fn := f_is_below, th := false, lam := false }
def d_is_links : DI := { x := "is_links", id := i_is_links, ps := ["thing", "part", "many"], N := ["thing", "part", "many", "one", "at"], params := defArgs (top 13), body := defBody (top 13), sc := defScope (top 13), fn := f_is_links, th := false, lam := false }
def d_has_size : DI := { x := "has_size", id := i_has_size, ps := ["thing"], N := ["thing", "half"], params := defArgs (top 14), body := defBody (top 14), sc := defScope (top 14), fn := f_has_size, th := false, lam := false }
def d_wrong_entry : DI := { x := "wrong_entry", id := i_wrong_entry, ps := ["thing"], N := ["thing", "steps", "links", "part", "many", "others"], params := defArgs (top 15), body := defBody (top 15), sc := defScope (top 15), fn := f_wrong_entry, th := false, lam := false }
def d_made_book : DI := { x := "made_book", id := i_made_book, ps := ["thing"], N := ["thing", "where"], params := defArgs (top 16), body := defBody (top 16), sc := defScope (top 16), fn := f_made_book, th := false, lam := false }
def d_many_parts : DI := { x := "many_parts", id := i_many_parts, ps := ["book"], N := ["book"], params := defArgs (top 17), body := defBody (top 17), sc := defScope (top 17), fn := f_many_parts, th := false, lam := false }
def d_is_part : DI := { x := "is_part", id := i_is_part, ps := ["book", "thing"], N := ["book", "thing"], params := defArgs (top 18), body := defBody (top 18), sc := defScope (top 18), fn := f_is_part, th := false, lam := false }
def d_is_change : DI := { x := "is_change", id := i_is_change, ps := ["book", "thing"], N := ["book", "thing"], params := defArgs (top 20), body := defBody (top 20), sc := defScope (top 20), fn := f_is_change, th := false, lam := false }
def d_is_changes : DI := { x := "is_changes", id := i_is_changes, ps := ["book", "thing"], N := ["book", "thing", "change", "at"], params := defArgs (top 21), body := defBody (top 21), sc := defScope (top 21), fn := f_is_changes, th := false, lam := false }
def d_first_outside : DI := { x := "first_outside", id := i_first_outside, ps := ["book", "part", "changes"], N := ["book", "part", "changes", "other", "_"], params := defArgs (top 22), body := defBody (top 22), sc := defScope (top 22), fn := f_first_outside, th := false, lam := false }
def d_at_first : DI := { x := "at_first", id := i_at_first, ps := ["book"], N := ["book"], params := defArgs (top 23), body := defBody (top 23), sc := defScope (top 23), fn := f_at_first, th := false, lam := false }
def d_put_to : DI := { x := "put_to", id := i_put_to, ps := ["numbers", "part", "by"], N := ["numbers", "part", "by"], params := defArgs (top 24), body := defBody (top 24), sc := defScope (top 24), fn := f_put_to, th := false, lam := false }
def d_state_behind : DI := { x := "state_behind", id := i_state_behind, ps := ["state", "move", "changes"], N := ["state", "move", "changes", "truths", "shown", "part", "by"], params := defArgs (top 25), body := defBody (top 25), sc := defScope (top 25), fn := f_state_behind, th := false, lam := false }
def d_standing_at_first : DI := { x := "standing_at_first", id := i_standing_at_first, ps := ["book", "player"], N := ["book", "player"], params := defArgs (top 27), body := defBody (top 27), sc := defScope (top 27), fn := f_standing_at_first, th := false, lam := false }
def d_want_ties : DI := { x := "want_ties", id := i_want_ties, ps := ["book", "ties"], N := ["book", "ties", "part", "tie"], params := defArgs (top 29), body := defBody (top 29), sc := defScope (top 29), fn := f_want_ties, th := false, lam := false }
def d_nearest : DI := { x := "nearest", id := i_nearest, ps := ["truth", "steps", "tie"], N := ["truth", "steps", "tie"], params := defArgs (top 30), body := defBody (top 30), sc := defScope (top 30), fn := f_nearest, th := false, lam := false }
def d_halves : DI := { x := "halves", id := i_halves, ps := ["book", "ties"], N := ["book", "ties"], params := defArgs (top 32), body := defBody (top 32), sc := defScope (top 32), fn := f_halves, th := false, lam := false }
def d_is_move : DI := { x := "is_move", id := i_is_move, ps := ["book", "thing"], N := ["book", "thing"], params := defArgs (top 36), body := defBody (top 36), sc := defScope (top 36), fn := f_is_move, th := false, lam := false }
def d_want_history : DI := { x := "want_history", id := i_want_history, ps := ["book", "thing"], N := ["book", "thing", "index", "move"], params := defArgs (top 37), body := defBody (top 37), sc := defScope (top 37), fn := f_want_history, th := false, lam := false }
def d_strays_of : DI := { x := "strays_of", id := i_strays_of, ps := ["book", "state"], N := ["book", "state", "truths", "shown", "truth", "number", "steps"], params := defArgs (top 39), body := defBody (top 39), sc := defScope (top 39), fn := f_strays_of, th := false, lam := false }
def d_run : DI := { x := "run", id := i_run, ps := ["book", "player", "history"], N := ["book", "player", "history", "standing", "index"], params := defArgs (top 40), body := defBody (top 40), sc := defScope (top 40), fn := f_run, th := false, lam := false }
def d_strays : DI := { x := "strays", id := i_strays, ps := ["book", "state"], N := ["book", "state"], params := defArgs (top 41), body := defBody (top 41), sc := defScope (top 41), fn := f_strays, th := false, lam := false }
def d__law_pool : DI := { x := "_law_pool", id := i__law_pool, ps := ["_law_script", "_law_k"], N := ["_law_script", "_law_k", "_law_cell", "_law_big", "_law_mixed"], params := defArgs (top 43), body := defBody (top 43), sc := defScope (top 43), fn := f__law_pool, th := false, lam := false }
def d__law_take : DI := { x := "_law_take", id := i__law_take, ps := ["_law_source", "_law_top"], N := ["_law_source", "_law_top", "_law_drawn"], params := defArgs (top 44), body := defBody (top 44), sc := defScope (top 44), fn := f__law_take, th := false, lam := false }
def d__law_one : DI := { x := "_law_one", id := i__law_one, ps := ["_law_source", "_law_things"], N := ["_law_source", "_law_things"], params := defArgs (top 45), body := defBody (top 45), sc := defScope (top 45), fn := f__law_one, th := false, lam := false }
def d__law_plain_links : DI := { x := "_law_plain_links", id := i__law_plain_links, ps := ["_law_many"], N := ["_law_many", "_law_i"], params := defArgs (top 46), body := defBody (top 46), sc := defScope (top 46), fn := f__law_plain_links, th := false, lam := false }
def d__law_drawn_links : DI := { x := "_law_drawn_links", id := i__law_drawn_links, ps := ["_law_source", "_law_many"], N := ["_law_source", "_law_many", "_law_found", "_law_common", "_law_is_common", "_law_i", "_law_more", "_law_j"], params := defArgs (top 47), body := defBody (top 47), sc := defScope (top 47), fn := f__law_drawn_links, th := false, lam := false }
def d__law_drawn_steps : DI := { x := "_law_drawn_steps", id := i__law_drawn_steps, ps := ["_law_source", "_law_many", "_law_most"], N := ["_law_source", "_law_many", "_law_most", "_law_i"], params := defArgs (top 48), body := defBody (top 48), sc := defScope (top 48), fn := f__law_drawn_steps, th := false, lam := false }
def d__law_plain_book : DI := { x := "_law_plain_book", id := i__law_plain_book, ps := ["_law_source", "_law_parts", "_law_most"], N := ["_law_source", "_law_parts", "_law_most", "_law_many"], params := defArgs (top 49), body := defBody (top 49), sc := defScope (top 49), fn := f__law_plain_book, th := false, lam := false }
def d__law_linked_book : DI := { x := "_law_linked_book", id := i__law_linked_book, ps := ["_law_source", "_law_parts", "_law_most"], N := ["_law_source", "_law_parts", "_law_most", "_law_many"], params := defArgs (top 50), body := defBody (top 50), sc := defScope (top 50), fn := f__law_linked_book, th := false, lam := false }
def d__law_some_book : DI := { x := "_law_some_book", id := i__law_some_book, ps := ["_law_source", "_law_parts", "_law_most"], N := ["_law_source", "_law_parts", "_law_most"], params := defArgs (top 51), body := defBody (top 51), sc := defScope (top 51), fn := f__law_some_book, th := false, lam := false }
def d__law_drawn_history : DI := { x := "_law_drawn_history", id := i__law_drawn_history, ps := ["_law_source", "_law_many", "_law_length"], N := ["_law_source", "_law_many", "_law_length", "_law_found", "_law_turn", "_law_move", "_law_times"], params := defArgs (top 52), body := defBody (top 52), sc := defScope (top 52), fn := f__law_drawn_history, th := false, lam := false }
def d__law_noughts : DI := { x := "_law_noughts", id := i__law_noughts, ps := ["_law_book"], N := ["_law_book"], params := defArgs (top 53), body := defBody (top 53), sc := defScope (top 53), fn := f__law_noughts, th := false, lam := false }
def d__law_stepped : DI := { x := "_law_stepped", id := i__law_stepped, ps := ["_law_state", "_law_move", "_law_changes"], N := ["_law_state", "_law_move", "_law_changes", "_law_truths", "_law_shown", "_law_j", "_law_by"], params := defArgs (top 54), body := defBody (top 54), sc := defScope (top 54), fn := f__law_stepped, th := false, lam := false }
def d__law_strays_of : DI := { x := "_law_strays_of", id := i__law_strays_of, ps := ["_law_book", "_law_state"], N := ["_law_book", "_law_state", "_law_i"], params := defArgs (top 55), body := defBody (top 55), sc := defScope (top 55), fn := f__law_strays_of, th := false, lam := false }
def d__law_is_formed : DI := { x := "_law_is_formed", id := i__law_is_formed, ps := ["_law_book", "_law_changes"], N := ["_law_book", "_law_changes", "_law_ahead", "_law_pair", "_law_number"], params := defArgs (top 56), body := defBody (top 56), sc := defScope (top 56), fn := f__law_is_formed, th := false, lam := false }
def d__law_is_near : DI := { x := "_law_is_near", id := i__law_is_near, ps := ["_law_truth", "_law_m", "_law_tie", "_law_shown"], N := ["_law_truth", "_law_m", "_law_tie", "_law_shown", "_law_far"], params := defArgs (top 57), body := defBody (top 57), sc := defScope (top 57), fn := f__law_is_near, th := false, lam := false }
def d__law_ties_refused : DI := { x := "_law_ties_refused", id := i__law_ties_refused, ps := ["_law_book", "_law_ties"], N := ["_law_book", "_law_ties", "fault"], params := defArgs (top 58), body := defBody (top 58), sc := defScope (top 58), fn := f__law_ties_refused, th := false, lam := false }
def d__law_wrong_ties_right : DI := { x := "_law_wrong_ties_right", id := i__law_wrong_ties_right, ps := ["_law_source", "_law_book", "_law_ties"], N := ["_law_source", "_law_book", "_law_ties", "_law_many", "_law_thing", "_law_at", "_law_odd"], params := defArgs (top 59), body := defBody (top 59), sc := defScope (top 59), fn := f__law_wrong_ties_right, th := false, lam := false }
def d__law_moves_right : DI := { x := "_law_moves_right", id := i__law_moves_right, ps := ["_law_book", "_law_ties", "_law_history"], N := ["_law_book", "_law_ties", "_law_history", "_law_player", "_law_state", "_law_rims", "_law_part", "_law_way", "_law_changes", "_law_elder", "_law_one_here", "_law_at", "_law_far"], params := defArgs (top 60), body := defBody (top 60), sc := defScope (top 60), fn := f__law_moves_right, th := false, lam := false }
def d__law_copies_right : DI := { x := "_law_copies_right", id := i__law_copies_right, ps := ["_law_book", "_law_ties", "_law_history"], N := ["_law_book", "_law_ties", "_law_history", "_law_player", "_law_half", "_law_part", "_law_way", "_law_other", "_law_one_here"], params := defArgs (top 61), body := defBody (top 61), sc := defScope (top 61), fn := f__law_copies_right, th := false, lam := false }
def d_law : DI := { x := "law", id := i_law, ps := ["_law_script"], N := ["_law_script", "_law_source", "_law_second", "_law_book", "_law_ties", "_law_part", "_law_turn", "_law_history"], params := defArgs (top 62), body := defBody (top 62), sc := defScope (top 62), fn := f_law, th := false, lam := false }
def d_Standing___init__ : DI := { x := "__init__", id := i_Standing___init__, ps := ["self", "book", "player", "state"], N := ["self", "book", "player", "state"], params := defArgs (cm 26 0), body := defBody (cm 26 0), sc := defScope (cm 26 0), fn := f_Standing___init__, th := false, lam := false, cls := some (0, "Standing"), css := [[]], dv := [] }
def d_Standing_branch : DI := { x := "branch", id := i_Standing_branch, ps := ["self"], N := ["self"], params := defArgs (cm 26 1), body := defBody (cm 26 1), sc := defScope (cm 26 1), fn := f_Standing_branch, th := false, lam := false, cls := some (0, "Standing"), css := [[]], dv := [] }
def d_Standing_step : DI := { x := "step", id := i_Standing_step, ps := ["self", "move"], N := ["self", "move", "changes"], params := defArgs (cm 26 2), body := defBody (cm 26 2), sc := defScope (cm 26 2), fn := f_Standing_step, th := false, lam := false, cls := some (0, "Standing"), css := [[]], dv := [] }
def d_Standing_go : DI := { x := "go", id := i_Standing_go, ps := ["self", "history"], N := ["self", "history", "index", "move"], params := defArgs (cm 26 3), body := defBody (cm 26 3), sc := defScope (cm 26 3), fn := f_Standing_go, th := false, lam := false, cls := some (0, "Standing"), css := [[]], dv := [] }
def d_HalvesPlayer___init__ : DI := { x := "__init__", id := i_HalvesPlayer___init__, ps := ["self", "book", "ties", "truths"], N := ["self", "book", "ties", "truths"], params := defArgs (cm 31 0), body := defBody (cm 31 0), sc := defScope (cm 31 0), fn := f_HalvesPlayer___init__, th := false, lam := false, cls := some (1, "HalvesPlayer"), css := [[]], dv := [] }
def d_HalvesPlayer_copy : DI := { x := "copy", id := i_HalvesPlayer_copy, ps := ["self"], N := ["self"], params := defArgs (cm 31 1), body := defBody (cm 31 1), sc := defScope (cm 31 1), fn := f_HalvesPlayer_copy, th := false, lam := false, cls := some (1, "HalvesPlayer"), css := [[]], dv := [] }
def d_HalvesPlayer_number : DI := { x := "number", id := i_HalvesPlayer_number, ps := ["self", "part"], N := ["self", "part"], params := defArgs (cm 31 2), body := defBody (cm 31 2), sc := defScope (cm 31 2), fn := f_HalvesPlayer_number, th := false, lam := false, cls := some (1, "HalvesPlayer"), css := [[]], dv := [] }
def d_HalvesPlayer_moved : DI := { x := "moved", id := i_HalvesPlayer_moved, ps := ["self", "part", "way"], N := ["self", "part", "way", "before", "by"], params := defArgs (cm 31 3), body := defBody (cm 31 3), sc := defScope (cm 31 3), fn := f_HalvesPlayer_moved, th := false, lam := false, cls := some (1, "HalvesPlayer"), css := [[]], dv := [] }
def ds : List DI := [d__wall, d_is_whole, d_is_between, d_is_below, d_is_links, d_has_size, d_wrong_entry, d_made_book, d_many_parts, d_is_part, d_is_change, d_is_changes, d_first_outside, d_at_first, d_put_to, d_state_behind, d_standing_at_first, d_want_ties, d_nearest, d_halves, d_is_move, d_want_history, d_strays_of, d_run, d_strays, d__law_pool, d__law_take, d__law_one, d__law_plain_links, d__law_drawn_links, d__law_drawn_steps, d__law_plain_book, d__law_linked_book, d__law_some_book, d__law_drawn_history, d__law_noughts, d__law_stepped, d__law_strays_of, d__law_is_formed, d__law_is_near, d__law_ties_refused, d__law_wrong_ties_right, d__law_moves_right, d__law_copies_right, d_law, d_Standing___init__, d_Standing_branch, d_Standing_step, d_Standing_go, d_HalvesPlayer___init__, d_HalvesPlayer_copy, d_HalvesPlayer_number, d_HalvesPlayer_moved]
def cc : CC where
  N := []
  fs := ("_wall", i__wall) :: ("is_whole", i_is_whole) :: ("is_between", i_is_between) :: ("is_below", i_is_below) :: ("is_links", i_is_links) :: ("has_size", i_has_size) :: ("wrong_entry", i_wrong_entry) :: ("made_book", i_made_book) :: ("many_parts", i_many_parts) :: ("is_part", i_is_part) :: ("is_change", i_is_change) :: ("is_changes", i_is_changes) :: ("first_outside", i_first_outside) :: ("at_first", i_at_first) :: ("put_to", i_put_to) :: ("state_behind", i_state_behind) :: ("standing_at_first", i_standing_at_first) :: ("want_ties", i_want_ties) :: ("nearest", i_nearest) :: ("halves", i_halves) :: ("is_move", i_is_move) :: ("want_history", i_want_history) :: ("strays_of", i_strays_of) :: ("run", i_run) :: ("strays", i_strays) :: ("_law_pool", i__law_pool) :: ("_law_take", i__law_take) :: ("_law_one", i__law_one) :: ("_law_plain_links", i__law_plain_links) :: ("_law_drawn_links", i__law_drawn_links) :: ("_law_drawn_steps", i__law_drawn_steps) :: ("_law_plain_book", i__law_plain_book) :: ("_law_linked_book", i__law_linked_book) :: ("_law_some_book", i__law_some_book) :: ("_law_drawn_history", i__law_drawn_history) :: ("_law_noughts", i__law_noughts) :: ("_law_stepped", i__law_stepped) :: ("_law_strays_of", i__law_strays_of) :: ("_law_is_formed", i__law_is_formed) :: ("_law_is_near", i__law_is_near) :: ("_law_ties_refused", i__law_ties_refused) :: ("_law_wrong_ties_right", i__law_wrong_ties_right) :: ("_law_moves_right", i__law_moves_right) :: ("_law_copies_right", i__law_copies_right) :: ("law", i_law) :: []
  ls := []
  cs := [("MOST_PARTS", 6), ("MOST_STEPS", 60), ("UP", 1), ("DOWN", -1)]
  xs := ["Refused", "BadBook", "BadHistory", "BadTies", "Broken"]
  kl := ["Standing", "HalvesPlayer"]
  fl := ["book", "player", "state", "ties", "truths"]
  kf := [(0, 0), (0, 1), (0, 2), (1, 0), (1, 3), (1, 4)]
  mt := [(1, "copy", i_HalvesPlayer_copy, []), (1, "moved", i_HalvesPlayer_moved, []), (1, "number", i_HalvesPlayer_number, []), (0, "go", i_Standing_go, []), (0, "step", i_Standing_step, [])]
  mks := [(1, i_HalvesPlayer___init__), (0, i_Standing___init__)]
  ks := []
  bn := ["all", "bool", "enumerate", "int", "isinstance", "len", "list", "max", "min", "range", "repr", "tuple", "zip"]
  ln := 8
  gd := true
theorem bo__wall : BindOk d__wall := fun _ _ _ _ _ _ us hl => match us, hl with | [_], _ => rfl
theorem b__wall : BndOk d__wall := .inl ⟨rfl, rfl, bo__wall⟩
theorem bo_is_whole : BindOk d_is_whole := fun _ _ _ _ _ _ us hl => match us, hl with | [_], _ => rfl
theorem b_is_whole : BndOk d_is_whole := .inl ⟨rfl, rfl, bo_is_whole⟩
theorem bo_is_between : BindOk d_is_between := fun _ _ _ _ _ _ us hl => match us, hl with | [_, _, _], _ => rfl
theorem b_is_between : BndOk d_is_between := .inl ⟨rfl, rfl, bo_is_between⟩
theorem bo_is_below : BindOk d_is_below := fun _ _ _ _ _ _ us hl => match us, hl with | [_, _], _ => rfl
theorem b_is_below : BndOk d_is_below := .inl ⟨rfl, rfl, bo_is_below⟩
theorem bo_is_links : BindOk d_is_links := fun _ _ _ _ _ _ us hl => match us, hl with | [_, _, _], _ => rfl
theorem b_is_links : BndOk d_is_links := .inl ⟨rfl, rfl, bo_is_links⟩
theorem bo_has_size : BindOk d_has_size := fun _ _ _ _ _ _ us hl => match us, hl with | [_], _ => rfl
theorem b_has_size : BndOk d_has_size := .inl ⟨rfl, rfl, bo_has_size⟩
theorem bo_wrong_entry : BindOk d_wrong_entry := fun _ _ _ _ _ _ us hl => match us, hl with | [_], _ => rfl
theorem b_wrong_entry : BndOk d_wrong_entry := .inl ⟨rfl, rfl, bo_wrong_entry⟩
theorem bo_made_book : BindOk d_made_book := fun _ _ _ _ _ _ us hl => match us, hl with | [_], _ => rfl
theorem b_made_book : BndOk d_made_book := .inl ⟨rfl, rfl, bo_made_book⟩
theorem bo_many_parts : BindOk d_many_parts := fun _ _ _ _ _ _ us hl => match us, hl with | [_], _ => rfl
theorem b_many_parts : BndOk d_many_parts := .inl ⟨rfl, rfl, bo_many_parts⟩
theorem bo_is_part : BindOk d_is_part := fun _ _ _ _ _ _ us hl => match us, hl with | [_, _], _ => rfl
theorem b_is_part : BndOk d_is_part := .inl ⟨rfl, rfl, bo_is_part⟩
theorem bo_is_change : BindOk d_is_change := fun _ _ _ _ _ _ us hl => match us, hl with | [_, _], _ => rfl
theorem b_is_change : BndOk d_is_change := .inl ⟨rfl, rfl, bo_is_change⟩
theorem bo_is_changes : BindOk d_is_changes := fun _ _ _ _ _ _ us hl => match us, hl with | [_, _], _ => rfl
theorem b_is_changes : BndOk d_is_changes := .inl ⟨rfl, rfl, bo_is_changes⟩
theorem bo_first_outside : BindOk d_first_outside := fun _ _ _ _ _ _ us hl => match us, hl with | [_, _, _], _ => rfl
theorem b_first_outside : BndOk d_first_outside := .inl ⟨rfl, rfl, bo_first_outside⟩
theorem bo_at_first : BindOk d_at_first := fun _ _ _ _ _ _ us hl => match us, hl with | [_], _ => rfl
theorem b_at_first : BndOk d_at_first := .inl ⟨rfl, rfl, bo_at_first⟩
theorem bo_put_to : BindOk d_put_to := fun _ _ _ _ _ _ us hl => match us, hl with | [_, _, _], _ => rfl
theorem b_put_to : BndOk d_put_to := .inl ⟨rfl, rfl, bo_put_to⟩
theorem bo_state_behind : BindOk d_state_behind := fun _ _ _ _ _ _ us hl => match us, hl with | [_, _, _], _ => rfl
theorem b_state_behind : BndOk d_state_behind := .inl ⟨rfl, rfl, bo_state_behind⟩
theorem bo_standing_at_first : BindOk d_standing_at_first := fun _ _ _ _ _ _ us hl => match us, hl with | [_, _], _ => rfl
theorem b_standing_at_first : BndOk d_standing_at_first := .inl ⟨rfl, rfl, bo_standing_at_first⟩
theorem bo_want_ties : BindOk d_want_ties := fun _ _ _ _ _ _ us hl => match us, hl with | [_, _], _ => rfl
theorem b_want_ties : BndOk d_want_ties := .inl ⟨rfl, rfl, bo_want_ties⟩
theorem bo_nearest : BindOk d_nearest := fun _ _ _ _ _ _ us hl => match us, hl with | [_, _, _], _ => rfl
theorem b_nearest : BndOk d_nearest := .inl ⟨rfl, rfl, bo_nearest⟩
theorem bo_halves : BindOk d_halves := fun _ _ _ _ _ _ us hl => match us, hl with | [_, _], _ => rfl
theorem b_halves : BndOk d_halves := .inl ⟨rfl, rfl, bo_halves⟩
theorem bo_is_move : BindOk d_is_move := fun _ _ _ _ _ _ us hl => match us, hl with | [_, _], _ => rfl
theorem b_is_move : BndOk d_is_move := .inl ⟨rfl, rfl, bo_is_move⟩
theorem bo_want_history : BindOk d_want_history := fun _ _ _ _ _ _ us hl => match us, hl with | [_, _], _ => rfl
theorem b_want_history : BndOk d_want_history := .inl ⟨rfl, rfl, bo_want_history⟩
theorem bo_strays_of : BindOk d_strays_of := fun _ _ _ _ _ _ us hl => match us, hl with | [_, _], _ => rfl
theorem b_strays_of : BndOk d_strays_of := .inl ⟨rfl, rfl, bo_strays_of⟩
theorem bo_run : BindOk d_run := fun _ _ _ _ _ _ us hl => match us, hl with | [_, _, _], _ => rfl
theorem b_run : BndOk d_run := .inl ⟨rfl, rfl, bo_run⟩
theorem bo_strays : BindOk d_strays := fun _ _ _ _ _ _ us hl => match us, hl with | [_, _], _ => rfl
theorem b_strays : BndOk d_strays := .inl ⟨rfl, rfl, bo_strays⟩
theorem bo__law_pool : BindOk d__law_pool := fun _ _ _ _ _ _ us hl => match us, hl with | [_, _], _ => rfl
theorem b__law_pool : BndOk d__law_pool := .inl ⟨rfl, rfl, bo__law_pool⟩
theorem bo__law_take : BindOk d__law_take := fun _ _ _ _ _ _ us hl => match us, hl with | [_, _], _ => rfl
theorem b__law_take : BndOk d__law_take := .inl ⟨rfl, rfl, bo__law_take⟩
theorem bo__law_one : BindOk d__law_one := fun _ _ _ _ _ _ us hl => match us, hl with | [_, _], _ => rfl
theorem b__law_one : BndOk d__law_one := .inl ⟨rfl, rfl, bo__law_one⟩
theorem bo__law_plain_links : BindOk d__law_plain_links := fun _ _ _ _ _ _ us hl => match us, hl with | [_], _ => rfl
theorem b__law_plain_links : BndOk d__law_plain_links := .inl ⟨rfl, rfl, bo__law_plain_links⟩
theorem bo__law_drawn_links : BindOk d__law_drawn_links := fun _ _ _ _ _ _ us hl => match us, hl with | [_, _], _ => rfl
theorem b__law_drawn_links : BndOk d__law_drawn_links := .inl ⟨rfl, rfl, bo__law_drawn_links⟩
theorem bo__law_drawn_steps : BindOk d__law_drawn_steps := fun _ _ _ _ _ _ us hl => match us, hl with | [_, _, _], _ => rfl
theorem b__law_drawn_steps : BndOk d__law_drawn_steps := .inl ⟨rfl, rfl, bo__law_drawn_steps⟩
theorem bo__law_plain_book : BindOk d__law_plain_book := fun _ _ _ _ _ _ us hl => match us, hl with | [_, _, _], _ => rfl
theorem b__law_plain_book : BndOk d__law_plain_book := .inl ⟨rfl, rfl, bo__law_plain_book⟩
theorem bo__law_linked_book : BindOk d__law_linked_book := fun _ _ _ _ _ _ us hl => match us, hl with | [_, _, _], _ => rfl
theorem b__law_linked_book : BndOk d__law_linked_book := .inl ⟨rfl, rfl, bo__law_linked_book⟩
theorem bo__law_some_book : BindOk d__law_some_book := fun _ _ _ _ _ _ us hl => match us, hl with | [_, _, _], _ => rfl
theorem b__law_some_book : BndOk d__law_some_book := .inl ⟨rfl, rfl, bo__law_some_book⟩
theorem bo__law_drawn_history : BindOk d__law_drawn_history := fun _ _ _ _ _ _ us hl => match us, hl with | [_, _, _], _ => rfl
theorem b__law_drawn_history : BndOk d__law_drawn_history := .inl ⟨rfl, rfl, bo__law_drawn_history⟩
theorem bo__law_noughts : BindOk d__law_noughts := fun _ _ _ _ _ _ us hl => match us, hl with | [_], _ => rfl
theorem b__law_noughts : BndOk d__law_noughts := .inl ⟨rfl, rfl, bo__law_noughts⟩
theorem bo__law_stepped : BindOk d__law_stepped := fun _ _ _ _ _ _ us hl => match us, hl with | [_, _, _], _ => rfl
theorem b__law_stepped : BndOk d__law_stepped := .inl ⟨rfl, rfl, bo__law_stepped⟩
theorem bo__law_strays_of : BindOk d__law_strays_of := fun _ _ _ _ _ _ us hl => match us, hl with | [_, _], _ => rfl
theorem b__law_strays_of : BndOk d__law_strays_of := .inl ⟨rfl, rfl, bo__law_strays_of⟩
theorem bo__law_is_formed : BindOk d__law_is_formed := fun _ _ _ _ _ _ us hl => match us, hl with | [_, _], _ => rfl
theorem b__law_is_formed : BndOk d__law_is_formed := .inl ⟨rfl, rfl, bo__law_is_formed⟩
theorem bo__law_is_near : BindOk d__law_is_near := fun _ _ _ _ _ _ us hl => match us, hl with | [_, _, _, _], _ => rfl
theorem b__law_is_near : BndOk d__law_is_near := .inl ⟨rfl, rfl, bo__law_is_near⟩
theorem bo__law_ties_refused : BindOk d__law_ties_refused := fun _ _ _ _ _ _ us hl => match us, hl with | [_, _], _ => rfl
theorem b__law_ties_refused : BndOk d__law_ties_refused := .inl ⟨rfl, rfl, bo__law_ties_refused⟩
theorem bo__law_wrong_ties_right : BindOk d__law_wrong_ties_right := fun _ _ _ _ _ _ us hl => match us, hl with | [_, _, _], _ => rfl
theorem b__law_wrong_ties_right : BndOk d__law_wrong_ties_right := .inl ⟨rfl, rfl, bo__law_wrong_ties_right⟩
theorem bo__law_moves_right : BindOk d__law_moves_right := fun _ _ _ _ _ _ us hl => match us, hl with | [_, _, _], _ => rfl
theorem b__law_moves_right : BndOk d__law_moves_right := .inl ⟨rfl, rfl, bo__law_moves_right⟩
theorem bo__law_copies_right : BindOk d__law_copies_right := fun _ _ _ _ _ _ us hl => match us, hl with | [_, _, _], _ => rfl
theorem b__law_copies_right : BndOk d__law_copies_right := .inl ⟨rfl, rfl, bo__law_copies_right⟩
theorem bo_law : BindOk d_law := fun _ _ _ _ _ _ us hl => match us, hl with | [_], _ => rfl
theorem b_law : BndOk d_law := .inl ⟨rfl, rfl, bo_law⟩
theorem bo_Standing___init__ : BindOk d_Standing___init__ := fun _ _ _ _ _ _ us hl => match us, hl with | [_, _, _, _], _ => rfl
theorem b_Standing___init__ : BndOk d_Standing___init__ := .inl ⟨rfl, rfl, bo_Standing___init__⟩
theorem bo_Standing_branch : BindOk d_Standing_branch := fun _ _ _ _ _ _ us hl => match us, hl with | [_], _ => rfl
theorem b_Standing_branch : BndOk d_Standing_branch := .inl ⟨rfl, rfl, bo_Standing_branch⟩
theorem bo_Standing_step : BindOk d_Standing_step := fun _ _ _ _ _ _ us hl => match us, hl with | [_, _], _ => rfl
theorem b_Standing_step : BndOk d_Standing_step := .inl ⟨rfl, rfl, bo_Standing_step⟩
theorem bo_Standing_go : BindOk d_Standing_go := fun _ _ _ _ _ _ us hl => match us, hl with | [_, _], _ => rfl
theorem b_Standing_go : BndOk d_Standing_go := .inl ⟨rfl, rfl, bo_Standing_go⟩
theorem bo_HalvesPlayer___init__ : BindOk d_HalvesPlayer___init__ := fun _ _ _ _ _ _ us hl => match us, hl with | [_, _, _, _], _ => rfl
theorem b_HalvesPlayer___init__ : BndOk d_HalvesPlayer___init__ := .inl ⟨rfl, rfl, bo_HalvesPlayer___init__⟩
theorem bo_HalvesPlayer_copy : BindOk d_HalvesPlayer_copy := fun _ _ _ _ _ _ us hl => match us, hl with | [_], _ => rfl
theorem b_HalvesPlayer_copy : BndOk d_HalvesPlayer_copy := .inl ⟨rfl, rfl, bo_HalvesPlayer_copy⟩
theorem bo_HalvesPlayer_number : BindOk d_HalvesPlayer_number := fun _ _ _ _ _ _ us hl => match us, hl with | [_, _], _ => rfl
theorem b_HalvesPlayer_number : BndOk d_HalvesPlayer_number := .inl ⟨rfl, rfl, bo_HalvesPlayer_number⟩
theorem bo_HalvesPlayer_moved : BindOk d_HalvesPlayer_moved := fun _ _ _ _ _ _ us hl => match us, hl with | [_, _, _], _ => rfl
theorem b_HalvesPlayer_moved : BndOk d_HalvesPlayer_moved := .inl ⟨rfl, rfl, bo_HalvesPlayer_moved⟩
theorem l__wall : lookD cc d__wall = true := by kernel_rfl
theorem l_is_whole : lookD cc d_is_whole = true := by kernel_rfl
theorem l_is_between : lookD cc d_is_between = true := by kernel_rfl
theorem l_is_below : lookD cc d_is_below = true := by kernel_rfl
theorem l_is_links : lookD cc d_is_links = true := by kernel_rfl
theorem l_has_size : lookD cc d_has_size = true := by kernel_rfl
theorem l_wrong_entry : lookD cc d_wrong_entry = true := by kernel_rfl
theorem l_made_book : lookD cc d_made_book = true := by kernel_rfl
theorem l_many_parts : lookD cc d_many_parts = true := by kernel_rfl
theorem l_is_part : lookD cc d_is_part = true := by kernel_rfl
theorem l_is_change : lookD cc d_is_change = true := by kernel_rfl
theorem l_is_changes : lookD cc d_is_changes = true := by kernel_rfl
theorem l_first_outside : lookD cc d_first_outside = true := by kernel_rfl
theorem l_at_first : lookD cc d_at_first = true := by kernel_rfl
theorem l_put_to : lookD cc d_put_to = true := by kernel_rfl
theorem l_state_behind : lookD cc d_state_behind = true := by kernel_rfl
theorem l_standing_at_first : lookD cc d_standing_at_first = true := by kernel_rfl
theorem l_want_ties : lookD cc d_want_ties = true := by kernel_rfl
theorem l_nearest : lookD cc d_nearest = true := by kernel_rfl
theorem l_halves : lookD cc d_halves = true := by kernel_rfl
theorem l_is_move : lookD cc d_is_move = true := by kernel_rfl
theorem l_want_history : lookD cc d_want_history = true := by kernel_rfl
theorem l_strays_of : lookD cc d_strays_of = true := by kernel_rfl
theorem l_run : lookD cc d_run = true := by kernel_rfl
theorem l_strays : lookD cc d_strays = true := by kernel_rfl
theorem l__law_pool : lookD cc d__law_pool = true := by kernel_rfl
theorem l__law_take : lookD cc d__law_take = true := by kernel_rfl
theorem l__law_one : lookD cc d__law_one = true := by kernel_rfl
theorem l__law_plain_links : lookD cc d__law_plain_links = true := by kernel_rfl
theorem l__law_drawn_links : lookD cc d__law_drawn_links = true := by kernel_rfl
theorem l__law_drawn_steps : lookD cc d__law_drawn_steps = true := by kernel_rfl
theorem l__law_plain_book : lookD cc d__law_plain_book = true := by kernel_rfl
theorem l__law_linked_book : lookD cc d__law_linked_book = true := by kernel_rfl
theorem l__law_some_book : lookD cc d__law_some_book = true := by kernel_rfl
theorem l__law_drawn_history : lookD cc d__law_drawn_history = true := by kernel_rfl
theorem l__law_noughts : lookD cc d__law_noughts = true := by kernel_rfl
theorem l__law_stepped : lookD cc d__law_stepped = true := by kernel_rfl
theorem l__law_strays_of : lookD cc d__law_strays_of = true := by kernel_rfl
theorem l__law_is_formed : lookD cc d__law_is_formed = true := by kernel_rfl
theorem l__law_is_near : lookD cc d__law_is_near = true := by kernel_rfl
theorem l__law_ties_refused : lookD cc d__law_ties_refused = true := by kernel_rfl
theorem l__law_wrong_ties_right : lookD cc d__law_wrong_ties_right = true := by kernel_rfl
theorem l__law_moves_right : lookD cc d__law_moves_right = true := by kernel_rfl
theorem l__law_copies_right : lookD cc d__law_copies_right = true := by kernel_rfl
theorem l_law : lookD cc d_law = true := by kernel_rfl
theorem l_Standing___init__ : lookD cc d_Standing___init__ = true := by kernel_rfl
theorem l_Standing_branch : lookD cc d_Standing_branch = true := by kernel_rfl
theorem l_Standing_step : lookD cc d_Standing_step = true := by kernel_rfl
theorem l_Standing_go : lookD cc d_Standing_go = true := by kernel_rfl
theorem l_HalvesPlayer___init__ : lookD cc d_HalvesPlayer___init__ = true := by kernel_rfl
theorem l_HalvesPlayer_copy : lookD cc d_HalvesPlayer_copy = true := by kernel_rfl
theorem l_HalvesPlayer_number : lookD cc d_HalvesPlayer_number = true := by kernel_rfl
theorem l_HalvesPlayer_moved : lookD cc d_HalvesPlayer_moved = true := by kernel_rfl
theorem all_ds {p : DI → Prop} (h0 : p d__wall) (h1 : p d_is_whole) (h2 : p d_is_between) (h3 : p d_is_below) (h4 : p d_is_links) (h5 : p d_has_size) (h6 : p d_wrong_entry) (h7 : p d_made_book) (h8 : p d_many_parts) (h9 : p d_is_part) (h10 : p d_is_change) (h11 : p d_is_changes) (h12 : p d_first_outside) (h13 : p d_at_first) (h14 : p d_put_to) (h15 : p d_state_behind) (h16 : p d_standing_at_first) (h17 : p d_want_ties) (h18 : p d_nearest) (h19 : p d_halves) (h20 : p d_is_move) (h21 : p d_want_history) (h22 : p d_strays_of) (h23 : p d_run) (h24 : p d_strays) (h25 : p d__law_pool) (h26 : p d__law_take) (h27 : p d__law_one) (h28 : p d__law_plain_links) (h29 : p d__law_drawn_links) (h30 : p d__law_drawn_steps) (h31 : p d__law_plain_book) (h32 : p d__law_linked_book) (h33 : p d__law_some_book) (h34 : p d__law_drawn_history) (h35 : p d__law_noughts) (h36 : p d__law_stepped) (h37 : p d__law_strays_of) (h38 : p d__law_is_formed) (h39 : p d__law_is_near) (h40 : p d__law_ties_refused) (h41 : p d__law_wrong_ties_right) (h42 : p d__law_moves_right) (h43 : p d__law_copies_right) (h44 : p d_law) (h45 : p d_Standing___init__) (h46 : p d_Standing_branch) (h47 : p d_Standing_step) (h48 : p d_Standing_go) (h49 : p d_HalvesPlayer___init__) (h50 : p d_HalvesPlayer_copy) (h51 : p d_HalvesPlayer_number) (h52 : p d_HalvesPlayer_moved) : ∀ d ∈ ds, p d := by
  intro d hd
  simp only [ds, List.mem_cons, List.not_mem_nil, or_false] at hd
  rcases hd with rfl | rfl | rfl | rfl | rfl | rfl | rfl | rfl | rfl | rfl | rfl | rfl | rfl | rfl | rfl | rfl | rfl | rfl | rfl | rfl | rfl | rfl | rfl | rfl | rfl | rfl | rfl | rfl | rfl | rfl | rfl | rfl | rfl | rfl | rfl | rfl | rfl | rfl | rfl | rfl | rfl | rfl | rfl | rfl | rfl | rfl | rfl | rfl | rfl | rfl | rfl | rfl | rfl <;> assumption
theorem data : DataOk cc T ds where
  bind := all_ds b__wall b_is_whole b_is_between b_is_below b_is_links b_has_size b_wrong_entry b_made_book b_many_parts b_is_part b_is_change b_is_changes b_first_outside b_at_first b_put_to b_state_behind b_standing_at_first b_want_ties b_nearest b_halves b_is_move b_want_history b_strays_of b_run b_strays b__law_pool b__law_take b__law_one b__law_plain_links b__law_drawn_links b__law_drawn_steps b__law_plain_book b__law_linked_book b__law_some_book b__law_drawn_history b__law_noughts b__law_stepped b__law_strays_of b__law_is_formed b__law_is_near b__law_ties_refused b__law_wrong_ties_right b__law_moves_right b__law_copies_right b_law b_Standing___init__ b_Standing_branch b_Standing_step b_Standing_go b_HalvesPlayer___init__ b_HalvesPlayer_copy b_HalvesPlayer_number b_HalvesPlayer_moved
  look := all_ds l__wall l_is_whole l_is_between l_is_below l_is_links l_has_size l_wrong_entry l_made_book l_many_parts l_is_part l_is_change l_is_changes l_first_outside l_at_first l_put_to l_state_behind l_standing_at_first l_want_ties l_nearest l_halves l_is_move l_want_history l_strays_of l_run l_strays l__law_pool l__law_take l__law_one l__law_plain_links l__law_drawn_links l__law_drawn_steps l__law_plain_book l__law_linked_book l__law_some_book l__law_drawn_history l__law_noughts l__law_stepped l__law_strays_of l__law_is_formed l__law_is_near l__law_ties_refused l__law_wrong_ties_right l__law_moves_right l__law_copies_right l_law l_Standing___init__ l_Standing_branch l_Standing_step l_Standing_go l_HalvesPlayer___init__ l_HalvesPlayer_copy l_HalvesPlayer_number l_HalvesPlayer_moved
  tab := all_ds rfl rfl rfl rfl rfl rfl rfl rfl rfl rfl rfl rfl rfl rfl rfl rfl rfl rfl rfl rfl rfl rfl rfl rfl rfl rfl rfl rfl rfl rfl rfl rfl rfl rfl rfl rfl rfl rfl rfl rfl rfl rfl rfl rfl rfl rfl rfl rfl rfl rfl rfl rfl rfl
  fs := by
    intro p hp
    simp only [cc, List.mem_cons, List.not_mem_nil, or_false] at hp
    rcases hp with rfl | rfl | rfl | rfl | rfl | rfl | rfl | rfl | rfl | rfl | rfl | rfl | rfl | rfl | rfl | rfl | rfl | rfl | rfl | rfl | rfl | rfl | rfl | rfl | rfl | rfl | rfl | rfl | rfl | rfl | rfl | rfl | rfl | rfl | rfl | rfl | rfl | rfl | rfl | rfl | rfl | rfl | rfl | rfl | rfl
    · exact ⟨d__wall, by simp [ds], rfl, rfl, rfl, rfl, List.mem_cons_self⟩
    · exact ⟨d_is_whole, by simp [ds], rfl, rfl, rfl, rfl, List.mem_cons_self⟩
    · exact ⟨d_is_between, by simp [ds], rfl, rfl, rfl, rfl, List.mem_cons_self⟩
    · exact ⟨d_is_below, by simp [ds], rfl, rfl, rfl, rfl, List.mem_cons_self⟩
    · exact ⟨d_is_links, by simp [ds], rfl, rfl, rfl, rfl, List.mem_cons_self⟩
    · exact ⟨d_has_size, by simp [ds], rfl, rfl, rfl, rfl, List.mem_cons_self⟩
    · exact ⟨d_wrong_entry, by simp [ds], rfl, rfl, rfl, rfl, List.mem_cons_self⟩
    · exact ⟨d_made_book, by simp [ds], rfl, rfl, rfl, rfl, List.mem_cons_self⟩
    · exact ⟨d_many_parts, by simp [ds], rfl, rfl, rfl, rfl, List.mem_cons_self⟩
    · exact ⟨d_is_part, by simp [ds], rfl, rfl, rfl, rfl, List.mem_cons_self⟩
    · exact ⟨d_is_change, by simp [ds], rfl, rfl, rfl, rfl, List.mem_cons_self⟩
    · exact ⟨d_is_changes, by simp [ds], rfl, rfl, rfl, rfl, List.mem_cons_self⟩
    · exact ⟨d_first_outside, by simp [ds], rfl, rfl, rfl, rfl, List.mem_cons_self⟩
    · exact ⟨d_at_first, by simp [ds], rfl, rfl, rfl, rfl, List.mem_cons_self⟩
    · exact ⟨d_put_to, by simp [ds], rfl, rfl, rfl, rfl, List.mem_cons_self⟩
    · exact ⟨d_state_behind, by simp [ds], rfl, rfl, rfl, rfl, List.mem_cons_self⟩
    · exact ⟨d_standing_at_first, by simp [ds], rfl, rfl, rfl, rfl, List.mem_cons_self⟩
    · exact ⟨d_want_ties, by simp [ds], rfl, rfl, rfl, rfl, List.mem_cons_self⟩
    · exact ⟨d_nearest, by simp [ds], rfl, rfl, rfl, rfl, List.mem_cons_self⟩
    · exact ⟨d_halves, by simp [ds], rfl, rfl, rfl, rfl, List.mem_cons_self⟩
    · exact ⟨d_is_move, by simp [ds], rfl, rfl, rfl, rfl, List.mem_cons_self⟩
    · exact ⟨d_want_history, by simp [ds], rfl, rfl, rfl, rfl, List.mem_cons_self⟩
    · exact ⟨d_strays_of, by simp [ds], rfl, rfl, rfl, rfl, List.mem_cons_self⟩
    · exact ⟨d_run, by simp [ds], rfl, rfl, rfl, rfl, List.mem_cons_self⟩
    · exact ⟨d_strays, by simp [ds], rfl, rfl, rfl, rfl, List.mem_cons_self⟩
    · exact ⟨d__law_pool, by simp [ds], rfl, rfl, rfl, rfl, List.mem_cons_self⟩
    · exact ⟨d__law_take, by simp [ds], rfl, rfl, rfl, rfl, List.mem_cons_self⟩
    · exact ⟨d__law_one, by simp [ds], rfl, rfl, rfl, rfl, List.mem_cons_self⟩
    · exact ⟨d__law_plain_links, by simp [ds], rfl, rfl, rfl, rfl, List.mem_cons_self⟩
    · exact ⟨d__law_drawn_links, by simp [ds], rfl, rfl, rfl, rfl, List.mem_cons_self⟩
    · exact ⟨d__law_drawn_steps, by simp [ds], rfl, rfl, rfl, rfl, List.mem_cons_self⟩
    · exact ⟨d__law_plain_book, by simp [ds], rfl, rfl, rfl, rfl, List.mem_cons_self⟩
    · exact ⟨d__law_linked_book, by simp [ds], rfl, rfl, rfl, rfl, List.mem_cons_self⟩
    · exact ⟨d__law_some_book, by simp [ds], rfl, rfl, rfl, rfl, List.mem_cons_self⟩
    · exact ⟨d__law_drawn_history, by simp [ds], rfl, rfl, rfl, rfl, List.mem_cons_self⟩
    · exact ⟨d__law_noughts, by simp [ds], rfl, rfl, rfl, rfl, List.mem_cons_self⟩
    · exact ⟨d__law_stepped, by simp [ds], rfl, rfl, rfl, rfl, List.mem_cons_self⟩
    · exact ⟨d__law_strays_of, by simp [ds], rfl, rfl, rfl, rfl, List.mem_cons_self⟩
    · exact ⟨d__law_is_formed, by simp [ds], rfl, rfl, rfl, rfl, List.mem_cons_self⟩
    · exact ⟨d__law_is_near, by simp [ds], rfl, rfl, rfl, rfl, List.mem_cons_self⟩
    · exact ⟨d__law_ties_refused, by simp [ds], rfl, rfl, rfl, rfl, List.mem_cons_self⟩
    · exact ⟨d__law_wrong_ties_right, by simp [ds], rfl, rfl, rfl, rfl, List.mem_cons_self⟩
    · exact ⟨d__law_moves_right, by simp [ds], rfl, rfl, rfl, rfl, List.mem_cons_self⟩
    · exact ⟨d__law_copies_right, by simp [ds], rfl, rfl, rfl, rfl, List.mem_cons_self⟩
    · exact ⟨d_law, by simp [ds], rfl, rfl, rfl, rfl, List.mem_cons_self⟩
  ls := by
    intro p hp
    cases hp
  ln := by decide
  ks := by
    intro p hp
    cases hp
  flk := ⟨by decide +kernel, by decide +kernel⟩
  kn := all_ds (fun c hc => by cases hc) (fun c hc => by cases hc) (fun c hc => by cases hc) (fun c hc => by cases hc) (fun c hc => by cases hc) (fun c hc => by cases hc) (fun c hc => by cases hc) (fun c hc => by cases hc) (fun c hc => by cases hc) (fun c hc => by cases hc) (fun c hc => by cases hc) (fun c hc => by cases hc) (fun c hc => by cases hc) (fun c hc => by cases hc) (fun c hc => by cases hc) (fun c hc => by cases hc) (fun c hc => by cases hc) (fun c hc => by cases hc) (fun c hc => by cases hc) (fun c hc => by cases hc) (fun c hc => by cases hc) (fun c hc => by cases hc) (fun c hc => by cases hc) (fun c hc => by cases hc) (fun c hc => by cases hc) (fun c hc => by cases hc) (fun c hc => by cases hc) (fun c hc => by cases hc) (fun c hc => by cases hc) (fun c hc => by cases hc) (fun c hc => by cases hc) (fun c hc => by cases hc) (fun c hc => by cases hc) (fun c hc => by cases hc) (fun c hc => by cases hc) (fun c hc => by cases hc) (fun c hc => by cases hc) (fun c hc => by cases hc) (fun c hc => by cases hc) (fun c hc => by cases hc) (fun c hc => by cases hc) (fun c hc => by cases hc) (fun c hc => by cases hc) (fun c hc => by cases hc) (fun c hc => by cases hc) (fun c hc => by cases hc; rfl) (fun c hc => by cases hc; rfl) (fun c hc => by cases hc; rfl) (fun c hc => by cases hc; rfl) (fun c hc => by cases hc; rfl) (fun c hc => by cases hc; rfl) (fun c hc => by cases hc; rfl) (fun c hc => by cases hc; rfl)
  kf := by
    decide +kernel
  mts := by
    intro p hp
    simp only [cc, List.mem_cons, List.not_mem_nil, or_false] at hp
    rcases hp with rfl | rfl | rfl | rfl | rfl
    · exact ⟨rfl, d_HalvesPlayer_copy, by simp [ds], "HalvesPlayer", rfl, rfl, rfl, rfl, by simp [d_HalvesPlayer_copy]⟩
    · exact ⟨rfl, d_HalvesPlayer_moved, by simp [ds], "HalvesPlayer", rfl, rfl, rfl, rfl, by simp [d_HalvesPlayer_moved]⟩
    · exact ⟨rfl, d_HalvesPlayer_number, by simp [ds], "HalvesPlayer", rfl, rfl, rfl, rfl, by simp [d_HalvesPlayer_number]⟩
    · exact ⟨rfl, d_Standing_go, by simp [ds], "Standing", rfl, rfl, rfl, rfl, by simp [d_Standing_go]⟩
    · exact ⟨rfl, d_Standing_step, by simp [ds], "Standing", rfl, rfl, rfl, rfl, by simp [d_Standing_step]⟩
  mks := by
    intro p hp
    simp only [cc, List.mem_cons, List.not_mem_nil, or_false] at hp
    rcases hp with rfl | rfl
    · exact ⟨⟨_, rfl⟩, d_HalvesPlayer___init__, by simp [ds], "HalvesPlayer", rfl, rfl, rfl, rfl, List.mem_cons_self⟩
    · exact ⟨⟨_, rfl⟩, d_Standing___init__, by simp [ds], "Standing", rfl, rfl, rfl, rfl, List.mem_cons_self⟩
def loose : List Str := (["_wall", "Refused", "BadBook", "BadHistory", "BadTies", "Broken", "MOST_PARTS", "MOST_STEPS", "is_whole", "is_between", "is_below", "is_links", "has_size", "wrong_entry", "made_book", "many_parts", "is_part", "is_change", "is_changes", "first_outside"] : List Str) ++ (["at_first", "put_to", "state_behind", "Standing", "standing_at_first", "want_ties", "nearest", "HalvesPlayer", "halves", "UP", "DOWN", "is_move", "want_history", "strays_of", "run", "strays", "_law_pool", "_law_take", "_law_one", "_law_plain_links"] : List Str) ++ (["_law_drawn_links", "_law_drawn_steps", "_law_plain_book", "_law_linked_book", "_law_some_book", "_law_drawn_history", "_law_noughts", "_law_stepped", "_law_strays_of", "_law_is_formed", "_law_is_near", "_law_ties_refused", "_law_wrong_ties_right", "_law_moves_right", "_law_copies_right"] : List Str)
def lawIx : Nat := 62
abbrev RL : PySem.W.OpenLaw := PySem.Challenge.rw_byhalves_k04_each_part_rounded_by_itself
end Lw
end

section
set_option Elab.async false
set_option linter.all false
set_option maxRecDepth 100000
set_option maxHeartbeats 0
namespace Lw
open PySem PySem.Spec PyProof.Rows L2 Ev
abbrev RR : PySem.W.OpenRow := PySem.W.OpenLaw.row RL
abbrev hk : PySem.W.Hook := hookY 6 PR.main.file cc ds
def ob (s : PySem.W.SharedT) : AlY := obsY 6 PR.main.file cc ds (HandSHeadRun.getT s)
theorem ob_eq (s : PySem.W.SharedT) : ob s = hk.obs s.abs := obsY_eq (HandSHeadRun.getT_eq s)
theorem run (w : World) : HandSHeadRun.RunEq RR (PySem.W.view RR.prog [lawIx]) hk ob 4000 loose w := by
  intro os
  kernel_rfl
end Lw
end

section
set_option Elab.async false
set_option linter.all false
set_option maxRecDepth 100000
set_option maxHeartbeats 1000000
namespace Lw
open PySem (Str)
open Ev
/-! ### general -/
theorem call_of {n f : Nat} {fn : Fn} {ds : List D} {L : LH} (h : T f = some fn) (hl : ds.length = fn.np) : callN T (n + 1) f ds L = endR fn L (exSs (cfN T n) fn.body (startE fn.nl ds) L) := by
  rw [callN_succ, h]; exact if_pos hl
theorem call_eq (T : Tbl) (n : Nat) : (cfN T n).call = callN T n := rfl
theorem callL_eq (T : Tbl) (n : Nat) : (cfN T n).callL = callT T n := rfl
theorem endR_rt {fn : Fn} {L0 L : LH} {d : D} (h : fn.drop = false) : endR fn L0 (.rt d L) = .ok d L := by simp [endR, cutR, h]
theorem endR_nx {fn : Fn} {L0 L : LH} {env : Env} (h : fn.drop = false) : endR fn L0 (.nx env L) = .ok .non L := by simp [endR, cutR, h]
theorem endR_exc {fn : Fn} {L0 L : LH} {c : Nat} {w : D} {env : Env} (h : fn.drop = false) : endR fn L0 (.exc c w env L) = .exc c w L := by simp [endR, cutR, h]
theorem pre {n k : Nat} (h : k + 1 ≤ n) : ∃ m, n = m + 1 ∧ k ≤ m := ⟨n - 1, by omega, by omega⟩
theorem truth_bl (b : Bool) : truth (.bl b) = some b := rfl
theorem truth_int (i : Int) : truth (.int i) = some (i != 0) := rfl
theorem itemsD_tup (xs : List D) : itemsD (.tup xs) = some xs := rfl
theorem itemsD_lst (xs : List D) : itemsD (.lst xs) = some xs := rfl
theorem bi_all (xs : List D) (L : LH) : biD .all [.lst xs] L = (blsOf xs).map fun bs => .bl (bs.all id) := rfl
theorem bi_any (xs : List D) (L : LH) : biD .any [.lst xs] L = (blsOf xs).map fun bs => .bl (bs.any id) := rfl
theorem bi_len (x : D) (L : LH) : biD .len [x] L = (lenD L x).map fun n : Nat => D.int n := by
  simp only [biD]
  cases lenD L x <;> rfl
theorem lenD_tup (xs : List D) (L : LH) : lenD L (.tup xs) = some xs.length := rfl
theorem lenD_lst (xs : List D) (L : LH) : lenD L (.lst xs) = some xs.length := rfl
theorem lcEnd_f (ys : List D) (L : LH) : lcEnd false ys L = .ok (.lst ys) L := rfl
theorem itD_seq (x : D) : itD .seq [x] = itemsD x := rfl
theorem eT_ev (C : Cf) (env : Env) (L : LH) : evE C eT env L = .ok (.bl true) L := rfl
/-- [f x for x in items if p x], nothing changed -/
theorem lcGo_map {put : D → Env → Option Env} {cond elt : Env → LH → R D} {env : Env} {L : LH} {f : D → D} {p : D → Bool} : ∀ {items : List D}, (∀ x ∈ items, ∃ env1, put x env = some env1 ∧ cond env1 L = .ok (.bl (p x)) L ∧ (p x = true → elt env1 L = .ok (f x) L)) →
    lcGo put cond elt env items L = .ok ((items.filter p).map f) L
  | [], _ => rfl
  | x :: r, h => by
    obtain ⟨env1, e1, e2, e3⟩ := h x List.mem_cons_self
    simp only [lcGo, e1, e2, R.bind_ok, truth]
    have ih := lcGo_map (items := r) (fun y hy => h y (List.mem_cons_of_mem _ hy))
    cases hp : p x with
    | true => simp [e3 hp, ih, hp]
    | false => simp [ih, hp]
theorem lcGo_all {put : D → Env → Option Env} {cond elt : Env → LH → R D} {env : Env} {L : LH} {f : D → D} {items : List D} (h : ∀ x ∈ items, ∃ env1, put x env = some env1 ∧ cond env1 L = .ok (.bl true) L ∧ elt env1 L = .ok (f x) L) :
    lcGo put cond elt env items L = .ok (items.map f) L := by
  have := lcGo_map (p := fun _ => true) (f := f) (items := items) (put := put) (cond := cond) (elt := elt) (env := env) (L := L) fun x hx => by
    obtain ⟨env1, e1, e2, e3⟩ := h x hx
    exact ⟨env1, e1, e2, fun _ => e3⟩
  rw [this, List.filter_eq_self.mpr (fun _ _ => rfl)]
/-- a loop whose body changes nothing but names -/
theorem forGo_keep {put : D → Env → Option Env} {body : Env → LH → RS} {L : LH} {P : Env → Prop} : ∀ {items : List D} {env : Env}, P env → (∀ x ∈ items, ∀ env, P env → ∃ env1 env2, put x env = some env1 ∧ body env1 L = .nx env2 L ∧ P env2) →
    ∃ envf, P envf ∧ forGo put body items env L = .nx envf L
  | [], env, h, _ => ⟨env, h, rfl⟩
  | x :: r, env, h, hs => by
    obtain ⟨env1, env2, e1, e2, e3⟩ := hs x List.mem_cons_self env h
    obtain ⟨envf, f1, f2⟩ := forGo_keep (items := r) e3 fun y hy => hs y (List.mem_cons_of_mem _ hy)
    exact ⟨envf, f1, by simp only [forGo, e1, e2]; exact f2⟩
theorem forGo_nx {put : D → Env → Option Env} {body : Env → LH → RS} {x : D} {r : List D} {env env1 e : Env} {L l : LH} (h1 : put x env = some env1) (h2 : body env1 L = .nx e l) : forGo put body (x :: r) env L = forGo put body r e l := by
  simp only [forGo, h1, h2]
theorem bls_true : ∀ n, blsOf (List.replicate n (D.bl true)) = some (List.replicate n true)
  | 0 => rfl
  | n + 1 => by simp [List.replicate_succ, blsOf, bls_true n]
theorem bls_map {α : Type} (f : α → Bool) : ∀ xs : List α, blsOf (xs.map fun x => D.bl (f x)) = some (xs.map f)
  | [] => rfl
  | x :: xs => by simp [blsOf, bls_map f xs]
theorem ints_map : ∀ xs : List Int, intsOf (xs.map D.int) = some xs
  | [] => rfl
  | x :: xs => by simp [intsOf, ints_map xs]
/-! ### whole numbers -/
theorem whole_int {n : Nat} (h : 1 ≤ n) (i : Int) (L : LH) : callN T n i_is_whole [.int i] L = .ok (.bl true) L := by
  obtain ⟨n, rfl, _⟩ := pre h
  rw [call_of (fn := f_is_whole) rfl rfl]; rfl
theorem whole_non {n : Nat} (h : 1 ≤ n) (L : LH) : callN T n i_is_whole [.non] L = .ok (.bl false) L := by
  obtain ⟨n, rfl, _⟩ := pre h
  rw [call_of (fn := f_is_whole) rfl rfl]; rfl
theorem whole_str {n : Nat} (h : 1 ≤ n) (s : Str) (L : LH) : callN T n i_is_whole [.str s] L = .ok (.bl false) L := by
  obtain ⟨n, rfl, _⟩ := pre h
  rw [call_of (fn := f_is_whole) rfl rfl]; rfl
theorem between_int {n : Nat} (h : 2 ≤ n) (x a b : Int) (L : LH) : callN T n i_is_between [.int x, .int a, .int b] L = .ok (.bl (decide (a ≤ x) && decide (x ≤ b))) L := by
  obtain ⟨n, rfl, _⟩ := pre h
  rw [call_of (fn := f_is_between) rfl rfl]
  simp (disch := first | omega | assumption | rfl) only [exSs, exS, evE, evEs, startE, bndR, List.map_cons, List.map_nil, List.length_cons, List.length_nil, List.cons_append, List.nil_append, List.getElem?_cons_zero, List.getElem?_cons_succ, R.bind_ok, R.bind_exc, R.st_ok, R.st_exc, call_eq, callL_eq, truth_bl, truth_int, Nat.reduceAdd, Nat.reduceSub, Int.cast_ofNat_Int, Int.reduceBEq, beq_self_eq_true, Bool.not_true, Bool.not_false, Int.reduceNeg, decide_true, decide_false, Bool.or_false, Bool.and_true, Bool.true_and, Bool.and_false, Bool.false_and, eT_ev, itD_seq, itemsD_tup, itemsD_lst, bi_all, bi_any, bi_len, lenD_tup, lenD_lst, lcEnd_f, List.length_map, List.all_cons, List.all_nil, id_eq, endR_rt, endR_nx, endR_exc, opt_some, Option.map_some, Tg.put, putMany, List.set_cons_zero, List.set_cons_succ, RS.bind_nx, RS.bind_rt, RS.bind_exc, List.replicate, R.nox_ok, wipeE, f_is_between, whole_int, cmpD]
  by_cases h : a ≤ x
  · simp [h, endR, cutR, R.st]
  · simp [h, endR, cutR, R.st]
theorem between_non {n : Nat} (h : 2 ≤ n) (a b : Int) (L : LH) : callN T n i_is_between [.non, .int a, .int b] L = .ok (.bl false) L := by
  obtain ⟨n, rfl, _⟩ := pre h
  rw [call_of (fn := f_is_between) rfl rfl]
  simp (disch := first | omega | assumption | rfl) only [exSs, exS, evE, evEs, startE, bndR, List.map_cons, List.map_nil, List.length_cons, List.length_nil, List.cons_append, List.nil_append, List.getElem?_cons_zero, List.getElem?_cons_succ, R.bind_ok, R.bind_exc, R.st_ok, R.st_exc, call_eq, callL_eq, truth_bl, truth_int, Nat.reduceAdd, Nat.reduceSub, Int.cast_ofNat_Int, Int.reduceBEq, beq_self_eq_true, Bool.not_true, Bool.not_false, Int.reduceNeg, decide_true, decide_false, Bool.or_false, Bool.and_true, Bool.true_and, Bool.and_false, Bool.false_and, eT_ev, itD_seq, itemsD_tup, itemsD_lst, bi_all, bi_any, bi_len, lenD_tup, lenD_lst, lcEnd_f, List.length_map, List.all_cons, List.all_nil, id_eq, endR_rt, endR_nx, endR_exc, opt_some, Option.map_some, Tg.put, putMany, List.set_cons_zero, List.set_cons_succ, RS.bind_nx, RS.bind_rt, RS.bind_exc, List.replicate, R.nox_ok, wipeE, f_is_between, whole_non, cmpD]
theorem between_str {n : Nat} (h : 2 ≤ n) (s : Str) (a b : Int) (L : LH) : callN T n i_is_between [.str s, .int a, .int b] L = .ok (.bl false) L := by
  obtain ⟨n, rfl, _⟩ := pre h
  rw [call_of (fn := f_is_between) rfl rfl]
  simp (disch := first | omega | assumption | rfl) only [exSs, exS, evE, evEs, startE, bndR, List.map_cons, List.map_nil, List.length_cons, List.length_nil, List.cons_append, List.nil_append, List.getElem?_cons_zero, List.getElem?_cons_succ, R.bind_ok, R.bind_exc, R.st_ok, R.st_exc, call_eq, callL_eq, truth_bl, truth_int, Nat.reduceAdd, Nat.reduceSub, Int.cast_ofNat_Int, Int.reduceBEq, beq_self_eq_true, Bool.not_true, Bool.not_false, Int.reduceNeg, decide_true, decide_false, Bool.or_false, Bool.and_true, Bool.true_and, Bool.and_false, Bool.false_and, eT_ev, itD_seq, itemsD_tup, itemsD_lst, bi_all, bi_any, bi_len, lenD_tup, lenD_lst, lcEnd_f, List.length_map, List.all_cons, List.all_nil, id_eq, endR_rt, endR_nx, endR_exc, opt_some, Option.map_some, Tg.put, putMany, List.set_cons_zero, List.set_cons_succ, RS.bind_nx, RS.bind_rt, RS.bind_exc, List.replicate, R.nox_ok, wipeE, f_is_between, whole_str, cmpD]
theorem below_int {n : Nat} (h : 3 ≤ n) (x b : Int) (L : LH) : callN T n i_is_below [.int x, .int b] L = .ok (.bl (decide (0 ≤ x) && decide (x ≤ b - 1))) L := by
  obtain ⟨n, rfl, _⟩ := pre h
  rw [call_of (fn := f_is_below) rfl rfl]
  simp (disch := first | omega | assumption | rfl) only [exSs, exS, evE, evEs, startE, bndR, List.map_cons, List.map_nil, List.length_cons, List.length_nil, List.cons_append, List.nil_append, List.getElem?_cons_zero, List.getElem?_cons_succ, R.bind_ok, R.bind_exc, R.st_ok, R.st_exc, call_eq, callL_eq, truth_bl, truth_int, Nat.reduceAdd, Nat.reduceSub, Int.cast_ofNat_Int, Int.reduceBEq, beq_self_eq_true, Bool.not_true, Bool.not_false, Int.reduceNeg, decide_true, decide_false, Bool.or_false, Bool.and_true, Bool.true_and, Bool.and_false, Bool.false_and, eT_ev, itD_seq, itemsD_tup, itemsD_lst, bi_all, bi_any, bi_len, lenD_tup, lenD_lst, lcEnd_f, List.length_map, List.all_cons, List.all_nil, id_eq, endR_rt, endR_nx, endR_exc, opt_some, Option.map_some, Tg.put, putMany, List.set_cons_zero, List.set_cons_succ, RS.bind_nx, RS.bind_rt, RS.bind_exc, List.replicate, R.nox_ok, wipeE, f_is_below, binD, between_int]
theorem below_non {n : Nat} (h : 3 ≤ n) (b : Int) (L : LH) : callN T n i_is_below [.non, .int b] L = .ok (.bl false) L := by
  obtain ⟨n, rfl, _⟩ := pre h
  rw [call_of (fn := f_is_below) rfl rfl]
  simp (disch := first | omega | assumption | rfl) only [exSs, exS, evE, evEs, startE, bndR, List.map_cons, List.map_nil, List.length_cons, List.length_nil, List.cons_append, List.nil_append, List.getElem?_cons_zero, List.getElem?_cons_succ, R.bind_ok, R.bind_exc, R.st_ok, R.st_exc, call_eq, callL_eq, truth_bl, truth_int, Nat.reduceAdd, Nat.reduceSub, Int.cast_ofNat_Int, Int.reduceBEq, beq_self_eq_true, Bool.not_true, Bool.not_false, Int.reduceNeg, decide_true, decide_false, Bool.or_false, Bool.and_true, Bool.true_and, Bool.and_false, Bool.false_and, eT_ev, itD_seq, itemsD_tup, itemsD_lst, bi_all, bi_any, bi_len, lenD_tup, lenD_lst, lcEnd_f, List.length_map, List.all_cons, List.all_nil, id_eq, endR_rt, endR_nx, endR_exc, opt_some, Option.map_some, Tg.put, putMany, List.set_cons_zero, List.set_cons_succ, RS.bind_nx, RS.bind_rt, RS.bind_exc, List.replicate, R.nox_ok, wipeE, f_is_below, binD, between_non]
theorem below_str {n : Nat} (h : 3 ≤ n) (s : Str) (b : Int) (L : LH) : callN T n i_is_below [.str s, .int b] L = .ok (.bl false) L := by
  obtain ⟨n, rfl, _⟩ := pre h
  rw [call_of (fn := f_is_below) rfl rfl]
  simp (disch := first | omega | assumption | rfl) only [exSs, exS, evE, evEs, startE, bndR, List.map_cons, List.map_nil, List.length_cons, List.length_nil, List.cons_append, List.nil_append, List.getElem?_cons_zero, List.getElem?_cons_succ, R.bind_ok, R.bind_exc, R.st_ok, R.st_exc, call_eq, callL_eq, truth_bl, truth_int, Nat.reduceAdd, Nat.reduceSub, Int.cast_ofNat_Int, Int.reduceBEq, beq_self_eq_true, Bool.not_true, Bool.not_false, Int.reduceNeg, decide_true, decide_false, Bool.or_false, Bool.and_true, Bool.true_and, Bool.and_false, Bool.false_and, eT_ev, itD_seq, itemsD_tup, itemsD_lst, bi_all, bi_any, bi_len, lenD_tup, lenD_lst, lcEnd_f, List.length_map, List.all_cons, List.all_nil, id_eq, endR_rt, endR_nx, endR_exc, opt_some, Option.map_some, Tg.put, putMany, List.set_cons_zero, List.set_cons_succ, RS.bind_nx, RS.bind_rt, RS.bind_exc, List.replicate, R.nox_ok, wipeE, f_is_below, binD, between_str]
/-! ### books -/
abbrev ti (xs : List Int) : D := .tup (xs.map .int)
abbrev bookD (steps : List Int) (links : List (List Int)) : D := .tup [ti steps, .tup (links.map ti)]
structure LinkOk (l : List Int) (i N : Nat) : Prop where
  mem : (i : Int) ∈ l
  rng : ∀ x ∈ l, 0 ≤ x ∧ x < N
  asc : ∀ k (a b : Int), l[k]? = some a → l[k + 1]? = some b → a < b
  len : l.length ≤ 6
theorem atI_nat {α : Type} (xs : List α) (k : Nat) (h : k < xs.length) : L2.atI xs (k : Int) = some xs[k] := by
  unfold L2.atI L2.ixN
  rw [if_pos (by omega), if_pos (by omega)]
  simp
theorem atI_int {xs : List Int} {k : Nat} (h : k < xs.length) : L2.atI (xs.map D.int) (k : Int) = some (.int xs[k]) := by
  rw [atI_nat _ k (by simpa using h)]; simp
theorem eqv_int (a b : Int) : eqv (.int a) (.int b) = (a == b) := rfl
theorem inD_int (x : Int) (l : List Int) : inD (.int x) (l.map D.int) = some (decide (x ∈ l)) := by
  have h1 : (l.map D.int).all flatD = true := by simp [flatD]
  have h2 : ((l.map D.int).any fun y => eqv y (.int x)) = decide (x ∈ l) := by
    induction l with
    | nil => rfl
    | cons a l ih =>
      simp only [List.map_cons, List.any_cons, eqv_int]
      rw [ih (by simp [flatD])]
      by_cases h : x = a
      · subst h; simp
      · have : ¬ a = x := fun e => h e.symm
        simp [h, this]
  unfold inD
  rw [h1, h2]; rfl
theorem okR_small {i : Int} (h : 0 ≤ i ∧ i ≤ 1000) : okR i = true := by
  unfold okR
  simp; omega
theorem itD_rng {i : Int} (h : -1 ≤ i ∧ i ≤ 1000) : itD .rng [.int i] = some (rngL 0 i) := by
  have h1 : okR i = true := by unfold okR; simp; omega
  have h2 : decide (i ≤ (size16 : Int)) = true := decide_eq_true (by unfold size16; omega)
  simp [itD, h1, h2]
theorem rngL_len (i : Int) : (rngL 0 i).length = i.toNat := by simp [rngL]
theorem links_ok {n : Nat} (h : 4 ≤ n) {l : List Int} {i N : Nat} (o : LinkOk l i N) (L : LH) : callN T n i_is_links [ti l, .int i, .int N] L = .ok (.bl true) L := by
  obtain ⟨n, rfl, _⟩ := pre h
  rw [call_of (fn := f_is_links) rfl rfl]
  have g1 : lcGo (Tg.put (.nm 3)) (evE (cfN T n) eT) (evE (cfN T n) e_is_links_1) [some (ti l), some (.int i), some (.int N), none, none] (l.map .int) L = .ok ((l.map D.int).map fun _ => .bl true) L := lcGo_all fun x hx => by
    obtain ⟨z, hz, rfl⟩ := List.mem_map.mp hx
    refine ⟨_, rfl, rfl, ?_⟩
    simp (disch := first | omega | assumption | rfl) only [exSs, exS, evE, evEs, startE, bndR, List.map_cons, List.map_nil, List.length_cons, List.length_nil, List.cons_append, List.nil_append, List.getElem?_cons_zero, List.getElem?_cons_succ, R.bind_ok, R.bind_exc, R.st_ok, R.st_exc, call_eq, callL_eq, truth_bl, truth_int, Nat.reduceAdd, Nat.reduceSub, Int.cast_ofNat_Int, Int.reduceBEq, beq_self_eq_true, Bool.not_true, Bool.not_false, Int.reduceNeg, decide_true, decide_false, Bool.or_false, Bool.and_true, Bool.true_and, Bool.and_false, Bool.false_and, eT_ev, itD_seq, itemsD_tup, itemsD_lst, bi_all, bi_any, bi_len, lenD_tup, lenD_lst, lcEnd_f, List.length_map, List.all_cons, List.all_nil, id_eq, endR_rt, endR_nx, endR_exc, opt_some, Option.map_some, Tg.put, putMany, List.set_cons_zero, List.set_cons_succ, RS.bind_nx, RS.bind_rt, RS.bind_exc, List.replicate, R.nox_ok, wipeE, e_is_links_1, below_int]
    have := o.rng z hz
    have a1 : decide (0 ≤ z) = true := decide_eq_true this.1
    have a2 : decide (z ≤ (N : Int) - 1) = true := decide_eq_true (by omega)
    rw [a1, a2]; rfl
  have g2 : lcGo (Tg.put (.nm 4)) (evE (cfN T n) eT) (evE (cfN T n) e_is_links_2) [some (ti l), some (.int i), some (.int N), none, none] (rngL 0 ((l.length : Int) - 1)) L = .ok ((rngL 0 ((l.length : Int) - 1)).map fun _ => .bl true) L := lcGo_all fun x hx => by
    simp only [rngL, List.mem_map, List.mem_range] at hx
    obtain ⟨k, hk, rfl⟩ := hx
    refine ⟨_, rfl, rfl, ?_⟩
    have e1 : (0 : Int) + (k : Int) + 1 = ((k + 1 : Nat) : Int) := by omega
    have e2 : (0 : Int) + (k : Int) = ((k : Nat) : Int) := by omega
    simp (disch := first | omega | assumption | rfl) only [exSs, exS, evE, evEs, startE, bndR, List.map_cons, List.map_nil, List.length_cons, List.length_nil, List.cons_append, List.nil_append, List.getElem?_cons_zero, List.getElem?_cons_succ, R.bind_ok, R.bind_exc, R.st_ok, R.st_exc, call_eq, callL_eq, truth_bl, truth_int, Nat.reduceAdd, Nat.reduceSub, Int.cast_ofNat_Int, Int.reduceBEq, beq_self_eq_true, Bool.not_true, Bool.not_false, Int.reduceNeg, decide_true, decide_false, Bool.or_false, Bool.and_true, Bool.true_and, Bool.and_false, Bool.false_and, eT_ev, itD_seq, itemsD_tup, itemsD_lst, bi_all, bi_any, bi_len, lenD_tup, lenD_lst, lcEnd_f, List.length_map, List.all_cons, List.all_nil, id_eq, endR_rt, endR_nx, endR_exc, opt_some, Option.map_some, Tg.put, putMany, List.set_cons_zero, List.set_cons_succ, RS.bind_nx, RS.bind_rt, RS.bind_exc, List.replicate, R.nox_ok, wipeE, e_is_links_2, binD, idxD]
    rw [e1, e2, atI_int (by omega), atI_int (by omega)]
    simp only [opt_some, R.bind_ok, cmpD, Option.map_some]
    have := o.asc k l[k] l[k + 1] (by simp) (by simp)
    rw [decide_eq_true this]
  have hl := o.len
  have hz : l.length ≤ size16 := by unfold size16; omega
  have hz2 : (rngL 0 ((l.length : Int) - 1)).length ≤ size16 := by rw [rngL_len]; unfold size16; omega
  have b1 : blsOf ((l.map D.int).map fun _ => D.bl true) = some ((l.map D.int).map fun _ => true) := bls_map _ _
  have b2 : blsOf ((rngL 0 ((l.length : Int) - 1)).map fun _ => D.bl true) = some ((rngL 0 ((l.length : Int) - 1)).map fun _ => true) := bls_map _ _
  have c1 : ((l.map D.int).map fun _ => true).all id = true := by simp
  have c2 : ((rngL 0 ((l.length : Int) - 1)).map fun _ => true).all id = true := by simp
  have r1 : itD .rng [.int ((l.length : Int) - 1)] = some (rngL 0 ((l.length : Int) - 1)) := itD_rng (by omega)
  simp (disch := first | omega | assumption | rfl) only [exSs, exS, evE, evEs, startE, bndR, List.map_cons, List.map_nil, List.length_cons, List.length_nil, List.cons_append, List.nil_append, List.getElem?_cons_zero, List.getElem?_cons_succ, R.bind_ok, R.bind_exc, R.st_ok, R.st_exc, call_eq, callL_eq, truth_bl, truth_int, Nat.reduceAdd, Nat.reduceSub, Int.cast_ofNat_Int, Int.reduceBEq, beq_self_eq_true, Bool.not_true, Bool.not_false, Int.reduceNeg, decide_true, decide_false, Bool.or_false, Bool.and_true, Bool.true_and, Bool.and_false, Bool.false_and, eT_ev, itD_seq, itemsD_tup, itemsD_lst, bi_all, bi_any, bi_len, lenD_tup, lenD_lst, lcEnd_f, List.length_map, List.all_cons, List.all_nil, id_eq, endR_rt, endR_nx, endR_exc, opt_some, Option.map_some, Tg.put, putMany, List.set_cons_zero, List.set_cons_succ, RS.bind_nx, RS.bind_rt, RS.bind_exc, List.replicate, R.nox_ok, wipeE, f_is_links, isinD, isTy, List.any_cons, List.any_nil, Bool.or_false, Bool.not_true, if_pos hz, if_pos hz2, g1, g2, r1, b1, b2, c1, c2, cmpD, inD_int, binD, decide_eq_true o.mem]
end Lw
end

section
set_option Elab.async false
set_option linter.all false
set_option maxRecDepth 100000
set_option maxHeartbeats 1000000
namespace Lw
open PySem (Str)
open Ev
structure BookOk (steps : List Int) (links : List (List Int)) : Prop where
  len : steps.length = links.length
  pos : 1 ≤ steps.length
  le : steps.length ≤ 6
  st : ∀ s ∈ steps, 1 ≤ s ∧ s ≤ 60
  lk : ∀ (i : Nat) (l : List Int), links[i]? = some l → LinkOk l i steps.length
theorem mem_pairsE : ∀ {ds : List D} {n : Nat} {x : D}, x ∈ pairsE n ds → ∃ k d, ds[k]? = some d ∧ x = .tup [.int ((n + k : Nat) : Int), d]
  | [], _, _, h => by cases h
  | d :: ds, n, x, h => by
    rcases List.mem_cons.mp h with rfl | h
    · exact ⟨0, d, rfl, rfl⟩
    · obtain ⟨k, d', h1, h2⟩ := mem_pairsE h
      exact ⟨k + 1, d', by simpa using h1, by rw [h2, show n + 1 + k = n + (k + 1) by omega]⟩
theorem idx_tup (xs : List D) (i : Int) (L : LH) : idxD L (.tup xs) (.int i) = L2.atI xs i := rfl
theorem idx_lst (xs : List D) (i : Int) (L : LH) : idxD L (.lst xs) (.int i) = L2.atI xs i := rfl
theorem at0 {α : Type} (x : α) (r : List α) : L2.atI (x :: r) 0 = some x := by
  have := atI_nat (x :: r) 0 (by simp)
  simpa using this
theorem at1 {α : Type} (x y : α) (r : List α) : L2.atI (x :: y :: r) 1 = some y := by
  have := atI_nat (x :: y :: r) 1 (by simp)
  simpa using this
theorem eqD_int (a b : Int) : eqD (.int a) (.int b) = some (a == b) := rfl
theorem chain_le (a b : Int) : cmpD .le (.int a) (.int b) = some (decide (a ≤ b)) := rfl
theorem cmp_eq (x y : D) : cmpD .eq x y = eqD x y := rfl
theorem cmp_ne (x y : D) : cmpD .ne x y = (eqD x y).map (!·) := rfl
theorem cmp_lt (a b : Int) : cmpD .lt (.int a) (.int b) = some (decide (a < b)) := rfl
theorem cmp_gt (a b : Int) : cmpD .gt (.int a) (.int b) = some (decide (b < a)) := rfl
theorem cmp_isnot_non : cmpD .isnot .non .non = some false := rfl
theorem isin_tup (xs : List D) : isinD (.tup xs) [.tuple] = some true := rfl
theorem binNeg (i : Int) (L : LH) (C : Cf) (env : Env) : evE C (.neg (.con (.int i))) env L = .ok (.int (-i)) L := rfl
theorem cmp_isnot_int (i : Int) : cmpD .isnot (.int i) .non = some true := rfl
section
variable {steps : List Int} {links : List (List Int)}
theorem size_ok {n : Nat} (h : 1 ≤ n) (o : BookOk steps links) (L : LH) : callN T n i_has_size [bookD steps links] L = .ok (.bl true) L := by
  obtain ⟨n, rfl, _⟩ := pre h
  rw [call_of (fn := f_has_size) rfl rfl]
  have hz : 2 ≤ size16 := by unfold size16; omega
  have l1 := o.pos
  have l2 := o.le
  have l3 := o.len
  have g1 : lcGo (Tg.put (.nm 1)) (evE (cfN T n) eT) (evE (cfN T n) e_has_size_1) [some (bookD steps links), none] [ti steps, .tup (links.map ti)] L = .ok [.bl true, .bl true] L := lcGo_all (f := fun _ => .bl true) fun x hx => by
    simp only [List.mem_cons, List.not_mem_nil, or_false] at hx
    rcases hx with rfl | rfl <;> exact ⟨_, rfl, rfl, rfl⟩
  have e2 : ((steps.length : Int) == (links.length : Int)) = true := by simp [l3]
  have e3 : decide ((1 : Int) ≤ (steps.length : Int)) = true := decide_eq_true (by omega)
  have e4 : decide ((steps.length : Int) ≤ 6) = true := decide_eq_true (by omega)
  simp (disch := first | omega | assumption | rfl) only [exSs, exS, evE, evEs, startE, bndR, List.map_cons, List.map_nil, List.length_cons, List.length_nil, List.cons_append, List.nil_append, List.getElem?_cons_zero, List.getElem?_cons_succ, R.bind_ok, R.bind_exc, R.st_ok, R.st_exc, call_eq, callL_eq, truth_bl, truth_int, Nat.reduceAdd, Nat.reduceSub, Int.cast_ofNat_Int, Int.reduceBEq, beq_self_eq_true, Bool.not_true, Bool.not_false, Int.reduceNeg, decide_true, decide_false, Bool.or_false, Bool.and_true, Bool.true_and, Bool.and_false, Bool.false_and, eT_ev, itD_seq, itemsD_tup, itemsD_lst, bi_all, bi_any, bi_len, lenD_tup, lenD_lst, lcEnd_f, List.length_map, List.all_cons, List.all_nil, id_eq, endR_rt, endR_nx, endR_exc, opt_some, Option.map_some, Tg.put, putMany, List.set_cons_zero, List.set_cons_succ, RS.bind_nx, RS.bind_rt, RS.bind_exc, List.replicate, R.nox_ok, wipeE, f_has_size, isin_tup, cmp_ne, cmp_eq, eqD_int, idx_tup, at0, at1, g1, if_pos hz, show blsOf [D.bl true, D.bl true] = some [true, true] from rfl, chain_le, e2, e3, e4]
theorem wrong_ok {n : Nat} (h : 5 ≤ n) (o : BookOk steps links) (L : LH) : callN T n i_wrong_entry [bookD steps links] L = .ok .non L := by
  obtain ⟨n, rfl, _⟩ := pre h
  rw [call_of (fn := f_wrong_entry) rfl rfl]
  obtain ⟨env1, ⟨a, b, c, rfl⟩, w1⟩ := forGo_keep (put := Tg.put (.tp [3, 4])) (body := exSs (cfN T n) s_wrong_entry_1) (L := L) (P := fun env => ∃ a b c, env = [some (bookD steps links), some (ti steps), some (.tup (links.map ti)), a, b, c]) (items := pairsE 0 (steps.map .int)) (env := [some (bookD steps links), some (ti steps), some (.tup (links.map ti)), none, none, none]) ⟨_, _, _, rfl⟩ (by
    rintro x hx env ⟨a, b, c, rfl⟩
    obtain ⟨k, d, hk, rfl⟩ := mem_pairsE hx
    rw [List.getElem?_map] at hk
    cases hs : steps[k]? with
    | none => rw [hs] at hk; cases hk
    | some z =>
      rw [hs] at hk
      cases hk
      have := o.st z (List.mem_of_getElem? hs)
      have a1 : decide ((1 : Int) ≤ z) = true := decide_eq_true this.1
      have a2 : decide (z ≤ (60 : Int)) = true := decide_eq_true this.2
      refine ⟨_, _, rfl, Eq.trans (by simp (disch := first | omega | assumption | rfl) only [exSs, exS, evE, evEs, startE, bndR, List.map_cons, List.map_nil, List.length_cons, List.length_nil, List.cons_append, List.nil_append, List.getElem?_cons_zero, List.getElem?_cons_succ, R.bind_ok, R.bind_exc, R.st_ok, R.st_exc, call_eq, callL_eq, truth_bl, truth_int, Nat.reduceAdd, Nat.reduceSub, Int.cast_ofNat_Int, Int.reduceBEq, beq_self_eq_true, Bool.not_true, Bool.not_false, Int.reduceNeg, decide_true, decide_false, Bool.or_false, Bool.and_true, Bool.true_and, Bool.and_false, Bool.false_and, eT_ev, itD_seq, itemsD_tup, itemsD_lst, bi_all, bi_any, bi_len, lenD_tup, lenD_lst, lcEnd_f, List.length_map, List.all_cons, List.all_nil, id_eq, endR_rt, endR_nx, endR_exc, opt_some, Option.map_some, Tg.put, putMany, List.set_cons_zero, List.set_cons_succ, RS.bind_nx, RS.bind_rt, RS.bind_exc, List.replicate, R.nox_ok, wipeE, s_wrong_entry_1, between_int, a1, a2]; exact rfl) rfl, ⟨_, _, _, rfl⟩⟩)
  obtain ⟨env2, ⟨a2, b2, c2, rfl⟩, w2⟩ := forGo_keep (put := Tg.put (.tp [3, 5])) (body := exSs (cfN T n) s_wrong_entry_2) (L := L) (P := fun env => ∃ a b c, env = [some (bookD steps links), some (ti steps), some (.tup (links.map ti)), a, b, c]) (items := pairsE 0 (links.map ti)) (env := [some (bookD steps links), some (ti steps), some (.tup (links.map ti)), a, b, c]) ⟨_, _, _, rfl⟩ (by
    rintro x hx env ⟨a, b, c, rfl⟩
    obtain ⟨k, d, hk, rfl⟩ := mem_pairsE hx
    rw [List.getElem?_map] at hk
    cases hs : links[k]? with
    | none => rw [hs] at hk; cases hk
    | some z =>
      rw [hs] at hk
      cases hk
      have lk := o.lk k z hs
      have e0 : 0 + k = k := Nat.zero_add k
      have hl := links_ok (n := n) (by omega) lk L
      refine ⟨_, _, rfl, Eq.trans (by simp (disch := first | omega | assumption | rfl) only [exSs, exS, evE, evEs, startE, bndR, List.map_cons, List.map_nil, List.length_cons, List.length_nil, List.cons_append, List.nil_append, List.getElem?_cons_zero, List.getElem?_cons_succ, R.bind_ok, R.bind_exc, R.st_ok, R.st_exc, call_eq, callL_eq, truth_bl, truth_int, Nat.reduceAdd, Nat.reduceSub, Int.cast_ofNat_Int, Int.reduceBEq, beq_self_eq_true, Bool.not_true, Bool.not_false, Int.reduceNeg, decide_true, decide_false, Bool.or_false, Bool.and_true, Bool.true_and, Bool.and_false, Bool.false_and, eT_ev, itD_seq, itemsD_tup, itemsD_lst, bi_all, bi_any, bi_len, lenD_tup, lenD_lst, lcEnd_f, List.length_map, List.all_cons, List.all_nil, id_eq, endR_rt, endR_nx, endR_exc, opt_some, Option.map_some, Tg.put, putMany, List.set_cons_zero, List.set_cons_succ, RS.bind_nx, RS.bind_rt, RS.bind_exc, List.replicate, R.nox_ok, wipeE, s_wrong_entry_2, e0, hl]; exact rfl) rfl, ⟨_, _, _, rfl⟩⟩)
  have i1 : itD .enum [ti steps] = some (pairsE 0 (steps.map .int)) := rfl
  have i2 : itD .enum [.tup (links.map ti)] = some (pairsE 0 (links.map ti)) := rfl
  simp (disch := first | omega | assumption | rfl) only [exSs, exS, evE, evEs, startE, bndR, List.map_cons, List.map_nil, List.length_cons, List.length_nil, List.cons_append, List.nil_append, List.getElem?_cons_zero, List.getElem?_cons_succ, R.bind_ok, R.bind_exc, R.st_ok, R.st_exc, call_eq, callL_eq, truth_bl, truth_int, Nat.reduceAdd, Nat.reduceSub, Int.cast_ofNat_Int, Int.reduceBEq, beq_self_eq_true, Bool.not_true, Bool.not_false, Int.reduceNeg, decide_true, decide_false, Bool.or_false, Bool.and_true, Bool.true_and, Bool.and_false, Bool.false_and, eT_ev, itD_seq, itemsD_tup, itemsD_lst, bi_all, bi_any, bi_len, lenD_tup, lenD_lst, lcEnd_f, List.length_map, List.all_cons, List.all_nil, id_eq, endR_rt, endR_nx, endR_exc, opt_some, Option.map_some, Tg.put, putMany, List.set_cons_zero, List.set_cons_succ, RS.bind_nx, RS.bind_rt, RS.bind_exc, List.replicate, R.nox_ok, wipeE, f_wrong_entry, i1, i2, w1, w2]
theorem made_ok {n : Nat} (h : 6 ≤ n) (o : BookOk steps links) (L : LH) : callN T n i_made_book [bookD steps links] L = .ok (bookD steps links) L := by
  obtain ⟨n, rfl, _⟩ := pre h
  rw [call_of (fn := f_made_book) rfl rfl]
  have h1 := size_ok (n := n) (by omega) o L
  have h2 := wrong_ok (n := n) (by omega) o L
  simp (disch := first | omega | assumption | rfl) only [exSs, exS, evE, evEs, startE, bndR, List.map_cons, List.map_nil, List.length_cons, List.length_nil, List.cons_append, List.nil_append, List.getElem?_cons_zero, List.getElem?_cons_succ, R.bind_ok, R.bind_exc, R.st_ok, R.st_exc, call_eq, callL_eq, truth_bl, truth_int, Nat.reduceAdd, Nat.reduceSub, Int.cast_ofNat_Int, Int.reduceBEq, beq_self_eq_true, Bool.not_true, Bool.not_false, Int.reduceNeg, decide_true, decide_false, Bool.or_false, Bool.and_true, Bool.true_and, Bool.and_false, Bool.false_and, eT_ev, itD_seq, itemsD_tup, itemsD_lst, bi_all, bi_any, bi_len, lenD_tup, lenD_lst, lcEnd_f, List.length_map, List.all_cons, List.all_nil, id_eq, endR_rt, endR_nx, endR_exc, opt_some, Option.map_some, Tg.put, putMany, List.set_cons_zero, List.set_cons_succ, RS.bind_nx, RS.bind_rt, RS.bind_exc, List.replicate, R.nox_ok, wipeE, f_made_book, h1, h2, cmp_isnot_non]
theorem many_ok {n : Nat} (h : 1 ≤ n) (L : LH) : callN T n i_many_parts [bookD steps links] L = .ok (.int steps.length) L := by
  obtain ⟨n, rfl, _⟩ := pre h
  rw [call_of (fn := f_many_parts) rfl rfl]
  simp (disch := first | omega | assumption | rfl) only [exSs, exS, evE, evEs, startE, bndR, List.map_cons, List.map_nil, List.length_cons, List.length_nil, List.cons_append, List.nil_append, List.getElem?_cons_zero, List.getElem?_cons_succ, R.bind_ok, R.bind_exc, R.st_ok, R.st_exc, call_eq, callL_eq, truth_bl, truth_int, Nat.reduceAdd, Nat.reduceSub, Int.cast_ofNat_Int, Int.reduceBEq, beq_self_eq_true, Bool.not_true, Bool.not_false, Int.reduceNeg, decide_true, decide_false, Bool.or_false, Bool.and_true, Bool.true_and, Bool.and_false, Bool.false_and, eT_ev, itD_seq, itemsD_tup, itemsD_lst, bi_all, bi_any, bi_len, lenD_tup, lenD_lst, lcEnd_f, List.length_map, List.all_cons, List.all_nil, id_eq, endR_rt, endR_nx, endR_exc, opt_some, Option.map_some, Tg.put, putMany, List.set_cons_zero, List.set_cons_succ, RS.bind_nx, RS.bind_rt, RS.bind_exc, List.replicate, R.nox_ok, wipeE, f_many_parts, idx_tup, at0]
theorem part_int {n : Nat} (h : 4 ≤ n) (i : Int) (L : LH) : callN T n i_is_part [bookD steps links, .int i] L = .ok (.bl (decide (0 ≤ i) && decide (i ≤ (steps.length : Int) - 1))) L := by
  obtain ⟨n, rfl, _⟩ := pre h
  rw [call_of (fn := f_is_part) rfl rfl]
  have h1 := many_ok (steps := steps) (links := links) (n := n) (by omega) L
  simp (disch := first | omega | assumption | rfl) only [exSs, exS, evE, evEs, startE, bndR, List.map_cons, List.map_nil, List.length_cons, List.length_nil, List.cons_append, List.nil_append, List.getElem?_cons_zero, List.getElem?_cons_succ, R.bind_ok, R.bind_exc, R.st_ok, R.st_exc, call_eq, callL_eq, truth_bl, truth_int, Nat.reduceAdd, Nat.reduceSub, Int.cast_ofNat_Int, Int.reduceBEq, beq_self_eq_true, Bool.not_true, Bool.not_false, Int.reduceNeg, decide_true, decide_false, Bool.or_false, Bool.and_true, Bool.true_and, Bool.and_false, Bool.false_and, eT_ev, itD_seq, itemsD_tup, itemsD_lst, bi_all, bi_any, bi_len, lenD_tup, lenD_lst, lcEnd_f, List.length_map, List.all_cons, List.all_nil, id_eq, endR_rt, endR_nx, endR_exc, opt_some, Option.map_some, Tg.put, putMany, List.set_cons_zero, List.set_cons_succ, RS.bind_nx, RS.bind_rt, RS.bind_exc, List.replicate, R.nox_ok, wipeE, f_is_part, h1, below_int]
theorem part_non {n : Nat} (h : 4 ≤ n) (L : LH) : callN T n i_is_part [bookD steps links, .non] L = .ok (.bl false) L := by
  obtain ⟨n, rfl, _⟩ := pre h
  rw [call_of (fn := f_is_part) rfl rfl]
  have h1 := many_ok (steps := steps) (links := links) (n := n) (by omega) L
  simp (disch := first | omega | assumption | rfl) only [exSs, exS, evE, evEs, startE, bndR, List.map_cons, List.map_nil, List.length_cons, List.length_nil, List.cons_append, List.nil_append, List.getElem?_cons_zero, List.getElem?_cons_succ, R.bind_ok, R.bind_exc, R.st_ok, R.st_exc, call_eq, callL_eq, truth_bl, truth_int, Nat.reduceAdd, Nat.reduceSub, Int.cast_ofNat_Int, Int.reduceBEq, beq_self_eq_true, Bool.not_true, Bool.not_false, Int.reduceNeg, decide_true, decide_false, Bool.or_false, Bool.and_true, Bool.true_and, Bool.and_false, Bool.false_and, eT_ev, itD_seq, itemsD_tup, itemsD_lst, bi_all, bi_any, bi_len, lenD_tup, lenD_lst, lcEnd_f, List.length_map, List.all_cons, List.all_nil, id_eq, endR_rt, endR_nx, endR_exc, opt_some, Option.map_some, Tg.put, putMany, List.set_cons_zero, List.set_cons_succ, RS.bind_nx, RS.bind_rt, RS.bind_exc, List.replicate, R.nox_ok, wipeE, f_is_part, h1, below_non]
theorem part_str {n : Nat} (h : 4 ≤ n) (s : Str) (L : LH) : callN T n i_is_part [bookD steps links, .str s] L = .ok (.bl false) L := by
  obtain ⟨n, rfl, _⟩ := pre h
  rw [call_of (fn := f_is_part) rfl rfl]
  have h1 := many_ok (steps := steps) (links := links) (n := n) (by omega) L
  simp (disch := first | omega | assumption | rfl) only [exSs, exS, evE, evEs, startE, bndR, List.map_cons, List.map_nil, List.length_cons, List.length_nil, List.cons_append, List.nil_append, List.getElem?_cons_zero, List.getElem?_cons_succ, R.bind_ok, R.bind_exc, R.st_ok, R.st_exc, call_eq, callL_eq, truth_bl, truth_int, Nat.reduceAdd, Nat.reduceSub, Int.cast_ofNat_Int, Int.reduceBEq, beq_self_eq_true, Bool.not_true, Bool.not_false, Int.reduceNeg, decide_true, decide_false, Bool.or_false, Bool.and_true, Bool.true_and, Bool.and_false, Bool.false_and, eT_ev, itD_seq, itemsD_tup, itemsD_lst, bi_all, bi_any, bi_len, lenD_tup, lenD_lst, lcEnd_f, List.length_map, List.all_cons, List.all_nil, id_eq, endR_rt, endR_nx, endR_exc, opt_some, Option.map_some, Tg.put, putMany, List.set_cons_zero, List.set_cons_succ, RS.bind_nx, RS.bind_rt, RS.bind_exc, List.replicate, R.nox_ok, wipeE, f_is_part, h1, below_str]
end
end Lw
end

section
set_option Elab.async false
set_option linter.all false
set_option maxRecDepth 100000
set_option maxHeartbeats 1000000
namespace Lw
open PySem (Str)
open Ev
theorem absI (w : Int) (L : LH) : biD .abs [.int w] L = some (.int (w.natAbs : Nat)) := by
  simp only [biD]
  congr 2
  by_cases h : w < 0
  · rw [if_pos h]; omega
  · rw [if_neg h]; omega
theorem atI_z {xs : List Int} {j : Int} (h0 : 0 ≤ j) (h : j < xs.length) : L2.atI (xs.map D.int) j = some (.int (xs.getD j.toNat 0)) := by
  obtain ⟨k, rfl⟩ : ∃ k : Nat, j = k := ⟨j.toNat, by omega⟩
  have hk : k < xs.length := by omega
  rw [Int.toNat_natCast, atI_int hk, List.getD_eq_getElem?_getD, List.getElem?_eq_getElem hk]
  rfl
theorem atI_t {xs : List (List Int)} {j : Nat} (h : j < xs.length) : L2.atI (xs.map ti) (j : Int) = some (ti (xs.getD j [])) := by
  rw [atI_nat _ j (by simpa using h)]
  simp [List.getD, List.getElem?_eq_getElem h]
theorem small_ok {z : Int} (h : -100 ≤ z ∧ z ≤ 1000000) : small64 z = true := by unfold small64; simp; omega

/-! ### draws -/
theorem idx_loc {L : LH} {l : Nat} {xs : List D} (h : L[l]? = some (.lst xs)) (i : Int) : idxD L (.loc l) (.int i) = L2.atI xs i := by simp only [idxD, h]
theorem setIx_loc {L : LH} {l : Nat} {xs : List D} (h : L[l]? = some (.lst xs)) {i : Int} {j : Nat} (hj : L2.ixN xs.length i = some j) (v : D) : setIx L (.loc l) (.int i) v = some (L.set l (.lst (xs.set j v))) := by simp only [setIx, h, hj]
/-- the source at l -/
abbrev src (L : LH) (l : Nat) (a b : Int) : Prop := L[l]? = some (.lst [.int a, .int b])
abbrev put2 (L : LH) (l : Nat) (a b : Int) : LH := L.set l (.lst [.int a, .int b])
theorem put2_src {L : LH} {l : Nat} {a b c d : Int} (h : src L l a b) : src (put2 L l c d) l c d := by
  have := (List.getElem?_eq_some_iff.mp h).1
  exact List.getElem?_set_self this
theorem take_ok {n : Nat} (h : 1 ≤ n) {L : LH} {l : Nat} {a b : Int} (s : src L l a b) (t : Int) (ht : 0 < t ∧ t < 1073741824) :
    ∃ v a' b', 0 ≤ v ∧ v < t ∧ callN T n i__law_take [.loc l, .int t] L = .ok (.int v) (put2 L l a' b') := by
  obtain ⟨n, rfl, _⟩ := pre h
  rw [call_of (fn := f__law_take) rfl rfl]
  have i0 := idx_loc s 0
  have i1 := idx_loc s 1
  rw [at0] at i0
  rw [at1] at i1
  have dt : decide (0 < t) = true := decide_eq_true ht.1
  have dt2 : (decide (0 < t) && decide (t < 1073741824)) = true := by simp [ht.1, ht.2]
  have bint : ∀ (z : Int) (L : LH), biD .int [.int z] L = some (.int z) := fun _ _ => rfl
  by_cases ha : 0 < a
  · have d1 : decide (0 < a) = true := decide_eq_true ha
    have st := setIx_loc s (i := 0) (j := 0) rfl (.int (a / t))
    have m1 : binD .mod (.int a) (.int t) = some (.int (a % t)) := by simp only [binD, if_pos dt]
    have m2 : binD .fdiv (.int a) (.int t) = some (.int (a / t)) := by simp only [binD, if_pos dt2]
    refine ⟨a % t, a / t, b, Int.emod_nonneg _ (by omega), Int.emod_lt_of_pos _ ht.1, ?_⟩
    generalize a % t = v1 at *
    generalize a / t = v2 at *
    simp (disch := first | omega | assumption | rfl) only [exSs, exS, evE, evEs, startE, bndR, List.map_cons, List.map_nil, List.length_cons, List.length_nil, List.cons_append, List.nil_append, List.getElem?_cons_zero, List.getElem?_cons_succ, R.bind_ok, R.bind_exc, R.st_ok, R.st_exc, call_eq, callL_eq, truth_bl, truth_int, Nat.reduceAdd, Nat.reduceSub, Int.cast_ofNat_Int, Int.reduceBEq, beq_self_eq_true, Bool.not_true, Bool.not_false, Int.reduceNeg, decide_true, decide_false, Bool.or_false, Bool.and_true, Bool.true_and, Bool.and_false, Bool.false_and, eT_ev, itD_seq, itemsD_tup, itemsD_lst, bi_all, bi_any, bi_len, lenD_tup, lenD_lst, lcEnd_f, List.length_map, List.all_cons, List.all_nil, id_eq, endR_rt, endR_nx, endR_exc, opt_some, Option.map_some, Tg.put, putMany, List.set_cons_zero, List.set_cons_succ, RS.bind_nx, RS.bind_rt, RS.bind_exc, List.replicate, R.nox_ok, wipeE, f__law_take, i0, cmp_gt, d1, bint, m1, m2, st]
  · have d1 : decide (0 < a) = false := decide_eq_false ha
    have add : ∀ x y : Int, binD .add (.int x) (.int y) = some (.int (x + y)) := fun _ _ => rfl
    have mu1 : binD .mul (.int b) (.int 39373) = some (.int (b * 39373)) := by
      simp only [binD]
      rw [show small64 39373 = true from rfl, Bool.or_true, if_pos rfl]
    have md : ∀ x y : Int, 0 < y → binD .mod (.int x) (.int y) = some (.int (x % y)) := fun x y hy => by
      simp only [binD, if_pos (decide_eq_true hy)]
    have fd : ∀ x : Int, binD .fdiv (.int x) (.int 32) = some (.int (x / 32)) := fun x => rfl
    obtain ⟨c, hc, c0, c1⟩ : ∃ c : Int, (b * 39373 + 7) % 2147483647 = c ∧ 0 ≤ c ∧ c < 2147483647 := ⟨_, rfl, Int.emod_nonneg _ (by omega), Int.emod_lt_of_pos _ (by omega)⟩
    have mu2 : binD .mul (.int c) (.int c) = some (.int (c * c)) := by
      simp only [binD]
      rw [show small64 c = true by unfold small64; simp; omega, Bool.or_true, if_pos rfl]
    have st := setIx_loc s (i := 1) (j := 1) rfl (.int c)
    have s2 : src (put2 L l a c) l a c := put2_src s
    have i2 := idx_loc s2 1
    rw [at1] at i2
    have m0 := md (b * 39373 + 7) 2147483647 (by omega)
    rw [hc] at m0
    have m2 := md (c * c) 2147483629 (by omega)
    have m3 := md (c * c % 2147483629 / 32) t ht.1
    refine ⟨c * c % 2147483629 / 32 % t, a, c, Int.emod_nonneg _ (by omega), Int.emod_lt_of_pos _ ht.1, ?_⟩
    generalize c * c % 2147483629 / 32 % t = v at *
    have f2 := fd (c * c % 2147483629)
    generalize c * c % 2147483629 / 32 = v3 at *
    generalize c * c % 2147483629 = v4 at *
    generalize c * c = v5 at *
    have ad1 : binD .add (.int (b * 39373)) (.int 7) = some (.int (b * 39373 + 7)) := rfl
    generalize b * 39373 + 7 = v6 at *
    generalize b * 39373 = v7 at *
    simp (disch := first | omega | assumption | rfl) only [exSs, exS, evE, evEs, startE, bndR, List.map_cons, List.map_nil, List.length_cons, List.length_nil, List.cons_append, List.nil_append, List.getElem?_cons_zero, List.getElem?_cons_succ, R.bind_ok, R.bind_exc, R.st_ok, R.st_exc, call_eq, callL_eq, truth_bl, truth_int, Nat.reduceAdd, Nat.reduceSub, Int.cast_ofNat_Int, Int.reduceBEq, beq_self_eq_true, Bool.not_true, Bool.not_false, Int.reduceNeg, decide_true, decide_false, Bool.or_false, Bool.and_true, Bool.true_and, Bool.and_false, Bool.false_and, eT_ev, itD_seq, itemsD_tup, itemsD_lst, bi_all, bi_any, bi_len, lenD_tup, lenD_lst, lcEnd_f, List.length_map, List.all_cons, List.all_nil, id_eq, endR_rt, endR_nx, endR_exc, opt_some, Option.map_some, Tg.put, putMany, List.set_cons_zero, List.set_cons_succ, RS.bind_nx, RS.bind_rt, RS.bind_exc, List.replicate, R.nox_ok, wipeE, f__law_take, i0, i1, cmp_gt, d1, bint, mu1, ad1, m0, st, i2, mu2, m2, f2, m3]
theorem one_ok {n : Nat} (h : 2 ≤ n) {L : LH} {l : Nat} {a b : Int} (s : src L l a b) (xs : List D) (hx : 0 < xs.length ∧ xs.length < 1000) :
    ∃ x ∈ xs, ∃ a' b', callN T n i__law_one [.loc l, .lst xs] L = .ok x (put2 L l a' b') := by
  obtain ⟨n, rfl, _⟩ := pre h
  obtain ⟨v, a', b', v0, v1, tk⟩ := take_ok (n := n) (by omega) s (xs.length : Int) (by omega)
  have hv : v.toNat < xs.length := by omega
  have e : L2.atI xs v = some xs[v.toNat] := by
    have := atI_nat xs v.toNat hv
    rw [show ((v.toNat : Nat) : Int) = v by omega] at this
    exact this
  refine ⟨xs[v.toNat], List.getElem_mem hv, a', b', ?_⟩
  rw [call_of (fn := f__law_one) rfl rfl]
  generalize xs[v.toNat] = x at *
  simp (disch := first | omega | assumption | rfl) only [exSs, exS, evE, evEs, startE, bndR, List.map_cons, List.map_nil, List.length_cons, List.length_nil, List.cons_append, List.nil_append, List.getElem?_cons_zero, List.getElem?_cons_succ, R.bind_ok, R.bind_exc, R.st_ok, R.st_exc, call_eq, callL_eq, truth_bl, truth_int, Nat.reduceAdd, Nat.reduceSub, Int.cast_ofNat_Int, Int.reduceBEq, beq_self_eq_true, Bool.not_true, Bool.not_false, Int.reduceNeg, decide_true, decide_false, Bool.or_false, Bool.and_true, Bool.true_and, Bool.and_false, Bool.false_and, eT_ev, itD_seq, itemsD_tup, itemsD_lst, bi_all, bi_any, bi_len, lenD_tup, lenD_lst, lcEnd_f, List.length_map, List.all_cons, List.all_nil, id_eq, endR_rt, endR_nx, endR_exc, opt_some, Option.map_some, Tg.put, putMany, List.set_cons_zero, List.set_cons_succ, RS.bind_nx, RS.bind_rt, RS.bind_exc, List.replicate, R.nox_ok, wipeE, f__law_one, tk, idx_lst, e]
theorem pow18 : binD .pow (.int 10) (.int 18) = some (.int 1000000000000000000) := by
  simp only [binD]
  rw [if_pos (by decide)]
  rfl
theorem mul_small (x y : Int) (h : small64 x = true ∨ small64 y = true) : binD .mul (.int x) (.int y) = some (.int (x * y)) := by
  simp only [binD]
  rw [if_pos (by rcases h with h | h <;> simp [h])]
theorem mod_pos (x y : Int) (h : 0 < y) : binD .mod (.int x) (.int y) = some (.int (x % y)) := by
  simp only [binD, if_pos (decide_eq_true h)]
theorem add_int (x y : Int) : binD .add (.int x) (.int y) = some (.int (x + y)) := rfl
theorem sub_int (x y : Int) : binD .sub (.int x) (.int y) = some (.int (x - y)) := rfl
theorem max_int (x y : Int) (L : LH) : biD .max [.int x, .int y] L = some (.int (if y > x then y else x)) := rfl
theorem int_int (x : Int) (L : LH) : biD .int [.int x] L = some (.int x) := rfl
theorem int_bl (k : Bool) (L : LH) : biD .int [.bl k] L = some (.int (if k then 1 else 0)) := rfl
theorem lenD_scr (ns : List Int) (L : LH) : lenD L (.scr ns) = some ns.length := rfl
theorem cmp_ge (a b : Int) : cmpD .ge (.int a) (.int b) = some (decide (b ≤ a)) := rfl
theorem pool_tail {n : Nat} (L : LH) (ns : List Int) (k : Int) (hk : 0 ≤ k ∧ k ≤ 1000) (z : Int) : ∃ a b, exSs (cfN T n) (f__law_pool.body.drop 2) [some (.scr ns), some (.int k), some (.int z), none, none] L = .rt (.loc L.length) (L ++ [.lst [.int a, .int b]]) := by
  have m1 := mul_small 7919 k (.inl (by decide))
  have m2 := mul_small (7919 * k) k (.inr (small_ok (by omega)))
  have m3 := mul_small 31 k (.inl (by decide))
  obtain ⟨big, hb⟩ : ∃ big, (if -1 - z > z then -1 - z else z) = big := ⟨_, rfl⟩
  have mx := max_int z (-1 - z) L
  rw [hb] at mx
  have md1 := mod_pos big 2147483629 (by omega)
  generalize 7919 * k = k1 at *
  generalize k1 * k = k2 at *
  generalize 31 * k = k3 at *
  generalize big % 2147483629 = g1 at *
  have ad1 := add_int g1 k2
  generalize g1 + k2 = g2 at *
  have ad2 := add_int g2 k3
  generalize g2 + k3 = g3 at *
  have ad3 := add_int g3 17
  generalize g3 + 17 = g4 at *
  have m4 := mul_small g4 48271 (.inr (by decide))
  generalize g4 * 48271 = g5 at *
  have md2 := mod_pos g5 2147483647 (by omega)
  generalize g5 % 2147483647 = g6 at *
  have sb := sub_int (-1) z
  generalize -1 - z = z2 at *
  have hz : (2 : Nat) ≤ size16 := by unfold size16; omega
  have ge := cmp_ge big 1000000000000000000
  cases hp : decide ((1000000000000000000 : Int) ≤ big) with
  | false =>
    rw [hp] at ge
    have m0 := mul_small big 0 (.inr (by decide))
    refine ⟨big * 0, g6, ?_⟩
    generalize big * 0 = r at *
    simp (disch := first | omega | assumption | rfl) only [exSs, exS, evE, evEs, startE, bndR, List.map_cons, List.map_nil, List.length_cons, List.length_nil, List.cons_append, List.nil_append, List.getElem?_cons_zero, List.getElem?_cons_succ, R.bind_ok, R.bind_exc, R.st_ok, R.st_exc, call_eq, callL_eq, truth_bl, truth_int, Nat.reduceAdd, Nat.reduceSub, Int.cast_ofNat_Int, Int.reduceBEq, beq_self_eq_true, Bool.not_true, Bool.not_false, Int.reduceNeg, decide_true, decide_false, Bool.or_false, Bool.and_true, Bool.true_and, Bool.and_false, Bool.false_and, eT_ev, itD_seq, itemsD_tup, itemsD_lst, bi_all, bi_any, bi_len, lenD_tup, lenD_lst, lcEnd_f, List.length_map, List.all_cons, List.all_nil, id_eq, endR_rt, endR_nx, endR_exc, opt_some, Option.map_some, Tg.put, putMany, List.set_cons_zero, List.set_cons_succ, RS.bind_nx, RS.bind_rt, RS.bind_exc, List.replicate, R.nox_ok, wipeE, f__law_pool, List.drop_succ_cons, List.drop_zero, int_int, binNeg, sb, mx, md1, m1, m2, ad1, m3, ad2, ad3, m4, md2, pow18, ge, int_bl, if_neg Bool.false_ne_true, m0, if_pos hz]
  | true =>
    rw [hp] at ge
    have lt := cmp_lt k ns.length
    generalize decide (k < (ns.length : Int)) = q at *
    have m0 : ∃ r, binD .mul (.int big) (.int (if q = true then 1 else 0)) = some (.int r) := ⟨_, mul_small big _ (.inr (by cases q <;> decide))⟩
    obtain ⟨r, m0⟩ := m0
    refine ⟨r, g6, ?_⟩
    simp (disch := first | omega | assumption | rfl) only [exSs, exS, evE, evEs, startE, bndR, List.map_cons, List.map_nil, List.length_cons, List.length_nil, List.cons_append, List.nil_append, List.getElem?_cons_zero, List.getElem?_cons_succ, R.bind_ok, R.bind_exc, R.st_ok, R.st_exc, call_eq, callL_eq, truth_bl, truth_int, Nat.reduceAdd, Nat.reduceSub, Int.cast_ofNat_Int, Int.reduceBEq, beq_self_eq_true, Bool.not_true, Bool.not_false, Int.reduceNeg, decide_true, decide_false, Bool.or_false, Bool.and_true, Bool.true_and, Bool.and_false, Bool.false_and, eT_ev, itD_seq, itemsD_tup, itemsD_lst, bi_all, bi_any, bi_len, lenD_tup, lenD_lst, lcEnd_f, List.length_map, List.all_cons, List.all_nil, id_eq, endR_rt, endR_nx, endR_exc, opt_some, Option.map_some, Tg.put, putMany, List.set_cons_zero, List.set_cons_succ, RS.bind_nx, RS.bind_rt, RS.bind_exc, List.replicate, R.nox_ok, wipeE, f__law_pool, List.drop_succ_cons, List.drop_zero, int_int, binNeg, sb, mx, md1, m1, m2, ad1, m3, ad2, ad3, m4, md2, pow18, ge, bi_len, lenD_scr, lt, int_bl, m0, if_pos hz]
abbrev poolHd : List S := [.set (.nm 2) (.con (.int 0)), .ife (.cmp .lt (.var 1) (.bi .len [(.var 0)])) [.set (.nm 2) (.idx (.var 0) (.var 1))] [.ife (.cmp .ne (.var 0) (.lst [])) [.set (.nm 2) (.idx (.var 0) (.con (.int 0)))] []]]
theorem pool_gen {C : Cf} (L : LH) (ns : List Int) (k : Nat) (tl : List S) (tail : ∀ z : Int, ∃ a b, exSs C tl [some (.scr ns), some (.int k), some (.int z), none, none] L = .rt (.loc L.length) (L ++ [.lst [.int a, .int b]])) :
    ∃ a b, exSs C (poolHd ++ tl) [some (.scr ns), some (.int k), none, none, none] L = .rt (.loc L.length) (L ++ [.lst [.int a, .int b]]) := by
  have hz : (0 : Nat) ≤ size16 := Nat.zero_le _
  by_cases hl : k < ns.length
  · have lt := cmp_lt (k : Int) (ns.length : Int)
    have d : decide ((k : Int) < (ns.length : Int)) = true := decide_eq_true (by omega)
    rw [d] at lt
    have ix : ∀ L, idxD L (.scr ns) (.int (k : Int)) = some (.int ns[k]) := fun L => by
      simp only [idxD]
      rw [atI_nat ns k hl]; rfl
    obtain ⟨a, b, t⟩ := tail ns[k]
    refine ⟨a, b, ?_⟩
    simp (disch := first | omega | assumption | rfl) only [exSs, exS, evE, evEs, startE, bndR, List.map_cons, List.map_nil, List.length_cons, List.length_nil, List.cons_append, List.nil_append, List.getElem?_cons_zero, List.getElem?_cons_succ, R.bind_ok, R.bind_exc, R.st_ok, R.st_exc, call_eq, callL_eq, truth_bl, truth_int, Nat.reduceAdd, Nat.reduceSub, Int.cast_ofNat_Int, Int.reduceBEq, beq_self_eq_true, Bool.not_true, Bool.not_false, Int.reduceNeg, decide_true, decide_false, Bool.or_false, Bool.and_true, Bool.true_and, Bool.and_false, Bool.false_and, eT_ev, itD_seq, itemsD_tup, itemsD_lst, bi_all, bi_any, bi_len, lenD_tup, lenD_lst, lcEnd_f, List.length_map, List.all_cons, List.all_nil, id_eq, endR_rt, endR_nx, endR_exc, opt_some, Option.map_some, Tg.put, putMany, List.set_cons_zero, List.set_cons_succ, RS.bind_nx, RS.bind_rt, RS.bind_exc, List.replicate, R.nox_ok, wipeE, poolHd, bi_len, lenD_scr, lt, ix, t]
  · cases ns with
    | nil =>
      have lt : cmpD .lt (.int (k : Int)) (.int 0) = some false := by rw [cmp_lt, decide_eq_false (by omega)]
      obtain ⟨a, b, t⟩ := tail 0
      refine ⟨a, b, ?_⟩
      simp (disch := first | omega | assumption | rfl) only [exSs, exS, evE, evEs, startE, bndR, List.map_cons, List.map_nil, List.length_cons, List.length_nil, List.cons_append, List.nil_append, List.getElem?_cons_zero, List.getElem?_cons_succ, R.bind_ok, R.bind_exc, R.st_ok, R.st_exc, call_eq, callL_eq, truth_bl, truth_int, Nat.reduceAdd, Nat.reduceSub, Int.cast_ofNat_Int, Int.reduceBEq, beq_self_eq_true, Bool.not_true, Bool.not_false, Int.reduceNeg, decide_true, decide_false, Bool.or_false, Bool.and_true, Bool.true_and, Bool.and_false, Bool.false_and, eT_ev, itD_seq, itemsD_tup, itemsD_lst, bi_all, bi_any, bi_len, lenD_tup, lenD_lst, lcEnd_f, List.length_map, List.all_cons, List.all_nil, id_eq, endR_rt, endR_nx, endR_exc, opt_some, Option.map_some, Tg.put, putMany, List.set_cons_zero, List.set_cons_succ, RS.bind_nx, RS.bind_rt, RS.bind_exc, List.replicate, R.nox_ok, wipeE, poolHd, bi_len, lenD_scr, lt, cmp_ne, show eqD (.scr []) (.lst []) = some true from rfl, if_pos hz, t]
    | cons z r =>
      have lt : cmpD .lt (.int (k : Int)) (.int ((r.length + 1 : Nat) : Int)) = some false := by
        simp only [List.length_cons] at hl
        rw [cmp_lt, decide_eq_false (by omega)]
      obtain ⟨a, b, t⟩ := tail z
      refine ⟨a, b, ?_⟩
      have ix : ∀ L, idxD L (.scr (z :: r)) (.int 0) = some (.int z) := fun L => by
        simp only [idxD]
        rw [at0]; rfl
      simp (disch := first | omega | assumption | rfl) only [exSs, exS, evE, evEs, startE, bndR, List.map_cons, List.map_nil, List.length_cons, List.length_nil, List.cons_append, List.nil_append, List.getElem?_cons_zero, List.getElem?_cons_succ, R.bind_ok, R.bind_exc, R.st_ok, R.st_exc, call_eq, callL_eq, truth_bl, truth_int, Nat.reduceAdd, Nat.reduceSub, Int.cast_ofNat_Int, Int.reduceBEq, beq_self_eq_true, Bool.not_true, Bool.not_false, Int.reduceNeg, decide_true, decide_false, Bool.or_false, Bool.and_true, Bool.true_and, Bool.and_false, Bool.false_and, eT_ev, itD_seq, itemsD_tup, itemsD_lst, bi_all, bi_any, bi_len, lenD_tup, lenD_lst, lcEnd_f, List.length_map, List.all_cons, List.all_nil, id_eq, endR_rt, endR_nx, endR_exc, opt_some, Option.map_some, Tg.put, putMany, List.set_cons_zero, List.set_cons_succ, RS.bind_nx, RS.bind_rt, RS.bind_exc, List.replicate, R.nox_ok, wipeE, poolHd, bi_len, lenD_scr, lt, cmp_ne, show eqD (.scr (z :: r)) (.lst []) = some false from rfl, if_pos hz, ix, t]
theorem pool_ok {n : Nat} (h : 1 ≤ n) (L : LH) (ns : List Int) (k : Nat) (hk : k ≤ 1000) : ∃ a b, callN T n i__law_pool [.scr ns, .int k] L = .ok (.loc L.length) (L ++ [.lst [.int a, .int b]]) := by
  obtain ⟨n, rfl, _⟩ := pre h
  obtain ⟨a, b, t⟩ := pool_gen (C := cfN T n) L ns k _ (fun z => pool_tail (n := n) L ns (k : Int) (by omega) z)
  refine ⟨a, b, ?_⟩
  have call := call_of (n := n) (fn := f__law_pool) (ds := [.scr ns, .int k]) (L := L) (f := i__law_pool) rfl rfl
  have e : exSs (cfN T n) f__law_pool.body (startE f__law_pool.nl [.scr ns, .int k]) L = .rt (.loc L.length) (L ++ [.lst [.int a, .int b]]) := t
  rw [call, e]
  exact endR_rt rfl

/-! ### comprehensions that draw -/
/-- items taken or left -/
inductive Sel (P : D → D → Prop) (Q : D → Prop) : List D → List D → Prop
  | nil : Sel P Q [] []
  | keep {x y : D} {xs ys : List D} : P x y → Sel P Q xs ys → Sel P Q (x :: xs) (y :: ys)
  | left {x : D} {xs ys : List D} : Q x → Sel P Q xs ys → Sel P Q (x :: xs) ys
theorem lcGo_eff {put : D → Env → Option Env} {cond elt : Env → LH → R D} {env : Env} {A : LH → Prop} {P : D → D → Prop} {Q : D → Prop} : ∀ {items : List D} {L : LH}, A L → (∀ x ∈ items, ∀ L, A L → ∃ env1, put x env = some env1 ∧ ∃ b L1, cond env1 L = .ok (.bl b) L1 ∧ A L1 ∧ (b = true → ∃ y L2, elt env1 L1 = .ok y L2 ∧ A L2 ∧ P x y) ∧ (b = false → Q x)) →
    ∃ ys L', lcGo put cond elt env items L = .ok ys L' ∧ A L' ∧ Sel P Q items ys
  | [], L, h, _ => ⟨[], L, rfl, h, .nil⟩
  | x :: r, L, h, hs => by
    obtain ⟨env1, e1, b, L1, e2, a1, e3, e4⟩ := hs x List.mem_cons_self L h
    cases b with
    | true =>
      obtain ⟨y, L2, e5, a2, p⟩ := e3 rfl
      obtain ⟨ys, L', e6, a3, s⟩ := lcGo_eff (items := r) a2 fun y hy => hs y (List.mem_cons_of_mem _ hy)
      exact ⟨y :: ys, L', by simp only [lcGo, e1, e2, R.bind_ok, truth_bl, e5, e6], a3, .keep p s⟩
    | false =>
      obtain ⟨ys, L', e6, a3, s⟩ := lcGo_eff (items := r) a1 fun y hy => hs y (List.mem_cons_of_mem _ hy)
      exact ⟨ys, L', by simp only [lcGo, e1, e2, R.bind_ok, truth_bl, e6], a3, .left (e4 rfl) s⟩
/-- all taken -/
theorem Sel.all {P : D → D → Prop} : ∀ {xs ys : List D}, Sel P (fun _ => False) xs ys → ys.length = xs.length ∧ ∀ y ∈ ys, ∃ x, P x y
  | _, _, .nil => ⟨rfl, fun y hy => by cases hy⟩
  | _, _, .keep p s => ⟨by simp [s.all.1], fun y hy => by
    rcases List.mem_cons.mp hy with rfl | hy
    · exact ⟨_, p⟩
    · exact s.all.2 y hy⟩
  | _, _, .left q _ => q.elim
/-- some taken as they are -/
theorem Sel.sub {Q : D → Prop} : ∀ {xs ys : List D}, Sel (fun x y => y = x) Q xs ys → ys.Sublist xs ∧ ∀ x ∈ xs, ¬ Q x → x ∈ ys
  | _, _, .nil => ⟨List.Sublist.refl [], fun x hx => by cases hx⟩
  | _, _, .keep p s => by
    subst p
    refine ⟨s.sub.1.cons_cons _, fun x hx hq => ?_⟩
    rcases List.mem_cons.mp hx with rfl | hx
    · exact List.mem_cons_self
    · exact List.mem_cons_of_mem _ (s.sub.2 x hx hq)
  | _, _, .left q s => by
    refine ⟨s.sub.1.cons _, fun x hx hq => ?_⟩
    rcases List.mem_cons.mp hx with rfl | hx
    · exact absurd q hq
    · exact s.sub.2 x hx hq
/-- the source at l drawn from, all else as in L0 -/
def At (L0 : LH) (l : Nat) (L : LH) : Prop := ∃ a b, L = put2 L0 l a b
theorem put2_put2 (L : LH) (l : Nat) (a b c d : Int) : put2 (put2 L l a b) l c d = put2 L l c d := List.set_set ..
theorem At.refl {L : LH} {l : Nat} {a b : Int} (s : src L l a b) : At L l L := ⟨a, b, by
  obtain ⟨h, e⟩ := List.getElem?_eq_some_iff.mp s
  unfold put2
  rw [← e, List.set_getElem_self]⟩
theorem At.src {L0 L : LH} {l : Nat} {a b : Int} (s : Lw.src L0 l a b) (h : At L0 l L) : ∃ a b, Lw.src L l a b := by
  obtain ⟨c, d, rfl⟩ := h
  exact ⟨c, d, put2_src s⟩
theorem At.put {L0 L : LH} {l : Nat} (h : At L0 l L) (a b : Int) : At L0 l (put2 L l a b) := by
  obtain ⟨c, d, rfl⟩ := h
  exact ⟨a, b, put2_put2 ..⟩
theorem take_at {n : Nat} (h : 1 ≤ n) {L0 L : LH} {l : Nat} {a b : Int} (s : src L0 l a b) (hA : At L0 l L) (t : Int) (ht : 0 < t ∧ t < 1073741824) : ∃ v L', 0 ≤ v ∧ v < t ∧ callN T n i__law_take [.loc l, .int t] L = .ok (.int v) L' ∧ At L0 l L' := by
  obtain ⟨c, d, s2⟩ := hA.src s
  obtain ⟨v, a', b', h1, h2, h3⟩ := take_ok h s2 t ht
  exact ⟨v, _, h1, h2, h3, hA.put a' b'⟩
theorem one_at {n : Nat} (h : 2 ≤ n) {L0 L : LH} {l : Nat} {a b : Int} (s : src L0 l a b) (hA : At L0 l L) (xs : List D) (hx : 0 < xs.length ∧ xs.length < 1000) : ∃ x ∈ xs, ∃ L', callN T n i__law_one [.loc l, .lst xs] L = .ok x L' ∧ At L0 l L' := by
  obtain ⟨c, d, s2⟩ := hA.src s
  obtain ⟨x, h1, a', b', h3⟩ := one_ok h s2 xs hx
  exact ⟨x, h1, _, h3, hA.put a' b'⟩
/-- the same, a list under way behind it -/
def AtF (L0 : LH) (l : Nat) (found : List D) (L : LH) : Prop := ∃ a b, L = put2 L0 l a b ++ [.lst found]
section
variable {L0 L : LH} {l : Nat} {a b : Int} {found : List D}
theorem src_lt (s : src L0 l a b) : l < L0.length := (List.getElem?_eq_some_iff.mp s).1
theorem AtF.src (s : Lw.src L0 l a b) (h : AtF L0 l found L) : ∃ a b, Lw.src L l a b := by
  obtain ⟨c, d, rfl⟩ := h
  refine ⟨c, d, ?_⟩
  unfold Lw.src
  rw [List.getElem?_append_left (by simpa using src_lt s)]
  exact put2_src s
theorem AtF.put (s : Lw.src L0 l a b) (h : AtF L0 l found L) (x y : Int) : AtF L0 l found (put2 L l x y) := by
  obtain ⟨c, d, rfl⟩ := h
  refine ⟨x, y, ?_⟩
  unfold put2
  rw [List.set_append_left _ _ (by simpa using src_lt s), List.set_set]
theorem AtF.get (h : AtF L0 l found L) : L[L0.length]? = some (.lst found) := by
  obtain ⟨c, d, rfl⟩ := h
  rw [List.getElem?_append_right (by simp)]
  simp
theorem AtF.upd (h : AtF L0 l found L) (f2 : List D) : AtF L0 l f2 (L.set L0.length (.lst f2)) := by
  obtain ⟨c, d, rfl⟩ := h
  refine ⟨c, d, ?_⟩
  rw [List.set_append_right _ _ (by simp)]
  simp
theorem take_atF {n : Nat} (h : 1 ≤ n) (s : src L0 l a b) (hA : AtF L0 l found L) (t : Int) (ht : 0 < t ∧ t < 1073741824) : ∃ v L', 0 ≤ v ∧ v < t ∧ callN T n i__law_take [.loc l, .int t] L = .ok (.int v) L' ∧ AtF L0 l found L' := by
  obtain ⟨c, d, s2⟩ := hA.src s
  obtain ⟨v, a', b', h1, h2, h3⟩ := take_ok h s2 t ht
  exact ⟨v, _, h1, h2, h3, hA.put s a' b'⟩
end

/-! ### drawn books -/
theorem rngL_map (N : Nat) : rngL 0 (N : Int) = ((List.range N).map fun (i : Nat) => (i : Int)).map D.int := by
  unfold rngL
  rw [List.map_map, show ((N : Int) - 0).toNat = N by omega]
  apply List.map_congr_left
  intro i _
  simp
theorem range_asc (N : Nat) : ((List.range N).map fun (i : Nat) => (i : Int)).Pairwise (· < ·) := by
  rw [List.pairwise_map]
  exact List.pairwise_lt_range.imp fun h => by omega
theorem pair_asc : ∀ {t : List Int}, t.Pairwise (· < ·) → ∀ k (a b : Int), t[k]? = some a → t[k + 1]? = some b → a < b
  | [], _, k, a, b, h, _ => by simp at h
  | x :: t, h, 0, a, b, h1, h2 => by
    simp at h1 h2
    subst h1
    exact (List.pairwise_cons.mp h).1 b (List.mem_of_getElem? h2)
  | x :: t, h, k + 1, a, b, h1, h2 => by
    simp only [List.getElem?_cons_succ] at h1 h2
    exact pair_asc (List.pairwise_cons.mp h).2 k a b h1 h2
/-- what was taken of 0 .. N-1 is a link -/
theorem sub_link {ys : List D} {N p : Nat} (h6 : N ≤ 6) (hs : ys.Sublist (rngL 0 (N : Int))) (hm : D.int (p : Int) ∈ ys) : ∃ t : List Int, ys = t.map .int ∧ LinkOk t p N := by
  rw [rngL_map] at hs
  obtain ⟨t, h1, rfl⟩ := List.sublist_map_iff.mp hs
  refine ⟨t, rfl, ?_, fun x hx => ?_, ?_, ?_⟩
  · obtain ⟨x, hx, e⟩ := List.mem_map.mp hm
    cases e
    exact hx
  · obtain ⟨i, hi, rfl⟩ := List.mem_map.mp (h1.subset hx)
    have := List.mem_range.mp hi
    omega
  · exact pair_asc ((range_asc N).sublist h1)
  · have := h1.length_le
    simp at this
    omega

section
variable {L : LH}
theorem lstAt_loc {l : Nat} {xs : List D} (h : L[l]? = some (.lst xs)) : lstAt L (.loc l) = some l := by simp only [lstAt, h]
theorem bi_tup_lst (xs : List D) (L : LH) : biD .tuple [.lst xs] L = some (.tup xs) := rfl
theorem bi_tup_loc {l : Nat} {xs : List D} (h : L[l]? = some (.lst xs)) : biD .tuple [.loc l] L = some (.tup xs) := by simp only [biD, h]
end

/-- nothing of L names a changed object -/
def Flat (L : LH) : Prop := ∀ o ∈ L, ∀ n, o.below n = true
theorem Flat.put {L : LH} (h : Flat L) (l : Nat) (a b : Int) : Flat (put2 L l a b) := fun o ho n => by
  rcases List.mem_or_eq_of_mem_set ho with ho | rfl
  · exact h o ho n
  · rfl
theorem Flat.pool {L : LH} (h : Flat L) (a b : Int) : Flat (L ++ [.lst [.int a, .int b]]) := fun o ho n => by
  rcases List.mem_append.mp ho with ho | ho
  · exact h o ho n
  · simp at ho; subst ho; rfl
theorem below_ti (n : Nat) (xs : List Int) : below n (ti xs) = true := by
  show belows n (xs.map .int) = true
  induction xs with
  | nil => rfl
  | cons x xs ih => show (true && belows n (xs.map .int)) = true; rw [ih]; rfl
theorem belows_tis (n : Nat) : ∀ ls : List (List Int), belows n (ls.map ti) = true
  | [] => rfl
  | x :: ls => by show (below n (ti x) && belows n (ls.map ti)) = true; rw [below_ti, belows_tis n ls]; rfl
theorem below_book (n : Nat) (st : List Int) (ls : List (List Int)) : below n (bookD st ls) = true := by
  show (below n (ti st) && (belows n (ls.map ti) && true)) = true
  rw [below_ti, belows_tis]; rfl
theorem endR_drop {fn : Fn} {L0 : LH} {l : Nat} {a b : Int} {x : O} {d : D} (hd : fn.drop = true) (hf : Flat L0) (hb : below L0.length d = true) : endR fn L0 (.rt d (put2 L0 l a b ++ [x])) = .ok d (put2 L0 l a b) := by
  have e1 : (put2 L0 l a b ++ [x]).take L0.length = put2 L0 l a b := List.take_left' (by simp)
  have e2 : (put2 L0 l a b).all (O.below L0.length) = true := List.all_eq_true.mpr fun o ho => hf.put l a b o ho _
  have e3 : decide (L0.length ≤ (put2 L0 l a b ++ [x]).length) = true := decide_eq_true (by simp)
  simp only [endR, cutR, hd, if_true, hb, e1, e2, e3, Bool.and_self]
theorem sel_ints {P : D → D → Prop} {Q : Int → Prop} : ∀ {ys : List D}, (∀ y ∈ ys, ∃ z, y = .int z ∧ Q z) → ∃ zs : List Int, ys = zs.map .int ∧ ∀ z ∈ zs, Q z
  | [], _ => ⟨[], rfl, fun z hz => by cases hz⟩
  | y :: ys, h => by
    obtain ⟨z, rfl, q⟩ := h y List.mem_cons_self
    obtain ⟨zs, rfl, r⟩ := sel_ints (P := P) (ys := ys) fun y hy => h y (List.mem_cons_of_mem _ hy)
    exact ⟨z :: zs, rfl, fun w hw => by
      rcases List.mem_cons.mp hw with rfl | hw
      · exact q
      · exact r w hw⟩

theorem lcLive_map {put : D → Env → Option Env} {cond elt : Env → LH → R D} {env : Env} {L : LH} {f : D → D} {p : D → Bool} {l : Nat} {ds : List D} (hL : L[l]? = some (.lst ds)) (hs : ∀ x ∈ ds, ∃ env1, put x env = some env1 ∧ cond env1 L = .ok (.bl (p x)) L ∧ (p x = true → elt env1 L = .ok (f x) L)) :
    ∀ (m i : Nat), i + m = ds.length → lcLive put cond elt env l (m + 1) i L = .ok (((ds.drop i).filter p).map f) L := by
  intro m
  induction m with
  | zero =>
    intro i hi
    have e1 : ds[i]? = none := List.getElem?_eq_none (by omega)
    have e2 : ds.drop i = [] := List.drop_eq_nil_of_le (by omega)
    simp only [lcLive, hL, e1, e2, List.filter_nil, List.map_nil]
  | succ m ih =>
    intro i hi
    have hlt : i < ds.length := by omega
    obtain ⟨env1, e1, e2, e3⟩ := hs ds[i] (List.getElem_mem hlt)
    have ihm := ih (i + 1) (by omega)
    rw [lcLive]
    simp only [hL, List.getElem?_eq_getElem hlt, e1, e2, R.bind_ok, truth_bl]
    rw [List.drop_eq_getElem_cons hlt]
    cases hp : p ds[i] with
    | true => simp only [e3 hp, R.bind_ok, ihm, List.filter_cons_of_pos hp, List.map_cons]
    | false => rw [List.filter_cons_of_neg (by simp [hp])]; exact ihm

theorem ixN_nat {n : Nat} {v : Int} (h0 : 0 ≤ v) (h1 : v < n) : L2.ixN n v = some v.toNat := by
  unfold L2.ixN
  rw [if_pos h0, if_pos (by omega)]
theorem all_below {L : LH} (h : Flat L) (n : Nat) : L.all (O.below n) = true := List.all_eq_true.mpr fun o ho => h o ho _

theorem cut_to {α : Type} (xs : List α) (p : Nat) (h : p ≤ xs.length) : cutL xs none (some (p : Int)) = xs.take p := by
  unfold cutL
  rw [HT.sIx_none, HT.sIx_nat, Nat.min_eq_left h]; simp
theorem cut_from {α : Type} (xs : List α) (p : Nat) (h : p ≤ xs.length) : cutL xs (some (p : Int)) none = xs.drop p := by
  unfold cutL
  rw [HT.sIx_none, HT.sIx_nat, Nat.min_eq_left h]
  exact List.take_of_length_le (by simp)
theorem set_parts {α : Type} (xs : List α) (p : Nat) (x : α) (h : p < xs.length) : xs.take p ++ [x] ++ xs.drop (p + 1) = xs.set p x := by
  rw [List.set_eq_take_append_cons_drop, if_pos h]; simp
theorem add_tup (xs ys : List D) (h : xs.length + ys.length ≤ size16) : binD .add (.tup xs) (.tup ys) = some (.tup (xs ++ ys)) := by
  simp only [binD, if_pos h]
theorem cmp_in_tup (x : D) (ys : List D) : cmpD .in_ x (.tup ys) = inD x ys := rfl

theorem forGo_inv {put : D → Env → Option Env} {body : Env → LH → RS} {P : Env → LH → Prop} : ∀ {items : List D} {env : Env} {L : LH}, P env L → (∀ x ∈ items, ∀ env L, P env L → ∃ env1, put x env = some env1 ∧ ∃ e l, body env1 L = .nx e l ∧ P e l) →
    ∃ e l, forGo put body items env L = .nx e l ∧ P e l
  | [], env, L, h, _ => ⟨env, L, rfl, h⟩
  | x :: r, env, L, h, hs => by
    obtain ⟨env1, e1, e, l, e2, e3⟩ := hs x List.mem_cons_self env L h
    obtain ⟨e', l', f1, f2⟩ := forGo_inv (items := r) e3 fun y hy => hs y (List.mem_cons_of_mem _ hy)
    exact ⟨e', l', by simp only [forGo, e1, e2]; exact f1, f2⟩

theorem eqD_nil {ys : List D} (h : areData ys = true) : eqD (.lst ys) (.lst []) = some ys.isEmpty := by
  have e : eqv (.lst ys) (.lst []) = ys.isEmpty := by cases ys <;> simp [eqv, eqvs]
  have m : min (dep (.lst ys)) (dep (.lst [])) ≤ 60 := by
    have : dep (.lst []) = 1 := by simp [dep, deps]
    omega
  unfold eqD
  simp [isData, areData, h, m, e]
theorem areData_ints : ∀ xs : List Int, areData (xs.map .int) = true
  | [] => rfl
  | x :: xs => by simp [areData, isData, areData_ints xs]
theorem areData_filter {p : D → Bool} : ∀ {xs : List D}, areData xs = true → areData (xs.filter p) = true
  | [], _ => rfl
  | x :: xs, h => by
    simp only [areData, Bool.and_eq_true] at h
    rw [List.filter_cons]
    split
    · simp [areData, h.1, areData_filter h.2]
    · exact areData_filter h.2
theorem eqD_str (s : Str) : eqD (.str s) (.str s) = some true := by
  have : eqD (.str s) (.str s) = some (s == s) := rfl
  rw [this, beq_self_eq_true]
theorem eqv_tup (xs ys : List D) : eqv (.tup xs) (.tup ys) = eqvs xs ys := rfl
theorem eqvs_ints : ∀ a b : List Int, eqvs (a.map .int) (b.map .int) = (a == b)
  | [], [] => rfl
  | [], _ :: _ => rfl
  | _ :: _, [] => rfl
  | x :: a, y :: b => by
    show (x == y && eqvs (a.map .int) (b.map .int)) = _
    rw [eqvs_ints a b]; rfl
theorem deps_ints : ∀ a : List Int, deps (a.map .int) = 0
  | [] => rfl
  | x :: a => by
    show max 0 (deps (a.map .int)) = 0
    rw [deps_ints a]; rfl
theorem eqD_tis (a b : List Int) : eqD (ti a) (ti b) = some (a == b) := by
  have d1 : isData (ti a) = true := areData_ints a
  have d2 : isData (ti b) = true := areData_ints b
  have d3 : dep (ti a) = 1 := by show deps (a.map .int) + 1 = 1; rw [deps_ints]
  have d4 : dep (ti b) = 1 := by show deps (b.map .int) + 1 = 1; rw [deps_ints]
  have d5 : eqv (ti a) (ti b) = (a == b) := eqvs_ints a b
  have : eqD (ti a) (ti b) = if isData (ti a) && isData (ti b) && decide (min (dep (ti a)) (dep (ti b)) ≤ 60) then some (eqv (ti a) (ti b)) else none := rfl
  rw [this, d1, d2, d3, d4, d5]; rfl
end Lw
end

section
set_option Elab.async false
set_option linter.all false
set_option maxRecDepth 100000
set_option maxHeartbeats 1000000
namespace Lw
open PySem (Str)
open Ev
/-! ### books of drawn links -/
theorem At.flat {L0 L : LH} {l : Nat} (h : At L0 l L) (hf : Flat L0) : Flat L := by
  obtain ⟨a, b, rfl⟩ := h
  exact hf.put l a b
theorem mul_tup (xs : List D) (N : Nat) (h : xs.length ≤ 1000) (hN : N ≤ 1000) : binD .mul (.tup xs) (.int N) = some (.tup (List.replicate (N : Int).toNat xs).flatten) := by
  simp only [binD]
  rw [if_pos (by simp [h]; omega)]
theorem rep_int (z : Int) (N : Nat) : (List.replicate (N : Int).toNat [D.int z]).flatten = (List.replicate N z).map .int := by
  rw [Int.toNat_natCast]
  induction N with
  | zero => rfl
  | succ N ih => rw [List.replicate_succ, List.flatten_cons, ih]; rfl
def plainL (N : Nat) : List (List Int) := (List.range N).map fun (i : Nat) => [(i : Int)]
theorem plainL_ok (N : Nat) : ∀ i l, (plainL N)[i]? = some l → LinkOk l i N := fun i l hl => by
  unfold plainL at hl
  rw [List.getElem?_map] at hl
  cases hr : (List.range N)[i]? with
  | none => rw [hr] at hl; cases hl
  | some k =>
    rw [hr] at hl
    obtain ⟨h1, h2⟩ := List.getElem?_eq_some_iff.mp hr
    rw [List.getElem_range] at h2
    rw [List.length_range] at h1
    subst h2
    cases hl
    exact ⟨by simp, fun x hx => (by simp at hx; omega), fun k a b h3 h4 => (by simp at h4), by simp⟩
theorem plain_links_ok {n : Nat} (h : 1 ≤ n) (N : Nat) (hN : N ≤ 1000) (L : LH) : callN T n i__law_plain_links [.int N] L = .ok (.tup ((plainL N).map ti)) L := by
  obtain ⟨n, rfl, _⟩ := pre h
  have hz1 : (1 : Nat) ≤ size16 := by unfold size16; omega
  have g : lcGo (Tg.put (.nm 1)) (evE (cfN T n) eT) (evE (cfN T n) e__law_plain_links_1) [some (.int N), none] (rngL 0 (N : Int)) L = .ok ((rngL 0 (N : Int)).map fun d => .tup [d]) L := lcGo_all fun x hx => by
    refine ⟨_, rfl, rfl, ?_⟩
    simp (disch := first | omega | assumption | rfl) only [exSs, exS, evE, evEs, startE, bndR, List.map_cons, List.map_nil, List.length_cons, List.length_nil, List.cons_append, List.nil_append, List.getElem?_cons_zero, List.getElem?_cons_succ, R.bind_ok, R.bind_exc, R.st_ok, R.st_exc, call_eq, callL_eq, truth_bl, truth_int, Nat.reduceAdd, Nat.reduceSub, Int.cast_ofNat_Int, Int.reduceBEq, beq_self_eq_true, Bool.not_true, Bool.not_false, Int.reduceNeg, decide_true, decide_false, Bool.or_false, Bool.and_true, Bool.true_and, Bool.and_false, Bool.false_and, eT_ev, itD_seq, itemsD_tup, itemsD_lst, bi_all, bi_any, bi_len, lenD_tup, lenD_lst, lcEnd_f, List.length_map, List.all_cons, List.all_nil, id_eq, endR_rt, endR_nx, endR_exc, opt_some, Option.map_some, Tg.put, putMany, List.set_cons_zero, List.set_cons_succ, RS.bind_nx, RS.bind_rt, RS.bind_exc, List.replicate, R.nox_ok, wipeE, e__law_plain_links_1, if_pos hz1]
  have e : ((rngL 0 (N : Int)).map fun d => D.tup [d]) = (plainL N).map ti := by
    rw [rngL_map]
    unfold plainL
    rw [List.map_map, List.map_map, List.map_map]
    rfl
  rw [e] at g
  have r : itD .rng [.int (N : Int)] = some (rngL 0 (N : Int)) := itD_rng (by omega)
  have hz : (rngL 0 (N : Int)).length ≤ size16 := by rw [rngL_len]; unfold size16; omega
  rw [call_of (fn := f__law_plain_links) rfl rfl]
  simp (disch := first | omega | assumption | rfl) only [exSs, exS, evE, evEs, startE, bndR, List.map_cons, List.map_nil, List.length_cons, List.length_nil, List.cons_append, List.nil_append, List.getElem?_cons_zero, List.getElem?_cons_succ, R.bind_ok, R.bind_exc, R.st_ok, R.st_exc, call_eq, callL_eq, truth_bl, truth_int, Nat.reduceAdd, Nat.reduceSub, Int.cast_ofNat_Int, Int.reduceBEq, beq_self_eq_true, Bool.not_true, Bool.not_false, Int.reduceNeg, decide_true, decide_false, Bool.or_false, Bool.and_true, Bool.true_and, Bool.and_false, Bool.false_and, eT_ev, itD_seq, itemsD_tup, itemsD_lst, bi_all, bi_any, bi_len, lenD_tup, lenD_lst, lcEnd_f, List.length_map, List.all_cons, List.all_nil, id_eq, endR_rt, endR_nx, endR_exc, opt_some, Option.map_some, Tg.put, putMany, List.set_cons_zero, List.set_cons_succ, RS.bind_nx, RS.bind_rt, RS.bind_exc, List.replicate, R.nox_ok, wipeE, f__law_plain_links, r, if_pos hz, g, bi_tup_lst]
section
variable {L0 L : LH} {l : Nat} {a b : Int} {found : List D}
theorem more_ok {n : Nat} (h : 1 ≤ n) (s : src L0 l a b) (hA : AtF L0 l found L) {N : Nat} (hN : N ≤ 6) (w : D) (cm : Int) (ic : Bool) (x5 x6 x7 : Option D) :
    ∃ (mo : List Int) (L' : LH), evE (cfN T n) (.ife (.var 4) (.lst [(.var 3)]) (.lc false [7] (.nm 7) .rng [(.var 1)] e__law_drawn_links_1 e__law_drawn_links_2)) [some (.loc l), some (.int N), some w, some (.int cm), some (.bl ic), x5, x6, x7] L = .ok (.lst (mo.map .int)) L' ∧ AtF L0 l found L' := by
  have hz1 : (1 : Nat) ≤ size16 := by unfold size16; omega
  cases ic with
  | true => exact ⟨[cm], L, by simp (disch := first | omega | assumption | rfl) only [exSs, exS, evE, evEs, startE, bndR, List.map_cons, List.map_nil, List.length_cons, List.length_nil, List.cons_append, List.nil_append, List.getElem?_cons_zero, List.getElem?_cons_succ, R.bind_ok, R.bind_exc, R.st_ok, R.st_exc, call_eq, callL_eq, truth_bl, truth_int, Nat.reduceAdd, Nat.reduceSub, Int.cast_ofNat_Int, Int.reduceBEq, beq_self_eq_true, Bool.not_true, Bool.not_false, Int.reduceNeg, decide_true, decide_false, Bool.or_false, Bool.and_true, Bool.true_and, Bool.and_false, Bool.false_and, eT_ev, itD_seq, itemsD_tup, itemsD_lst, bi_all, bi_any, bi_len, lenD_tup, lenD_lst, lcEnd_f, List.length_map, List.all_cons, List.all_nil, id_eq, endR_rt, endR_nx, endR_exc, opt_some, Option.map_some, Tg.put, putMany, List.set_cons_zero, List.set_cons_succ, RS.bind_nx, RS.bind_rt, RS.bind_exc, List.replicate, R.nox_ok, wipeE, if_pos hz1], hA⟩
  | false =>
    obtain ⟨ys, L', g, hA', sel⟩ := lcGo_eff (put := Tg.put (.nm 7)) (cond := evE (cfN T n) e__law_drawn_links_1) (elt := evE (cfN T n) e__law_drawn_links_2) (env := [some (.loc l), some (.int N), some w, some (.int cm), some (.bl false), x5, x6, none]) (A := AtF L0 l found) (P := fun x y => y = x) (Q := fun _ => True) (items := rngL 0 (N : Int)) (L := L) hA (by
      intro x hx L hA
      obtain ⟨v, L1, v0, v1, t1, a1⟩ := take_atF (n := n) h s hA 3 (by omega)
      refine ⟨_, rfl, v == 0, L1, ?_, a1, fun _ => ⟨_, L1, rfl, a1, rfl⟩, fun _ => trivial⟩
      simp (disch := first | omega | assumption | rfl) only [exSs, exS, evE, evEs, startE, bndR, List.map_cons, List.map_nil, List.length_cons, List.length_nil, List.cons_append, List.nil_append, List.getElem?_cons_zero, List.getElem?_cons_succ, R.bind_ok, R.bind_exc, R.st_ok, R.st_exc, call_eq, callL_eq, truth_bl, truth_int, Nat.reduceAdd, Nat.reduceSub, Int.cast_ofNat_Int, Int.reduceBEq, beq_self_eq_true, Bool.not_true, Bool.not_false, Int.reduceNeg, decide_true, decide_false, Bool.or_false, Bool.and_true, Bool.true_and, Bool.and_false, Bool.false_and, eT_ev, itD_seq, itemsD_tup, itemsD_lst, bi_all, bi_any, bi_len, lenD_tup, lenD_lst, lcEnd_f, List.length_map, List.all_cons, List.all_nil, id_eq, endR_rt, endR_nx, endR_exc, opt_some, Option.map_some, Tg.put, putMany, List.set_cons_zero, List.set_cons_succ, RS.bind_nx, RS.bind_rt, RS.bind_exc, List.replicate, R.nox_ok, wipeE, e__law_drawn_links_1, t1, cmp_eq, eqD_int])
    obtain ⟨s1, _⟩ := sel.sub
    rw [rngL_map] at s1
    obtain ⟨mo, _, e⟩ := List.sublist_map_iff.mp s1
    refine ⟨mo, L', ?_, hA'⟩
    have r : itD .rng [.int (N : Int)] = some (rngL 0 (N : Int)) := itD_rng (by omega)
    have hz : (rngL 0 (N : Int)).length ≤ size16 := by rw [rngL_len]; unfold size16; omega
    rw [e] at g
    simp (disch := first | omega | assumption | rfl) only [exSs, exS, evE, evEs, startE, bndR, List.map_cons, List.map_nil, List.length_cons, List.length_nil, List.cons_append, List.nil_append, List.getElem?_cons_zero, List.getElem?_cons_succ, R.bind_ok, R.bind_exc, R.st_ok, R.st_exc, call_eq, callL_eq, truth_bl, truth_int, Nat.reduceAdd, Nat.reduceSub, Int.cast_ofNat_Int, Int.reduceBEq, beq_self_eq_true, Bool.not_true, Bool.not_false, Int.reduceNeg, decide_true, decide_false, Bool.or_false, Bool.and_true, Bool.true_and, Bool.and_false, Bool.false_and, eT_ev, itD_seq, itemsD_tup, itemsD_lst, bi_all, bi_any, bi_len, lenD_tup, lenD_lst, lcEnd_f, List.length_map, List.all_cons, List.all_nil, id_eq, endR_rt, endR_nx, endR_exc, opt_some, Option.map_some, Tg.put, putMany, List.set_cons_zero, List.set_cons_succ, RS.bind_nx, RS.bind_rt, RS.bind_exc, List.replicate, R.nox_ok, wipeE, r, if_pos hz, g]
theorem dlink_elt {n : Nat} {N p : Nat} (hN : N ≤ 6) (hp : p < N) (mo : List Int) (x0 x2 x3 x4 x7 : Option D) (L : LH) :
    ∃ t, evE (cfN T n) (.lc false [7] (.nm 7) .rng [(.var 1)] e__law_drawn_links_3 e__law_drawn_links_4) [x0, some (.int N), x2, x3, x4, some (.int p), some (.lst (mo.map .int)), x7] L = .ok (.lst (t.map .int)) L ∧ LinkOk t p N := by
  have g := lcGo_map (put := Tg.put (.nm 7)) (cond := evE (cfN T n) e__law_drawn_links_3) (elt := evE (cfN T n) e__law_drawn_links_4) (env := [x0, some (.int N), x2, x3, x4, some (.int p), some (.lst (mo.map .int)), none]) (L := L) (f := id) (p := fun d => match d with | .int j => (j == (p : Int)) || decide (j ∈ mo) | _ => false) (items := rngL 0 (N : Int)) (by
    intro x hx
    rw [rngL_map] at hx
    obtain ⟨j, _, rfl⟩ := List.mem_map.mp hx
    refine ⟨_, rfl, ?_, fun _ => rfl⟩
    have i1 := inD_int j mo
    have c1 : ∀ x ys, cmpD .in_ x (.lst ys) = inD x ys := fun _ _ => rfl
    cases hd : (j == (p : Int)) with
    | true => simp (disch := first | omega | assumption | rfl) only [exSs, exS, evE, evEs, startE, bndR, List.map_cons, List.map_nil, List.length_cons, List.length_nil, List.cons_append, List.nil_append, List.getElem?_cons_zero, List.getElem?_cons_succ, R.bind_ok, R.bind_exc, R.st_ok, R.st_exc, call_eq, callL_eq, truth_bl, truth_int, Nat.reduceAdd, Nat.reduceSub, Int.cast_ofNat_Int, Int.reduceBEq, beq_self_eq_true, Bool.not_true, Bool.not_false, Int.reduceNeg, decide_true, decide_false, Bool.or_false, Bool.and_true, Bool.true_and, Bool.and_false, Bool.false_and, eT_ev, itD_seq, itemsD_tup, itemsD_lst, bi_all, bi_any, bi_len, lenD_tup, lenD_lst, lcEnd_f, List.length_map, List.all_cons, List.all_nil, id_eq, endR_rt, endR_nx, endR_exc, opt_some, Option.map_some, Tg.put, putMany, List.set_cons_zero, List.set_cons_succ, RS.bind_nx, RS.bind_rt, RS.bind_exc, List.replicate, R.nox_ok, wipeE, e__law_drawn_links_3, cmp_eq, eqD_int, hd, Bool.true_or]
    | false => simp (disch := first | omega | assumption | rfl) only [exSs, exS, evE, evEs, startE, bndR, List.map_cons, List.map_nil, List.length_cons, List.length_nil, List.cons_append, List.nil_append, List.getElem?_cons_zero, List.getElem?_cons_succ, R.bind_ok, R.bind_exc, R.st_ok, R.st_exc, call_eq, callL_eq, truth_bl, truth_int, Nat.reduceAdd, Nat.reduceSub, Int.cast_ofNat_Int, Int.reduceBEq, beq_self_eq_true, Bool.not_true, Bool.not_false, Int.reduceNeg, decide_true, decide_false, Bool.or_false, Bool.and_true, Bool.true_and, Bool.and_false, Bool.false_and, eT_ev, itD_seq, itemsD_tup, itemsD_lst, bi_all, bi_any, bi_len, lenD_tup, lenD_lst, lcEnd_f, List.length_map, List.all_cons, List.all_nil, id_eq, endR_rt, endR_nx, endR_exc, opt_some, Option.map_some, Tg.put, putMany, List.set_cons_zero, List.set_cons_succ, RS.bind_nx, RS.bind_rt, RS.bind_exc, List.replicate, R.nox_ok, wipeE, e__law_drawn_links_3, cmp_eq, eqD_int, hd, Bool.false_or, c1, i1])
  obtain ⟨t, ht, lk⟩ : ∃ t : List Int, ((rngL 0 (N : Int)).filter fun d => match d with | .int j => (j == (p : Int)) || decide (j ∈ mo) | _ => false) = t.map .int ∧ LinkOk t p N := by
    refine sub_link hN List.filter_sublist (List.mem_filter.mpr ⟨?_, by simp⟩)
    rw [rngL_map]
    exact List.mem_map.mpr ⟨p, List.mem_map.mpr ⟨p, List.mem_range.mpr hp, rfl⟩, rfl⟩
  rw [List.map_id, ht] at g
  refine ⟨t, ?_, lk⟩
  have r : itD .rng [.int (N : Int)] = some (rngL 0 (N : Int)) := itD_rng (by omega)
  have hz : (rngL 0 (N : Int)).length ≤ size16 := by rw [rngL_len]; unfold size16; omega
  simp (disch := first | omega | assumption | rfl) only [exSs, exS, evE, evEs, startE, bndR, List.map_cons, List.map_nil, List.length_cons, List.length_nil, List.cons_append, List.nil_append, List.getElem?_cons_zero, List.getElem?_cons_succ, R.bind_ok, R.bind_exc, R.st_ok, R.st_exc, call_eq, callL_eq, truth_bl, truth_int, Nat.reduceAdd, Nat.reduceSub, Int.cast_ofNat_Int, Int.reduceBEq, beq_self_eq_true, Bool.not_true, Bool.not_false, Int.reduceNeg, decide_true, decide_false, Bool.or_false, Bool.and_true, Bool.true_and, Bool.and_false, Bool.false_and, eT_ev, itD_seq, itemsD_tup, itemsD_lst, bi_all, bi_any, bi_len, lenD_tup, lenD_lst, lcEnd_f, List.length_map, List.all_cons, List.all_nil, id_eq, endR_rt, endR_nx, endR_exc, opt_some, Option.map_some, Tg.put, putMany, List.set_cons_zero, List.set_cons_succ, RS.bind_nx, RS.bind_rt, RS.bind_exc, List.replicate, R.nox_ok, wipeE, r, if_pos hz, g]
theorem dlink_step {n : Nat} (h : 1 ≤ n) (s : src L0 l a b) (hA : AtF L0 l found L) (hf : found.length ≤ 6) {N p : Nat} (hN : N ≤ 6) (hp : p < N) (cm : Int) (ic : Bool) (x6 x7 : Option D) :
    ∃ t y L', exSs (cfN T n) s__law_drawn_links_1 [some (.loc l), some (.int N), some (.loc L0.length), some (.int cm), some (.bl ic), some (.int p), x6, x7] L = .nx [some (.loc l), some (.int N), some (.loc L0.length), some (.int cm), some (.bl ic), some (.int p), y, x7] L' ∧ AtF L0 l (found ++ [ti t]) L' ∧ LinkOk t p N := by
  obtain ⟨mo, L1, g1, a1⟩ := more_ok (n := n) h s hA hN (.loc L0.length) cm ic (some (.int p)) x6 x7
  obtain ⟨t, g2, lk⟩ := dlink_elt (n := n) hN hp mo (some (.loc l)) (some (.loc L0.length)) (some (.int cm)) (some (.bl ic)) x7 L1
  refine ⟨t, some (.lst (mo.map .int)), _, ?_, a1.upd _, lk⟩
  have e1 := lstAt_loc (AtF.get a1)
  have e2 := AtF.get a1
  have hz : found.length < size16 := by unfold size16; omega
  generalize hlc : E.lc false [7] (.nm 7) .rng [(.var 1)] e__law_drawn_links_3 e__law_drawn_links_4 = lc at *
  generalize hif : E.ife (.var 4) (.lst [(.var 3)]) (.lc false [7] (.nm 7) .rng [(.var 1)] e__law_drawn_links_1 e__law_drawn_links_2) = ie at *
  simp (disch := first | omega | assumption | rfl) only [exSs, exS, evE, evEs, startE, bndR, List.map_cons, List.map_nil, List.length_cons, List.length_nil, List.cons_append, List.nil_append, List.getElem?_cons_zero, List.getElem?_cons_succ, R.bind_ok, R.bind_exc, R.st_ok, R.st_exc, call_eq, callL_eq, truth_bl, truth_int, Nat.reduceAdd, Nat.reduceSub, Int.cast_ofNat_Int, Int.reduceBEq, beq_self_eq_true, Bool.not_true, Bool.not_false, Int.reduceNeg, decide_true, decide_false, Bool.or_false, Bool.and_true, Bool.true_and, Bool.and_false, Bool.false_and, eT_ev, itD_seq, itemsD_tup, itemsD_lst, bi_all, bi_any, bi_len, lenD_tup, lenD_lst, lcEnd_f, List.length_map, List.all_cons, List.all_nil, id_eq, endR_rt, endR_nx, endR_exc, opt_some, Option.map_some, Tg.put, putMany, List.set_cons_zero, List.set_cons_succ, RS.bind_nx, RS.bind_rt, RS.bind_exc, List.replicate, R.nox_ok, wipeE, s__law_drawn_links_1, hlc, hif, g1, e1, g2, bi_tup_lst, e2, if_pos hz]
theorem dlinks_loop {n : Nat} (h : 1 ≤ n) (s : src L0 l a b) {N : Nat} (hN : N ≤ 6) (cm : Int) (ic : Bool) (x7 : Option D) : ∀ (m i : Nat) (fs : List (List Int)) (L : LH) (x5 x6 : Option D), i + m = N → fs.length = i → (∀ j t, fs[j]? = some t → LinkOk t j N) → AtF L0 l (fs.map ti) L →
    ∃ (fs' : List (List Int)) (L' : LH) (y5 y6 : Option D), forGo (Tg.put (.nm 5)) (exSs (cfN T n) s__law_drawn_links_1) (((List.range' i m).map fun (i : Nat) => (i : Int)).map D.int) [some (.loc l), some (.int N), some (.loc L0.length), some (.int cm), some (.bl ic), x5, x6, x7] L = .nx [some (.loc l), some (.int N), some (.loc L0.length), some (.int cm), some (.bl ic), y5, y6, x7] L' ∧
      fs'.length = N ∧ (∀ j t, fs'[j]? = some t → LinkOk t j N) ∧ AtF L0 l (fs'.map ti) L' := by
  intro m
  induction m with
  | zero => intro i fs L x5 x6 e1 e2 e3 hA; exact ⟨fs, L, x5, x6, rfl, by omega, e3, hA⟩
  | succ m ih =>
    intro i fs L x5 x6 e1 e2 e3 hA
    obtain ⟨t, y, L1, g, a1, lk⟩ := dlink_step (n := n) h s hA (by simp; omega) hN (p := i) (by omega) cm ic x6 x7
    obtain ⟨fs', L', y5, y6, r1, r2, r3, r4⟩ := ih (i + 1) (fs ++ [t]) L1 (some (.int i)) y (by omega) (by simp; omega) (fun j t' hj => by
      by_cases c : j < fs.length
      · rw [List.getElem?_append_left c] at hj
        exact e3 j t' hj
      · rw [List.getElem?_append_right (by omega)] at hj
        have c2 : j - fs.length = 0 := by
          rcases Nat.eq_zero_or_pos (j - fs.length) with c2 | c2
          · exact c2
          · rw [List.getElem?_eq_none (by simp; omega)] at hj; cases hj
        rw [c2] at hj
        cases hj
        rw [show j = i by omega]
        exact lk) (by rw [List.map_append]; exact a1)
    refine ⟨fs', L', y5, y6, ?_, r2, r3, r4⟩
    rw [List.range'_succ, List.map_cons, List.map_cons, forGo_nx rfl g]
    exact r1
end
theorem drawn_links_ok {n : Nat} (h : 2 ≤ n) {L0 : LH} {l : Nat} {a b : Int} (s : src L0 l a b) (hf : Flat L0) {N : Nat} (hN : 1 ≤ N ∧ N ≤ 6) :
    ∃ (ls : List (List Int)) (a' b' : Int), callN T n i__law_drawn_links [.loc l, .int N] L0 = .ok (.tup (ls.map ti)) (put2 L0 l a' b') ∧ ls.length = N ∧ ∀ j t, ls[j]? = some t → LinkOk t j N := by
  obtain ⟨n, rfl, _⟩ := pre h
  obtain ⟨a0, b0, e0⟩ := At.refl s
  obtain ⟨v, L1, v0, v1, t1, a1⟩ := take_atF (n := n) (by omega) (L := L0 ++ [.lst []]) (found := []) s ⟨a0, b0, by rw [← e0]⟩ (N : Int) (by omega)
  obtain ⟨w, L2, w0, w1, t2, a2⟩ := take_atF (n := n) (by omega) s a1 4 (by omega)
  obtain ⟨fs, L4, y5, y6, g4, f1, f2, f3⟩ := dlinks_loop (n := n) (by omega) s hN.2 v (w == 0) none N 0 [] L2 none none (by omega) rfl (fun j t hj => by simp at hj) a2
  rw [← List.range_eq_range', ← rngL_map] at g4
  have f4 := AtF.get f3
  obtain ⟨a', b', hL4⟩ := f3
  refine ⟨fs, a', b', ?_, f1, f2⟩
  have r : itD .rng [.int (N : Int)] = some (rngL 0 (N : Int)) := itD_rng (by omega)
  have hz0 : (0 : Nat) ≤ size16 := Nat.zero_le _
  have tp4 := bi_tup_loc f4
  have ex : exSs (cfN T n) f__law_drawn_links.body (startE f__law_drawn_links.nl [.loc l, .int N]) L0 = .rt (.tup (fs.map ti)) L4 := by
    generalize rngL 0 (N : Int) = rg at *
    simp (disch := first | omega | assumption | rfl) only [exSs, exS, evE, evEs, startE, bndR, List.map_cons, List.map_nil, List.length_cons, List.length_nil, List.cons_append, List.nil_append, List.getElem?_cons_zero, List.getElem?_cons_succ, R.bind_ok, R.bind_exc, R.st_ok, R.st_exc, call_eq, callL_eq, truth_bl, truth_int, Nat.reduceAdd, Nat.reduceSub, Int.cast_ofNat_Int, Int.reduceBEq, beq_self_eq_true, Bool.not_true, Bool.not_false, Int.reduceNeg, decide_true, decide_false, Bool.or_false, Bool.and_true, Bool.true_and, Bool.and_false, Bool.false_and, eT_ev, itD_seq, itemsD_tup, itemsD_lst, bi_all, bi_any, bi_len, lenD_tup, lenD_lst, lcEnd_f, List.length_map, List.all_cons, List.all_nil, id_eq, endR_rt, endR_nx, endR_exc, opt_some, Option.map_some, Tg.put, putMany, List.set_cons_zero, List.set_cons_succ, RS.bind_nx, RS.bind_rt, RS.bind_exc, List.replicate, R.nox_ok, wipeE, f__law_drawn_links, if_pos hz0, t1, if_true, sets, t2, cmp_eq, eqD_int, r, g4, tp4]
  rw [call_of (fn := f__law_drawn_links) rfl rfl, ex, hL4]
  refine endR_drop rfl hf ?_
  exact belows_tis _ _
theorem drawn_steps_ok {n : Nat} (h : 2 ≤ n) {L0 : LH} {l : Nat} {a b : Int} (s : src L0 l a b) {N : Nat} (hN : 1 ≤ N ∧ N ≤ 6) {q : Int} (hq : 1 ≤ q ∧ q ≤ 60) :
    ∃ (st : List Int) (a' b' : Int), callN T n i__law_drawn_steps [.loc l, .int N, .int q] L0 = .ok (ti st) (put2 L0 l a' b') ∧ st.length = N ∧ ∀ x ∈ st, 1 ≤ x ∧ x ≤ q := by
  obtain ⟨n, rfl, _⟩ := pre h
  have hz1 : (1 : Nat) ≤ size16 := by unfold size16; omega
  obtain ⟨v, L1, v0, v1, t1, a1⟩ := take_at (n := n) (by omega) s (At.refl s) 3 (by omega)
  by_cases hv : 0 < v
  · have d1 : decide (0 < v) = true := decide_eq_true hv
    obtain ⟨w, L2, w0, w1, t2, a2⟩ := take_at (n := n) (by omega) s a1 q (by omega)
    obtain ⟨a', b', rfl⟩ := a2
    refine ⟨List.replicate N (1 + w), a', b', ?_, by simp, fun x hx => by rw [List.eq_of_mem_replicate hx]; omega⟩
    have m1 := mul_tup [.int (1 + w)] N (by simp) (by omega)
    rw [rep_int] at m1
    have ad := add_int 1 w
    rw [call_of (fn := f__law_drawn_steps) rfl rfl]
    show _ = R.ok (D.tup ((List.replicate N (1 + w)).map D.int)) _
    generalize (List.replicate N (1 + w)).map D.int = rs at *
    generalize 1 + w = z at *
    simp (disch := first | omega | assumption | rfl) only [exSs, exS, evE, evEs, startE, bndR, List.map_cons, List.map_nil, List.length_cons, List.length_nil, List.cons_append, List.nil_append, List.getElem?_cons_zero, List.getElem?_cons_succ, R.bind_ok, R.bind_exc, R.st_ok, R.st_exc, call_eq, callL_eq, truth_bl, truth_int, Nat.reduceAdd, Nat.reduceSub, Int.cast_ofNat_Int, Int.reduceBEq, beq_self_eq_true, Bool.not_true, Bool.not_false, Int.reduceNeg, decide_true, decide_false, Bool.or_false, Bool.and_true, Bool.true_and, Bool.and_false, Bool.false_and, eT_ev, itD_seq, itemsD_tup, itemsD_lst, bi_all, bi_any, bi_len, lenD_tup, lenD_lst, lcEnd_f, List.length_map, List.all_cons, List.all_nil, id_eq, endR_rt, endR_nx, endR_exc, opt_some, Option.map_some, Tg.put, putMany, List.set_cons_zero, List.set_cons_succ, RS.bind_nx, RS.bind_rt, RS.bind_exc, List.replicate, R.nox_ok, wipeE, f__law_drawn_steps, t1, cmp_gt, d1, t2, ad, if_pos hz1, m1]
  · have d1 : decide (0 < v) = false := decide_eq_false hv
    obtain ⟨ys, L2, g2, a2, sel⟩ := lcGo_eff (put := Tg.put (.nm 3)) (cond := evE (cfN T n) eT) (elt := evE (cfN T n) e__law_drawn_steps_1) (env := [some (.loc l), some (.int N), some (.int q), none]) (A := At L0 l) (P := fun x y => ∃ z, y = .int z ∧ 1 ≤ z ∧ z ≤ q) (Q := fun _ => False) (items := rngL 0 (N : Int)) (L := L1) a1 (by
      intro x hx L hA
      refine ⟨_, rfl, true, L, rfl, hA, fun _ => ?_, fun c => by cases c⟩
      obtain ⟨w, L2, w0, w1, t2, a2⟩ := take_at (n := n) (by omega) s hA q (by omega)
      exact ⟨_, L2, by simp (disch := first | omega | assumption | rfl) only [exSs, exS, evE, evEs, startE, bndR, List.map_cons, List.map_nil, List.length_cons, List.length_nil, List.cons_append, List.nil_append, List.getElem?_cons_zero, List.getElem?_cons_succ, R.bind_ok, R.bind_exc, R.st_ok, R.st_exc, call_eq, callL_eq, truth_bl, truth_int, Nat.reduceAdd, Nat.reduceSub, Int.cast_ofNat_Int, Int.reduceBEq, beq_self_eq_true, Bool.not_true, Bool.not_false, Int.reduceNeg, decide_true, decide_false, Bool.or_false, Bool.and_true, Bool.true_and, Bool.and_false, Bool.false_and, eT_ev, itD_seq, itemsD_tup, itemsD_lst, bi_all, bi_any, bi_len, lenD_tup, lenD_lst, lcEnd_f, List.length_map, List.all_cons, List.all_nil, id_eq, endR_rt, endR_nx, endR_exc, opt_some, Option.map_some, Tg.put, putMany, List.set_cons_zero, List.set_cons_succ, RS.bind_nx, RS.bind_rt, RS.bind_exc, List.replicate, R.nox_ok, wipeE, e__law_drawn_steps_1, t2, add_int], a2, 1 + w, rfl, by omega, by omega⟩)
    obtain ⟨q1, q2⟩ := sel.all
    obtain ⟨st, rfl, hst⟩ := sel_ints (P := fun _ _ => True) (Q := fun z => 1 ≤ z ∧ z ≤ q) (ys := ys) fun y hy => (q2 y hy).elim fun _ hz => hz
    rw [rngL_len, List.length_map] at q1
    obtain ⟨a', b', rfl⟩ := a2
    refine ⟨st, a', b', ?_, by omega, hst⟩
    have r : itD .rng [.int (N : Int)] = some (rngL 0 (N : Int)) := itD_rng (by omega)
    have hz : (rngL 0 (N : Int)).length ≤ size16 := by rw [rngL_len]; unfold size16; omega
    rw [call_of (fn := f__law_drawn_steps) rfl rfl]
    simp (disch := first | omega | assumption | rfl) only [exSs, exS, evE, evEs, startE, bndR, List.map_cons, List.map_nil, List.length_cons, List.length_nil, List.cons_append, List.nil_append, List.getElem?_cons_zero, List.getElem?_cons_succ, R.bind_ok, R.bind_exc, R.st_ok, R.st_exc, call_eq, callL_eq, truth_bl, truth_int, Nat.reduceAdd, Nat.reduceSub, Int.cast_ofNat_Int, Int.reduceBEq, beq_self_eq_true, Bool.not_true, Bool.not_false, Int.reduceNeg, decide_true, decide_false, Bool.or_false, Bool.and_true, Bool.true_and, Bool.and_false, Bool.false_and, eT_ev, itD_seq, itemsD_tup, itemsD_lst, bi_all, bi_any, bi_len, lenD_tup, lenD_lst, lcEnd_f, List.length_map, List.all_cons, List.all_nil, id_eq, endR_rt, endR_nx, endR_exc, opt_some, Option.map_some, Tg.put, putMany, List.set_cons_zero, List.set_cons_succ, RS.bind_nx, RS.bind_rt, RS.bind_exc, List.replicate, R.nox_ok, wipeE, f__law_drawn_steps, t1, cmp_gt, d1, r, if_pos hz, g2, bi_tup_lst]
/-! ### the books -/
theorem plain_book_ok {n : Nat} (h : 3 ≤ n) {L0 : LH} {l : Nat} {a b : Int} (s : src L0 l a b) {p q : Int} (hp : 1 ≤ p ∧ p ≤ 6) (hq : 1 ≤ q ∧ q ≤ 60) :
    ∃ st ls a' b', callN T n i__law_plain_book [.loc l, .int p, .int q] L0 = .ok (bookD st ls) (put2 L0 l a' b') ∧ BookOk st ls ∧ (st.length : Int) ≤ p ∧ (∀ x ∈ st, x ≤ q) ∧ ls = plainL st.length := by
  obtain ⟨n, rfl, _⟩ := pre h
  have hz2 : (2 : Nat) ≤ size16 := by unfold size16; omega
  obtain ⟨v, L1, v0, v1, t1, a1⟩ := take_at (n := n) (by omega) s (At.refl s) p (by omega)
  obtain ⟨N, hN⟩ : ∃ N : Nat, (1 + v) = (N : Int) := ⟨(1 + v).toNat, by omega⟩
  obtain ⟨a2, b2, s2⟩ := a1.src s
  obtain ⟨st, a', b', t2, e1, e2⟩ := drawn_steps_ok (n := n) (by omega) s2 (N := N) (by omega) hq
  have t3 := plain_links_ok (n := n) (by omega) N (by omega) (put2 L1 l a' b')
  obtain ⟨c, d, rfl⟩ := a1
  rw [put2_put2] at t2 t3
  refine ⟨st, plainL N, a', b', ?_, ⟨by rw [e1]; simp [plainL], by omega, by omega, fun x hx => by have := e2 x hx; omega, fun i l hl => by rw [e1]; exact plainL_ok N i l hl⟩, by omega, fun x hx => (e2 x hx).2, by rw [e1]⟩
  rw [call_of (fn := f__law_plain_book) rfl rfl]
  have ad := add_int 1 v
  rw [hN] at ad
  simp (disch := first | omega | assumption | rfl) only [exSs, exS, evE, evEs, startE, bndR, List.map_cons, List.map_nil, List.length_cons, List.length_nil, List.cons_append, List.nil_append, List.getElem?_cons_zero, List.getElem?_cons_succ, R.bind_ok, R.bind_exc, R.st_ok, R.st_exc, call_eq, callL_eq, truth_bl, truth_int, Nat.reduceAdd, Nat.reduceSub, Int.cast_ofNat_Int, Int.reduceBEq, beq_self_eq_true, Bool.not_true, Bool.not_false, Int.reduceNeg, decide_true, decide_false, Bool.or_false, Bool.and_true, Bool.true_and, Bool.and_false, Bool.false_and, eT_ev, itD_seq, itemsD_tup, itemsD_lst, bi_all, bi_any, bi_len, lenD_tup, lenD_lst, lcEnd_f, List.length_map, List.all_cons, List.all_nil, id_eq, endR_rt, endR_nx, endR_exc, opt_some, Option.map_some, Tg.put, putMany, List.set_cons_zero, List.set_cons_succ, RS.bind_nx, RS.bind_rt, RS.bind_exc, List.replicate, R.nox_ok, wipeE, f__law_plain_book, t1, ad, t2, t3, if_pos hz2]
theorem linked_book_ok {n : Nat} (h : 3 ≤ n) {L0 : LH} {l : Nat} {a b : Int} (s : src L0 l a b) (hf : Flat L0) {p q : Int} (hp : 1 ≤ p ∧ p ≤ 6) (hq : 1 ≤ q ∧ q ≤ 60) :
    ∃ st ls a' b', callN T n i__law_linked_book [.loc l, .int p, .int q] L0 = .ok (bookD st ls) (put2 L0 l a' b') ∧ BookOk st ls ∧ (st.length : Int) ≤ p ∧ ∀ x ∈ st, x ≤ q := by
  obtain ⟨n, rfl, _⟩ := pre h
  have hz2 : (2 : Nat) ≤ size16 := by unfold size16; omega
  obtain ⟨v, L1, v0, v1, t1, a1⟩ := take_at (n := n) (by omega) s (At.refl s) p (by omega)
  obtain ⟨N, hN⟩ : ∃ N : Nat, (1 + v) = (N : Int) := ⟨(1 + v).toNat, by omega⟩
  have hf1 := a1.flat hf
  obtain ⟨a2, b2, s2⟩ := a1.src s
  obtain ⟨st, a', b', t2, e1, e2⟩ := drawn_steps_ok (n := n) (by omega) s2 (N := N) (by omega) hq
  obtain ⟨ls, a3, b3, t3, e3, e4⟩ := drawn_links_ok (n := n) (by omega) (put2_src (c := a') (d := b') s2) (hf1.put l a' b') (N := N) (by omega)
  obtain ⟨c, d, rfl⟩ := a1
  rw [put2_put2] at t2 t3
  rw [put2_put2] at t3
  refine ⟨st, ls, a3, b3, ?_, ⟨by omega, by omega, by omega, fun x hx => by have := e2 x hx; omega, fun i l hl => by rw [e1]; exact e4 i l hl⟩, by omega, fun x hx => (e2 x hx).2⟩
  rw [call_of (fn := f__law_linked_book) rfl rfl]
  have ad := add_int 1 v
  rw [hN] at ad
  simp (disch := first | omega | assumption | rfl) only [exSs, exS, evE, evEs, startE, bndR, List.map_cons, List.map_nil, List.length_cons, List.length_nil, List.cons_append, List.nil_append, List.getElem?_cons_zero, List.getElem?_cons_succ, R.bind_ok, R.bind_exc, R.st_ok, R.st_exc, call_eq, callL_eq, truth_bl, truth_int, Nat.reduceAdd, Nat.reduceSub, Int.cast_ofNat_Int, Int.reduceBEq, beq_self_eq_true, Bool.not_true, Bool.not_false, Int.reduceNeg, decide_true, decide_false, Bool.or_false, Bool.and_true, Bool.true_and, Bool.and_false, Bool.false_and, eT_ev, itD_seq, itemsD_tup, itemsD_lst, bi_all, bi_any, bi_len, lenD_tup, lenD_lst, lcEnd_f, List.length_map, List.all_cons, List.all_nil, id_eq, endR_rt, endR_nx, endR_exc, opt_some, Option.map_some, Tg.put, putMany, List.set_cons_zero, List.set_cons_succ, RS.bind_nx, RS.bind_rt, RS.bind_exc, List.replicate, R.nox_ok, wipeE, f__law_linked_book, t1, ad, t2, t3, if_pos hz2]
theorem some_book_ok {n : Nat} (h : 4 ≤ n) {L0 : LH} {l : Nat} {a b : Int} (s : src L0 l a b) (hf : Flat L0) {p q : Int} (hp : 1 ≤ p ∧ p ≤ 6) (hq : 1 ≤ q ∧ q ≤ 60) :
    ∃ st ls a' b', callN T n i__law_some_book [.loc l, .int p, .int q] L0 = .ok (bookD st ls) (put2 L0 l a' b') ∧ BookOk st ls ∧ (st.length : Int) ≤ p ∧ ∀ x ∈ st, x ≤ q := by
  obtain ⟨n, rfl, _⟩ := pre h
  obtain ⟨v, L1, v0, v1, t1, a1⟩ := take_at (n := n) (by omega) s (At.refl s) 2 (by omega)
  have hf1 := a1.flat hf
  obtain ⟨a2, b2, s2⟩ := a1.src s
  obtain ⟨c, d, rfl⟩ := a1
  cases hv : (v == 0) with
  | true =>
    obtain ⟨st, ls, a', b', t2, e1, e2, e3, _⟩ := plain_book_ok (n := n) (by omega) s2 hp hq
    rw [put2_put2] at t2
    refine ⟨st, ls, a', b', ?_, e1, e2, e3⟩
    rw [call_of (fn := f__law_some_book) rfl rfl]
    simp (disch := first | omega | assumption | rfl) only [exSs, exS, evE, evEs, startE, bndR, List.map_cons, List.map_nil, List.length_cons, List.length_nil, List.cons_append, List.nil_append, List.getElem?_cons_zero, List.getElem?_cons_succ, R.bind_ok, R.bind_exc, R.st_ok, R.st_exc, call_eq, callL_eq, truth_bl, truth_int, Nat.reduceAdd, Nat.reduceSub, Int.cast_ofNat_Int, Int.reduceBEq, beq_self_eq_true, Bool.not_true, Bool.not_false, Int.reduceNeg, decide_true, decide_false, Bool.or_false, Bool.and_true, Bool.true_and, Bool.and_false, Bool.false_and, eT_ev, itD_seq, itemsD_tup, itemsD_lst, bi_all, bi_any, bi_len, lenD_tup, lenD_lst, lcEnd_f, List.length_map, List.all_cons, List.all_nil, id_eq, endR_rt, endR_nx, endR_exc, opt_some, Option.map_some, Tg.put, putMany, List.set_cons_zero, List.set_cons_succ, RS.bind_nx, RS.bind_rt, RS.bind_exc, List.replicate, R.nox_ok, wipeE, f__law_some_book, t1, cmp_eq, eqD_int, hv, t2]
  | false =>
    obtain ⟨st, ls, a', b', t2, e1, e2, e3⟩ := linked_book_ok (n := n) (by omega) s2 hf1 hp hq
    rw [put2_put2] at t2
    refine ⟨st, ls, a', b', ?_, e1, e2, e3⟩
    rw [call_of (fn := f__law_some_book) rfl rfl]
    simp (disch := first | omega | assumption | rfl) only [exSs, exS, evE, evEs, startE, bndR, List.map_cons, List.map_nil, List.length_cons, List.length_nil, List.cons_append, List.nil_append, List.getElem?_cons_zero, List.getElem?_cons_succ, R.bind_ok, R.bind_exc, R.st_ok, R.st_exc, call_eq, callL_eq, truth_bl, truth_int, Nat.reduceAdd, Nat.reduceSub, Int.cast_ofNat_Int, Int.reduceBEq, beq_self_eq_true, Bool.not_true, Bool.not_false, Int.reduceNeg, decide_true, decide_false, Bool.or_false, Bool.and_true, Bool.true_and, Bool.and_false, Bool.false_and, eT_ev, itD_seq, itemsD_tup, itemsD_lst, bi_all, bi_any, bi_len, lenD_tup, lenD_lst, lcEnd_f, List.length_map, List.all_cons, List.all_nil, id_eq, endR_rt, endR_nx, endR_exc, opt_some, Option.map_some, Tg.put, putMany, List.set_cons_zero, List.set_cons_succ, RS.bind_nx, RS.bind_rt, RS.bind_exc, List.replicate, R.nox_ok, wipeE, f__law_some_book, t1, cmp_eq, eqD_int, hv, t2]
end Lw
end

section
set_option Elab.async false
set_option linter.all false
set_option maxRecDepth 100000
set_option maxHeartbeats 1000000
/-! instances: general; numbers put; halves -/
namespace Lw
open PySem (Str)
open Ev
/-! ### instances -/
theorem methAt_loc {L : LH} {l c : Nat} {fs : List (Nat × D)} (h : L[l]? = some (.ins c fs)) (ms : List (Nat × Nat)) : methAt L (.loc l) ms = ms.lookup c := by simp only [methAt, h]
theorem attr_loc {L : LH} {l c : Nat} {fs : List (Nat × D)} (h : L[l]? = some (.ins c fs)) (f : Nat) : attrD L (.loc l) f = fs.lookup f := by simp only [attrD, h]
theorem setAt_loc {L : LH} {l c : Nat} {fs : List (Nat × D)} (h : L[l]? = some (.ins c fs)) {cs : List Nat} (hc : cs.contains c = true) (hl : decide (fs.length < 100) = true) (f : Nat) (v : D) : setAt L (.loc l) cs f v = some (L.set l (.ins c (putFd f v fs))) := by
  simp only [setAt, h, hc, hl, Bool.and_self, if_true]
theorem get_last (L : LH) (o : O) : (L ++ [o])[L.length]? = some o := by rw [List.getElem?_append_right (Nat.le_refl _)]; simp
theorem set_last (L : LH) (o o' : O) : (L ++ [o]).set L.length o' = L ++ [o'] := by rw [List.set_append_right _ _ (Nat.le_refl _)]; simp
theorem get_set {L : LH} {l : Nat} {o : O} (h : L[l]? = some o) (o' : O) : (L.set l o')[l]? = some o' := List.getElem?_set_self (List.getElem?_eq_some_iff.mp h).1
theorem newEnd_non (l : Nat) (L : LH) : newEnd l .non L = .ok (.loc l) L := rfl
theorem bndF (d : D) : bnd false d = some none := rfl
theorem bndT (i : Int) : bnd true (.int i) = some (some i) := rfl
theorem fdiv2 (x : Int) : binD .fdiv (.int x) (.int 2) = some (.int (x / 2)) := rfl
theorem fdiv_pos (x m : Int) (h : 1 ≤ m ∧ m ≤ 1000) : binD .fdiv (.int x) (.int m) = some (.int (x / m)) := by
  have : (decide (0 < m) && decide (m < 1073741824)) = true := by rw [decide_eq_true (by omega), decide_eq_true (by omega)]; rfl
  simp only [binD]
  rw [if_pos this]
theorem cast1 (p : Nat) : ((p + 1 : Nat) : Int) = (p : Int) + 1 := by omega
/-! ### numbers with one put -/
theorem idx_ti {xs : List Int} {p : Nat} (h : p < xs.length) (L : LH) : idxD L (ti xs) (.int (p : Int)) = some (.int (xs.getD p 0)) := by
  have := atI_z (xs := xs) (j := (p : Int)) (by omega) (by omega)
  rwa [Int.toNat_natCast] at this
theorem book0 (st : List Int) (ls : List (List Int)) (L : LH) : idxD L (bookD st ls) (.int 0) = some (ti st) := rfl
theorem book1 (st : List Int) (ls : List (List Int)) (L : LH) : idxD L (bookD st ls) (.int 1) = some (.tup (ls.map ti)) := rfl
theorem put_to_ok {n : Nat} (h : 1 ≤ n) {xs : List Int} {p : Nat} (hp : p < xs.length) (hl : xs.length ≤ 1000) (w : Int) (L : LH) : callN T n i_put_to [ti xs, .int p, .int w] L = .ok (ti (xs.set p (xs.getD p 0 + w))) L := by
  obtain ⟨n, rfl, _⟩ := pre h
  rw [call_of (fn := f_put_to) rfl rfl]
  have i1 : ∀ L, idxD L (ti xs) (.int (p : Int)) = some (.int (xs.getD p 0)) := idx_ti hp
  have c1 : sliceD (ti xs) none (some (p : Int)) = some (.tup ((xs.map D.int).take p)) := congrArg (fun z => some (D.tup z)) (cut_to _ _ (by rw [List.length_map]; omega))
  have c2 : sliceD (ti xs) (some ((p : Int) + 1)) none = some (.tup ((xs.map D.int).drop (p + 1))) := by
    rw [← cast1]
    exact congrArg (fun z => some (D.tup z)) (cut_from _ _ (by rw [List.length_map]; omega))
  have hz1 : (1 : Nat) ≤ size16 := by unfold size16; omega
  have j1 := add_tup ((xs.map D.int).take p) [.int (xs.getD p 0 + w)] (by rw [List.length_take, List.length_map, List.length_singleton]; unfold size16; omega)
  have j2 := add_tup ((xs.map D.int).take p ++ [.int (xs.getD p 0 + w)]) ((xs.map D.int).drop (p + 1)) (by rw [List.length_append, List.length_take, List.length_map, List.length_singleton, List.length_drop, List.length_map]; unfold size16; omega)
  have e : (xs.map D.int).take p ++ [.int (xs.getD p 0 + w)] ++ (xs.map D.int).drop (p + 1) = (xs.set p (xs.getD p 0 + w)).map .int := by rw [set_parts _ _ _ (by rw [List.length_map]; exact hp), List.map_set]
  rw [e] at j2
  have ad1 := add_int (xs.getD p 0) w
  have ad2 := add_int (p : Int) 1
  show _ = R.ok (D.tup ((xs.set p (xs.getD p 0 + w)).map D.int)) L
  generalize (xs.set p (xs.getD p 0 + w)).map D.int = res at *
  generalize (xs.map D.int).take p ++ [.int (xs.getD p 0 + w)] = r1 at *
  generalize (xs.map D.int).take p = r0 at *
  generalize (xs.map D.int).drop (p + 1) = r2 at *
  generalize xs.getD p 0 + w = v at *
  generalize (p : Int) + 1 = p1 at *
  generalize ti xs = X at *
  simp -implicitDefEqProofs (disch := first | omega | assumption | rfl) only [exSs, exS, evE, evEs, startE, bndR, List.map_cons, List.map_nil, List.length_cons, List.length_nil, List.cons_append, List.nil_append, List.getElem?_cons_zero, List.getElem?_cons_succ, R.bind_ok, R.bind_exc, R.st_ok, R.st_exc, call_eq, callL_eq, truth_bl, truth_int, Nat.reduceAdd, Nat.reduceSub, Int.cast_ofNat_Int, Int.reduceBEq, beq_self_eq_true, Bool.not_true, Bool.not_false, Int.reduceNeg, decide_true, decide_false, Bool.or_false, Bool.and_true, Bool.true_and, Bool.and_false, Bool.false_and, eT_ev, itD_seq, itemsD_tup, itemsD_lst, bi_all, bi_any, bi_len, lenD_tup, lenD_lst, lcEnd_f, List.length_map, List.all_cons, List.all_nil, id_eq, endR_rt, endR_nx, endR_exc, opt_some, Option.map_some, Tg.put, putMany, List.set_cons_zero, List.set_cons_succ, RS.bind_nx, RS.bind_rt, RS.bind_exc, List.replicate, R.nox_ok, wipeE, f_put_to, bndF, bndT, c1, i1, ad1, if_pos hz1, j1, ad2, c2, j2]
/-! ### the nearest number -/
def near (t m a : Int) : Int := (t + (m - 1 + a) / 2) / m
theorem nearest_ok {n : Nat} (h : 1 ≤ n) {t m a : Int} (hm : 1 ≤ m ∧ m ≤ 60) (L : LH) : callN T n i_nearest [.int t, .int m, .int a] L = .ok (.int (near t m a)) L := by
  obtain ⟨n, rfl, _⟩ := pre h
  rw [call_of (fn := f_nearest) rfl rfl]
  have s1 := sub_int m 1
  have a1 := add_int (m - 1) a
  have d1 := fdiv2 (m - 1 + a)
  have a2 := add_int t ((m - 1 + a) / 2)
  have d2 := fdiv_pos (t + (m - 1 + a) / 2) m (by omega)
  unfold near
  generalize (t + (m - 1 + a) / 2) / m = r at *
  generalize t + (m - 1 + a) / 2 = r1 at *
  generalize (m - 1 + a) / 2 = r2 at *
  generalize m - 1 + a = r3 at *
  generalize m - 1 = r4 at *
  simp -implicitDefEqProofs (disch := first | omega | assumption | rfl) only [exSs, exS, evE, evEs, startE, bndR, List.map_cons, List.map_nil, List.length_cons, List.length_nil, List.cons_append, List.nil_append, List.getElem?_cons_zero, List.getElem?_cons_succ, R.bind_ok, R.bind_exc, R.st_ok, R.st_exc, call_eq, callL_eq, truth_bl, truth_int, Nat.reduceAdd, Nat.reduceSub, Int.cast_ofNat_Int, Int.reduceBEq, beq_self_eq_true, Bool.not_true, Bool.not_false, Int.reduceNeg, decide_true, decide_false, Bool.or_false, Bool.and_true, Bool.true_and, Bool.and_false, Bool.false_and, eT_ev, itD_seq, itemsD_tup, itemsD_lst, bi_all, bi_any, bi_len, lenD_tup, lenD_lst, lcEnd_f, List.length_map, List.all_cons, List.all_nil, id_eq, endR_rt, endR_nx, endR_exc, opt_some, Option.map_some, Tg.put, putMany, List.set_cons_zero, List.set_cons_succ, RS.bind_nx, RS.bind_rt, RS.bind_exc, List.replicate, R.nox_ok, wipeE, f_nearest, s1, a1, d1, a2, d2]
theorem near_zero {m a : Int} (hm : 1 ≤ m) (ha : a = 0 ∨ a = 1) : near 0 m a = 0 := by
  unfold near
  apply Int.ediv_eq_zero_of_lt
  · rcases ha with rfl | rfl <;> omega
  · rcases ha with rfl | rfl <;> omega
/-- by how much the number shown is off: between c - (m - 1) and c -/
theorem near_stray {t m a : Int} (hm : 1 ≤ m) : (m - 1 + a) / 2 - (m - 1) ≤ near t m a * m - t ∧ near t m a * m - t ≤ (m - 1 + a) / 2 := by
  unfold near
  have h1 := Int.emod_add_mul_ediv (t + (m - 1 + a) / 2) m
  have h2 := Int.emod_nonneg (t + (m - 1 + a) / 2) (show m ≠ 0 by omega)
  have h3 := Int.emod_lt_of_pos (t + (m - 1 + a) / 2) (show 0 < m by omega)
  generalize (t + (m - 1 + a) / 2) / m = q at *
  generalize (t + (m - 1 + a) / 2) % m = r at *
  rw [Int.mul_comm q m]
  generalize m * q = mq at *
  omega
theorem near_step {t m a w : Int} (hm : 1 ≤ m) (hw : w = 1 ∨ w = -1) : near (t + w) m a - near t m a = 0 ∨ near (t + w) m a - near t m a = 1 ∨ near (t + w) m a - near t m a = -1 := by
  obtain ⟨p1, p2⟩ := near_stray (t := t) (a := a) hm
  obtain ⟨q1, q2⟩ := near_stray (t := t + w) (a := a) hm
  generalize near (t + w) m a = x at *
  generalize near t m a = y at *
  have e : x * m = (x - y) * m + y * m := by rw [Int.sub_mul]; omega
  rw [e] at q1 q2
  generalize y * m = ym at *
  generalize hd : x - y = d at *
  by_cases c1 : 2 ≤ d
  · have : 2 * m ≤ d * m := Int.mul_le_mul_of_nonneg_right c1 (by omega)
    omega
  · by_cases c2 : d ≤ -2
    · have : d * m ≤ (-2) * m := Int.mul_le_mul_of_nonneg_right c2 (by omega)
      omega
    · omega
end Lw
end

section
set_option Elab.async false
set_option linter.all false
set_option maxRecDepth 100000
set_option maxHeartbeats 1000000
/-! halves: the player -/
namespace Lw
open PySem (Str)
open Ev
/-- ties of as many parts -/
structure TOk (ta : List Int) (N : Nat) : Prop where
  len : ta.length = N
  rng : ∀ a ∈ ta, a = 0 ∨ a = 1
def hO (st : List Int) (ls : List (List Int)) (ta ts : List Int) : O := .ins k_HalvesPlayer [(a_book, bookD st ls), (a_ties, ti ta), (a_truths, ti ts)]
section
variable {st : List Int} {ls : List (List Int)} {ta ts : List Int}
theorem hO_book {L : LH} {l : Nat} (h : L[l]? = some (hO st ls ta ts)) : attrD L (.loc l) a_book = some (bookD st ls) := by rw [attr_loc h]; rfl
theorem hO_ties {L : LH} {l : Nat} (h : L[l]? = some (hO st ls ta ts)) : attrD L (.loc l) a_ties = some (ti ta) := by rw [attr_loc h]; rfl
theorem hO_truths {L : LH} {l : Nat} (h : L[l]? = some (hO st ls ta ts)) : attrD L (.loc l) a_truths = some (ti ts) := by rw [attr_loc h]; rfl
theorem hO_set {L : LH} {l : Nat} (h : L[l]? = some (hO st ls ta ts)) (us : List Int) : setAt L (.loc l) [k_HalvesPlayer] a_truths (ti us) = some (L.set l (hO st ls ta us)) := by
  rw [setAt_loc h rfl rfl]; rfl
theorem hO_new {n : Nat} (h : 1 ≤ n) (L : LH) : callN T n i_HalvesPlayer___init__ [.loc L.length, bookD st ls, ti ta, ti ts] (L ++ [.ins k_HalvesPlayer []]) = .ok .non (L ++ [hO st ls ta ts]) := by
  obtain ⟨n, rfl, _⟩ := pre h
  rw [call_of (fn := f_HalvesPlayer___init__) rfl rfl]
  have g0 := get_last L (.ins k_HalvesPlayer [])
  have s0 := setAt_loc g0 (cs := [k_HalvesPlayer]) rfl rfl a_book (bookD st ls)
  rw [set_last] at s0
  have g1 := get_last L (.ins k_HalvesPlayer (putFd a_book (bookD st ls) []))
  have s1 := setAt_loc g1 (cs := [k_HalvesPlayer]) rfl rfl a_ties (ti ta)
  rw [set_last] at s1
  have g2 := get_last L (.ins k_HalvesPlayer (putFd a_ties (ti ta) (putFd a_book (bookD st ls) [])))
  have s2 := setAt_loc g2 (cs := [k_HalvesPlayer]) rfl rfl a_truths (ti ts)
  rw [set_last] at s2
  have e : O.ins k_HalvesPlayer (putFd a_truths (ti ts) (putFd a_ties (ti ta) (putFd a_book (bookD st ls) []))) = hO st ls ta ts := rfl
  rw [e] at s2
  clear g0 g1 g2
  generalize L ++ [O.ins k_HalvesPlayer (putFd a_ties (ti ta) (putFd a_book (bookD st ls) []))] = L2 at *
  generalize L ++ [O.ins k_HalvesPlayer (putFd a_book (bookD st ls) [])] = L1 at *
  generalize L ++ [O.ins k_HalvesPlayer []] = L0 at *
  generalize L ++ [hO st ls ta ts] = L3 at *
  generalize ti ts = A at *
  generalize ti ta = B at *
  generalize bookD st ls = C at *
  simp -implicitDefEqProofs (disch := first | omega | assumption | rfl) only [exSs, exS, evE, evEs, startE, bndR, List.map_cons, List.map_nil, List.length_cons, List.length_nil, List.cons_append, List.nil_append, List.getElem?_cons_zero, List.getElem?_cons_succ, R.bind_ok, R.bind_exc, R.st_ok, R.st_exc, call_eq, callL_eq, truth_bl, truth_int, Nat.reduceAdd, Nat.reduceSub, Int.cast_ofNat_Int, Int.reduceBEq, beq_self_eq_true, Bool.not_true, Bool.not_false, Int.reduceNeg, decide_true, decide_false, Bool.or_false, Bool.and_true, Bool.true_and, Bool.and_false, Bool.false_and, eT_ev, itD_seq, itemsD_tup, itemsD_lst, bi_all, bi_any, bi_len, lenD_tup, lenD_lst, lcEnd_f, List.length_map, List.all_cons, List.all_nil, id_eq, endR_rt, endR_nx, endR_exc, opt_some, Option.map_some, Tg.put, putMany, List.set_cons_zero, List.set_cons_succ, RS.bind_nx, RS.bind_rt, RS.bind_exc, List.replicate, R.nox_ok, wipeE, f_HalvesPlayer___init__, s0, s1, s2]
theorem hO_copy {n : Nat} (h : 2 ≤ n) {L : LH} {l : Nat} (g : L[l]? = some (hO st ls ta ts)) : callN T n i_HalvesPlayer_copy [.loc l] L = .ok (.loc L.length) (L ++ [hO st ls ta ts]) := by
  obtain ⟨n, rfl, _⟩ := pre h
  rw [call_of (fn := f_HalvesPlayer_copy) rfl rfl]
  have w := hO_new (st := st) (ls := ls) (ta := ta) (ts := ts) (n := n) (by omega) L
  have b := hO_book g
  have c := hO_ties g
  have d := hO_truths g
  generalize L ++ [hO st ls ta ts] = L3 at *
  generalize ti ts = A at *
  generalize ti ta = B at *
  generalize bookD st ls = C at *
  simp -implicitDefEqProofs (disch := first | omega | assumption | rfl) only [exSs, exS, evE, evEs, startE, bndR, List.map_cons, List.map_nil, List.length_cons, List.length_nil, List.cons_append, List.nil_append, List.getElem?_cons_zero, List.getElem?_cons_succ, R.bind_ok, R.bind_exc, R.st_ok, R.st_exc, call_eq, callL_eq, truth_bl, truth_int, Nat.reduceAdd, Nat.reduceSub, Int.cast_ofNat_Int, Int.reduceBEq, beq_self_eq_true, Bool.not_true, Bool.not_false, Int.reduceNeg, decide_true, decide_false, Bool.or_false, Bool.and_true, Bool.true_and, Bool.and_false, Bool.false_and, eT_ev, itD_seq, itemsD_tup, itemsD_lst, bi_all, bi_any, bi_len, lenD_tup, lenD_lst, lcEnd_f, List.length_map, List.all_cons, List.all_nil, id_eq, endR_rt, endR_nx, endR_exc, opt_some, Option.map_some, Tg.put, putMany, List.set_cons_zero, List.set_cons_succ, RS.bind_nx, RS.bind_rt, RS.bind_exc, List.replicate, R.nox_ok, wipeE, f_HalvesPlayer_copy, b, c, d, w, newEnd_non]
theorem number_ok {n : Nat} (h : 2 ≤ n) (bk : BookOk st ls) (tk : TOk ta st.length) (hl : ts.length = st.length) {L : LH} {l : Nat} (g : L[l]? = some (hO st ls ta ts)) {p : Nat} (hp : p < st.length) :
    callN T n i_HalvesPlayer_number [.loc l, .int p] L = .ok (.int (near (ts.getD p 0) (st.getD p 0) (ta.getD p 0))) L := by
  obtain ⟨n, rfl, _⟩ := pre h
  rw [call_of (fn := f_HalvesPlayer_number) rfl rfl]
  have b := hO_book g
  have c := hO_ties g
  have d := hO_truths g
  have i1 := idx_ti (xs := ts) (p := p) (by omega) L
  have i2 := idx_ti (xs := st) (p := p) (by omega) L
  have i3 := idx_ti (xs := ta) (p := p) (by rw [tk.len]; exact hp) L
  have b0 := book0 st ls L
  have hs : 1 ≤ st.getD p 0 ∧ st.getD p 0 ≤ 60 := by
    rw [List.getD_eq_getElem?_getD, List.getElem?_eq_getElem hp]
    exact bk.st _ (List.getElem_mem hp)
  have w := nearest_ok (n := n) (by omega) (t := ts.getD p 0) (a := ta.getD p 0) hs L
  generalize near (ts.getD p 0) (st.getD p 0) (ta.getD p 0) = r at *
  generalize ts.getD p 0 = x1 at *
  generalize st.getD p 0 = x2 at *
  generalize ta.getD p 0 = x3 at *
  generalize bookD st ls = C at *
  generalize ti ts = A at *
  generalize ti ta = B at *
  generalize ti st = S at *
  simp -implicitDefEqProofs (disch := first | omega | assumption | rfl) only [exSs, exS, evE, evEs, startE, bndR, List.map_cons, List.map_nil, List.length_cons, List.length_nil, List.cons_append, List.nil_append, List.getElem?_cons_zero, List.getElem?_cons_succ, R.bind_ok, R.bind_exc, R.st_ok, R.st_exc, call_eq, callL_eq, truth_bl, truth_int, Nat.reduceAdd, Nat.reduceSub, Int.cast_ofNat_Int, Int.reduceBEq, beq_self_eq_true, Bool.not_true, Bool.not_false, Int.reduceNeg, decide_true, decide_false, Bool.or_false, Bool.and_true, Bool.true_and, Bool.and_false, Bool.false_and, eT_ev, itD_seq, itemsD_tup, itemsD_lst, bi_all, bi_any, bi_len, lenD_tup, lenD_lst, lcEnd_f, List.length_map, List.all_cons, List.all_nil, id_eq, endR_rt, endR_nx, endR_exc, opt_some, Option.map_some, Tg.put, putMany, List.set_cons_zero, List.set_cons_succ, RS.bind_nx, RS.bind_rt, RS.bind_exc, List.replicate, R.nox_ok, wipeE, f_HalvesPlayer_number, b, c, d, i1, i2, i3, b0, w]
/-- the change told of a part -/
def chgD (p : Nat) (b : Int) : D := if b = 0 then .tup [] else .tup [.tup [.int (p : Int), .int b]]
abbrev nb (st ta ts : List Int) (p : Nat) : Int := near (ts.getD p 0) (st.getD p 0) (ta.getD p 0)
theorem hO_moved {n : Nat} (h : 3 ≤ n) (bk : BookOk st ls) (tk : TOk ta st.length) (hl : ts.length = st.length) {L : LH} {l : Nat} (g : L[l]? = some (hO st ls ta ts)) {p : Nat} (hp : p < st.length) (w : Int) :
    callN T n i_HalvesPlayer_moved [.loc l, .int p, .int w] L = .ok (chgD p (nb st ta (ts.set p (ts.getD p 0 + w)) p - nb st ta ts p)) (L.set l (hO st ls ta (ts.set p (ts.getD p 0 + w)))) := by
  obtain ⟨n, rfl, _⟩ := pre h
  rw [call_of (fn := f_HalvesPlayer_moved) rfl rfl]
  have h6 := bk.le
  have n1 := number_ok (n := n) (by omega) bk tk hl g hp
  have d := hO_truths g
  have pt := put_to_ok (n := n) (by omega) (xs := ts) (p := p) (by omega) (by omega) w L
  have st1 := hO_set g (ts.set p (ts.getD p 0 + w))
  have g2 := get_set g (hO st ls ta (ts.set p (ts.getD p 0 + w)))
  have n2 := number_ok (n := n) (by omega) bk tk (by rw [List.length_set]; exact hl) g2 hp
  have m1 := methAt_loc g m_number
  have m2 := methAt_loc g2 m_number
  have e : List.lookup k_HalvesPlayer m_number = some i_HalvesPlayer_number := rfl
  rw [e] at m1 m2
  have sb := sub_int (nb st ta (ts.set p (ts.getD p 0 + w)) p) (nb st ta ts p)
  have hz0 : (0 : Nat) ≤ size16 := by unfold size16; omega
  have hz1 : (1 : Nat) ≤ size16 := by unfold size16; omega
  have hz2 : (2 : Nat) ≤ size16 := by unfold size16; omega
  clear g g2
  show _ = R.ok (chgD p (nb st ta (ts.set p (ts.getD p 0 + w)) p - nb st ta ts p)) _
  unfold chgD
  change callN T n i_HalvesPlayer_number [.loc l, .int p] L = .ok (.int (nb st ta ts p)) L at n1
  change callN T n i_HalvesPlayer_number [.loc l, .int p] _ = .ok (.int (nb st ta (ts.set p (ts.getD p 0 + w)) p)) _ at n2
  generalize nb st ta (ts.set p (ts.getD p 0 + w)) p = v2 at *
  generalize nb st ta ts p = v1 at *
  generalize L.set l (hO st ls ta (ts.set p (ts.getD p 0 + w))) = L2 at *
  generalize ti (ts.set p (ts.getD p 0 + w)) = A2 at *
  generalize ti ts = A at *
  by_cases c : v2 - v1 = 0
  · have c2 : (v2 - v1 == 0) = true := by rw [beq_iff_eq]; exact c
    rw [if_pos c]
    generalize v2 - v1 = v at *
    simp -implicitDefEqProofs (disch := first | omega | assumption | rfl) only [exSs, exS, evE, evEs, startE, bndR, List.map_cons, List.map_nil, List.length_cons, List.length_nil, List.cons_append, List.nil_append, List.getElem?_cons_zero, List.getElem?_cons_succ, R.bind_ok, R.bind_exc, R.st_ok, R.st_exc, call_eq, callL_eq, truth_bl, truth_int, Nat.reduceAdd, Nat.reduceSub, Int.cast_ofNat_Int, Int.reduceBEq, beq_self_eq_true, Bool.not_true, Bool.not_false, Int.reduceNeg, decide_true, decide_false, Bool.or_false, Bool.and_true, Bool.true_and, Bool.and_false, Bool.false_and, eT_ev, itD_seq, itemsD_tup, itemsD_lst, bi_all, bi_any, bi_len, lenD_tup, lenD_lst, lcEnd_f, List.length_map, List.all_cons, List.all_nil, id_eq, endR_rt, endR_nx, endR_exc, opt_some, Option.map_some, Tg.put, putMany, List.set_cons_zero, List.set_cons_succ, RS.bind_nx, RS.bind_rt, RS.bind_exc, List.replicate, R.nox_ok, wipeE, f_HalvesPlayer_moved, m1, n1, d, pt, st1, m2, n2, sb, cmp_ne, eqD_int, c2, if_pos hz0]
  · have c2 : (v2 - v1 == 0) = false := by rw [beq_eq_false_iff_ne]; exact c
    rw [if_neg c]
    generalize v2 - v1 = v at *
    simp -implicitDefEqProofs (disch := first | omega | assumption | rfl) only [exSs, exS, evE, evEs, startE, bndR, List.map_cons, List.map_nil, List.length_cons, List.length_nil, List.cons_append, List.nil_append, List.getElem?_cons_zero, List.getElem?_cons_succ, R.bind_ok, R.bind_exc, R.st_ok, R.st_exc, call_eq, callL_eq, truth_bl, truth_int, Nat.reduceAdd, Nat.reduceSub, Int.cast_ofNat_Int, Int.reduceBEq, beq_self_eq_true, Bool.not_true, Bool.not_false, Int.reduceNeg, decide_true, decide_false, Bool.or_false, Bool.and_true, Bool.true_and, Bool.and_false, Bool.false_and, eT_ev, itD_seq, itemsD_tup, itemsD_lst, bi_all, bi_any, bi_len, lenD_tup, lenD_lst, lcEnd_f, List.length_map, List.all_cons, List.all_nil, id_eq, endR_rt, endR_nx, endR_exc, opt_some, Option.map_some, Tg.put, putMany, List.set_cons_zero, List.set_cons_succ, RS.bind_nx, RS.bind_rt, RS.bind_exc, List.replicate, R.nox_ok, wipeE, f_HalvesPlayer_moved, m1, n1, d, pt, st1, m2, n2, sb, cmp_ne, eqD_int, c2, if_pos hz1, if_pos hz2]
end
/-! ### the making -/
section
variable {st : List Int} {ls : List (List Int)} {ta : List Int}
theorem tie_step {n : Nat} (h : 2 ≤ n) {a : Int} (ha : a = 0 ∨ a = 1) (L : LH) (x0 x1 : Option D) (k : D) : exSs (cfN T n) s_want_ties_1 [x0, x1, some k, some (.int a)] L = .nx [x0, x1, some k, some (.int a)] L := by
  have b := between_int (n := n) h a 0 1 L
  have e : (decide ((0 : Int) ≤ a) && decide (a ≤ 1)) = true := by rcases ha with rfl | rfl <;> rfl
  rw [e] at b
  simp -implicitDefEqProofs (disch := first | omega | assumption | rfl) only [exSs, exS, evE, evEs, startE, bndR, List.map_cons, List.map_nil, List.length_cons, List.length_nil, List.cons_append, List.nil_append, List.getElem?_cons_zero, List.getElem?_cons_succ, R.bind_ok, R.bind_exc, R.st_ok, R.st_exc, call_eq, callL_eq, truth_bl, truth_int, Nat.reduceAdd, Nat.reduceSub, Int.cast_ofNat_Int, Int.reduceBEq, beq_self_eq_true, Bool.not_true, Bool.not_false, Int.reduceNeg, decide_true, decide_false, Bool.or_false, Bool.and_true, Bool.true_and, Bool.and_false, Bool.false_and, eT_ev, itD_seq, itemsD_tup, itemsD_lst, bi_all, bi_any, bi_len, lenD_tup, lenD_lst, lcEnd_f, List.length_map, List.all_cons, List.all_nil, id_eq, endR_rt, endR_nx, endR_exc, opt_some, Option.map_some, Tg.put, putMany, List.set_cons_zero, List.set_cons_succ, RS.bind_nx, RS.bind_rt, RS.bind_exc, List.replicate, R.nox_ok, wipeE, s_want_ties_1, b]
theorem want_ties_ok {n : Nat} (h : 3 ≤ n) (tk : TOk ta st.length) (L : LH) : callN T n i_want_ties [bookD st ls, ti ta] L = .ok .non L := by
  obtain ⟨n, rfl, _⟩ := pre h
  rw [call_of (fn := f_want_ties) rfl rfl]
  obtain ⟨env1, ⟨a, b, rfl⟩, w1⟩ := forGo_keep (put := Tg.put (.tp [2, 3])) (body := exSs (cfN T n) s_want_ties_1) (L := L) (P := fun env => ∃ a b, env = [some (bookD st ls), some (ti ta), a, b]) (items := pairsE 0 (ta.map .int)) (env := [some (bookD st ls), some (ti ta), none, none]) ⟨_, _, rfl⟩ (by
    rintro x hx env ⟨a, b, rfl⟩
    obtain ⟨k, d, hk, rfl⟩ := mem_pairsE hx
    rw [List.getElem?_map] at hk
    cases hs : ta[k]? with
    | none => rw [hs] at hk; cases hk
    | some z =>
      rw [hs] at hk
      cases hk
      exact ⟨_, _, rfl, tie_step (n := n) (by omega) (tk.rng z (List.mem_of_getElem? hs)) L _ _ _, ⟨_, _, rfl⟩⟩)
  have h1 := many_ok (steps := st) (links := ls) (n := n) (by omega) L
  have i1 : itD .enum [ti ta] = some (pairsE 0 (ta.map .int)) := rfl
  have e1 : ((ta.length : Int) == (st.length : Int)) = true := by rw [tk.len]; simp
  have l1 : lenD L (ti ta) = some ta.length := by
    show some (ta.map D.int).length = _
    rw [List.length_map]
  have t1 : isinD (ti ta) [.tuple] = some true := rfl
  generalize pairsE 0 (ta.map .int) = P at *
  generalize bookD st ls = B at *
  generalize ti ta = A at *
  simp -implicitDefEqProofs (disch := first | omega | assumption | rfl) only [exSs, exS, evE, evEs, startE, bndR, List.map_cons, List.map_nil, List.length_cons, List.length_nil, List.cons_append, List.nil_append, List.getElem?_cons_zero, List.getElem?_cons_succ, R.bind_ok, R.bind_exc, R.st_ok, R.st_exc, call_eq, callL_eq, truth_bl, truth_int, Nat.reduceAdd, Nat.reduceSub, Int.cast_ofNat_Int, Int.reduceBEq, beq_self_eq_true, Bool.not_true, Bool.not_false, Int.reduceNeg, decide_true, decide_false, Bool.or_false, Bool.and_true, Bool.true_and, Bool.and_false, Bool.false_and, eT_ev, itD_seq, itemsD_tup, itemsD_lst, bi_all, bi_any, bi_len, lenD_tup, lenD_lst, lcEnd_f, List.length_map, List.all_cons, List.all_nil, id_eq, endR_rt, endR_nx, endR_exc, opt_some, Option.map_some, Tg.put, putMany, List.set_cons_zero, List.set_cons_succ, RS.bind_nx, RS.bind_rt, RS.bind_exc, List.replicate, R.nox_ok, wipeE, f_want_ties, t1, h1, i1, w1, l1, e1, cmp_ne, cmp_eq, eqD_int]
def zeros (N : Nat) : List Int := List.replicate N 0
theorem zeros_ev (N : Nat) (h : N ≤ 1000) : binD .mul (.tup [.int 0]) (.int (N : Int)) = some (ti (zeros N)) := by
  rw [mul_tup [.int 0] N (by simp) h, rep_int]; rfl
theorem halves_ok {n : Nat} (h : 7 ≤ n) (bk : BookOk st ls) (tk : TOk ta st.length) (L : LH) : callN T n i_halves [bookD st ls, ti ta] L = .ok (.loc L.length) (L ++ [hO st ls ta (zeros st.length)]) := by
  obtain ⟨n, rfl, _⟩ := pre h
  rw [call_of (fn := f_halves) rfl rfl]
  have h6 := bk.le
  have h1 := made_ok (n := n) (by omega) bk L
  have h2 := want_ties_ok (n := n) (ls := ls) (by omega) tk L
  have h3 := many_ok (steps := st) (links := ls) (n := n) (by omega) L
  have z := zeros_ev st.length (by omega)
  have w := hO_new (st := st) (ls := ls) (ta := ta) (ts := zeros st.length) (n := n) (by omega) L
  have hz1 : (1 : Nat) ≤ size16 := by unfold size16; omega
  generalize L ++ [hO st ls ta (zeros st.length)] = L3 at *
  generalize ti (zeros st.length) = Z at *
  generalize ti ta = A at *
  generalize bookD st ls = B at *
  simp -implicitDefEqProofs (disch := first | omega | assumption | rfl) only [exSs, exS, evE, evEs, startE, bndR, List.map_cons, List.map_nil, List.length_cons, List.length_nil, List.cons_append, List.nil_append, List.getElem?_cons_zero, List.getElem?_cons_succ, R.bind_ok, R.bind_exc, R.st_ok, R.st_exc, call_eq, callL_eq, truth_bl, truth_int, Nat.reduceAdd, Nat.reduceSub, Int.cast_ofNat_Int, Int.reduceBEq, beq_self_eq_true, Bool.not_true, Bool.not_false, Int.reduceNeg, decide_true, decide_false, Bool.or_false, Bool.and_true, Bool.true_and, Bool.and_false, Bool.false_and, eT_ev, itD_seq, itemsD_tup, itemsD_lst, bi_all, bi_any, bi_len, lenD_tup, lenD_lst, lcEnd_f, List.length_map, List.all_cons, List.all_nil, id_eq, endR_rt, endR_nx, endR_exc, opt_some, Option.map_some, Tg.put, putMany, List.set_cons_zero, List.set_cons_succ, RS.bind_nx, RS.bind_rt, RS.bind_exc, List.replicate, R.nox_ok, wipeE, f_halves, h1, h2, if_pos hz1, h3, z, w, newEnd_non]
end
end Lw
end

section
set_option Elab.async false
set_option linter.all false
set_option maxRecDepth 100000
set_option maxHeartbeats 1000000
/-! standings, runs of players whose changes are right -/
namespace Lw
open PySem (Str)
open Ev
def cgD (cs : List (Nat × Int)) : D := .tup (cs.map fun c => .tup [.int (c.1 : Int), .int c.2])
abbrev mvD (m : Nat × Int) : D := .tup [.int (m.1 : Int), .int m.2]
def histD (h : List (Nat × Int)) : D := .tup (h.map mvD)
abbrev stD (ts sh : List Int) : D := .tup [ti ts, ti sh]
def IsMv (N : Nat) (m : Nat × Int) : Prop := m.1 < N ∧ (m.2 = 1 ∨ m.2 = -1)
/-- right changes of parts that may be changed -/
structure CgOk (row : List Int) (N : Nat) (cs : List (Nat × Int)) : Prop where
  each : ∀ c ∈ cs, c.1 < N ∧ c.2 ≠ 0 ∧ (c.1 : Int) ∈ row
  asc : cs.Pairwise fun a b => a.1 < b.1
  len : cs.length ≤ 6
theorem idx_cg {cs : List (Nat × Int)} {k : Nat} (h : k < cs.length) (L : LH) : idxD L (cgD cs) (.int (k : Int)) = some (mvD cs[k]) := by
  show L2.atI (cs.map _) (k : Int) = _
  rw [atI_nat _ _ (by rw [List.length_map]; exact h), List.getElem_map]
theorem mv0 (m : Nat × Int) (L : LH) : idxD L (mvD m) (.int 0) = some (.int (m.1 : Int)) := by
  show L2.atI [D.int (m.1 : Int), .int m.2] 0 = _
  exact at0 _ _
theorem mv1 (m : Nat × Int) (L : LH) : idxD L (mvD m) (.int 1) = some (.int m.2) := by
  show L2.atI [D.int (m.1 : Int), .int m.2] 1 = _
  exact at1 _ _ _
section
variable {st : List Int} {ls : List (List Int)}
theorem change_ok {n : Nat} (h : 5 ≤ n) {c : Nat × Int} (hc : c.1 < st.length ∧ c.2 ≠ 0) (L : LH) : callN T n i_is_change [bookD st ls, mvD c] L = .ok (.bl true) L := by
  obtain ⟨n, rfl, _⟩ := pre h
  rw [call_of (fn := f_is_change) rfl rfl]
  have p := part_int (steps := st) (links := ls) (n := n) (by omega) (c.1 : Int) L
  have e : (decide ((0 : Int) ≤ (c.1 : Int)) && decide ((c.1 : Int) ≤ (st.length : Int) - 1)) = true := by rw [decide_eq_true (by omega), decide_eq_true (by omega)]; rfl
  rw [e] at p
  have w := whole_int (n := n) (by omega) c.2 L
  have ne : (c.2 == 0) = false := by rw [beq_eq_false_iff_ne]; exact hc.2
  have i0 := mv0 c L
  have i1 := mv1 c L
  have t1 : isinD (mvD c) [.tuple] = some true := rfl
  have l2 : lenD L (mvD c) = some 2 := rfl
  generalize mvD c = M at *
  generalize bookD st ls = B at *
  simp -implicitDefEqProofs (disch := first | omega | assumption | rfl) only [exSs, exS, evE, evEs, startE, bndR, List.map_cons, List.map_nil, List.length_cons, List.length_nil, List.cons_append, List.nil_append, List.getElem?_cons_zero, List.getElem?_cons_succ, R.bind_ok, R.bind_exc, R.st_ok, R.st_exc, call_eq, callL_eq, truth_bl, truth_int, Nat.reduceAdd, Nat.reduceSub, Int.cast_ofNat_Int, Int.reduceBEq, beq_self_eq_true, Bool.not_true, Bool.not_false, Int.reduceNeg, decide_true, decide_false, Bool.or_false, Bool.and_true, Bool.true_and, Bool.and_false, Bool.false_and, eT_ev, itD_seq, itemsD_tup, itemsD_lst, bi_all, bi_any, bi_len, lenD_tup, lenD_lst, lcEnd_f, List.length_map, List.all_cons, List.all_nil, id_eq, endR_rt, endR_nx, endR_exc, opt_some, Option.map_some, Tg.put, putMany, List.set_cons_zero, List.set_cons_succ, RS.bind_nx, RS.bind_rt, RS.bind_exc, List.replicate, R.nox_ok, wipeE, f_is_change, t1, l2, cmp_ne, eqD_int, i0, p, i1, w, ne]
theorem changes_ok {n : Nat} (h : 6 ≤ n) {row : List Int} {cs : List (Nat × Int)} (o : CgOk row st.length cs) (L : LH) : callN T n i_is_changes [bookD st ls, cgD cs] L = .ok (.bl true) L := by
  obtain ⟨n, rfl, _⟩ := pre h
  rw [call_of (fn := f_is_changes) rfl rfl]
  have hl := o.len
  have g1 : lcGo (Tg.put (.nm 2)) (evE (cfN T n) eT) (evE (cfN T n) e_is_changes_1) [some (bookD st ls), some (cgD cs), none, none] (cs.map mvD) L = .ok ((cs.map mvD).map fun _ => .bl true) L := lcGo_all fun x hx => by
    obtain ⟨c, hm, rfl⟩ := List.mem_map.mp hx
    refine ⟨_, rfl, rfl, ?_⟩
    have := o.each c hm
    have w := change_ok (st := st) (ls := ls) (n := n) (by omega) (c := c) ⟨this.1, this.2.1⟩ L
    generalize bookD st ls = B at *
    simp -implicitDefEqProofs (disch := first | omega | assumption | rfl) only [exSs, exS, evE, evEs, startE, bndR, List.map_cons, List.map_nil, List.length_cons, List.length_nil, List.cons_append, List.nil_append, List.getElem?_cons_zero, List.getElem?_cons_succ, R.bind_ok, R.bind_exc, R.st_ok, R.st_exc, call_eq, callL_eq, truth_bl, truth_int, Nat.reduceAdd, Nat.reduceSub, Int.cast_ofNat_Int, Int.reduceBEq, beq_self_eq_true, Bool.not_true, Bool.not_false, Int.reduceNeg, decide_true, decide_false, Bool.or_false, Bool.and_true, Bool.true_and, Bool.and_false, Bool.false_and, eT_ev, itD_seq, itemsD_tup, itemsD_lst, bi_all, bi_any, bi_len, lenD_tup, lenD_lst, lcEnd_f, List.length_map, List.all_cons, List.all_nil, id_eq, endR_rt, endR_nx, endR_exc, opt_some, Option.map_some, Tg.put, putMany, List.set_cons_zero, List.set_cons_succ, RS.bind_nx, RS.bind_rt, RS.bind_exc, List.replicate, R.nox_ok, wipeE, e_is_changes_1, w]
  have g2 : lcGo (Tg.put (.nm 3)) (evE (cfN T n) eT) (evE (cfN T n) e_is_changes_2) [some (bookD st ls), some (cgD cs), none, none] (rngL 0 ((cs.length : Int) - 1)) L = .ok ((rngL 0 ((cs.length : Int) - 1)).map fun _ => .bl true) L := lcGo_all fun x hx => by
    simp only [rngL, List.mem_map, List.mem_range] at hx
    obtain ⟨k, hk, rfl⟩ := hx
    refine ⟨_, rfl, rfl, ?_⟩
    have e2 : (0 : Int) + (k : Int) = ((k : Nat) : Int) := by omega
    have k1 : k + 1 < cs.length := by omega
    have a1 := idx_cg (cs := cs) (k := k) (by omega) L
    have a2 := idx_cg (cs := cs) k1 L
    rw [cast1] at a2
    have b1 := mv0 cs[k] L
    have b2 := mv0 cs[k + 1] L
    have lt : ((cs[k].1 : Nat) : Int) < ((cs[k + 1].1 : Nat) : Int) := by
      have := List.pairwise_iff_getElem.mp o.asc k (k + 1) (by omega) k1 (by omega)
      omega
    have c1 := cmp_lt ((cs[k].1 : Nat) : Int) ((cs[k + 1].1 : Nat) : Int)
    rw [decide_eq_true lt] at c1
    have ad := add_int (k : Int) 1
    rw [e2]
    generalize mvD cs[k] = M1 at *
    generalize mvD cs[k + 1] = M2 at *
    generalize (k : Int) + 1 = kk at *
    generalize cgD cs = C at *
    generalize bookD st ls = B at *
    simp -implicitDefEqProofs (disch := first | omega | assumption | rfl) only [exSs, exS, evE, evEs, startE, bndR, List.map_cons, List.map_nil, List.length_cons, List.length_nil, List.cons_append, List.nil_append, List.getElem?_cons_zero, List.getElem?_cons_succ, R.bind_ok, R.bind_exc, R.st_ok, R.st_exc, call_eq, callL_eq, truth_bl, truth_int, Nat.reduceAdd, Nat.reduceSub, Int.cast_ofNat_Int, Int.reduceBEq, beq_self_eq_true, Bool.not_true, Bool.not_false, Int.reduceNeg, decide_true, decide_false, Bool.or_false, Bool.and_true, Bool.true_and, Bool.and_false, Bool.false_and, eT_ev, itD_seq, itemsD_tup, itemsD_lst, bi_all, bi_any, bi_len, lenD_tup, lenD_lst, lcEnd_f, List.length_map, List.all_cons, List.all_nil, id_eq, endR_rt, endR_nx, endR_exc, opt_some, Option.map_some, Tg.put, putMany, List.set_cons_zero, List.set_cons_succ, RS.bind_nx, RS.bind_rt, RS.bind_exc, List.replicate, R.nox_ok, wipeE, e_is_changes_2, a1, b1, ad, a2, b2, c1]
  have hz : (cs.map mvD).length ≤ size16 := by rw [List.length_map]; unfold size16; omega
  have hz2 : (rngL 0 ((cs.length : Int) - 1)).length ≤ size16 := by rw [rngL_len]; unfold size16; omega
  have b1 : blsOf ((cs.map mvD).map fun _ => D.bl true) = some ((cs.map mvD).map fun _ => true) := bls_map _ _
  have b2 : blsOf ((rngL 0 ((cs.length : Int) - 1)).map fun _ => D.bl true) = some ((rngL 0 ((cs.length : Int) - 1)).map fun _ => true) := bls_map _ _
  have c1 : ((cs.map mvD).map fun _ => true).all id = true := by simp
  have c2 : ((rngL 0 ((cs.length : Int) - 1)).map fun _ => true).all id = true := by simp
  have r1 : itD .rng [.int ((cs.length : Int) - 1)] = some (rngL 0 ((cs.length : Int) - 1)) := itD_rng (by omega)
  have t1 : isinD (cgD cs) [.tuple] = some true := rfl
  have it1 : itemsD (cgD cs) = some (cs.map mvD) := rfl
  have l1 : lenD L (cgD cs) = some cs.length := by
    show some (cs.map mvD).length = _
    rw [List.length_map]
  have sb := sub_int (cs.length : Int) 1
  generalize (rngL 0 ((cs.length : Int) - 1)).map (fun _ => D.bl true) = B2 at *
  generalize (cs.map mvD).map (fun _ => D.bl true) = B1 at *
  generalize rngL 0 ((cs.length : Int) - 1) = RG at *
  generalize cs.map mvD = ML at *
  generalize (cs.length : Int) - 1 = cl at *
  generalize cgD cs = C at *
  generalize bookD st ls = B at *
  simp -implicitDefEqProofs (disch := first | omega | assumption | rfl) only [exSs, exS, evE, evEs, startE, bndR, List.map_cons, List.map_nil, List.length_cons, List.length_nil, List.cons_append, List.nil_append, List.getElem?_cons_zero, List.getElem?_cons_succ, R.bind_ok, R.bind_exc, R.st_ok, R.st_exc, call_eq, callL_eq, truth_bl, truth_int, Nat.reduceAdd, Nat.reduceSub, Int.cast_ofNat_Int, Int.reduceBEq, beq_self_eq_true, Bool.not_true, Bool.not_false, Int.reduceNeg, decide_true, decide_false, Bool.or_false, Bool.and_true, Bool.true_and, Bool.and_false, Bool.false_and, eT_ev, itD_seq, itemsD_tup, itemsD_lst, bi_all, bi_any, bi_len, lenD_tup, lenD_lst, lcEnd_f, List.length_map, List.all_cons, List.all_nil, id_eq, endR_rt, endR_nx, endR_exc, opt_some, Option.map_some, Tg.put, putMany, List.set_cons_zero, List.set_cons_succ, RS.bind_nx, RS.bind_rt, RS.bind_exc, List.replicate, R.nox_ok, wipeE, f_is_changes, t1, it1, if_pos hz, g1, b1, c1, l1, sb, r1, if_pos hz2, g2, b2, c2]
theorem inside_ok {n : Nat} (h : 1 ≤ n) {p : Nat} {row : List Int} (hr : ls[p]? = some row) {cs : List (Nat × Int)} (o : CgOk row st.length cs) (L : LH) : callN T n i_first_outside [bookD st ls, .int (p : Int), cgD cs] L = .ok .non L := by
  obtain ⟨n, rfl, _⟩ := pre h
  rw [call_of (fn := f_first_outside) rfl rfl]
  have c : ∀ L, idxD L (.tup (ls.map ti)) (.int (p : Nat)) = some (ti row) := fun L => by
    obtain ⟨hp, e⟩ := List.getElem?_eq_some_iff.mp hr
    rw [idx_tup, atI_nat _ _ (by rw [List.length_map]; exact hp), List.getElem_map, e]
  obtain ⟨env1, ⟨a, b, rfl⟩, w1⟩ := forGo_keep (put := Tg.put (.tp [3, 4])) (body := exSs (cfN T n) s_first_outside_1) (L := L) (P := fun env => ∃ a b, env = [some (bookD st ls), some (.int (p : Int)), some (cgD cs), a, b]) (items := cs.map mvD) (env := [some (bookD st ls), some (.int (p : Int)), some (cgD cs), none, none]) ⟨_, _, rfl⟩ (by
    rintro x hx env ⟨a, b, rfl⟩
    obtain ⟨d, hm, rfl⟩ := List.mem_map.mp hx
    have i1 := inD_int (d.1 : Int) row
    rw [decide_eq_true (o.each d hm).2.2] at i1
    have k : cmpD .notin (.int (d.1 : Int)) (ti row) = some false := by
      show (inD (.int (d.1 : Int)) (row.map .int)).map (!·) = _
      rw [i1]; rfl
    have c' := c L
    have b1 := book1 st ls L
    refine ⟨[some (bookD st ls), some (.int (p : Int)), some (cgD cs), some (.int (d.1 : Int)), some (.int d.2)], [some (bookD st ls), some (.int (p : Int)), some (cgD cs), some (.int (d.1 : Int)), some (.int d.2)], rfl, ?_, ⟨_, _, rfl⟩⟩
    generalize bookD st ls = B at *
    generalize D.tup (ls.map ti) = M at *
    generalize ti row = S at *
    generalize cgD cs = C at *
    simp -implicitDefEqProofs (disch := first | omega | assumption | rfl) only [exSs, exS, evE, evEs, startE, bndR, List.map_cons, List.map_nil, List.length_cons, List.length_nil, List.cons_append, List.nil_append, List.getElem?_cons_zero, List.getElem?_cons_succ, R.bind_ok, R.bind_exc, R.st_ok, R.st_exc, call_eq, callL_eq, truth_bl, truth_int, Nat.reduceAdd, Nat.reduceSub, Int.cast_ofNat_Int, Int.reduceBEq, beq_self_eq_true, Bool.not_true, Bool.not_false, Int.reduceNeg, decide_true, decide_false, Bool.or_false, Bool.and_true, Bool.true_and, Bool.and_false, Bool.false_and, eT_ev, itD_seq, itemsD_tup, itemsD_lst, bi_all, bi_any, bi_len, lenD_tup, lenD_lst, lcEnd_f, List.length_map, List.all_cons, List.all_nil, id_eq, endR_rt, endR_nx, endR_exc, opt_some, Option.map_some, Tg.put, putMany, List.set_cons_zero, List.set_cons_succ, RS.bind_nx, RS.bind_rt, RS.bind_exc, List.replicate, R.nox_ok, wipeE, s_first_outside_1, b1, c', k])
  have it1 : itemsD (cgD cs) = some (cs.map mvD) := rfl
  generalize cs.map mvD = ML at *
  generalize cgD cs = C at *
  generalize bookD st ls = B at *
  simp -implicitDefEqProofs (disch := first | omega | assumption | rfl) only [exSs, exS, evE, evEs, startE, bndR, List.map_cons, List.map_nil, List.length_cons, List.length_nil, List.cons_append, List.nil_append, List.getElem?_cons_zero, List.getElem?_cons_succ, R.bind_ok, R.bind_exc, R.st_ok, R.st_exc, call_eq, callL_eq, truth_bl, truth_int, Nat.reduceAdd, Nat.reduceSub, Int.cast_ofNat_Int, Int.reduceBEq, beq_self_eq_true, Bool.not_true, Bool.not_false, Int.reduceNeg, decide_true, decide_false, Bool.or_false, Bool.and_true, Bool.true_and, Bool.and_false, Bool.false_and, eT_ev, itD_seq, itemsD_tup, itemsD_lst, bi_all, bi_any, bi_len, lenD_tup, lenD_lst, lcEnd_f, List.length_map, List.all_cons, List.all_nil, id_eq, endR_rt, endR_nx, endR_exc, opt_some, Option.map_some, Tg.put, putMany, List.set_cons_zero, List.set_cons_succ, RS.bind_nx, RS.bind_rt, RS.bind_exc, List.replicate, R.nox_ok, wipeE, f_first_outside, it1, w1]
/-- shown numbers behind changes -/
def addC (sh : List Int) (cs : List (Nat × Int)) : List Int := cs.foldl (fun s c => s.set c.1 (s.getD c.1 0 + c.2)) sh
theorem addC_len : ∀ (cs : List (Nat × Int)) (sh : List Int), (addC sh cs).length = sh.length
  | [], _ => rfl
  | c :: cs, sh => by
    show (addC (sh.set c.1 _) cs).length = _
    rw [addC_len cs, List.length_set]
theorem behind_loop {n : Nat} (h : 1 ≤ n) {N : Nat} (hN : N ≤ 1000) (L : LH) (x0 x1 x2 x3 : Option D) : ∀ (cs : List (Nat × Int)) (sh : List Int) (y z : Option D), (∀ c ∈ cs, c.1 < N) → sh.length = N →
    ∃ y' z', forGo (Tg.put (.tp [5, 6])) (exSs (cfN T n) s_state_behind_1) (cs.map mvD) [x0, x1, x2, x3, some (ti sh), y, z] L = .nx [x0, x1, x2, x3, some (ti (addC sh cs)), y', z'] L
  | [], sh, y, z, _, _ => ⟨y, z, rfl⟩
  | c :: cs, sh, y, z, hc, hl => by
    have w := put_to_ok (n := n) h (xs := sh) (p := c.1) (by rw [hl]; exact hc c List.mem_cons_self) (by omega) c.2 L
    have p1 : Tg.put (.tp [5, 6]) (mvD c) [x0, x1, x2, x3, some (ti sh), y, z] = some [x0, x1, x2, x3, some (ti sh), some (.int (c.1 : Int)), some (.int c.2)] := rfl
    have s1 : exSs (cfN T n) s_state_behind_1 [x0, x1, x2, x3, some (ti sh), some (.int (c.1 : Int)), some (.int c.2)] L = .nx [x0, x1, x2, x3, some (ti (sh.set c.1 (sh.getD c.1 0 + c.2))), some (.int (c.1 : Int)), some (.int c.2)] L := by
      generalize ti (sh.set c.1 (sh.getD c.1 0 + c.2)) = A2 at *
      generalize ti sh = A at *
      simp -implicitDefEqProofs (disch := first | omega | assumption | rfl) only [exSs, exS, evE, evEs, startE, bndR, List.map_cons, List.map_nil, List.length_cons, List.length_nil, List.cons_append, List.nil_append, List.getElem?_cons_zero, List.getElem?_cons_succ, R.bind_ok, R.bind_exc, R.st_ok, R.st_exc, call_eq, callL_eq, truth_bl, truth_int, Nat.reduceAdd, Nat.reduceSub, Int.cast_ofNat_Int, Int.reduceBEq, beq_self_eq_true, Bool.not_true, Bool.not_false, Int.reduceNeg, decide_true, decide_false, Bool.or_false, Bool.and_true, Bool.true_and, Bool.and_false, Bool.false_and, eT_ev, itD_seq, itemsD_tup, itemsD_lst, bi_all, bi_any, bi_len, lenD_tup, lenD_lst, lcEnd_f, List.length_map, List.all_cons, List.all_nil, id_eq, endR_rt, endR_nx, endR_exc, opt_some, Option.map_some, Tg.put, putMany, List.set_cons_zero, List.set_cons_succ, RS.bind_nx, RS.bind_rt, RS.bind_exc, List.replicate, R.nox_ok, wipeE, s_state_behind_1, w]
    obtain ⟨y', z', q⟩ := behind_loop h hN L x0 x1 x2 x3 cs (sh.set c.1 (sh.getD c.1 0 + c.2)) (some (.int (c.1 : Int))) (some (.int c.2)) (fun d hd => hc d (List.mem_cons_of_mem _ hd)) (by rw [List.length_set]; exact hl)
    refine ⟨y', z', ?_⟩
    rw [List.map_cons, forGo_nx p1 s1]
    exact q
theorem behind_ok {n : Nat} (h : 2 ≤ n) {N : Nat} (hN : N ≤ 1000) {ts sh : List Int} (h1 : ts.length = N) (h2 : sh.length = N) {m : Nat × Int} (hm : m.1 < N) {cs : List (Nat × Int)} (hc : ∀ c ∈ cs, c.1 < N) (L : LH) :
    callN T n i_state_behind [stD ts sh, mvD m, cgD cs] L = .ok (stD (ts.set m.1 (ts.getD m.1 0 + m.2)) (addC sh cs)) L := by
  obtain ⟨n, rfl, _⟩ := pre h
  rw [call_of (fn := f_state_behind) rfl rfl]
  obtain ⟨y, z, w1⟩ := behind_loop (n := n) (by omega) hN L (some (stD ts sh)) (some (mvD m)) (some (cgD cs)) (some (ti ts)) cs sh none none hc h2
  have w2 := put_to_ok (n := n) (by omega) (xs := ts) (p := m.1) (by omega) (by omega) m.2 L
  have it1 : itemsD (cgD cs) = some (cs.map mvD) := rfl
  have i0 := mv0 m L
  have i1 := mv1 m L
  have hz2 : (2 : Nat) ≤ size16 := by unfold size16; omega
  show _ = R.ok (D.tup [ti (ts.set m.1 (ts.getD m.1 0 + m.2)), ti (addC sh cs)]) L
  unfold stD at *
  generalize ti (ts.set m.1 (ts.getD m.1 0 + m.2)) = A2 at *
  generalize ti (addC sh cs) = B2 at *
  generalize cs.map mvD = ML at *
  generalize cgD cs = C at *
  generalize hM : mvD m = M at *
  generalize ti ts = A at *
  generalize ti sh = B at *
  simp -implicitDefEqProofs (disch := first | omega | assumption | rfl) only [exSs, exS, evE, evEs, startE, bndR, List.map_cons, List.map_nil, List.length_cons, List.length_nil, List.cons_append, List.nil_append, List.getElem?_cons_zero, List.getElem?_cons_succ, R.bind_ok, R.bind_exc, R.st_ok, R.st_exc, call_eq, callL_eq, truth_bl, truth_int, Nat.reduceAdd, Nat.reduceSub, Int.cast_ofNat_Int, Int.reduceBEq, beq_self_eq_true, Bool.not_true, Bool.not_false, Int.reduceNeg, decide_true, decide_false, Bool.or_false, Bool.and_true, Bool.true_and, Bool.and_false, Bool.false_and, eT_ev, itD_seq, itemsD_tup, itemsD_lst, bi_all, bi_any, bi_len, lenD_tup, lenD_lst, lcEnd_f, List.length_map, List.all_cons, List.all_nil, id_eq, endR_rt, endR_nx, endR_exc, opt_some, Option.map_some, Tg.put, putMany, List.set_cons_zero, List.set_cons_succ, RS.bind_nx, RS.bind_rt, RS.bind_exc, List.replicate, R.nox_ok, wipeE, f_state_behind, it1, w1, i0, i1, w2, if_pos hz2]
end
/-! ### a standing -/
def sO (st : List Int) (ls : List (List Int)) (pl : Nat) (ts sh : List Int) : O := .ins k_Standing [(a_book, bookD st ls), (a_player, .loc pl), (a_state, stD ts sh)]
/-- a player's doings: S its states, ob how it stands -/
structure Play (n : Nat) (st : List Int) (ls : List (List Int)) (S : Type) (ob : S → O) (chg : S → Nat → Int → List (Nat × Int)) (nxt : S → Nat → Int → S) (ok : S → Prop) : Prop where
  moved : ∀ {L : LH} {l : Nat} {s : S} {p : Nat} {w : Int}, ok s → L[l]? = some (ob s) → IsMv st.length (p, w) → ∃ j, methAt L (.loc l) m_moved = some j ∧ callN T n j [.loc l, .int (p : Int), .int w] L = .ok (cgD (chg s p w)) (L.set l (ob (nxt s p w)))
  keep : ∀ {s : S} {p : Nat} {w : Int}, ok s → IsMv st.length (p, w) → ok (nxt s p w)
  copy : ∀ {L : LH} {l : Nat} {s : S}, ok s → L[l]? = some (ob s) → ∃ j, methAt L (.loc l) m_copy = some j ∧ callN T n j [.loc l] L = .ok (.loc L.length) (L ++ [ob s])
  right : ∀ {s : S} {p : Nat} {w : Int} {row : List Int}, ok s → IsMv st.length (p, w) → ls[p]? = some row → CgOk row st.length (chg s p w)
theorem Play.mono {n k : Nat} {st : List Int} {ls : List (List Int)} {S : Type} {ob : S → O} {chg : S → Nat → Int → List (Nat × Int)} {nxt : S → Nat → Int → S} {ok : S → Prop} (h : ∀ k, n ≤ k → Play k st ls S ob chg nxt ok) (hk : n ≤ k) : Play k st ls S ob chg nxt ok := h k hk
section
variable {st : List Int} {ls : List (List Int)} {S : Type} {ob : S → O} {chg : S → Nat → Int → List (Nat × Int)} {nxt : S → Nat → Int → S} {ok : S → Prop} {pl q : Nat} {ts sh : List Int} {L : LH}
theorem sO_book (h : L[q]? = some (sO st ls pl ts sh)) : attrD L (.loc q) a_book = some (bookD st ls) := by rw [attr_loc h]; rfl
theorem sO_player (h : L[q]? = some (sO st ls pl ts sh)) : attrD L (.loc q) a_player = some (.loc pl) := by rw [attr_loc h]; rfl
theorem sO_state (h : L[q]? = some (sO st ls pl ts sh)) : attrD L (.loc q) a_state = some (stD ts sh) := by rw [attr_loc h]; rfl
theorem sO_set (h : L[q]? = some (sO st ls pl ts sh)) (us vs : List Int) : setAt L (.loc q) [k_Standing] a_state (stD us vs) = some (L.set q (sO st ls pl us vs)) := by
  rw [setAt_loc h rfl rfl]; rfl
/-- player and standing, both anew -/
def put3 (L : LH) (pl q : Nat) (a b : O) : LH := (L.set pl a).set q b
theorem put3_put3 (ne : pl ≠ q) (a b a' b' : O) : put3 (put3 L pl q a b) pl q a' b' = put3 L pl q a' b' := by
  unfold put3
  rw [List.set_comm _ _ ne.symm, List.set_set, List.set_set]
theorem put3_pl (ne : pl ≠ q) {o : O} (h : L[pl]? = some o) (a b : O) : (put3 L pl q a b)[pl]? = some a := by
  unfold put3
  rw [List.getElem?_set_ne ne.symm, get_set h]
theorem put3_q {o : O} (h : L[q]? = some o) (a b : O) : (put3 L pl q a b)[q]? = some b := by
  unfold put3
  obtain ⟨hq, _⟩ := List.getElem?_eq_some_iff.mp h
  exact List.getElem?_set_self (by rw [List.length_set]; exact hq)
theorem set_ne_get {o : O} (ne : pl ≠ q) (h : L[q]? = some o) (a : O) : (L.set pl a)[q]? = some o := by rw [List.getElem?_set_ne ne]; exact h
theorem step_ok {n : Nat} (h : 7 ≤ n) (bk : BookOk st ls) (P : Play (n - 1) st ls S ob chg nxt ok) {s : S} (hs : ok s) (ne : pl ≠ q) (g1 : L[pl]? = some (ob s)) (g2 : L[q]? = some (sO st ls pl ts sh)) (l1 : ts.length = st.length) (l2 : sh.length = st.length) {m : Nat × Int} (hm : IsMv st.length m) :
    callN T n i_Standing_step [.loc q, mvD m] L = .ok (cgD (chg s m.1 m.2)) (put3 L pl q (ob (nxt s m.1 m.2)) (sO st ls pl (ts.set m.1 (ts.getD m.1 0 + m.2)) (addC sh (chg s m.1 m.2)))) := by
  obtain ⟨n, rfl, _⟩ := pre h
  rw [Nat.add_sub_cancel] at P
  rw [call_of (fn := f_Standing_step) rfl rfl]
  have h6 := bk.le
  obtain ⟨p, w⟩ := m
  have hp : p < ls.length := by rw [← bk.len]; exact hm.1
  have hr : ls[p]? = some ls[p] := List.getElem?_eq_getElem hp
  obtain ⟨j, m1, m2⟩ := P.moved hs g1 hm
  have cg := P.right hs hm hr
  have g3 := set_ne_get ne g2 (ob (nxt s p w))
  have a1 := sO_player g2
  have a2 := sO_book g3
  have a3 := sO_state g3
  have c1 := changes_ok (st := st) (ls := ls) (n := n) (by omega) cg (L.set pl (ob (nxt s p w)))
  have c2 := inside_ok (st := st) (ls := ls) (n := n) (by omega) hr cg (L.set pl (ob (nxt s p w)))
  have c3 := behind_ok (n := n) (by omega) (N := st.length) (by omega) l1 l2 (m := (p, w)) hm.1 (fun c hc => (cg.each c hc).1) (L.set pl (ob (nxt s p w)))
  have s1 := sO_set g3 (ts.set p (ts.getD p 0 + w)) (addC sh (chg s p w))
  have i0 := mv0 (p, w) L
  have i1 := mv1 (p, w) L
  have i0' := mv0 (p, w) (L.set pl (ob (nxt s p w)))
  clear g1 g2 g3 cg
  show _ = R.ok (cgD (chg s p w)) ((L.set pl (ob (nxt s p w))).set q (sO st ls pl (ts.set p (ts.getD p 0 + w)) (addC sh (chg s p w))))
  generalize (L.set pl (ob (nxt s p w))).set q (sO st ls pl (ts.set p (ts.getD p 0 + w)) (addC sh (chg s p w))) = L3 at *
  generalize L.set pl (ob (nxt s p w)) = L2 at *
  generalize stD (ts.set p (ts.getD p 0 + w)) (addC sh (chg s p w)) = S2 at *
  generalize stD ts sh = S1 at *
  generalize cgD (chg s p w) = C at *
  generalize bookD st ls = B at *
  generalize mvD (p, w) = M at *
  simp -implicitDefEqProofs (disch := first | omega | assumption | rfl) only [exSs, exS, evE, evEs, startE, bndR, List.map_cons, List.map_nil, List.length_cons, List.length_nil, List.cons_append, List.nil_append, List.getElem?_cons_zero, List.getElem?_cons_succ, R.bind_ok, R.bind_exc, R.st_ok, R.st_exc, call_eq, callL_eq, truth_bl, truth_int, Nat.reduceAdd, Nat.reduceSub, Int.cast_ofNat_Int, Int.reduceBEq, beq_self_eq_true, Bool.not_true, Bool.not_false, Int.reduceNeg, decide_true, decide_false, Bool.or_false, Bool.and_true, Bool.true_and, Bool.and_false, Bool.false_and, eT_ev, itD_seq, itemsD_tup, itemsD_lst, bi_all, bi_any, bi_len, lenD_tup, lenD_lst, lcEnd_f, List.length_map, List.all_cons, List.all_nil, id_eq, endR_rt, endR_nx, endR_exc, opt_some, Option.map_some, Tg.put, putMany, List.set_cons_zero, List.set_cons_succ, RS.bind_nx, RS.bind_rt, RS.bind_exc, List.replicate, R.nox_ok, wipeE, f_Standing_step, a1, m1, i0, i1, m2, a2, c1, i0', c2, cmp_isnot_non, a3, c3, s1]
theorem is_cg (cs : List (Nat × Int)) : cmpD .is (cgD cs) .non = some false := rfl
/-- truths and shown numbers, the player's state, behind moves -/
def goF (chg : S → Nat → Int → List (Nat × Int)) (nxt : S → Nat → Int → S) : List (Nat × Int) → S → List Int → List Int → S × List Int × List Int
  | [], s, ts, sh => (s, ts, sh)
  | m :: h, s, ts, sh => goF chg nxt h (nxt s m.1 m.2) (ts.set m.1 (ts.getD m.1 0 + m.2)) (addC sh (chg s m.1 m.2))
theorem go_loop {n : Nat} (h : 7 ≤ n) (bk : BookOk st ls) (P : Play (n - 1) st ls S ob chg nxt ok) (ne : pl ≠ q) (x1 : Option D) : ∀ (hs : List (Nat × Int)) (k : Nat) (s : S) (ts sh : List Int) (L : LH) (y z : Option D), ok s → L[pl]? = some (ob s) → L[q]? = some (sO st ls pl ts sh) → ts.length = st.length → sh.length = st.length → (∀ m ∈ hs, IsMv st.length m) →
    ∃ y' z', forGo (Tg.put (.tp [2, 3])) (exSs (cfN T n) s_Standing_go_1) (pairsE k (hs.map mvD)) [some (.loc q), x1, y, z] L = .nx [some (.loc q), x1, y', z'] (put3 L pl q (ob (goF chg nxt hs s ts sh).1) (sO st ls pl (goF chg nxt hs s ts sh).2.1 (goF chg nxt hs s ts sh).2.2))
  | [], k, s, ts, sh, L, y, z, _, g1, g2, _, _, _ => by
    refine ⟨y, z, ?_⟩
    show RS.nx _ L = RS.nx _ ((L.set pl (ob s)).set q (sO st ls pl ts sh))
    congr 1
    obtain ⟨h1, e1⟩ := List.getElem?_eq_some_iff.mp g1
    obtain ⟨h2, e2⟩ := List.getElem?_eq_some_iff.mp g2
    rw [← e1, List.set_getElem_self, ← e2, List.set_getElem_self]
  | m :: hs, k, s, ts, sh, L, y, z, o, g1, g2, l1, l2, hm => by
    have w := step_ok h bk P o ne g1 g2 l1 l2 (hm m List.mem_cons_self)
    have ms : methAt L (.loc q) m_step = some i_Standing_step := by rw [methAt_loc g2]; rfl
    have p1 : Tg.put (.tp [2, 3]) (.tup [.int (k : Int), mvD m]) [some (.loc q), x1, y, z] = some [some (.loc q), x1, some (.int (k : Int)), some (mvD m)] := rfl
    have ic := is_cg (chg s m.1 m.2)
    have s1 : exSs (cfN T n) s_Standing_go_1 [some (.loc q), x1, some (.int (k : Int)), some (mvD m)] L = .nx [some (.loc q), x1, some (.int (k : Int)), some (mvD m)] (put3 L pl q (ob (nxt s m.1 m.2)) (sO st ls pl (ts.set m.1 (ts.getD m.1 0 + m.2)) (addC sh (chg s m.1 m.2)))) := by
      generalize put3 L pl q (ob (nxt s m.1 m.2)) (sO st ls pl (ts.set m.1 (ts.getD m.1 0 + m.2)) (addC sh (chg s m.1 m.2))) = L2 at *
      generalize cgD (chg s m.1 m.2) = C at *
      generalize mvD m = M at *
      simp -implicitDefEqProofs (disch := first | omega | assumption | rfl) only [exSs, exS, evE, evEs, startE, bndR, List.map_cons, List.map_nil, List.length_cons, List.length_nil, List.cons_append, List.nil_append, List.getElem?_cons_zero, List.getElem?_cons_succ, R.bind_ok, R.bind_exc, R.st_ok, R.st_exc, call_eq, callL_eq, truth_bl, truth_int, Nat.reduceAdd, Nat.reduceSub, Int.cast_ofNat_Int, Int.reduceBEq, beq_self_eq_true, Bool.not_true, Bool.not_false, Int.reduceNeg, decide_true, decide_false, Bool.or_false, Bool.and_true, Bool.true_and, Bool.and_false, Bool.false_and, eT_ev, itD_seq, itemsD_tup, itemsD_lst, bi_all, bi_any, bi_len, lenD_tup, lenD_lst, lcEnd_f, List.length_map, List.all_cons, List.all_nil, id_eq, endR_rt, endR_nx, endR_exc, opt_some, Option.map_some, Tg.put, putMany, List.set_cons_zero, List.set_cons_succ, RS.bind_nx, RS.bind_rt, RS.bind_exc, List.replicate, R.nox_ok, wipeE, s_Standing_go_1, ms, w, ic]
    obtain ⟨y', z', e⟩ := go_loop h bk P ne x1 hs (k + 1) (nxt s m.1 m.2) (ts.set m.1 (ts.getD m.1 0 + m.2)) (addC sh (chg s m.1 m.2)) (put3 L pl q (ob (nxt s m.1 m.2)) (sO st ls pl (ts.set m.1 (ts.getD m.1 0 + m.2)) (addC sh (chg s m.1 m.2)))) (some (.int (k : Int))) (some (mvD m))
      (P.keep o (hm m List.mem_cons_self)) (put3_pl ne g1 _ _) (put3_q g2 _ _) (by rw [List.length_set]; exact l1) (by rw [addC_len]; exact l2) fun m' h' => hm m' (List.mem_cons_of_mem _ h')
    refine ⟨y', z', ?_⟩
    rw [List.map_cons, pairsE, forGo_nx p1 s1, e, put3_put3 ne]
    rfl
theorem go_ok {n : Nat} (h : 8 ≤ n) (bk : BookOk st ls) (P : Play (n - 2) st ls S ob chg nxt ok) (ne : pl ≠ q) {s : S} (o : ok s) (g1 : L[pl]? = some (ob s)) (g2 : L[q]? = some (sO st ls pl ts sh)) (l1 : ts.length = st.length) (l2 : sh.length = st.length) {hs : List (Nat × Int)} (hm : ∀ m ∈ hs, IsMv st.length m) :
    callN T n i_Standing_go [.loc q, histD hs] L = .ok .non (put3 L pl q (ob (goF chg nxt hs s ts sh).1) (sO st ls pl (goF chg nxt hs s ts sh).2.1 (goF chg nxt hs s ts sh).2.2)) := by
  obtain ⟨n, rfl, _⟩ := pre h
  rw [call_of (fn := f_Standing_go) rfl rfl]
  obtain ⟨y, z, e⟩ := go_loop (n := n) (by omega) bk (by simpa using P) ne (some (histD hs)) hs 0 s ts sh L none none o g1 g2 l1 l2 hm
  have it1 : itD .enum [histD hs] = some (pairsE 0 (hs.map mvD)) := rfl
  generalize put3 L pl q (ob (goF chg nxt hs s ts sh).1) (sO st ls pl (goF chg nxt hs s ts sh).2.1 (goF chg nxt hs s ts sh).2.2) = L2 at *
  generalize pairsE 0 (hs.map mvD) = PE at *
  generalize histD hs = H at *
  simp -implicitDefEqProofs (disch := first | omega | assumption | rfl) only [exSs, exS, evE, evEs, startE, bndR, List.map_cons, List.map_nil, List.length_cons, List.length_nil, List.cons_append, List.nil_append, List.getElem?_cons_zero, List.getElem?_cons_succ, R.bind_ok, R.bind_exc, R.st_ok, R.st_exc, call_eq, callL_eq, truth_bl, truth_int, Nat.reduceAdd, Nat.reduceSub, Int.cast_ofNat_Int, Int.reduceBEq, beq_self_eq_true, Bool.not_true, Bool.not_false, Int.reduceNeg, decide_true, decide_false, Bool.or_false, Bool.and_true, Bool.true_and, Bool.and_false, Bool.false_and, eT_ev, itD_seq, itemsD_tup, itemsD_lst, bi_all, bi_any, bi_len, lenD_tup, lenD_lst, lcEnd_f, List.length_map, List.all_cons, List.all_nil, id_eq, endR_rt, endR_nx, endR_exc, opt_some, Option.map_some, Tg.put, putMany, List.set_cons_zero, List.set_cons_succ, RS.bind_nx, RS.bind_rt, RS.bind_exc, List.replicate, R.nox_ok, wipeE, f_Standing_go, it1, e]
/-! ### histories -/
theorem move_ok {n : Nat} (h : 5 ≤ n) {m : Nat × Int} (hm : IsMv st.length m) (L : LH) : callN T n i_is_move [bookD st ls, mvD m] L = .ok (.bl true) L := by
  obtain ⟨n, rfl, _⟩ := pre h
  rw [call_of (fn := f_is_move) rfl rfl]
  have p := part_int (steps := st) (links := ls) (n := n) (by omega) (m.1 : Int) L
  have e : (decide ((0 : Int) ≤ (m.1 : Int)) && decide ((m.1 : Int) ≤ (st.length : Int) - 1)) = true := by rw [decide_eq_true (by omega), decide_eq_true (by have := hm.1; omega)]; rfl
  rw [e] at p
  have w := whole_int (n := n) (by omega) m.2 L
  have i0 := mv0 m L
  have i1 := mv1 m L
  have t1 : isinD (mvD m) [.tuple] = some true := rfl
  have l2 : lenD L (mvD m) = some 2 := rfl
  have c : cmpD .in_ (.int m.2) (.tup [.int 1, .int (-1)]) = some true := by
    have := inD_int m.2 [1, -1]
    rw [decide_eq_true (by rcases hm.2 with e | e <;> rw [e] <;> decide)] at this
    exact this
  have hz2 : (2 : Nat) ≤ size16 := by unfold size16; omega
  generalize mvD m = M at *
  generalize bookD st ls = B at *
  simp -implicitDefEqProofs (disch := first | omega | assumption | rfl) only [exSs, exS, evE, evEs, startE, bndR, List.map_cons, List.map_nil, List.length_cons, List.length_nil, List.cons_append, List.nil_append, List.getElem?_cons_zero, List.getElem?_cons_succ, R.bind_ok, R.bind_exc, R.st_ok, R.st_exc, call_eq, callL_eq, truth_bl, truth_int, Nat.reduceAdd, Nat.reduceSub, Int.cast_ofNat_Int, Int.reduceBEq, beq_self_eq_true, Bool.not_true, Bool.not_false, Int.reduceNeg, decide_true, decide_false, Bool.or_false, Bool.and_true, Bool.true_and, Bool.and_false, Bool.false_and, eT_ev, itD_seq, itemsD_tup, itemsD_lst, bi_all, bi_any, bi_len, lenD_tup, lenD_lst, lcEnd_f, List.length_map, List.all_cons, List.all_nil, id_eq, endR_rt, endR_nx, endR_exc, opt_some, Option.map_some, Tg.put, putMany, List.set_cons_zero, List.set_cons_succ, RS.bind_nx, RS.bind_rt, RS.bind_exc, List.replicate, R.nox_ok, wipeE, f_is_move, t1, l2, cmp_ne, eqD_int, i0, p, i1, w, if_pos hz2, c]
theorem want_history_ok {n : Nat} (h : 6 ≤ n) {hs : List (Nat × Int)} (hm : ∀ m ∈ hs, IsMv st.length m) (L : LH) : callN T n i_want_history [bookD st ls, histD hs] L = .ok .non L := by
  obtain ⟨n, rfl, _⟩ := pre h
  rw [call_of (fn := f_want_history) rfl rfl]
  obtain ⟨env1, ⟨a, b, rfl⟩, w1⟩ := forGo_keep (put := Tg.put (.tp [2, 3])) (body := exSs (cfN T n) s_want_history_1) (L := L) (P := fun env => ∃ a b, env = [some (bookD st ls), some (histD hs), a, b]) (items := pairsE 0 (hs.map mvD)) (env := [some (bookD st ls), some (histD hs), none, none]) ⟨_, _, rfl⟩ (by
    rintro x hx env ⟨a, b, rfl⟩
    obtain ⟨k, d, hk, rfl⟩ := mem_pairsE hx
    rw [List.getElem?_map] at hk
    cases hq : hs[k]? with
    | none => rw [hq] at hk; cases hk
    | some m =>
      rw [hq] at hk
      cases hk
      have w := move_ok (st := st) (ls := ls) (n := n) (by omega) (hm m (List.mem_of_getElem? hq)) L
      refine ⟨[some (bookD st ls), some (histD hs), some (.int ((0 + k : Nat) : Int)), some (mvD m)], [some (bookD st ls), some (histD hs), some (.int ((0 + k : Nat) : Int)), some (mvD m)], rfl, ?_, ⟨_, _, rfl⟩⟩
      generalize bookD st ls = B at *
      generalize histD hs = H at *
      generalize mvD m = M at *
      simp -implicitDefEqProofs (disch := first | omega | assumption | rfl) only [exSs, exS, evE, evEs, startE, bndR, List.map_cons, List.map_nil, List.length_cons, List.length_nil, List.cons_append, List.nil_append, List.getElem?_cons_zero, List.getElem?_cons_succ, R.bind_ok, R.bind_exc, R.st_ok, R.st_exc, call_eq, callL_eq, truth_bl, truth_int, Nat.reduceAdd, Nat.reduceSub, Int.cast_ofNat_Int, Int.reduceBEq, beq_self_eq_true, Bool.not_true, Bool.not_false, Int.reduceNeg, decide_true, decide_false, Bool.or_false, Bool.and_true, Bool.true_and, Bool.and_false, Bool.false_and, eT_ev, itD_seq, itemsD_tup, itemsD_lst, bi_all, bi_any, bi_len, lenD_tup, lenD_lst, lcEnd_f, List.length_map, List.all_cons, List.all_nil, id_eq, endR_rt, endR_nx, endR_exc, opt_some, Option.map_some, Tg.put, putMany, List.set_cons_zero, List.set_cons_succ, RS.bind_nx, RS.bind_rt, RS.bind_exc, List.replicate, R.nox_ok, wipeE, s_want_history_1, w])
  have it1 : itD .enum [histD hs] = some (pairsE 0 (hs.map mvD)) := rfl
  have t1 : isinD (histD hs) [.tuple] = some true := rfl
  generalize pairsE 0 (hs.map mvD) = P at *
  generalize histD hs = H at *
  generalize bookD st ls = B at *
  simp -implicitDefEqProofs (disch := first | omega | assumption | rfl) only [exSs, exS, evE, evEs, startE, bndR, List.map_cons, List.map_nil, List.length_cons, List.length_nil, List.cons_append, List.nil_append, List.getElem?_cons_zero, List.getElem?_cons_succ, R.bind_ok, R.bind_exc, R.st_ok, R.st_exc, call_eq, callL_eq, truth_bl, truth_int, Nat.reduceAdd, Nat.reduceSub, Int.cast_ofNat_Int, Int.reduceBEq, beq_self_eq_true, Bool.not_true, Bool.not_false, Int.reduceNeg, decide_true, decide_false, Bool.or_false, Bool.and_true, Bool.true_and, Bool.and_false, Bool.false_and, eT_ev, itD_seq, itemsD_tup, itemsD_lst, bi_all, bi_any, bi_len, lenD_tup, lenD_lst, lcEnd_f, List.length_map, List.all_cons, List.all_nil, id_eq, endR_rt, endR_nx, endR_exc, opt_some, Option.map_some, Tg.put, putMany, List.set_cons_zero, List.set_cons_succ, RS.bind_nx, RS.bind_rt, RS.bind_exc, List.replicate, R.nox_ok, wipeE, f_want_history, t1, it1, w1]
end
end Lw
end

section
set_option Elab.async false
set_option linter.all false
set_option maxRecDepth 100000
set_option maxHeartbeats 1000000
/-! runs, strays; the law's own steps -/
namespace Lw
open PySem (Str)
open Ev
theorem endR_dropL {fn : Fn} {L0 X : LH} {d : D} (hd : fn.drop = true) (hf : Flat L0) (hb : below L0.length d = true) : endR fn L0 (.rt d (L0 ++ X)) = .ok d L0 := by
  have e1 : (L0 ++ X).take L0.length = L0 := List.take_left' rfl
  have e2 : L0.all (O.below L0.length) = true := List.all_eq_true.mpr fun o ho => hf o ho _
  have e3 : decide (L0.length ≤ (L0 ++ X).length) = true := decide_eq_true (by simp)
  simp only [endR, cutR, hd, if_true, hb, e1, e2, e3, Bool.and_self]
theorem below_st (n : Nat) (ts sh : List Int) : below n (stD ts sh) = true := by
  show (below n (ti ts) && (below n (ti sh) && true)) = true
  rw [below_ti, below_ti]; rfl
def zrs (N : Nat) : List Int := List.replicate N 0
theorem zrs_ev (N : Nat) (h : N ≤ 1000) : binD .mul (.tup [.int 0]) (.int (N : Int)) = some (ti (zrs N)) := by
  rw [mul_tup [.int 0] N (by simp) h, rep_int]; rfl
theorem zrs_len (N : Nat) : (zrs N).length = N := List.length_replicate ..
theorem zrs_get (N p : Nat) : (zrs N).getD p 0 = 0 := by
  unfold zrs
  rw [List.getD_eq_getElem?_getD, List.getElem?_replicate]
  split <;> rfl
section
variable {st : List Int} {ls : List (List Int)} {S : Type} {ob : S → O} {chg : S → Nat → Int → List (Nat × Int)} {nxt : S → Nat → Int → S} {ok : S → Prop} {pl q : Nat} {ts sh : List Int} {L : LH}
theorem sO_new {n : Nat} (h : 1 ≤ n) (L : LH) : callN T n i_Standing___init__ [.loc L.length, bookD st ls, .loc pl, stD ts sh] (L ++ [.ins k_Standing []]) = .ok .non (L ++ [sO st ls pl ts sh]) := by
  obtain ⟨n, rfl, _⟩ := pre h
  rw [call_of (fn := f_Standing___init__) rfl rfl]
  have g0 := get_last L (.ins k_Standing [])
  have s0 := setAt_loc g0 (cs := [k_Standing]) rfl rfl a_book (bookD st ls)
  rw [set_last] at s0
  have g1 := get_last L (.ins k_Standing (putFd a_book (bookD st ls) []))
  have s1 := setAt_loc g1 (cs := [k_Standing]) rfl rfl a_player (.loc pl)
  rw [set_last] at s1
  have g2 := get_last L (.ins k_Standing (putFd a_player (.loc pl) (putFd a_book (bookD st ls) [])))
  have s2 := setAt_loc g2 (cs := [k_Standing]) rfl rfl a_state (stD ts sh)
  rw [set_last] at s2
  have e : O.ins k_Standing (putFd a_state (stD ts sh) (putFd a_player (.loc pl) (putFd a_book (bookD st ls) []))) = sO st ls pl ts sh := rfl
  rw [e] at s2
  clear g0 g1 g2
  generalize L ++ [O.ins k_Standing (putFd a_player (.loc pl) (putFd a_book (bookD st ls) []))] = L2 at *
  generalize L ++ [O.ins k_Standing (putFd a_book (bookD st ls) [])] = L1 at *
  generalize L ++ [O.ins k_Standing []] = L0 at *
  generalize L ++ [sO st ls pl ts sh] = L3 at *
  generalize stD ts sh = A at *
  generalize bookD st ls = C at *
  simp -implicitDefEqProofs (disch := first | omega | assumption | rfl) only [exSs, exS, evE, evEs, startE, bndR, List.map_cons, List.map_nil, List.length_cons, List.length_nil, List.cons_append, List.nil_append, List.getElem?_cons_zero, List.getElem?_cons_succ, R.bind_ok, R.bind_exc, R.st_ok, R.st_exc, call_eq, callL_eq, truth_bl, truth_int, Nat.reduceAdd, Nat.reduceSub, Int.cast_ofNat_Int, Int.reduceBEq, beq_self_eq_true, Bool.not_true, Bool.not_false, Int.reduceNeg, decide_true, decide_false, Bool.or_false, Bool.and_true, Bool.true_and, Bool.and_false, Bool.false_and, eT_ev, itD_seq, itemsD_tup, itemsD_lst, bi_all, bi_any, bi_len, lenD_tup, lenD_lst, lcEnd_f, List.length_map, List.all_cons, List.all_nil, id_eq, endR_rt, endR_nx, endR_exc, opt_some, Option.map_some, Tg.put, putMany, List.set_cons_zero, List.set_cons_succ, RS.bind_nx, RS.bind_rt, RS.bind_exc, List.replicate, R.nox_ok, wipeE, f_Standing___init__, s0, s1, s2]
theorem at_first_ok {n : Nat} (h : 2 ≤ n) (bk : BookOk st ls) (L : LH) : callN T n i_at_first [bookD st ls] L = .ok (stD (zrs st.length) (zrs st.length)) L := by
  obtain ⟨n, rfl, _⟩ := pre h
  rw [call_of (fn := f_at_first) rfl rfl]
  have h6 := bk.le
  have h3 := many_ok (steps := st) (links := ls) (n := n) (by omega) L
  have z := zrs_ev st.length (by omega)
  have hz1 : (1 : Nat) ≤ size16 := by unfold size16; omega
  have hz2 : (2 : Nat) ≤ size16 := by unfold size16; omega
  unfold stD
  generalize ti (zrs st.length) = Z at *
  generalize bookD st ls = B at *
  simp -implicitDefEqProofs (disch := first | omega | assumption | rfl) only [exSs, exS, evE, evEs, startE, bndR, List.map_cons, List.map_nil, List.length_cons, List.length_nil, List.cons_append, List.nil_append, List.getElem?_cons_zero, List.getElem?_cons_succ, R.bind_ok, R.bind_exc, R.st_ok, R.st_exc, call_eq, callL_eq, truth_bl, truth_int, Nat.reduceAdd, Nat.reduceSub, Int.cast_ofNat_Int, Int.reduceBEq, beq_self_eq_true, Bool.not_true, Bool.not_false, Int.reduceNeg, decide_true, decide_false, Bool.or_false, Bool.and_true, Bool.true_and, Bool.and_false, Bool.false_and, eT_ev, itD_seq, itemsD_tup, itemsD_lst, bi_all, bi_any, bi_len, lenD_tup, lenD_lst, lcEnd_f, List.length_map, List.all_cons, List.all_nil, id_eq, endR_rt, endR_nx, endR_exc, opt_some, Option.map_some, Tg.put, putMany, List.set_cons_zero, List.set_cons_succ, RS.bind_nx, RS.bind_rt, RS.bind_exc, List.replicate, R.nox_ok, wipeE, f_at_first, if_pos hz1, h3, z, if_pos hz2]
theorem standing_ok {n : Nat} (h : 3 ≤ n) (bk : BookOk st ls) (P : Play (n - 1) st ls S ob chg nxt ok) {l : Nat} {s : S} (o : ok s) (g : L[l]? = some (ob s)) :
    callN T n i_standing_at_first [bookD st ls, .loc l] L = .ok (.loc (L ++ [ob s]).length) (L ++ [ob s] ++ [sO st ls L.length (zrs st.length) (zrs st.length)]) := by
  obtain ⟨n, rfl, _⟩ := pre h
  rw [Nat.add_sub_cancel] at P
  rw [call_of (fn := f_standing_at_first) rfl rfl]
  obtain ⟨j, m1, m2⟩ := P.copy o g
  have a := at_first_ok (n := n) (by omega) bk (L ++ [ob s])
  have w := sO_new (st := st) (ls := ls) (pl := L.length) (ts := zrs st.length) (sh := zrs st.length) (n := n) (by omega) (L ++ [ob s])
  generalize L ++ [ob s] ++ [sO st ls L.length (zrs st.length) (zrs st.length)] = L3 at *
  generalize stD (zrs st.length) (zrs st.length) = A at *
  generalize bookD st ls = B at *
  generalize L ++ [ob s] = L1 at *
  simp -implicitDefEqProofs (disch := first | omega | assumption | rfl) only [exSs, exS, evE, evEs, startE, bndR, List.map_cons, List.map_nil, List.length_cons, List.length_nil, List.cons_append, List.nil_append, List.getElem?_cons_zero, List.getElem?_cons_succ, R.bind_ok, R.bind_exc, R.st_ok, R.st_exc, call_eq, callL_eq, truth_bl, truth_int, Nat.reduceAdd, Nat.reduceSub, Int.cast_ofNat_Int, Int.reduceBEq, beq_self_eq_true, Bool.not_true, Bool.not_false, Int.reduceNeg, decide_true, decide_false, Bool.or_false, Bool.and_true, Bool.true_and, Bool.and_false, Bool.false_and, eT_ev, itD_seq, itemsD_tup, itemsD_lst, bi_all, bi_any, bi_len, lenD_tup, lenD_lst, lcEnd_f, List.length_map, List.all_cons, List.all_nil, id_eq, endR_rt, endR_nx, endR_exc, opt_some, Option.map_some, Tg.put, putMany, List.set_cons_zero, List.set_cons_succ, RS.bind_nx, RS.bind_rt, RS.bind_exc, List.replicate, R.nox_ok, wipeE, f_standing_at_first, m1, m2, a, w, newEnd_non]
theorem put3_last (L : LH) (x y a b : O) : put3 (L ++ [x] ++ [y]) L.length (L ++ [x]).length a b = L ++ [a, b] := by
  unfold put3
  have e : (L ++ [x] ++ [y]).set L.length a = L ++ [a] ++ [y] := by
    rw [List.append_assoc, List.set_append_right _ _ (Nat.le_refl _), List.append_assoc]; simp
  have el : (L ++ [x]).length = (L ++ [a]).length := by simp
  rw [e, el, set_last, List.append_assoc]; rfl
/-- what a run tells -/
theorem run_ok {n : Nat} (h : 10 ≤ n) (bk : BookOk st ls) (P : ∀ k, 6 ≤ k → Play k st ls S ob chg nxt ok) {l : Nat} {s : S} (o : ok s) (g : L[l]? = some (ob s)) (hf : Flat L) {hs : List (Nat × Int)} (hm : ∀ m ∈ hs, IsMv st.length m) :
    callN T n i_run [bookD st ls, .loc l, histD hs] L = .ok (stD (goF chg nxt hs s (zrs st.length) (zrs st.length)).2.1 (goF chg nxt hs s (zrs st.length) (zrs st.length)).2.2) L := by
  obtain ⟨n, rfl, _⟩ := pre h
  have h1 := made_ok (n := n) (by omega) bk L
  have h2 := want_history_ok (st := st) (ls := ls) (n := n) (by omega) hm L
  have h3 := standing_ok (n := n) (by omega) bk (P _ (by omega)) o g
  have ne : L.length ≠ (L ++ [ob s]).length := by simp
  have g1 : (L ++ [ob s] ++ [sO st ls L.length (zrs st.length) (zrs st.length)])[L.length]? = some (ob s) := by
    rw [List.getElem?_append_left (by simp)]; exact get_last L _
  have g2 : (L ++ [ob s] ++ [sO st ls L.length (zrs st.length) (zrs st.length)])[(L ++ [ob s]).length]? = some (sO st ls L.length (zrs st.length) (zrs st.length)) := get_last _ _
  have h4 := go_ok (n := n) (by omega) bk (P _ (by omega)) ne o g1 g2 (zrs_len _) (zrs_len _) hm
  rw [put3_last] at h4
  have ms : methAt (L ++ [ob s] ++ [sO st ls L.length (zrs st.length) (zrs st.length)]) (.loc (L ++ [ob s]).length) m_go = some i_Standing_go := by rw [methAt_loc g2]; rfl
  generalize goF chg nxt hs s (zrs st.length) (zrs st.length) = r at *
  obtain ⟨s', ts', sh'⟩ := r
  have g3 : (L ++ [ob s', sO st ls L.length ts' sh'])[(L ++ [ob s]).length]? = some (sO st ls L.length ts' sh') := by
    rw [List.getElem?_append_right (by simp)]; simp
  have a1 := sO_state g3
  have ex : exSs (cfN T n) f_run.body (startE f_run.nl [bookD st ls, .loc l, histD hs]) L = .rt (stD ts' sh') (L ++ [ob s', sO st ls L.length ts' sh']) := by
    clear g1 g2 g3
    simp only at h4
    generalize L ++ [ob s', sO st ls L.length ts' sh'] = L3 at *
    generalize L ++ [ob s] ++ [sO st ls L.length (zrs st.length) (zrs st.length)] = L2 at *
    generalize (L ++ [ob s]).length = q at *
    generalize stD ts' sh' = A at *
    generalize histD hs = H at *
    generalize bookD st ls = B at *
    simp -implicitDefEqProofs (disch := first | omega | assumption | rfl) only [exSs, exS, evE, evEs, startE, bndR, List.map_cons, List.map_nil, List.length_cons, List.length_nil, List.cons_append, List.nil_append, List.getElem?_cons_zero, List.getElem?_cons_succ, R.bind_ok, R.bind_exc, R.st_ok, R.st_exc, call_eq, callL_eq, truth_bl, truth_int, Nat.reduceAdd, Nat.reduceSub, Int.cast_ofNat_Int, Int.reduceBEq, beq_self_eq_true, Bool.not_true, Bool.not_false, Int.reduceNeg, decide_true, decide_false, Bool.or_false, Bool.and_true, Bool.true_and, Bool.and_false, Bool.false_and, eT_ev, itD_seq, itemsD_tup, itemsD_lst, bi_all, bi_any, bi_len, lenD_tup, lenD_lst, lcEnd_f, List.length_map, List.all_cons, List.all_nil, id_eq, endR_rt, endR_nx, endR_exc, opt_some, Option.map_some, Tg.put, putMany, List.set_cons_zero, List.set_cons_succ, RS.bind_nx, RS.bind_rt, RS.bind_exc, List.replicate, R.nox_ok, wipeE, f_run, h1, h2, h3, ms, h4, cmp_isnot_non, a1]
  rw [call_of (fn := f_run) rfl rfl, ex]
  exact endR_dropL rfl hf (below_st _ _ _)
end
/-! ### strays -/
def strL (st ts sh : List Int) : List Int := (List.range st.length).map fun j => sh.getD j 0 * st.getD j 0 - ts.getD j 0
theorem getD_get {xs : List Int} {j : Nat} (h : j < xs.length) : xs[j]? = some (xs.getD j 0) := by
  rw [List.getD_eq_getElem?_getD, List.getElem?_eq_getElem h]; rfl
theorem strL_of {st ts sh : List Int} (h1 : ts.length = st.length) (h2 : sh.length = st.length) (f : D → D) (hf : ∀ a b c : Int, f (.tup [.int a, .int b, .int c]) = .int (b * c - a)) : (pairs3 (ts.map .int) (sh.map .int) (st.map .int)).map f = (strL st ts sh).map .int := by
  refine List.ext_getElem? fun j => ?_
  rw [List.getElem?_map, List.getElem?_map]
  by_cases hj : j < st.length
  · have e := pairs3_get (ts.map .int) (sh.map .int) (st.map .int) j (.int (ts.getD j 0)) (.int (sh.getD j 0)) (.int (st.getD j 0)) (by rw [List.getElem?_map, getD_get (by omega)]; rfl) (by rw [List.getElem?_map, getD_get (by omega)]; rfl) (by rw [List.getElem?_map, getD_get hj]; rfl)
    rw [e, Option.map_some, hf]
    unfold strL
    rw [List.getElem?_map, List.getElem?_range hj]
    rfl
  · have l1 := pairs3_len (ts.map .int) (sh.map .int) (st.map .int) (by simp; omega) (by simp; omega)
    rw [List.getElem?_eq_none (by rw [l1, List.length_map]; omega), List.getElem?_eq_none (by unfold strL; simp; omega)]
    rfl
section
variable {st : List Int} {ls : List (List Int)} {ts sh : List Int}
theorem strays_of_ok {n : Nat} (h : 1 ≤ n) (bk : BookOk st ls) (h1 : ts.length = st.length) (h2 : sh.length = st.length) (L : LH) : callN T n i_strays_of [bookD st ls, stD ts sh] L = .ok (ti (strL st ts sh)) L := by
  obtain ⟨n, rfl, _⟩ := pre h
  rw [call_of (fn := f_strays_of) rfl rfl]
  have h6 := bk.le
  have it1 : itD .zip [ti ts, ti sh, ti st] = some (pairs3 (ts.map .int) (sh.map .int) (st.map .int)) := by
    show (if (decide ((ts.map D.int).length = (sh.map D.int).length) && decide ((ts.map D.int).length = (st.map D.int).length)) = true then some (pairs3 (ts.map D.int) (sh.map .int) (st.map .int)) else none) = _
    rw [if_pos (by simp; omega)]
  have g1 : lcGo (Tg.put (.tp [4, 5, 6])) (evE (cfN T n) eT) (evE (cfN T n) e_strays_of_1) [some (bookD st ls), some (stD ts sh), some (ti ts), some (ti sh), none, none, none] (pairs3 (ts.map .int) (sh.map .int) (st.map .int)) L = .ok ((strL st ts sh).map .int) L := by
    rw [lcGo_all (f := fun d => match d with | .tup [.int a, .int b, .int c] => .int (b * c - a) | _ => .non), strL_of h1 h2 _ fun a b c => rfl]
    intro x hx
    obtain ⟨j, hj, e⟩ := List.mem_iff_getElem.mp hx
    rw [pairs3_len _ _ _ (by simp; omega) (by simp; omega), List.length_map] at hj
    have hj' : j < st.length := by omega
    have e2 := pairs3_get (ts.map .int) (sh.map .int) (st.map .int) j (.int (ts.getD j 0)) (.int (sh.getD j 0)) (.int (st.getD j 0)) (by rw [List.getElem?_map, getD_get (by omega)]; rfl) (by rw [List.getElem?_map, getD_get (by omega)]; rfl) (by rw [List.getElem?_map, getD_get hj']; rfl)
    have ex : x = .tup [.int (ts.getD j 0), .int (sh.getD j 0), .int (st.getD j 0)] := by
      have := List.getElem?_eq_getElem (l := pairs3 (ts.map D.int) (sh.map .int) (st.map .int)) (i := j) (by rw [pairs3_len _ _ _ (by simp; omega) (by simp; omega), List.length_map]; omega)
      rw [e2, e] at this
      exact (Option.some.inj this).symm
    subst ex
    have hs : 1 ≤ st.getD j 0 ∧ st.getD j 0 ≤ 60 := by
      rw [List.getD_eq_getElem?_getD, List.getElem?_eq_getElem hj']
      exact bk.st _ (List.getElem_mem hj')
    have m := mul_small (sh.getD j 0) (st.getD j 0) (.inr (small_ok (by omega)))
    have sb := sub_int (sh.getD j 0 * st.getD j 0) (ts.getD j 0)
    refine ⟨_, rfl, rfl, ?_⟩
    show _ = R.ok (D.int (sh.getD j 0 * st.getD j 0 - ts.getD j 0)) L
    generalize sh.getD j 0 * st.getD j 0 - ts.getD j 0 = r at *
    generalize sh.getD j 0 * st.getD j 0 = r1 at *
    generalize sh.getD j 0 = r2 at *
    generalize st.getD j 0 = r3 at *
    generalize ts.getD j 0 = r4 at *
    simp -implicitDefEqProofs (disch := first | omega | assumption | rfl) only [exSs, exS, evE, evEs, startE, bndR, List.map_cons, List.map_nil, List.length_cons, List.length_nil, List.cons_append, List.nil_append, List.getElem?_cons_zero, List.getElem?_cons_succ, R.bind_ok, R.bind_exc, R.st_ok, R.st_exc, call_eq, callL_eq, truth_bl, truth_int, Nat.reduceAdd, Nat.reduceSub, Int.cast_ofNat_Int, Int.reduceBEq, beq_self_eq_true, Bool.not_true, Bool.not_false, Int.reduceNeg, decide_true, decide_false, Bool.or_false, Bool.and_true, Bool.true_and, Bool.and_false, Bool.false_and, eT_ev, itD_seq, itemsD_tup, itemsD_lst, bi_all, bi_any, bi_len, lenD_tup, lenD_lst, lcEnd_f, List.length_map, List.all_cons, List.all_nil, id_eq, endR_rt, endR_nx, endR_exc, opt_some, Option.map_some, Tg.put, putMany, List.set_cons_zero, List.set_cons_succ, RS.bind_nx, RS.bind_rt, RS.bind_exc, List.replicate, R.nox_ok, wipeE, e_strays_of_1, m, sb]
  have zl : (pairs3 (ts.map D.int) (sh.map .int) (st.map .int)).length ≤ size16 := by
    rw [pairs3_len _ _ _ (by simp; omega) (by simp; omega), List.length_map]; unfold size16; omega
  have b0 := book0 st ls L
  show _ = R.ok (D.tup ((strL st ts sh).map D.int)) L
  unfold stD at *
  generalize (strL st ts sh).map D.int = res at *
  generalize pairs3 (ts.map D.int) (sh.map .int) (st.map .int) = P3 at *
  generalize bookD st ls = B at *
  generalize ti ts = A1 at *
  generalize ti sh = A2 at *
  generalize ti st = A3 at *
  simp -implicitDefEqProofs (disch := first | omega | assumption | rfl) only [exSs, exS, evE, evEs, startE, bndR, List.map_cons, List.map_nil, List.length_cons, List.length_nil, List.cons_append, List.nil_append, List.getElem?_cons_zero, List.getElem?_cons_succ, R.bind_ok, R.bind_exc, R.st_ok, R.st_exc, call_eq, callL_eq, truth_bl, truth_int, Nat.reduceAdd, Nat.reduceSub, Int.cast_ofNat_Int, Int.reduceBEq, beq_self_eq_true, Bool.not_true, Bool.not_false, Int.reduceNeg, decide_true, decide_false, Bool.or_false, Bool.and_true, Bool.true_and, Bool.and_false, Bool.false_and, eT_ev, itD_seq, itemsD_tup, itemsD_lst, bi_all, bi_any, bi_len, lenD_tup, lenD_lst, lcEnd_f, List.length_map, List.all_cons, List.all_nil, id_eq, endR_rt, endR_nx, endR_exc, opt_some, Option.map_some, Tg.put, putMany, List.set_cons_zero, List.set_cons_succ, RS.bind_nx, RS.bind_rt, RS.bind_exc, List.replicate, R.nox_ok, wipeE, f_strays_of, b0, it1, if_pos zl, g1, bi_tup_lst]
theorem rng_each {C : Cf} {e : E} {N k : Nat} {G : Nat → Int} {env : Env} {L : LH} (he : ∀ i : Nat, i < N → evE C e (env.set k (some (.int (i : Int)))) L = .ok (.int (G i)) L) :
    lcGo (Tg.put (.nm k)) (evE C eT) (evE C e) env (rngL 0 (N : Int)) L = .ok (((List.range N).map G).map .int) L := by
  rw [rngL_map, lcGo_all (f := fun d => match d with | .int i => .int (G i.toNat) | _ => .non)]
  · rw [List.map_map, List.map_map, List.map_map]; rfl
  · intro x hx
    obtain ⟨i, hi, rfl⟩ := List.mem_map.mp hx
    obtain ⟨k, hk, rfl⟩ := List.mem_map.mp hi
    exact ⟨_, rfl, rfl, he k (List.mem_range.mp hk)⟩
theorem lstrays_ok {n : Nat} (h : 1 ≤ n) (bk : BookOk st ls) (h1 : ts.length = st.length) (h2 : sh.length = st.length) (L : LH) : callN T n i__law_strays_of [bookD st ls, stD ts sh] L = .ok (ti (strL st ts sh)) L := by
  obtain ⟨n, rfl, _⟩ := pre h
  rw [call_of (fn := f__law_strays_of) rfl rfl]
  have h6 := bk.le
  have s0 : idxD L (stD ts sh) (.int 0) = some (ti ts) := at0 _ _
  have s1 : idxD L (stD ts sh) (.int 1) = some (ti sh) := at1 _ _ _
  have b0 := book0 st ls L
  have g1 : lcGo (Tg.put (.nm 2)) (evE (cfN T n) eT) (evE (cfN T n) e__law_strays_of_1) [some (bookD st ls), some (stD ts sh), none] (rngL 0 (st.length : Int)) L = .ok (((List.range st.length).map fun j => sh.getD j 0 * st.getD j 0 - ts.getD j 0).map .int) L := rng_each fun j hj => by
    have hs : 1 ≤ st.getD j 0 ∧ st.getD j 0 ≤ 60 := by
      rw [List.getD_eq_getElem?_getD, List.getElem?_eq_getElem hj]
      exact bk.st _ (List.getElem_mem hj)
    have i1 := idx_ti (xs := sh) (p := j) (by omega) L
    have i2 := idx_ti (xs := st) (p := j) hj L
    have i3 := idx_ti (xs := ts) (p := j) (by omega) L
    have m := mul_small (sh.getD j 0) (st.getD j 0) (.inr (small_ok (by omega)))
    have sb := sub_int (sh.getD j 0 * st.getD j 0) (ts.getD j 0)
    generalize sh.getD j 0 * st.getD j 0 - ts.getD j 0 = r at *
    generalize sh.getD j 0 * st.getD j 0 = r1 at *
    generalize sh.getD j 0 = r2 at *
    generalize st.getD j 0 = r3 at *
    generalize ts.getD j 0 = r4 at *
    generalize stD ts sh = SS at *
    generalize bookD st ls = B at *
    generalize ti sh = A1 at *
    generalize ti ts = A2 at *
    generalize ti st = A3 at *
    simp -implicitDefEqProofs (disch := first | omega | assumption | rfl) only [exSs, exS, evE, evEs, startE, bndR, List.map_cons, List.map_nil, List.length_cons, List.length_nil, List.cons_append, List.nil_append, List.getElem?_cons_zero, List.getElem?_cons_succ, R.bind_ok, R.bind_exc, R.st_ok, R.st_exc, call_eq, callL_eq, truth_bl, truth_int, Nat.reduceAdd, Nat.reduceSub, Int.cast_ofNat_Int, Int.reduceBEq, beq_self_eq_true, Bool.not_true, Bool.not_false, Int.reduceNeg, decide_true, decide_false, Bool.or_false, Bool.and_true, Bool.true_and, Bool.and_false, Bool.false_and, eT_ev, itD_seq, itemsD_tup, itemsD_lst, bi_all, bi_any, bi_len, lenD_tup, lenD_lst, lcEnd_f, List.length_map, List.all_cons, List.all_nil, id_eq, endR_rt, endR_nx, endR_exc, opt_some, Option.map_some, Tg.put, putMany, List.set_cons_zero, List.set_cons_succ, RS.bind_nx, RS.bind_rt, RS.bind_exc, List.replicate, R.nox_ok, wipeE, e__law_strays_of_1, s1, i1, b0, i2, m, s0, i3, sb]
  have r := itD_rng (i := (st.length : Int)) (by omega)
  have hz : (rngL 0 (st.length : Int)).length ≤ size16 := by rw [rngL_len]; unfold size16; omega
  have l0 : lenD L (ti st) = some st.length := by
    show some (st.map D.int).length = _
    rw [List.length_map]
  show _ = R.ok (D.tup ((strL st ts sh).map D.int)) L
  have e : ((List.range st.length).map fun j => sh.getD j 0 * st.getD j 0 - ts.getD j 0).map D.int = (strL st ts sh).map D.int := rfl
  rw [e] at g1
  generalize (strL st ts sh).map D.int = res at *
  generalize stD ts sh = SS at *
  generalize bookD st ls = B at *
  generalize ti st = A3 at *
  generalize rngL 0 (st.length : Int) = RG at *
  simp -implicitDefEqProofs (disch := first | omega | assumption | rfl) only [exSs, exS, evE, evEs, startE, bndR, List.map_cons, List.map_nil, List.length_cons, List.length_nil, List.cons_append, List.nil_append, List.getElem?_cons_zero, List.getElem?_cons_succ, R.bind_ok, R.bind_exc, R.st_ok, R.st_exc, call_eq, callL_eq, truth_bl, truth_int, Nat.reduceAdd, Nat.reduceSub, Int.cast_ofNat_Int, Int.reduceBEq, beq_self_eq_true, Bool.not_true, Bool.not_false, Int.reduceNeg, decide_true, decide_false, Bool.or_false, Bool.and_true, Bool.true_and, Bool.and_false, Bool.false_and, eT_ev, itD_seq, itemsD_tup, itemsD_lst, bi_all, bi_any, bi_len, lenD_tup, lenD_lst, lcEnd_f, List.length_map, List.all_cons, List.all_nil, id_eq, endR_rt, endR_nx, endR_exc, opt_some, Option.map_some, Tg.put, putMany, List.set_cons_zero, List.set_cons_succ, RS.bind_nx, RS.bind_rt, RS.bind_exc, List.replicate, R.nox_ok, wipeE, f__law_strays_of, b0, l0, r, if_pos hz, g1, bi_tup_lst]
theorem strays_ok {n : Nat} (h : 7 ≤ n) (bk : BookOk st ls) (h1 : ts.length = st.length) (h2 : sh.length = st.length) (L : LH) : callN T n i_strays [bookD st ls, stD ts sh] L = .ok (ti (strL st ts sh)) L := by
  obtain ⟨n, rfl, _⟩ := pre h
  rw [call_of (fn := f_strays) rfl rfl]
  have m := made_ok (n := n) (by omega) bk L
  have s := strays_of_ok (n := n) (by omega) bk h1 h2 L
  generalize ti (strL st ts sh) = res at *
  generalize stD ts sh = SS at *
  generalize bookD st ls = B at *
  simp -implicitDefEqProofs (disch := first | omega | assumption | rfl) only [exSs, exS, evE, evEs, startE, bndR, List.map_cons, List.map_nil, List.length_cons, List.length_nil, List.cons_append, List.nil_append, List.getElem?_cons_zero, List.getElem?_cons_succ, R.bind_ok, R.bind_exc, R.st_ok, R.st_exc, call_eq, callL_eq, truth_bl, truth_int, Nat.reduceAdd, Nat.reduceSub, Int.cast_ofNat_Int, Int.reduceBEq, beq_self_eq_true, Bool.not_true, Bool.not_false, Int.reduceNeg, decide_true, decide_false, Bool.or_false, Bool.and_true, Bool.true_and, Bool.and_false, Bool.false_and, eT_ev, itD_seq, itemsD_tup, itemsD_lst, bi_all, bi_any, bi_len, lenD_tup, lenD_lst, lcEnd_f, List.length_map, List.all_cons, List.all_nil, id_eq, endR_rt, endR_nx, endR_exc, opt_some, Option.map_some, Tg.put, putMany, List.set_cons_zero, List.set_cons_succ, RS.bind_nx, RS.bind_rt, RS.bind_exc, List.replicate, R.nox_ok, wipeE, f_strays, m, s]
/-! ### the law's own steps -/
theorem noughts_ok {n : Nat} (h : 1 ≤ n) (bk : BookOk st ls) (L : LH) : callN T n i__law_noughts [bookD st ls] L = .ok (stD (zrs st.length) (zrs st.length)) L := by
  obtain ⟨n, rfl, _⟩ := pre h
  rw [call_of (fn := f__law_noughts) rfl rfl]
  have h6 := bk.le
  have z := zrs_ev st.length (by omega)
  have hz1 : (1 : Nat) ≤ size16 := by unfold size16; omega
  have hz2 : (2 : Nat) ≤ size16 := by unfold size16; omega
  have b0 := book0 st ls L
  have l0 : lenD L (ti st) = some st.length := by
    show some (st.map D.int).length = _
    rw [List.length_map]
  unfold stD
  generalize ti (zrs st.length) = Z at *
  generalize ti st = S at *
  generalize bookD st ls = B at *
  simp -implicitDefEqProofs (disch := first | omega | assumption | rfl) only [exSs, exS, evE, evEs, startE, bndR, List.map_cons, List.map_nil, List.length_cons, List.length_nil, List.cons_append, List.nil_append, List.getElem?_cons_zero, List.getElem?_cons_succ, R.bind_ok, R.bind_exc, R.st_ok, R.st_exc, call_eq, callL_eq, truth_bl, truth_int, Nat.reduceAdd, Nat.reduceSub, Int.cast_ofNat_Int, Int.reduceBEq, beq_self_eq_true, Bool.not_true, Bool.not_false, Int.reduceNeg, decide_true, decide_false, Bool.or_false, Bool.and_true, Bool.true_and, Bool.and_false, Bool.false_and, eT_ev, itD_seq, itemsD_tup, itemsD_lst, bi_all, bi_any, bi_len, lenD_tup, lenD_lst, lcEnd_f, List.length_map, List.all_cons, List.all_nil, id_eq, endR_rt, endR_nx, endR_exc, opt_some, Option.map_some, Tg.put, putMany, List.set_cons_zero, List.set_cons_succ, RS.bind_nx, RS.bind_rt, RS.bind_exc, List.replicate, R.nox_ok, wipeE, f__law_noughts, if_pos hz1, b0, l0, z, if_pos hz2]
end
theorem setIx_int {L : LH} {l : Nat} {xs : List Int} (h : L[l]? = some (.lst (xs.map .int))) {p : Nat} (hp : p < xs.length) (v : Int) : setIx L (.loc l) (.int (p : Int)) (.int v) = some (L.set l (.lst ((xs.set p v).map .int))) := by
  rw [setIx_loc h (j := p) (by rw [List.length_map]; exact ixN_nat (by omega) (by omega)), List.map_set]
theorem idx_locI {L : LH} {l : Nat} {xs : List Int} (h : L[l]? = some (.lst (xs.map .int))) {p : Nat} (hp : p < xs.length) : idxD L (.loc l) (.int (p : Int)) = some (.int (xs.getD p 0)) := by
  rw [idx_loc h]
  have := atI_z (xs := xs) (j := (p : Int)) (by omega) (by omega)
  rwa [Int.toNat_natCast] at this
section
variable {L0 : LH}
theorem two0 (a b : O) : (L0 ++ [a, b])[L0.length]? = some a := by rw [List.getElem?_append_right (Nat.le_refl _)]; simp
theorem two1 (a b : O) : (L0 ++ [a, b])[L0.length + 1]? = some b := by rw [List.getElem?_append_right (Nat.le_add_right _ _)]; simp
theorem set0 (a b c : O) : (L0 ++ [a, b]).set L0.length c = L0 ++ [c, b] := by rw [List.set_append_right _ _ (Nat.le_refl _)]; simp
theorem set1 (a b c : O) : (L0 ++ [a, b]).set (L0.length + 1) c = L0 ++ [a, c] := by rw [List.set_append_right _ _ (Nat.le_add_right _ _)]; simp
abbrev intsO (xs : List Int) : O := .lst (xs.map .int)
theorem stepped_loop {C : Cf} {N : Nat} (a : O) (x0 x1 x2 : Option D) : ∀ (cs : List (Nat × Int)) (sh : List Int) (y z : Option D), (∀ c ∈ cs, c.1 < N) → sh.length = N →
    ∃ y' z', forGo (Tg.put (.tp [5, 6])) (exSs C s__law_stepped_1) (cs.map mvD) [x0, x1, x2, some (.loc L0.length), some (.loc (L0.length + 1)), y, z] (L0 ++ [a, intsO sh]) = .nx [x0, x1, x2, some (.loc L0.length), some (.loc (L0.length + 1)), y', z'] (L0 ++ [a, intsO (addC sh cs)])
  | [], sh, y, z, _, _ => ⟨y, z, rfl⟩
  | c :: cs, sh, y, z, hc, hl => by
    have hp : c.1 < sh.length := by rw [hl]; exact hc c List.mem_cons_self
    have g := two1 (L0 := L0) a (intsO sh)
    have i1 := idx_locI g hp
    have s1 := setIx_int g hp (sh.getD c.1 0 + c.2)
    rw [set1] at s1
    have ad := add_int (sh.getD c.1 0) c.2
    have p1 : Tg.put (.tp [5, 6]) (mvD c) [x0, x1, x2, some (.loc L0.length), some (.loc (L0.length + 1)), y, z] = some [x0, x1, x2, some (.loc L0.length), some (.loc (L0.length + 1)), some (.int (c.1 : Int)), some (.int c.2)] := rfl
    have e : exSs C s__law_stepped_1 [x0, x1, x2, some (.loc L0.length), some (.loc (L0.length + 1)), some (.int (c.1 : Int)), some (.int c.2)] (L0 ++ [a, intsO sh]) = .nx [x0, x1, x2, some (.loc L0.length), some (.loc (L0.length + 1)), some (.int (c.1 : Int)), some (.int c.2)] (L0 ++ [a, intsO (sh.set c.1 (sh.getD c.1 0 + c.2))]) := by
      clear g
      generalize L0 ++ [a, intsO sh] = L1 at *
      generalize L0 ++ [a, intsO (sh.set c.1 (sh.getD c.1 0 + c.2))] = L2 at *
      generalize sh.getD c.1 0 + c.2 = v at *
      simp -implicitDefEqProofs (disch := first | omega | assumption | rfl) only [exSs, exS, evE, evEs, startE, bndR, List.map_cons, List.map_nil, List.length_cons, List.length_nil, List.cons_append, List.nil_append, List.getElem?_cons_zero, List.getElem?_cons_succ, R.bind_ok, R.bind_exc, R.st_ok, R.st_exc, call_eq, callL_eq, truth_bl, truth_int, Nat.reduceAdd, Nat.reduceSub, Int.cast_ofNat_Int, Int.reduceBEq, beq_self_eq_true, Bool.not_true, Bool.not_false, Int.reduceNeg, decide_true, decide_false, Bool.or_false, Bool.and_true, Bool.true_and, Bool.and_false, Bool.false_and, eT_ev, itD_seq, itemsD_tup, itemsD_lst, bi_all, bi_any, bi_len, lenD_tup, lenD_lst, lcEnd_f, List.length_map, List.all_cons, List.all_nil, id_eq, endR_rt, endR_nx, endR_exc, opt_some, Option.map_some, Tg.put, putMany, List.set_cons_zero, List.set_cons_succ, RS.bind_nx, RS.bind_rt, RS.bind_exc, List.replicate, R.nox_ok, wipeE, s__law_stepped_1, i1, ad, s1]
    obtain ⟨y', z', q⟩ := stepped_loop a x0 x1 x2 cs (sh.set c.1 (sh.getD c.1 0 + c.2)) (some (.int (c.1 : Int))) (some (.int c.2)) (fun d hd => hc d (List.mem_cons_of_mem _ hd)) (by rw [List.length_set]; exact hl)
    refine ⟨y', z', ?_⟩
    rw [List.map_cons, forGo_nx p1 e]
    exact q
theorem stepped_ok {n : Nat} (h : 1 ≤ n) (hf : Flat L0) {N : Nat} (hN : N ≤ 1000) {ts sh : List Int} (h1 : ts.length = N) (h2 : sh.length = N) {m : Nat × Int} (hm : m.1 < N) {cs : List (Nat × Int)} (hc : ∀ c ∈ cs, c.1 < N) :
    callN T n i__law_stepped [stD ts sh, mvD m, cgD cs] L0 = .ok (stD (ts.set m.1 (ts.getD m.1 0 + m.2)) (addC sh cs)) L0 := by
  obtain ⟨n, rfl, _⟩ := pre h
  have hp : m.1 < ts.length := by omega
  have s0 : ∀ L, idxD L (stD ts sh) (.int 0) = some (ti ts) := fun L => at0 _ _
  have s1 : ∀ L, idxD L (stD ts sh) (.int 1) = some (ti sh) := fun L => at1 _ _ _
  have z1 : (ts.map D.int).length ≤ size16 := by rw [List.length_map]; unfold size16; omega
  have z2 : (sh.map D.int).length ≤ size16 := by rw [List.length_map]; unfold size16; omega
  have l1 : ∀ L : LH, itemsL L (ti ts) = some (ts.map .int) := fun L => rfl
  have l2 : ∀ L : LH, itemsL L (ti sh) = some (sh.map .int) := fun L => rfl
  have e0 : (L0 ++ [intsO ts]) ++ [intsO sh] = L0 ++ [intsO ts, intsO sh] := by rw [List.append_assoc]; rfl
  have len : (L0 ++ [intsO ts]).length = L0.length + 1 := by simp
  have g := two0 (L0 := L0) (intsO ts) (intsO sh)
  have i1 := idx_locI g hp
  have w1 := setIx_int g hp (ts.getD m.1 0 + m.2)
  rw [set0] at w1
  have ad := add_int (ts.getD m.1 0) m.2
  obtain ⟨y, z, lp⟩ := stepped_loop (L0 := L0) (C := cfN T n) (intsO (ts.set m.1 (ts.getD m.1 0 + m.2))) (some (stD ts sh)) (some (mvD m)) (some (cgD cs)) cs sh none none hc h2
  have g0 := two0 (L0 := L0) (intsO (ts.set m.1 (ts.getD m.1 0 + m.2))) (intsO (addC sh cs))
  have g1 := two1 (L0 := L0) (intsO (ts.set m.1 (ts.getD m.1 0 + m.2))) (intsO (addC sh cs))
  have t0 := bi_tup_loc g0
  have t1 := bi_tup_loc g1
  have hz2 : (2 : Nat) ≤ size16 := by unfold size16; omega
  have it1 : itemsD (cgD cs) = some (cs.map mvD) := rfl
  have v0 := fun L => mv0 m L
  have v1 := fun L => mv1 m L
  have ex : exSs (cfN T n) f__law_stepped.body (startE f__law_stepped.nl [stD ts sh, mvD m, cgD cs]) L0 = .rt (stD (ts.set m.1 (ts.getD m.1 0 + m.2)) (addC sh cs)) (L0 ++ [intsO (ts.set m.1 (ts.getD m.1 0 + m.2)), intsO (addC sh cs)]) := by
    clear g g0 g1
    show _ = RS.rt (D.tup [D.tup ((ts.set m.1 (ts.getD m.1 0 + m.2)).map .int), D.tup ((addC sh cs).map .int)]) _
    generalize L0 ++ [intsO (ts.set m.1 (ts.getD m.1 0 + m.2)), intsO (addC sh cs)] = L5 at *
    generalize L0 ++ [intsO (ts.set m.1 (ts.getD m.1 0 + m.2)), intsO sh] = L4 at *
    generalize (ts.set m.1 (ts.getD m.1 0 + m.2)).map D.int = R1 at *
    generalize (addC sh cs).map D.int = R2 at *
    generalize ts.getD m.1 0 + m.2 = v at *
    generalize L0 ++ [intsO ts, intsO sh] = L3 at *
    unfold intsO at e0 len
    generalize stD ts sh = SS at *
    generalize ti ts = T1 at *
    generalize ti sh = T2 at *
    generalize ts.map D.int = M1 at *
    generalize sh.map D.int = M2 at *
    generalize cs.map mvD = ML at *
    generalize cgD cs = C at *
    generalize mvD m = M at *
    simp -implicitDefEqProofs (disch := first | omega | assumption | rfl) only [exSs, exS, evE, evEs, startE, bndR, List.map_cons, List.map_nil, List.length_cons, List.length_nil, List.cons_append, List.nil_append, List.getElem?_cons_zero, List.getElem?_cons_succ, R.bind_ok, R.bind_exc, R.st_ok, R.st_exc, call_eq, callL_eq, truth_bl, truth_int, Nat.reduceAdd, Nat.reduceSub, Int.cast_ofNat_Int, Int.reduceBEq, beq_self_eq_true, Bool.not_true, Bool.not_false, Int.reduceNeg, decide_true, decide_false, Bool.or_false, Bool.and_true, Bool.true_and, Bool.and_false, Bool.false_and, eT_ev, itD_seq, itemsD_tup, itemsD_lst, bi_all, bi_any, bi_len, lenD_tup, lenD_lst, lcEnd_f, List.length_map, List.all_cons, List.all_nil, id_eq, endR_rt, endR_nx, endR_exc, opt_some, Option.map_some, Tg.put, putMany, List.set_cons_zero, List.set_cons_succ, RS.bind_nx, RS.bind_rt, RS.bind_exc, List.replicate, R.nox_ok, wipeE, f__law_stepped, s0, s1, l1, l2, if_pos z1, if_pos z2, if_true, sets, e0, len, List.length_append, v0, v1, i1, ad, w1, it1, lp, t0, t1, if_pos hz2]
  rw [call_of (fn := f__law_stepped) rfl rfl, ex]
  exact endR_dropL rfl hf (below_st _ _ _)
end
end Lw
end

section
set_option Elab.async false
set_option linter.all false
set_option maxRecDepth 100000
set_option maxHeartbeats 1000000
/-! drawn histories -/
namespace Lw
open PySem (Str)
open Ev
theorem lenD_loc {L : LH} {l : Nat} {xs : List D} (h : L[l]? = some (.lst xs)) : lenD L (.loc l) = some xs.length := by simp only [lenD, h]
theorem mul_lst (xs : List D) (N : Nat) (h : xs.length ≤ 1000) (hN : N ≤ 1000) : binD .mul (.lst xs) (.int N) = some (.lst (List.replicate (N : Int).toNat xs).flatten) := by
  simp only [binD]
  rw [if_pos (by simp [h]; omega)]
theorem rep_one {α : Type} (x : α) (f : α → D) (N : Nat) : (List.replicate (N : Int).toNat [f x]).flatten = (List.replicate N x).map f := by
  rw [Int.toNat_natCast]
  induction N with
  | zero => rfl
  | succ N ih => rw [List.replicate_succ, List.flatten_cons, ih]; rfl
theorem min_int (x y : Int) (L : LH) : biD .min [.int x, .int y] L = some (.int (if y < x then y else x)) := rfl
section
variable {L0 L : LH} {l : Nat} {a b : Int}
theorem hist_tail {n : Nat} {N K : Nat} (hK : K ≤ 1000) {hs : List (Nat × Int)} (hA : AtF L0 l (hs.map mvD) L) (hl : hs.length < K) {m : Nat × Int} (hN : IsMv N m) (hm : ∀ m ∈ hs, IsMv N m) {t : Int} (ht : 1 ≤ t) (x4 : Option D) :
    ∃ (hs' : List (Nat × Int)) (L' : LH), exS (cfN T n) (.expr (.ext (.var 3) (.bin .mul (.lst [(.var 5)]) (.bi .min [(.var 6), (.bin .sub (.var 2) (.bi .len [(.var 3)]))])))) [some (.loc l), some (.int (N : Nat)), some (.int (K : Nat)), some (.loc L0.length), x4, some (mvD m), some (.int t)] L = .nx [some (.loc l), some (.int (N : Nat)), some (.int (K : Nat)), some (.loc L0.length), x4, some (mvD m), some (.int t)] L' ∧ AtF L0 l (hs'.map mvD) L' ∧ hs'.length ≤ K ∧ ∀ m ∈ hs', IsMv N m := by
  have g := hA.get
  have g1 := lstAt_loc g
  have g2 := lenD_loc g
  rw [List.length_map] at g2
  have sb := sub_int (K : Int) (hs.length : Int)
  obtain ⟨r, hr, hr2⟩ : ∃ r : Nat, (if (K : Int) - hs.length < t then (K : Int) - hs.length else t) = (r : Int) ∧ r ≤ K - hs.length := ⟨(if (K : Int) - hs.length < t then (K : Int) - hs.length else t).toNat, by split <;> omega, by split <;> omega⟩
  have mn := min_int t ((K : Int) - hs.length) L
  rw [hr] at mn
  have ml := mul_lst [mvD m] r (by simp) (by omega)
  rw [rep_one m mvD r] at ml
  have e : hs.map mvD ++ (List.replicate r m).map mvD = (hs ++ List.replicate r m).map mvD := by rw [List.map_append]
  have z : (hs.map mvD).length + ((List.replicate r m).map mvD).length ≤ size16 := by
    rw [List.length_map, List.length_map, List.length_replicate]; unfold size16; omega
  have hz1 : (1 : Nat) ≤ size16 := by unfold size16; omega
  refine ⟨hs ++ List.replicate r m, _, ?_, hA.upd _, by simp; omega, fun x hx => ?_⟩
  · rw [← e]
    clear e
    generalize (List.replicate r m).map mvD = RL at *
    generalize hs.map mvD = HL at *
    generalize (K : Int) - hs.length = q at *
    generalize mvD m = M at *
    generalize L0.length = q0 at *
    have ex : ∀ (xs ys : List D) (L1 : LH), (match (some (O.lst xs)), D.lst ys with
      | some (.lst xs), .lst ys => if xs.length + ys.length ≤ size16 then R.ok D.non (L.set q0 (.lst (xs ++ ys))) else .bad
      | _, _ => .bad) = (if xs.length + ys.length ≤ size16 then R.ok D.non (L.set q0 (.lst (xs ++ ys))) else .bad) := fun _ _ _ => rfl
    simp -implicitDefEqProofs (disch := first | omega | assumption | rfl) only [exSs, exS, evE, evEs, startE, bndR, List.map_cons, List.map_nil, List.length_cons, List.length_nil, List.cons_append, List.nil_append, List.getElem?_cons_zero, List.getElem?_cons_succ, R.bind_ok, R.bind_exc, R.st_ok, R.st_exc, call_eq, callL_eq, truth_bl, truth_int, Nat.reduceAdd, Nat.reduceSub, Int.cast_ofNat_Int, Int.reduceBEq, beq_self_eq_true, Bool.not_true, Bool.not_false, Int.reduceNeg, decide_true, decide_false, Bool.or_false, Bool.and_true, Bool.true_and, Bool.and_false, Bool.false_and, eT_ev, itD_seq, itemsD_tup, itemsD_lst, bi_all, bi_any, bi_len, lenD_tup, lenD_lst, lcEnd_f, List.length_map, List.all_cons, List.all_nil, id_eq, endR_rt, endR_nx, endR_exc, opt_some, Option.map_some, Tg.put, putMany, List.set_cons_zero, List.set_cons_succ, RS.bind_nx, RS.bind_rt, RS.bind_exc, List.replicate, R.nox_ok, wipeE, g1, if_pos hz1, g2, sb, mn, ml, g]
    rw [if_pos z]
    rfl
  · rcases List.mem_append.mp hx with hx | hx
    · exact hm x hx
    · rw [List.eq_of_mem_replicate hx]; exact hN
theorem hist_step {n : Nat} (h : 1 ≤ n) (s : src L0 l a b) {N K : Nat} (hN : 1 ≤ N ∧ N ≤ 6) (hK : K ≤ 1000) {hs : List (Nat × Int)} (hA : AtF L0 l (hs.map mvD) L) (hl : hs.length ≤ K) (hm : ∀ m ∈ hs, IsMv N m) (x4 x5 x6 : Option D) :
    ∃ (hs' : List (Nat × Int)) (L' : LH) (y5 y6 : Option D), exSs (cfN T n) s__law_drawn_history_1 [some (.loc l), some (.int (N : Nat)), some (.int (K : Nat)), some (.loc L0.length), x4, x5, x6] L = .nx [some (.loc l), some (.int (N : Nat)), some (.int (K : Nat)), some (.loc L0.length), x4, y5, y6] L' ∧ AtF L0 l (hs'.map mvD) L' ∧ hs'.length ≤ K ∧ ∀ m ∈ hs', IsMv N m := by
  have g2 := lenD_loc hA.get
  rw [List.length_map] at g2
  have lt := cmp_lt (hs.length : Int) (K : Int)
  have hz2 : (2 : Nat) ≤ size16 := by unfold size16; omega
  by_cases c : hs.length < K
  · rw [decide_eq_true (by omega)] at lt
    obtain ⟨v, L1, v0, v1, t1, a1⟩ := take_atF (n := n) h s hA 6 (by omega)
    have gt := cmp_gt v 0
    by_cases cv : 0 < v
    · rw [decide_eq_true cv] at gt
      obtain ⟨p, L2, p0, p1, t2, a2⟩ := take_atF (n := n) h s a1 (N : Int) (by omega)
      obtain ⟨w, L3, w0, w1, t3, a3⟩ := take_atF (n := n) h s a2 2 (by omega)
      obtain ⟨u, L4, u0, u1, t4, a4⟩ := take_atF (n := n) h s a3 3 (by omega)
      obtain ⟨p', rfl⟩ : ∃ p' : Nat, p = (p' : Int) := ⟨p.toNat, by omega⟩
      have im : IsMv N (p', 1 - 2 * w) := ⟨by show p' < N; omega, by show 1 - 2 * w = 1 ∨ 1 - 2 * w = -1; omega⟩
      have ml := mul_small 2 w (.inl (by decide))
      have sb := sub_int 1 (2 * w)
      have me : mvD (p', 1 - 2 * w) = .tup [.int (p' : Int), .int (1 - 2 * w)] := rfl
      cases cu : (u == 0) with
      | true =>
        obtain ⟨x, L5, x0, x1, t5, a5⟩ := take_atF (n := n) h s a4 6 (by omega)
        have ad := add_int 1 x
        obtain ⟨hs', L', e, q1, q2, q3⟩ := hist_tail (n := n) hK a5 c im hm (t := 1 + x) (by omega) x4
        refine ⟨hs', L', some (.tup [.int (p' : Int), .int (1 - 2 * w)]), some (.int (1 + x)), ?_, q1, q2, q3⟩
        rw [me] at e
        generalize 1 + x = x' at *
        generalize 1 - 2 * w = w' at *
        generalize 2 * w = w2 at *
        generalize hx : S.expr (.ext (.var 3) (.bin .mul (.lst [(.var 5)]) (.bi .min [(.var 6), (.bin .sub (.var 2) (.bi .len [(.var 3)]))]))) = tl at *
        simp -implicitDefEqProofs (disch := first | omega | assumption | rfl) only [exSs, exS, evE, evEs, startE, bndR, List.map_cons, List.map_nil, List.length_cons, List.length_nil, List.cons_append, List.nil_append, List.getElem?_cons_zero, List.getElem?_cons_succ, R.bind_ok, R.bind_exc, R.st_ok, R.st_exc, call_eq, callL_eq, truth_bl, truth_int, Nat.reduceAdd, Nat.reduceSub, Int.cast_ofNat_Int, Int.reduceBEq, beq_self_eq_true, Bool.not_true, Bool.not_false, Int.reduceNeg, decide_true, decide_false, Bool.or_false, Bool.and_true, Bool.true_and, Bool.and_false, Bool.false_and, eT_ev, itD_seq, itemsD_tup, itemsD_lst, bi_all, bi_any, bi_len, lenD_tup, lenD_lst, lcEnd_f, List.length_map, List.all_cons, List.all_nil, id_eq, endR_rt, endR_nx, endR_exc, opt_some, Option.map_some, Tg.put, putMany, List.set_cons_zero, List.set_cons_succ, RS.bind_nx, RS.bind_rt, RS.bind_exc, List.replicate, R.nox_ok, wipeE, s__law_drawn_history_1, hx, g2, lt, t1, gt, t2, t3, ml, sb, if_pos hz2, if_true, sets, t4, cmp_eq, eqD_int, cu, t5, ad, e]
      | false =>
        obtain ⟨hs', L', e, q1, q2, q3⟩ := hist_tail (n := n) hK a4 c im hm (t := 1) (by omega) x4
        refine ⟨hs', L', some (.tup [.int (p' : Int), .int (1 - 2 * w)]), some (.int 1), ?_, q1, q2, q3⟩
        rw [me] at e
        generalize 1 - 2 * w = w' at *
        generalize 2 * w = w2 at *
        generalize hx : S.expr (.ext (.var 3) (.bin .mul (.lst [(.var 5)]) (.bi .min [(.var 6), (.bin .sub (.var 2) (.bi .len [(.var 3)]))]))) = tl at *
        simp -implicitDefEqProofs (disch := first | omega | assumption | rfl) only [exSs, exS, evE, evEs, startE, bndR, List.map_cons, List.map_nil, List.length_cons, List.length_nil, List.cons_append, List.nil_append, List.getElem?_cons_zero, List.getElem?_cons_succ, R.bind_ok, R.bind_exc, R.st_ok, R.st_exc, call_eq, callL_eq, truth_bl, truth_int, Nat.reduceAdd, Nat.reduceSub, Int.cast_ofNat_Int, Int.reduceBEq, beq_self_eq_true, Bool.not_true, Bool.not_false, Int.reduceNeg, decide_true, decide_false, Bool.or_false, Bool.and_true, Bool.true_and, Bool.and_false, Bool.false_and, eT_ev, itD_seq, itemsD_tup, itemsD_lst, bi_all, bi_any, bi_len, lenD_tup, lenD_lst, lcEnd_f, List.length_map, List.all_cons, List.all_nil, id_eq, endR_rt, endR_nx, endR_exc, opt_some, Option.map_some, Tg.put, putMany, List.set_cons_zero, List.set_cons_succ, RS.bind_nx, RS.bind_rt, RS.bind_exc, List.replicate, R.nox_ok, wipeE, s__law_drawn_history_1, hx, g2, lt, t1, gt, t2, t3, ml, sb, if_pos hz2, if_true, sets, t4, cmp_eq, eqD_int, cu, e]
    · rw [decide_eq_false cv] at gt
      refine ⟨hs, L1, x5, x6, ?_, a1, hl, hm⟩
      simp -implicitDefEqProofs (disch := first | omega | assumption | rfl) only [exSs, exS, evE, evEs, startE, bndR, List.map_cons, List.map_nil, List.length_cons, List.length_nil, List.cons_append, List.nil_append, List.getElem?_cons_zero, List.getElem?_cons_succ, R.bind_ok, R.bind_exc, R.st_ok, R.st_exc, call_eq, callL_eq, truth_bl, truth_int, Nat.reduceAdd, Nat.reduceSub, Int.cast_ofNat_Int, Int.reduceBEq, beq_self_eq_true, Bool.not_true, Bool.not_false, Int.reduceNeg, decide_true, decide_false, Bool.or_false, Bool.and_true, Bool.true_and, Bool.and_false, Bool.false_and, eT_ev, itD_seq, itemsD_tup, itemsD_lst, bi_all, bi_any, bi_len, lenD_tup, lenD_lst, lcEnd_f, List.length_map, List.all_cons, List.all_nil, id_eq, endR_rt, endR_nx, endR_exc, opt_some, Option.map_some, Tg.put, putMany, List.set_cons_zero, List.set_cons_succ, RS.bind_nx, RS.bind_rt, RS.bind_exc, List.replicate, R.nox_ok, wipeE, s__law_drawn_history_1, g2, lt, t1, gt]
  · rw [decide_eq_false (by omega)] at lt
    refine ⟨hs, L, x5, x6, ?_, hA, hl, hm⟩
    simp -implicitDefEqProofs (disch := first | omega | assumption | rfl) only [exSs, exS, evE, evEs, startE, bndR, List.map_cons, List.map_nil, List.length_cons, List.length_nil, List.cons_append, List.nil_append, List.getElem?_cons_zero, List.getElem?_cons_succ, R.bind_ok, R.bind_exc, R.st_ok, R.st_exc, call_eq, callL_eq, truth_bl, truth_int, Nat.reduceAdd, Nat.reduceSub, Int.cast_ofNat_Int, Int.reduceBEq, beq_self_eq_true, Bool.not_true, Bool.not_false, Int.reduceNeg, decide_true, decide_false, Bool.or_false, Bool.and_true, Bool.true_and, Bool.and_false, Bool.false_and, eT_ev, itD_seq, itemsD_tup, itemsD_lst, bi_all, bi_any, bi_len, lenD_tup, lenD_lst, lcEnd_f, List.length_map, List.all_cons, List.all_nil, id_eq, endR_rt, endR_nx, endR_exc, opt_some, Option.map_some, Tg.put, putMany, List.set_cons_zero, List.set_cons_succ, RS.bind_nx, RS.bind_rt, RS.bind_exc, List.replicate, R.nox_ok, wipeE, s__law_drawn_history_1, g2, lt]
theorem drawn_history_ok {n : Nat} (h : 2 ≤ n) (s : src L0 l a b) (hf : Flat L0) {N K : Nat} (hN : 1 ≤ N ∧ N ≤ 6) (hK : K ≤ 1000) :
    ∃ (hs : List (Nat × Int)) (a' b' : Int), callN T n i__law_drawn_history [.loc l, .int (N : Nat), .int (K : Nat)] L0 = .ok (histD hs) (put2 L0 l a' b') ∧ hs.length ≤ K ∧ ∀ m ∈ hs, IsMv N m := by
  obtain ⟨n, rfl, _⟩ := pre h
  obtain ⟨a0, b0, e0⟩ := At.refl s
  obtain ⟨e, L', g, hs, y4, y5, y6, rfl, q1, q2, q3⟩ := forGo_inv (put := Tg.put (.nm 4)) (body := exSs (cfN T n) s__law_drawn_history_1) (items := rngL 0 (K : Int)) (env := [some (.loc l), some (.int (N : Nat)), some (.int (K : Nat)), some (.loc L0.length), none, none, none]) (L := L0 ++ [.lst []])
    (P := fun env L => ∃ (hs : List (Nat × Int)) (y4 y5 y6 : Option D), env = [some (.loc l), some (.int (N : Nat)), some (.int (K : Nat)), some (.loc L0.length), y4, y5, y6] ∧ AtF L0 l (hs.map mvD) L ∧ hs.length ≤ K ∧ ∀ m ∈ hs, IsMv N m)
    ⟨[], none, none, none, rfl, ⟨a0, b0, by rw [← e0]; rfl⟩, by simp, fun m hm => by cases hm⟩ (by
      rintro x hx env L ⟨hs, y4, y5, y6, rfl, q1, q2, q3⟩
      obtain ⟨hs', L', z5, z6, e, r1, r2, r3⟩ := hist_step (n := n) (by omega) s hN hK q1 q2 q3 (some x) y5 y6
      exact ⟨_, rfl, _, L', e, hs', some x, z5, z6, rfl, r1, r2, r3⟩)
  have tp := bi_tup_loc q1.get
  obtain ⟨a', b', hL'⟩ := q1
  refine ⟨hs, a', b', ?_, q2, q3⟩
  have r := itD_rng (i := (K : Int)) (by omega)
  have hz0 : (0 : Nat) ≤ size16 := Nat.zero_le _
  have ex : exSs (cfN T n) f__law_drawn_history.body (startE f__law_drawn_history.nl [.loc l, .int (N : Nat), .int (K : Nat)]) L0 = .rt (histD hs) L' := by
    show _ = RS.rt (D.tup (hs.map mvD)) L'
    generalize hs.map mvD = HL at *
    generalize rngL 0 (K : Int) = RG at *
    simp -implicitDefEqProofs (disch := first | omega | assumption | rfl) only [exSs, exS, evE, evEs, startE, bndR, List.map_cons, List.map_nil, List.length_cons, List.length_nil, List.cons_append, List.nil_append, List.getElem?_cons_zero, List.getElem?_cons_succ, R.bind_ok, R.bind_exc, R.st_ok, R.st_exc, call_eq, callL_eq, truth_bl, truth_int, Nat.reduceAdd, Nat.reduceSub, Int.cast_ofNat_Int, Int.reduceBEq, beq_self_eq_true, Bool.not_true, Bool.not_false, Int.reduceNeg, decide_true, decide_false, Bool.or_false, Bool.and_true, Bool.true_and, Bool.and_false, Bool.false_and, eT_ev, itD_seq, itemsD_tup, itemsD_lst, bi_all, bi_any, bi_len, lenD_tup, lenD_lst, lcEnd_f, List.length_map, List.all_cons, List.all_nil, id_eq, endR_rt, endR_nx, endR_exc, opt_some, Option.map_some, Tg.put, putMany, List.set_cons_zero, List.set_cons_succ, RS.bind_nx, RS.bind_rt, RS.bind_exc, List.replicate, R.nox_ok, wipeE, f__law_drawn_history, if_pos hz0, r, g, tp]
  have bh : below L0.length (histD hs) = true := by
    show belows L0.length (hs.map mvD) = true
    clear ex hL' tp q2 q3 g
    induction hs with
    | nil => rfl
    | cons m hs ih => show (true && belows L0.length (hs.map mvD)) = true; rw [ih]; rfl
  rw [call_of (fn := f__law_drawn_history) rfl rfl, ex, hL']
  exact endR_drop rfl hf bh
end
end Lw
end

section
set_option Elab.async false
set_option linter.all false
set_option maxRecDepth 100000
set_option maxHeartbeats 1000000
/-! the law's looks at changes and numbers; halves at play -/
namespace Lw
open PySem (Str)
open Ev
section
variable {st : List Int} {ls : List (List Int)} {ta : List Int}
theorem formed_loop {n : Nat} (C : D) : ∀ (cs : List (Nat × Int)) (ah : Int) (y3 y4 : Option D), (∀ c ∈ cs, c.1 < st.length ∧ c.2 ≠ 0 ∧ ah < (c.1 : Int)) → cs.Pairwise (fun a b => a.1 < b.1) →
    ∃ ah' z3 z4, forGo (Tg.put (.nm 3)) (exSs (cfN T n) s__law_is_formed_2) (cs.map mvD) [some (bookD st ls), some C, some (.int ah), y3, y4] L = .nx [some (bookD st ls), some C, some (.int ah'), z3, z4] L
  | [], ah, y3, y4, _, _ => ⟨ah, y3, y4, rfl⟩
  | c :: cs, ah, y3, y4, hc, hp => by
    obtain ⟨h1, h2, h3⟩ := hc c List.mem_cons_self
    obtain ⟨p1, p2⟩ := List.pairwise_cons.mp hp
    have w : forGo (Tg.put (.nm 4)) (exSs (cfN T n) s__law_is_formed_1) [.int (c.1 : Int), .int c.2] [some (bookD st ls), some C, some (.int ah), some (mvD c), y4] L = .nx [some (bookD st ls), some C, some (.int ah), some (mvD c), some (.int c.2)] L := by
      have st1 : ∀ (x : Int), exSs (cfN T n) s__law_is_formed_1 [some (bookD st ls), some C, some (.int ah), some (mvD c), some (.int x)] L = .nx [some (bookD st ls), some C, some (.int ah), some (mvD c), some (.int x)] L := fun x => by
        have i1 : isinD (.int x) [.int] = some true := rfl
        have i2 : isinD (.int x) [.bool] = some false := rfl
        generalize bookD st ls = B at *
        generalize mvD c = M at *
        simp -implicitDefEqProofs (disch := first | omega | assumption | rfl) only [exSs, exS, evE, evEs, startE, bndR, List.map_cons, List.map_nil, List.length_cons, List.length_nil, List.cons_append, List.nil_append, List.getElem?_cons_zero, List.getElem?_cons_succ, R.bind_ok, R.bind_exc, R.st_ok, R.st_exc, call_eq, callL_eq, truth_bl, truth_int, Nat.reduceAdd, Nat.reduceSub, Int.cast_ofNat_Int, Int.reduceBEq, beq_self_eq_true, Bool.not_true, Bool.not_false, Int.reduceNeg, decide_true, decide_false, Bool.or_false, Bool.and_true, Bool.true_and, Bool.and_false, Bool.false_and, eT_ev, itD_seq, itemsD_tup, itemsD_lst, bi_all, bi_any, bi_len, lenD_tup, lenD_lst, lcEnd_f, List.length_map, List.all_cons, List.all_nil, id_eq, endR_rt, endR_nx, endR_exc, opt_some, Option.map_some, Tg.put, putMany, List.set_cons_zero, List.set_cons_succ, RS.bind_nx, RS.bind_rt, RS.bind_exc, List.replicate, R.nox_ok, wipeE, s__law_is_formed_1, i1, i2]
      rw [forGo_nx rfl (st1 _), forGo_nx rfl (st1 _)]
      rfl
    have e : exSs (cfN T n) s__law_is_formed_2 [some (bookD st ls), some C, some (.int ah), some (mvD c), y4] L = .nx [some (bookD st ls), some C, some (.int (c.1 : Int)), some (mvD c), some (.int c.2)] L := by
      have t1 : isinD (mvD c) [.tuple] = some true := rfl
      have l2 : lenD L (mvD c) = some 2 := rfl
      have it : itemsD (mvD c) = some [.int (c.1 : Int), .int c.2] := rfl
      have i0 := mv0 c L
      have i1 := mv1 c L
      have b0 := book0 st ls L
      have l0 : lenD L (ti st) = some st.length := by
        show some (st.map D.int).length = _
        rw [List.length_map]
      have lt1 := cmp_lt ah (c.1 : Int)
      rw [decide_eq_true h3] at lt1
      have lt2 := cmp_lt (c.1 : Int) (st.length : Int)
      rw [decide_eq_true (by omega)] at lt2
      have ne : (c.2 == 0) = false := by rw [beq_eq_false_iff_ne]; exact h2
      generalize bookD st ls = B at *
      generalize ti st = S at *
      generalize mvD c = M at *
      simp -implicitDefEqProofs (disch := first | omega | assumption | rfl) only [exSs, exS, evE, evEs, startE, bndR, List.map_cons, List.map_nil, List.length_cons, List.length_nil, List.cons_append, List.nil_append, List.getElem?_cons_zero, List.getElem?_cons_succ, R.bind_ok, R.bind_exc, R.st_ok, R.st_exc, call_eq, callL_eq, truth_bl, truth_int, Nat.reduceAdd, Nat.reduceSub, Int.cast_ofNat_Int, Int.reduceBEq, beq_self_eq_true, Bool.not_true, Bool.not_false, Int.reduceNeg, decide_true, decide_false, Bool.or_false, Bool.and_true, Bool.true_and, Bool.and_false, Bool.false_and, eT_ev, itD_seq, itemsD_tup, itemsD_lst, bi_all, bi_any, bi_len, lenD_tup, lenD_lst, lcEnd_f, List.length_map, List.all_cons, List.all_nil, id_eq, endR_rt, endR_nx, endR_exc, opt_some, Option.map_some, Tg.put, putMany, List.set_cons_zero, List.set_cons_succ, RS.bind_nx, RS.bind_rt, RS.bind_exc, List.replicate, R.nox_ok, wipeE, s__law_is_formed_2, t1, l2, cmp_ne, cmp_eq, eqD_int, it, w, i0, lt1, b0, l0, lt2, i1, ne]
    obtain ⟨ah', z3, z4, q⟩ := formed_loop C cs (c.1 : Int) (some (mvD c)) (some (.int c.2)) (fun d hd => ⟨(hc d (List.mem_cons_of_mem _ hd)).1, (hc d (List.mem_cons_of_mem _ hd)).2.1, by have := p1 d hd; omega⟩) p2
    refine ⟨ah', z3, z4, ?_⟩
    rw [List.map_cons, forGo_nx rfl e]
    exact q
theorem is_formed_ok {n : Nat} (h : 1 ≤ n) {row : List Int} {cs : List (Nat × Int)} (o : CgOk row st.length cs) (L : LH) : callN T n i__law_is_formed [bookD st ls, cgD cs] L = .ok (.bl true) L := by
  obtain ⟨n, rfl, _⟩ := pre h
  rw [call_of (fn := f__law_is_formed) rfl rfl]
  obtain ⟨ah, z3, z4, e⟩ := formed_loop (st := st) (ls := ls) (n := n) (L := L) (cgD cs) cs (-1) none none (fun c hc => ⟨(o.each c hc).1, (o.each c hc).2.1, by omega⟩) o.asc
  have t1 : isinD (cgD cs) [.tuple] = some true := rfl
  have it1 : itemsD (cgD cs) = some (cs.map mvD) := rfl
  generalize cs.map mvD = ML at *
  generalize cgD cs = C at *
  generalize bookD st ls = B at *
  simp -implicitDefEqProofs (disch := first | omega | assumption | rfl) only [exSs, exS, evE, evEs, startE, bndR, List.map_cons, List.map_nil, List.length_cons, List.length_nil, List.cons_append, List.nil_append, List.getElem?_cons_zero, List.getElem?_cons_succ, R.bind_ok, R.bind_exc, R.st_ok, R.st_exc, call_eq, callL_eq, truth_bl, truth_int, Nat.reduceAdd, Nat.reduceSub, Int.cast_ofNat_Int, Int.reduceBEq, beq_self_eq_true, Bool.not_true, Bool.not_false, Int.reduceNeg, decide_true, decide_false, Bool.or_false, Bool.and_true, Bool.true_and, Bool.and_false, Bool.false_and, eT_ev, itD_seq, itemsD_tup, itemsD_lst, bi_all, bi_any, bi_len, lenD_tup, lenD_lst, lcEnd_f, List.length_map, List.all_cons, List.all_nil, id_eq, endR_rt, endR_nx, endR_exc, opt_some, Option.map_some, Tg.put, putMany, List.set_cons_zero, List.set_cons_succ, RS.bind_nx, RS.bind_rt, RS.bind_exc, List.replicate, R.nox_ok, wipeE, f__law_is_formed, t1, binNeg, it1, e]
theorem is_near_ok {n : Nat} (h : 1 ≤ n) {t m a : Int} (hm : 1 ≤ m ∧ m ≤ 60) (ha : a = 0 ∨ a = 1) (L : LH) : callN T n i__law_is_near [.int t, .int m, .int a, .int (near t m a)] L = .ok (.bl true) L := by
  obtain ⟨n, rfl, _⟩ := pre h
  rw [call_of (fn := f__law_is_near) rfl rfl]
  obtain ⟨p1, p2⟩ := near_stray (t := t) (a := a) hm.1
  have m1 := mul_small (near t m a) m (.inr (small_ok (by omega)))
  have s1 := sub_int (near t m a * m) t
  have m2 := mul_small 2 (near t m a * m - t) (.inl (by decide))
  generalize near t m a = z at *
  generalize z * m = zm at *
  generalize hf : 2 * (zm - t) = f at *
  generalize hd : zm - t = d at *
  have ng : ∀ (x0 x2 x3 x4 : Option D), evE (cfN T n) (.neg (.var 1)) [x0, some (.int m), x2, x3, x4] L = .ok (.int (-m)) L := fun _ _ _ _ => rfl
  by_cases c1 : f = m
  · have e1 : (f == m) = true := by rw [beq_iff_eq]; exact c1
    have e2 : (a == 1) = true := by rw [beq_iff_eq]; omega
    simp -implicitDefEqProofs (disch := first | omega | assumption | rfl) only [exSs, exS, evE, evEs, startE, bndR, List.map_cons, List.map_nil, List.length_cons, List.length_nil, List.cons_append, List.nil_append, List.getElem?_cons_zero, List.getElem?_cons_succ, R.bind_ok, R.bind_exc, R.st_ok, R.st_exc, call_eq, callL_eq, truth_bl, truth_int, Nat.reduceAdd, Nat.reduceSub, Int.cast_ofNat_Int, Int.reduceBEq, beq_self_eq_true, Bool.not_true, Bool.not_false, Int.reduceNeg, decide_true, decide_false, Bool.or_false, Bool.and_true, Bool.true_and, Bool.and_false, Bool.false_and, eT_ev, itD_seq, itemsD_tup, itemsD_lst, bi_all, bi_any, bi_len, lenD_tup, lenD_lst, lcEnd_f, List.length_map, List.all_cons, List.all_nil, id_eq, endR_rt, endR_nx, endR_exc, opt_some, Option.map_some, Tg.put, putMany, List.set_cons_zero, List.set_cons_succ, RS.bind_nx, RS.bind_rt, RS.bind_exc, List.replicate, R.nox_ok, wipeE, f__law_is_near, m1, s1, m2, cmp_eq, eqD_int, e1, e2]
  · have e1 : (f == m) = false := by rw [beq_eq_false_iff_ne]; exact c1
    by_cases c2 : f = -m
    · have e2 : (f == -m) = true := by rw [beq_iff_eq]; exact c2
      have e3 : (a == 0) = true := by rw [beq_iff_eq]; omega
      simp -implicitDefEqProofs (disch := first | omega | assumption | rfl) only [exSs, exS, evE, evEs, startE, bndR, List.map_cons, List.map_nil, List.length_cons, List.length_nil, List.cons_append, List.nil_append, List.getElem?_cons_zero, List.getElem?_cons_succ, R.bind_ok, R.bind_exc, R.st_ok, R.st_exc, call_eq, callL_eq, truth_bl, truth_int, Nat.reduceAdd, Nat.reduceSub, Int.cast_ofNat_Int, Int.reduceBEq, beq_self_eq_true, Bool.not_true, Bool.not_false, Int.reduceNeg, decide_true, decide_false, Bool.or_false, Bool.and_true, Bool.true_and, Bool.and_false, Bool.false_and, eT_ev, itD_seq, itemsD_tup, itemsD_lst, bi_all, bi_any, bi_len, lenD_tup, lenD_lst, lcEnd_f, List.length_map, List.all_cons, List.all_nil, id_eq, endR_rt, endR_nx, endR_exc, opt_some, Option.map_some, Tg.put, putMany, List.set_cons_zero, List.set_cons_succ, RS.bind_nx, RS.bind_rt, RS.bind_exc, List.replicate, R.nox_ok, wipeE, f__law_is_near, m1, s1, m2, cmp_eq, eqD_int, e1, ng, e2, e3]
    · have e2 : (f == -m) = false := by rw [beq_eq_false_iff_ne]; exact c2
      have lt1 := cmp_lt (-m) f
      rw [decide_eq_true (by omega)] at lt1
      have lt2 := cmp_lt f m
      rw [decide_eq_true (by omega)] at lt2
      simp -implicitDefEqProofs (disch := first | omega | assumption | rfl) only [exSs, exS, evE, evEs, startE, bndR, List.map_cons, List.map_nil, List.length_cons, List.length_nil, List.cons_append, List.nil_append, List.getElem?_cons_zero, List.getElem?_cons_succ, R.bind_ok, R.bind_exc, R.st_ok, R.st_exc, call_eq, callL_eq, truth_bl, truth_int, Nat.reduceAdd, Nat.reduceSub, Int.cast_ofNat_Int, Int.reduceBEq, beq_self_eq_true, Bool.not_true, Bool.not_false, Int.reduceNeg, decide_true, decide_false, Bool.or_false, Bool.and_true, Bool.true_and, Bool.and_false, Bool.false_and, eT_ev, itD_seq, itemsD_tup, itemsD_lst, bi_all, bi_any, bi_len, lenD_tup, lenD_lst, lcEnd_f, List.length_map, List.all_cons, List.all_nil, id_eq, endR_rt, endR_nx, endR_exc, opt_some, Option.map_some, Tg.put, putMany, List.set_cons_zero, List.set_cons_succ, RS.bind_nx, RS.bind_rt, RS.bind_exc, List.replicate, R.nox_ok, wipeE, f__law_is_near, m1, s1, m2, cmp_eq, eqD_int, e1, ng, e2, lt1, lt2]
/-! ### halves at play -/
def hchg (st ta : List Int) (ts : List Int) (p : Nat) (w : Int) : List (Nat × Int) := if nb st ta (ts.set p (ts.getD p 0 + w)) p - nb st ta ts p = 0 then [] else [(p, nb st ta (ts.set p (ts.getD p 0 + w)) p - nb st ta ts p)]
def hnxt (ts : List Int) (p : Nat) (w : Int) : List Int := ts.set p (ts.getD p 0 + w)
theorem hchg_D (ts : List Int) (p : Nat) (w : Int) : cgD (hchg st ta ts p w) = chgD p (nb st ta (ts.set p (ts.getD p 0 + w)) p - nb st ta ts p) := by
  unfold hchg chgD
  split <;> rfl
theorem getD_set {xs : List Int} {p : Nat} (h : p < xs.length) (v : Int) (j : Nat) : (xs.set p v).getD j 0 = if j = p then v else xs.getD j 0 := by
  rw [List.getD_eq_getElem?_getD, List.getD_eq_getElem?_getD, List.getElem?_set]
  by_cases c : j = p
  · rw [if_pos c, if_pos c.symm, if_pos h]; rfl
  · rw [if_neg c, if_neg (fun e => c e.symm)]
theorem st_rng (bk : BookOk st ls) {j : Nat} (hj : j < st.length) : 1 ≤ st.getD j 0 ∧ st.getD j 0 ≤ 60 := by
  rw [List.getD_eq_getElem?_getD, List.getElem?_eq_getElem hj]
  exact bk.st _ (List.getElem_mem hj)
theorem ta_rng (tk : TOk ta st.length) {j : Nat} (hj : j < st.length) : ta.getD j 0 = 0 ∨ ta.getD j 0 = 1 := by
  rw [List.getD_eq_getElem?_getD, List.getElem?_eq_getElem (by rw [tk.len]; exact hj)]
  exact tk.rng _ (List.getElem_mem _)
theorem hchg_by (bk : BookOk st ls) (tk : TOk ta st.length) {ts : List Int} (hl : ts.length = st.length) {p : Nat} {w : Int} (hm : IsMv st.length (p, w)) : ∀ c ∈ hchg st ta ts p w, c.1 = p ∧ (c.2 = 1 ∨ c.2 = -1) := by
  intro c hc
  unfold hchg at hc
  have hp : p < st.length := hm.1
  have hs := st_rng bk hp
  have e : nb st ta (ts.set p (ts.getD p 0 + w)) p = near (ts.getD p 0 + w) (st.getD p 0) (ta.getD p 0) := by
    show near ((ts.set p (ts.getD p 0 + w)).getD p 0) _ _ = _
    rw [getD_set (by omega), if_pos rfl]
  rw [e] at hc
  have q := near_step (t := ts.getD p 0) (a := ta.getD p 0) (w := w) hs.1 hm.2
  have n1 : nb st ta ts p = near (ts.getD p 0) (st.getD p 0) (ta.getD p 0) := rfl
  rw [n1] at hc
  split at hc
  · cases hc
  · rename_i h0
    simp only [List.mem_singleton] at hc
    subst hc
    refine ⟨rfl, ?_⟩
    show near (ts.getD p 0 + w) (st.getD p 0) (ta.getD p 0) - near (ts.getD p 0) (st.getD p 0) (ta.getD p 0) = 1 ∨ near (ts.getD p 0 + w) (st.getD p 0) (ta.getD p 0) - near (ts.getD p 0) (st.getD p 0) (ta.getD p 0) = -1
    have q' : near (ts.getD p 0 + w) (st.getD p 0) (ta.getD p 0) - near (ts.getD p 0) (st.getD p 0) (ta.getD p 0) ≠ 0 := h0
    omega
theorem hPlay (bk : BookOk st ls) (tk : TOk ta st.length) {n : Nat} (h : 3 ≤ n) : Play n st ls (List Int) (hO st ls ta) (hchg st ta) hnxt (fun ts => ts.length = st.length) where
  moved := fun {L l s p w} o g hm => ⟨i_HalvesPlayer_moved, by rw [methAt_loc g]; rfl, by
    rw [hchg_D]
    exact hO_moved h bk tk o g hm.1 w⟩
  keep := fun o _ => by unfold hnxt; rw [List.length_set]; exact o
  copy := fun {L l s} o g => ⟨i_HalvesPlayer_copy, by rw [methAt_loc g]; rfl, hO_copy (by omega) g⟩
  right := fun {s p w row} o hm hr => by
    have hp : p < st.length := hm.1
    have lk := bk.lk p row hr
    have by_ := hchg_by bk tk o hm
    refine ⟨fun c hc => ?_, ?_, ?_⟩
    · obtain ⟨q1, q2⟩ := by_ c hc
      rw [q1]
      exact ⟨hp, by omega, lk.mem⟩
    · unfold hchg
      split
      · exact List.Pairwise.nil
      · exact List.pairwise_singleton _ _
    · unfold hchg
      split <;> simp
/-- shown numbers are the nearest ones -/
structure Sh (st ta : List Int) (k : Nat) (ts sh : List Int) : Prop where
  l1 : ts.length = st.length
  l2 : sh.length = st.length
  nr : ∀ j, j < st.length → sh.getD j 0 = near (ts.getD j 0) (st.getD j 0) (ta.getD j 0)
  le : ∀ j, j < st.length → (ts.getD j 0).natAbs ≤ k
theorem Sh.first (bk : BookOk st ls) (tk : TOk ta st.length) {zs : List Int} (hz : zs = List.replicate st.length 0) : Sh st ta 0 zs zs := by
  subst hz
  have g : ∀ j, (List.replicate st.length (0 : Int)).getD j 0 = 0 := fun j => by
    rw [List.getD_eq_getElem?_getD, List.getElem?_replicate]
    split <;> rfl
  refine ⟨by simp, by simp, fun j hj => ?_, fun j hj => ?_⟩
  · rw [g, near_zero (st_rng bk hj).1 (ta_rng tk hj)]
  · rw [g]; exact Nat.le_refl _
theorem Sh.go (bk : BookOk st ls) (tk : TOk ta st.length) {k : Nat} {ts sh : List Int} (s : Sh st ta k ts sh) {p : Nat} {w : Int} (hm : IsMv st.length (p, w)) : Sh st ta (k + 1) (ts.set p (ts.getD p 0 + w)) (addC sh (hchg st ta ts p w)) := by
  have hp : p < st.length := hm.1
  have hs := st_rng bk hp
  have e : nb st ta (ts.set p (ts.getD p 0 + w)) p = near (ts.getD p 0 + w) (st.getD p 0) (ta.getD p 0) := by
    show near ((ts.set p (ts.getD p 0 + w)).getD p 0) _ _ = _
    rw [getD_set (by rw [s.l1]; exact hp), if_pos rfl]
  refine ⟨by rw [List.length_set]; exact s.l1, by rw [addC_len]; exact s.l2, fun j hj => ?_, fun j hj => ?_⟩
  · rw [getD_set (by rw [s.l1]; exact hp)]
    unfold hchg
    rw [e]
    have n1 : nb st ta ts p = near (ts.getD p 0) (st.getD p 0) (ta.getD p 0) := rfl
    have n2 := s.nr p hp
    by_cases c : j = p
    · subst c
      rw [if_pos rfl]
      split
      · rename_i h0
        show sh.getD j 0 = _
        rw [n2]
        rw [n1] at h0
        omega
      · show (sh.set j (sh.getD j 0 + (near (ts.getD j 0 + w) (st.getD j 0) (ta.getD j 0) - nb st ta ts j))).getD j 0 = _
        rw [getD_set (by rw [s.l2]; exact hp), if_pos rfl, n2, n1]
        omega
    · rw [if_neg c]
      split
      · exact s.nr j hj
      · show (sh.set p (sh.getD p 0 + (near (ts.getD p 0 + w) (st.getD p 0) (ta.getD p 0) - nb st ta ts p))).getD j 0 = _
        rw [getD_set (by rw [s.l2]; exact hp), if_neg c]
        exact s.nr j hj
  · rw [getD_set (by rw [s.l1]; exact hp)]
    have q1 := s.le j hj
    have q2 := s.le p hp
    split
    · rcases hm.2 with e | e
      · have : w = 1 := e
        omega
      · have : w = -1 := e
        omega
    · omega
theorem Sh.other {ts sh : List Int} {p j : Nat} {w : Int} (hp : p < sh.length) (c : j ≠ p) : (addC sh (hchg st ta ts p w)).getD j 0 = sh.getD j 0 := by
  unfold hchg
  split
  · rfl
  · show (sh.set p (sh.getD p 0 + (nb st ta (ts.set p (ts.getD p 0 + w)) p - nb st ta ts p))).getD j 0 = _
    rw [getD_set hp, if_neg c]
theorem near_le {t m a : Int} (hm : 1 ≤ m ∧ m ≤ 60) (ha : a = 0 ∨ a = 1) : (near t m a).natAbs ≤ t.natAbs + 60 := by
  obtain ⟨p1, p2⟩ := near_stray (t := t) (a := a) hm.1
  generalize near t m a = z at *
  have q : z.natAbs ≤ (z * m).natAbs := by
    rw [Int.natAbs_mul]
    exact Nat.le_mul_of_pos_right _ (by omega)
  generalize z * m = zm at *
  omega
end
end Lw
end

section
set_option Elab.async false
set_option linter.all false
set_option maxRecDepth 100000
set_option maxHeartbeats 1000000
/-! moves right -/
namespace Lw
open PySem (Str)
open Ev
theorem log_small {g : Nat} (h : g ≤ 100000) : g.log2 < 1920 := by
  rcases Nat.eq_zero_or_pos g with z | z
  · rw [z]; decide
  · refine (Nat.log2_lt (by omega)).mpr ?_
    refine Nat.lt_of_le_of_lt h (Nat.lt_of_lt_of_le (show (100000 : Nat) < 2 ^ 17 by decide) (Nat.pow_le_pow_right (by omega) (by omega)))
theorem log_17 {g : Nat} (h : g ≤ 100000) : g.log2 < 17 := by
  rcases Nat.eq_zero_or_pos g with z | z
  · rw [z]; decide
  · exact (Nat.log2_lt (by omega)).mpr (Nat.lt_of_le_of_lt h (by decide))
theorem wide_i {i : Int} (h : i.natAbs ≤ 100000) : wide (.int i) ≤ 20 := by
  simp only [wide]
  rw [if_pos (log_small h)]
  have := log_17 h
  omega
theorem wides_i : ∀ {xs : List Int}, (∀ i ∈ xs, i.natAbs ≤ 100000) → wides (xs.map .int) ≤ 22 * xs.length
  | [], _ => by simp [wides]
  | x :: xs, h => by
    have := wides_i fun i hi => h i (List.mem_cons_of_mem x hi)
    have := wide_i (h x List.mem_cons_self)
    simp only [List.map_cons, wides, List.length_cons]
    omega
theorem repr_any {x : D} (h1 : isData x = true) (h2 : wide x ≤ 1000000) (h3 : dep x ≤ 60) : ∃ s : Str, ∀ L, biD .repr [x] L = some (.str s) := by
  refine ⟨(py x).shown, fun L => ?_⟩
  have h2' : wide x ≤ size16 := by unfold size16; omega
  simp only [biD]
  rw [if_pos (by rw [h1, decide_eq_true h2', decide_eq_true h3]; rfl)]
theorem repr_ti {l : List Int} (h : l.length ≤ 1000) (hr : ∀ x ∈ l, x.natAbs ≤ 100000) : ∃ s : Str, ∀ L, biD .repr [ti l] L = some (.str s) := by
  have w := wides_i hr
  refine repr_any (areData_ints l) ?_ ?_
  · show wides (l.map .int) + 4 ≤ 1000000
    omega
  · show deps (l.map .int) + 1 ≤ 60
    rw [deps_ints]; omega
theorem repr_st {a b : List Int} (h1 : a.length ≤ 1000) (h2 : b.length ≤ 1000) (r1 : ∀ x ∈ a, x.natAbs ≤ 100000) (r2 : ∀ x ∈ b, x.natAbs ≤ 100000) : ∃ s : Str, ∀ L, biD .repr [stD a b] L = some (.str s) := by
  have w1 := wides_i r1
  have w2 := wides_i r2
  refine repr_any ?_ ?_ ?_
  · show (areData (a.map .int) && (areData (b.map .int) && true)) = true
    rw [areData_ints, areData_ints]; rfl
  · show (wides (a.map .int) + 4 + 2 + (wides (b.map .int) + 4 + 2 + 0)) + 4 ≤ 1000000
    omega
  · show max (deps (a.map .int) + 1) (max (deps (b.map .int) + 1) 0) + 1 ≤ 60
    rw [deps_ints, deps_ints]; decide
theorem getD_mem {xs : List Int} {x : Int} (h : x ∈ xs) : ∃ j, j < xs.length ∧ xs.getD j 0 = x := by
  obtain ⟨j, hj, e⟩ := List.mem_iff_getElem.mp h
  exact ⟨j, hj, by rw [List.getD_eq_getElem?_getD, List.getElem?_eq_getElem hj, e]; rfl⟩
theorem lcGo_nil {put : D → Env → Option Env} {cond elt : Env → LH → R D} {env : Env} {L : LH} {items : List D} (h : ∀ x ∈ items, ∃ env1, put x env = some env1 ∧ cond env1 L = .ok (.bl false) L) :
    lcGo put cond elt env items L = .ok [] L := by
  have := lcGo_map (p := fun _ => false) (f := id) (items := items) (put := put) (cond := cond) (elt := elt) (env := env) (L := L) fun x hx => by
    obtain ⟨env1, e1, e2⟩ := h x hx
    exact ⟨env1, e1, e2, fun c => by cases c⟩
  rw [this, List.filter_eq_nil_iff.mpr (fun _ _ => by simp)]
  rfl
theorem mem_rngL {N : Nat} {x : D} (h : x ∈ rngL 0 (N : Int)) : ∃ j : Nat, j < N ∧ x = .int (j : Int) := by
  rw [rngL_map] at h
  obtain ⟨i, hi, rfl⟩ := List.mem_map.mp h
  obtain ⟨k, hk, rfl⟩ := List.mem_map.mp hi
  exact ⟨k, List.mem_range.mp hk, rfl⟩
theorem rng_D {C : Cf} {e : E} {N k : Nat} {G : Nat → D} {env : Env} {L : LH} (he : ∀ i : Nat, i < N → evE C e (env.set k (some (.int (i : Int)))) L = .ok (G i) L) :
    lcGo (Tg.put (.nm k)) (evE C eT) (evE C e) env (rngL 0 (N : Int)) L = .ok ((List.range N).map G) L := by
  rw [lcGo_all (f := fun d => match d with | .int i => G i.toNat | _ => .non)]
  · rw [rngL_map, List.map_map, List.map_map]; rfl
  · intro x hx
    obtain ⟨k, hk, rfl⟩ := mem_rngL hx
    exact ⟨_, rfl, rfl, he k hk⟩
abbrev prD (a : Int × Int) : D := .tup [.int a.1, .int a.2]
def rmD (rm : List (Int × Int)) : D := .lst (rm.map prD)
section
variable {st : List Int} {ls : List (List Int)} {ta : List Int}
/-- the half rounded -/
abbrev hc (st ta : List Int) (j : Nat) : Int := (st.getD j 0 - 1 + ta.getD j 0) / 2
structure RimOk (st ta : List Int) (rm : List (Int × Int)) : Prop where
  len : rm.length = st.length
  rng : ∀ j, j < st.length → hc st ta j - (st.getD j 0 - 1) ≤ (rm.getD j (0, 0)).1 ∧ (rm.getD j (0, 0)).2 ≤ hc st ta j
theorem RimOk.first (bk : BookOk st ls) (tk : TOk ta st.length) : RimOk st ta (List.replicate st.length (0, 0)) := by
  refine ⟨by simp, fun j hj => ?_⟩
  have e : (List.replicate st.length ((0, 0) : Int × Int)).getD j (0, 0) = (0, 0) := by
    rw [List.getD_eq_getElem?_getD, List.getElem?_replicate, if_pos hj]; rfl
  rw [e]
  have h1 := st_rng bk hj
  have h2 := ta_rng tk hj
  unfold hc
  show (st.getD j 0 - 1 + ta.getD j 0) / 2 - (st.getD j 0 - 1) ≤ 0 ∧ 0 ≤ (st.getD j 0 - 1 + ta.getD j 0) / 2
  omega
theorem idx_rm {rm : List (Int × Int)} {j : Nat} (h : j < rm.length) (L : LH) : idxD L (rmD rm) (.int (j : Int)) = some (prD (rm.getD j (0, 0))) := by
  show L2.atI (rm.map prD) (j : Int) = _
  rw [atI_nat _ _ (by rw [List.length_map]; exact h), List.getElem_map, List.getD_eq_getElem?_getD, List.getElem?_eq_getElem h]; rfl
theorem strL_get {ts sh : List Int} {j : Nat} (h : j < st.length) : (strL st ts sh).getD j 0 = sh.getD j 0 * st.getD j 0 - ts.getD j 0 := by
  unfold strL
  rw [List.getD_eq_getElem?_getD, List.getElem?_map, List.getElem?_range h]; rfl
theorem strL_len (ts sh : List Int) : (strL st ts sh).length = st.length := by unfold strL; simp
theorem Sh.stray (bk : BookOk st ls) {k : Nat} {ts sh : List Int} (s : Sh st ta k ts sh) {j : Nat} (hj : j < st.length) : hc st ta j - (st.getD j 0 - 1) ≤ (strL st ts sh).getD j 0 ∧ (strL st ts sh).getD j 0 ≤ hc st ta j := by
  rw [strL_get hj, s.nr j hj]
  exact near_stray (st_rng bk hj).1
theorem flat_hO {L : LH} (h : Flat L) (ts : List Int) : Flat (L ++ [hO st ls ta ts]) := fun o ho n => by
  rcases List.mem_append.mp ho with ho | ho
  · exact h o ho n
  · simp only [List.mem_singleton] at ho
    subst ho
    show (below n (bookD st ls) && (below n (ti ta) && (below n (ti ts) && true))) = true
    rw [below_book, below_ti, below_ti]; rfl
def rmN (st : List Int) (ts sh : List Int) (rm : List (Int × Int)) : List (Int × Int) := (List.range st.length).map fun j =>
  ((if (strL st ts sh).getD j 0 < (rm.getD j (0, 0)).1 then (strL st ts sh).getD j 0 else (rm.getD j (0, 0)).1), (if (strL st ts sh).getD j 0 > (rm.getD j (0, 0)).2 then (strL st ts sh).getD j 0 else (rm.getD j (0, 0)).2))
theorem rmN_get {ts sh : List Int} {rm : List (Int × Int)} {j : Nat} (h : j < st.length) : (rmN st ts sh rm).getD j (0, 0) = ((if (strL st ts sh).getD j 0 < (rm.getD j (0, 0)).1 then (strL st ts sh).getD j 0 else (rm.getD j (0, 0)).1), (if (strL st ts sh).getD j 0 > (rm.getD j (0, 0)).2 then (strL st ts sh).getD j 0 else (rm.getD j (0, 0)).2)) := by
  unfold rmN
  rw [List.getD_eq_getElem?_getD, List.getElem?_map, List.getElem?_range h]; rfl
theorem rmN_ok (bk : BookOk st ls) {k : Nat} {ts sh : List Int} (s : Sh st ta k ts sh) {rm : List (Int × Int)} (hr : RimOk st ta rm) : RimOk st ta (rmN st ts sh rm) := by
  refine ⟨by unfold rmN; simp, fun j hj => ?_⟩
  obtain ⟨p1, p2⟩ := s.stray bk hj
  obtain ⟨q1, q2⟩ := hr.rng j hj
  rw [rmN_get hj]
  refine ⟨?_, ?_⟩
  · show _ ≤ (if _ then _ else _)
    split <;> omega
  · show (if _ then _ else _) ≤ _
    split <;> omega
variable {L : LH} {x0 x1 x2 x3 x4 x5 x7 x8 x9 x10 x11 x12 : Option D}
theorem mvc1 {C : Cf} {cs : List (Nat × Int)} {p : Nat} (hc : ∀ c ∈ cs, c.1 = p ∧ (c.2 = 1 ∨ c.2 = -1)) :
    lcGo (Tg.put (.nm 10)) (evE C e__law_moves_right_1) (evE C e__law_moves_right_2) [x0, x1, x2, x3, x4, x5, some (.int (p : Nat)), x7, x8, x9, x10, x11, x12] (cs.map mvD) L = .ok [] L := lcGo_nil fun x hx => by
  obtain ⟨c, hm, rfl⟩ := List.mem_map.mp hx
  obtain ⟨h1, h2⟩ := hc c hm
  refine ⟨_, rfl, ?_⟩
  have i0 := mv0 c L
  have i1 := mv1 c L
  rw [h1] at i0
  have e : ((p : Int) == (p : Int)) = true := beq_self_eq_true _
  have k : cmpD .notin (.int c.2) (.tup [.int 1, .int (-1)]) = some false := by
    have := inD_int c.2 [1, -1]
    rw [decide_eq_true (by rcases h2 with e | e <;> rw [e] <;> decide)] at this
    show (inD (.int c.2) ([1, -1].map D.int)).map (!·) = _
    rw [this]; rfl
  have hz2 : (2 : Nat) ≤ size16 := by unfold size16; omega
  generalize mvD c = M at *
  simp -implicitDefEqProofs (disch := first | omega | assumption | rfl) only [exSs, exS, evE, evEs, startE, bndR, List.map_cons, List.map_nil, List.length_cons, List.length_nil, List.cons_append, List.nil_append, List.getElem?_cons_zero, List.getElem?_cons_succ, R.bind_ok, R.bind_exc, R.st_ok, R.st_exc, call_eq, callL_eq, truth_bl, truth_int, Nat.reduceAdd, Nat.reduceSub, Int.cast_ofNat_Int, Int.reduceBEq, beq_self_eq_true, Bool.not_true, Bool.not_false, Int.reduceNeg, decide_true, decide_false, Bool.or_false, Bool.and_true, Bool.true_and, Bool.and_false, Bool.false_and, eT_ev, itD_seq, itemsD_tup, itemsD_lst, bi_all, bi_any, bi_len, lenD_tup, lenD_lst, lcEnd_f, List.length_map, List.all_cons, List.all_nil, id_eq, endR_rt, endR_nx, endR_exc, opt_some, Option.map_some, Tg.put, putMany, List.set_cons_zero, List.set_cons_succ, RS.bind_nx, RS.bind_rt, RS.bind_exc, List.replicate, R.nox_ok, wipeE, e__law_moves_right_1, i0, i1, cmp_ne, eqD_int, e, binNeg, if_pos hz2, k]
theorem mvc2 {C : Cf} {ts sh ts' sh' : List Int} {p : Nat} (l1 : sh.length = st.length) (l2 : sh'.length = st.length) (h : ∀ j, j ≠ p → sh'.getD j 0 = sh.getD j 0) :
    lcGo (Tg.put (.nm 11)) (evE C e__law_moves_right_3) (evE C e__law_moves_right_4) [x0, x1, x2, x3, some (stD ts' sh'), x5, some (.int (p : Nat)), x7, x8, some (stD ts sh), x10, x11, x12] (rngL 0 (st.length : Int)) L = .ok [] L := lcGo_nil fun x hx => by
  obtain ⟨j, hj, rfl⟩ := mem_rngL hx
  refine ⟨_, rfl, ?_⟩
  have s1 : idxD L (stD ts sh) (.int 1) = some (ti sh) := at1 _ _ _
  have s2 : idxD L (stD ts' sh') (.int 1) = some (ti sh') := at1 _ _ _
  have i1 := idx_ti (xs := sh) (p := j) (by omega) L
  have i2 := idx_ti (xs := sh') (p := j) (by omega) L
  by_cases c : j = p
  · have e : ((j : Int) == (p : Int)) = true := by rw [beq_iff_eq]; omega
    generalize stD ts sh = S1 at *
    generalize stD ts' sh' = S2 at *
    simp -implicitDefEqProofs (disch := first | omega | assumption | rfl) only [exSs, exS, evE, evEs, startE, bndR, List.map_cons, List.map_nil, List.length_cons, List.length_nil, List.cons_append, List.nil_append, List.getElem?_cons_zero, List.getElem?_cons_succ, R.bind_ok, R.bind_exc, R.st_ok, R.st_exc, call_eq, callL_eq, truth_bl, truth_int, Nat.reduceAdd, Nat.reduceSub, Int.cast_ofNat_Int, Int.reduceBEq, beq_self_eq_true, Bool.not_true, Bool.not_false, Int.reduceNeg, decide_true, decide_false, Bool.or_false, Bool.and_true, Bool.true_and, Bool.and_false, Bool.false_and, eT_ev, itD_seq, itemsD_tup, itemsD_lst, bi_all, bi_any, bi_len, lenD_tup, lenD_lst, lcEnd_f, List.length_map, List.all_cons, List.all_nil, id_eq, endR_rt, endR_nx, endR_exc, opt_some, Option.map_some, Tg.put, putMany, List.set_cons_zero, List.set_cons_succ, RS.bind_nx, RS.bind_rt, RS.bind_exc, List.replicate, R.nox_ok, wipeE, e__law_moves_right_3, cmp_ne, eqD_int, e]
  · have e : ((j : Int) == (p : Int)) = false := by rw [beq_eq_false_iff_ne]; omega
    rw [h j c] at i2
    have e2 : (sh.getD j 0 == sh.getD j 0) = true := beq_self_eq_true _
    generalize sh.getD j 0 = v at *
    generalize stD ts sh = S1 at *
    generalize stD ts' sh' = S2 at *
    simp -implicitDefEqProofs (disch := first | omega | assumption | rfl) only [exSs, exS, evE, evEs, startE, bndR, List.map_cons, List.map_nil, List.length_cons, List.length_nil, List.cons_append, List.nil_append, List.getElem?_cons_zero, List.getElem?_cons_succ, R.bind_ok, R.bind_exc, R.st_ok, R.st_exc, call_eq, callL_eq, truth_bl, truth_int, Nat.reduceAdd, Nat.reduceSub, Int.cast_ofNat_Int, Int.reduceBEq, beq_self_eq_true, Bool.not_true, Bool.not_false, Int.reduceNeg, decide_true, decide_false, Bool.or_false, Bool.and_true, Bool.true_and, Bool.and_false, Bool.false_and, eT_ev, itD_seq, itemsD_tup, itemsD_lst, bi_all, bi_any, bi_len, lenD_tup, lenD_lst, lcEnd_f, List.length_map, List.all_cons, List.all_nil, id_eq, endR_rt, endR_nx, endR_exc, opt_some, Option.map_some, Tg.put, putMany, List.set_cons_zero, List.set_cons_succ, RS.bind_nx, RS.bind_rt, RS.bind_exc, List.replicate, R.nox_ok, wipeE, e__law_moves_right_3, cmp_ne, eqD_int, e, s1, s2, i1, i2, e2]
theorem mvc3 {C : Cf} {ts sh : List Int} {rm : List (Int × Int)} (hr : rm.length = st.length) :
    lcGo (Tg.put (.nm 11)) (evE C eT) (evE C e__law_moves_right_5) [x0, x1, x2, x3, x4, some (rmD rm), x7, x8, x9, x10, x11, none, some (ti (strL st ts sh))] (rngL 0 (st.length : Int)) L = .ok ((rmN st ts sh rm).map prD) L := by
  rw [rng_D (G := fun j => prD ((if (strL st ts sh).getD j 0 < (rm.getD j (0, 0)).1 then (strL st ts sh).getD j 0 else (rm.getD j (0, 0)).1), (if (strL st ts sh).getD j 0 > (rm.getD j (0, 0)).2 then (strL st ts sh).getD j 0 else (rm.getD j (0, 0)).2)))]
  · unfold rmN
    rw [List.map_map]; rfl
  · intro j hj
    have i1 := idx_rm (rm := rm) (j := j) (by omega) L
    have i2 := idx_ti (xs := strL st ts sh) (p := j) (by rw [strL_len]; exact hj) L
    have p0 : idxD L (prD (rm.getD j (0, 0))) (.int 0) = some (.int (rm.getD j (0, 0)).1) := at0 _ _
    have p1 : idxD L (prD (rm.getD j (0, 0))) (.int 1) = some (.int (rm.getD j (0, 0)).2) := at1 _ _ _
    have mn := min_int (rm.getD j (0, 0)).1 ((strL st ts sh).getD j 0) L
    have mx := max_int (rm.getD j (0, 0)).2 ((strL st ts sh).getD j 0) L
    have hz2 : (2 : Nat) ≤ size16 := by unfold size16; omega
    show _ = R.ok (D.tup [.int (if (strL st ts sh).getD j 0 < (rm.getD j (0, 0)).1 then (strL st ts sh).getD j 0 else (rm.getD j (0, 0)).1), .int (if (strL st ts sh).getD j 0 > (rm.getD j (0, 0)).2 then (strL st ts sh).getD j 0 else (rm.getD j (0, 0)).2)]) L
    generalize (if (strL st ts sh).getD j 0 < (rm.getD j (0, 0)).1 then (strL st ts sh).getD j 0 else (rm.getD j (0, 0)).1) = r1 at *
    generalize (if (strL st ts sh).getD j 0 > (rm.getD j (0, 0)).2 then (strL st ts sh).getD j 0 else (rm.getD j (0, 0)).2) = r2 at *
    generalize (strL st ts sh).getD j 0 = r3 at *
    generalize ti (strL st ts sh) = S at *
    generalize rmD rm = RM at *
    generalize prD (rm.getD j (0, 0)) = PD at *
    simp -implicitDefEqProofs (disch := first | omega | assumption | rfl) only [exSs, exS, evE, evEs, startE, bndR, List.map_cons, List.map_nil, List.length_cons, List.length_nil, List.cons_append, List.nil_append, List.getElem?_cons_zero, List.getElem?_cons_succ, R.bind_ok, R.bind_exc, R.st_ok, R.st_exc, call_eq, callL_eq, truth_bl, truth_int, Nat.reduceAdd, Nat.reduceSub, Int.cast_ofNat_Int, Int.reduceBEq, beq_self_eq_true, Bool.not_true, Bool.not_false, Int.reduceNeg, decide_true, decide_false, Bool.or_false, Bool.and_true, Bool.true_and, Bool.and_false, Bool.false_and, eT_ev, itD_seq, itemsD_tup, itemsD_lst, bi_all, bi_any, bi_len, lenD_tup, lenD_lst, lcEnd_f, List.length_map, List.all_cons, List.all_nil, id_eq, endR_rt, endR_nx, endR_exc, opt_some, Option.map_some, Tg.put, putMany, List.set_cons_zero, List.set_cons_succ, RS.bind_nx, RS.bind_rt, RS.bind_exc, List.replicate, R.nox_ok, wipeE, e__law_moves_right_5, i1, i2, p0, p1, mn, mx, if_pos hz2]
theorem mvc4 {C : Cf} (bk : BookOk st ls) {rm : List (Int × Int)} (hr : RimOk st ta rm) :
    lcGo (Tg.put (.nm 11)) (evE C e__law_moves_right_6) (evE C e__law_moves_right_7) [some (bookD st ls), x1, x2, x3, x4, some (rmD rm), x7, x8, x9, x10, x11, none, x12] (rngL 0 (st.length : Int)) L = .ok [] L := lcGo_nil fun x hx => by
  obtain ⟨j, hj, rfl⟩ := mem_rngL hx
  refine ⟨_, rfl, ?_⟩
  have i1 := idx_rm (rm := rm) (j := j) (by rw [hr.len]; exact hj) L
  have b0 := book0 st ls L
  have i2 := idx_ti (xs := st) (p := j) hj L
  have p0 : idxD L (prD (rm.getD j (0, 0))) (.int 0) = some (.int (rm.getD j (0, 0)).1) := at0 _ _
  have p1 : idxD L (prD (rm.getD j (0, 0))) (.int 1) = some (.int (rm.getD j (0, 0)).2) := at1 _ _ _
  have sb := sub_int (rm.getD j (0, 0)).2 (rm.getD j (0, 0)).1
  have ge := cmp_ge ((rm.getD j (0, 0)).2 - (rm.getD j (0, 0)).1) (st.getD j 0)
  obtain ⟨q1, q2⟩ := hr.rng j hj
  rw [decide_eq_false (by omega)] at ge
  generalize (rm.getD j (0, 0)).2 - (rm.getD j (0, 0)).1 = df at *
  generalize st.getD j 0 = m at *
  generalize prD (rm.getD j (0, 0)) = PD at *
  generalize rmD rm = RM at *
  generalize bookD st ls = B at *
  generalize ti st = S at *
  simp -implicitDefEqProofs (disch := first | omega | assumption | rfl) only [exSs, exS, evE, evEs, startE, bndR, List.map_cons, List.map_nil, List.length_cons, List.length_nil, List.cons_append, List.nil_append, List.getElem?_cons_zero, List.getElem?_cons_succ, R.bind_ok, R.bind_exc, R.st_ok, R.st_exc, call_eq, callL_eq, truth_bl, truth_int, Nat.reduceAdd, Nat.reduceSub, Int.cast_ofNat_Int, Int.reduceBEq, beq_self_eq_true, Bool.not_true, Bool.not_false, Int.reduceNeg, decide_true, decide_false, Bool.or_false, Bool.and_true, Bool.true_and, Bool.and_false, Bool.false_and, eT_ev, itD_seq, itemsD_tup, itemsD_lst, bi_all, bi_any, bi_len, lenD_tup, lenD_lst, lcEnd_f, List.length_map, List.all_cons, List.all_nil, id_eq, endR_rt, endR_nx, endR_exc, opt_some, Option.map_some, Tg.put, putMany, List.set_cons_zero, List.set_cons_succ, RS.bind_nx, RS.bind_rt, RS.bind_exc, List.replicate, R.nox_ok, wipeE, e__law_moves_right_6, i1, p0, p1, sb, b0, i2, ge]
theorem mv_step {n : Nat} (h : 4 ≤ n) (bk : BookOk st ls) (tk : TOk ta st.length) {L0 : LH} (hf : Flat L0) {k : Nat} {ts sh : List Int} (s : Sh st ta k ts sh) {rm : List (Int × Int)} (hr : RimOk st ta rm) {p : Nat} {w : Int} (hm : IsMv st.length (p, w)) (H : D) (y8 y9 y12 : Option D) :
    exSs (cfN T n) s__law_moves_right_1 [some (bookD st ls), some (ti ta), some H, some (.loc L0.length), some (stD ts sh), some (rmD rm), some (.int (p : Nat)), some (.int w), y8, y9, none, none, y12] (L0 ++ [hO st ls ta ts]) =
      .nx [some (bookD st ls), some (ti ta), some H, some (.loc L0.length), some (stD (hnxt ts p w) (addC sh (hchg st ta ts p w))), some (rmD (rmN st (hnxt ts p w) (addC sh (hchg st ta ts p w)) rm)), some (.int (p : Nat)), some (.int w), some (cgD (hchg st ta ts p w)), some (stD ts sh), none, none, some (ti (strL st (hnxt ts p w) (addC sh (hchg st ta ts p w))))] (L0 ++ [hO st ls ta (hnxt ts p w)]) := by
  have hp : p < st.length := hm.1
  have h6 := bk.le
  have s' := s.go bk tk hm
  change Sh st ta (k + 1) (hnxt ts p w) (addC sh (hchg st ta ts p w)) at s'
  have g := get_last L0 (hO st ls ta ts)
  have P := hPlay bk tk (n := n) (by omega)
  obtain ⟨j, m1, m2⟩ := P.moved (L := L0 ++ [hO st ls ta ts]) s.l1 g hm
  rw [set_last] at m2
  have hpl : p < ls.length := by rw [← bk.len]; exact hp
  have cg := P.right (row := ls[p]) s.l1 hm (List.getElem?_eq_getElem hpl)
  have f1 := is_formed_ok (st := st) (ls := ls) (n := n) (by omega) cg (L0 ++ [hO st ls ta (hnxt ts p w)])
  have c1 := mvc1 (C := cfN T n) (L := L0 ++ [hO st ls ta (hnxt ts p w)]) (x0 := some (bookD st ls)) (x1 := some (ti ta)) (x2 := some H) (x3 := some (.loc L0.length)) (x4 := some (stD ts sh)) (x5 := some (rmD rm)) (x7 := some (.int w)) (x8 := some (cgD (hchg st ta ts p w))) (x9 := some (stD ts sh)) (x10 := none) (x11 := none) (x12 := y12) (hchg_by bk tk s.l1 hm)
  have t1 := stepped_ok (n := n) (by omega) (flat_hO (st := st) (ls := ls) (ta := ta) hf (hnxt ts p w)) (N := st.length) (by omega) s.l1 s.l2 (m := (p, w)) hp (cs := hchg st ta ts p w) fun c hc => (cg.each c hc).1
  change callN T n i__law_stepped [stD ts sh, mvD (p, w), cgD (hchg st ta ts p w)] _ = .ok (stD (hnxt ts p w) (addC sh (hchg st ta ts p w))) _ at t1
  have nr := is_near_ok (n := n) (by omega) (t := (hnxt ts p w).getD p 0) (st_rng bk hp) (ta_rng tk hp) (L0 ++ [hO st ls ta (hnxt ts p w)])
  rw [← s'.nr p hp] at nr
  have c2 := mvc2 (C := cfN T n) (L := L0 ++ [hO st ls ta (hnxt ts p w)]) (ts := ts) (ts' := hnxt ts p w) (st := st) (p := p) (x0 := some (bookD st ls)) (x1 := some (ti ta)) (x2 := some H) (x3 := some (.loc L0.length)) (x5 := some (rmD rm)) (x7 := some (.int w)) (x8 := some (cgD (hchg st ta ts p w))) (x10 := none) (x11 := none) (x12 := y12) s.l2 s'.l2 fun j hj => Sh.other (st := st) (ta := ta) (ts := ts) (w := w) (by rw [s.l2]; exact hp) hj
  have so := lstrays_ok (n := n) (by omega) bk s'.l1 s'.l2 (L0 ++ [hO st ls ta (hnxt ts p w)])
  have c3 := mvc3 (C := cfN T n) (L := L0 ++ [hO st ls ta (hnxt ts p w)]) (ts := hnxt ts p w) (sh := addC sh (hchg st ta ts p w)) (x0 := some (bookD st ls)) (x1 := some (ti ta)) (x2 := some H) (x3 := some (.loc L0.length)) (x4 := some (stD (hnxt ts p w) (addC sh (hchg st ta ts p w)))) (x7 := some (.int p)) (x8 := some (.int w)) (x9 := some (cgD (hchg st ta ts p w))) (x10 := some (stD ts sh)) (x11 := none) hr.len
  have hr' := rmN_ok bk s' hr
  have c4 := mvc4 (C := cfN T n) (L := L0 ++ [hO st ls ta (hnxt ts p w)]) (x1 := some (ti ta)) (x2 := some H) (x3 := some (.loc L0.length)) (x4 := some (stD (hnxt ts p w) (addC sh (hchg st ta ts p w)))) (x7 := some (.int p)) (x8 := some (.int w)) (x9 := some (cgD (hchg st ta ts p w))) (x10 := some (stD ts sh)) (x11 := none) (x12 := some (ti (strL st (hnxt ts p w) (addC sh (hchg st ta ts p w))))) bk hr'
  have a0 : ∀ L, idxD L (stD (hnxt ts p w) (addC sh (hchg st ta ts p w))) (.int 0) = some (ti (hnxt ts p w)) := fun L => at0 _ _
  have a1 : ∀ L, idxD L (stD (hnxt ts p w) (addC sh (hchg st ta ts p w))) (.int 1) = some (ti (addC sh (hchg st ta ts p w))) := fun L => at1 _ _ _
  have a2 := fun L => idx_ti (xs := hnxt ts p w) (p := p) (by rw [s'.l1]; exact hp) L
  have a3 := fun L => idx_ti (xs := addC sh (hchg st ta ts p w)) (p := p) (by rw [s'.l2]; exact hp) L
  have a4 := fun L => idx_ti (xs := st) (p := p) hp L
  have a5 := fun L => idx_ti (xs := ta) (p := p) (by rw [tk.len]; exact hp) L
  have b0 := book0 st ls
  have it1 : itemsD (cgD (hchg st ta ts p w)) = some ((hchg st ta ts p w).map mvD) := rfl
  have l0 : ∀ L, lenD L (ti st) = some st.length := fun L => by
    show some (st.map D.int).length = _
    rw [List.length_map]
  have l1 : ∀ L, lenD L (ti (strL st (hnxt ts p w) (addC sh (hchg st ta ts p w)))) = some st.length := fun L => by
    show some ((strL st (hnxt ts p w) (addC sh (hchg st ta ts p w))).map D.int).length = _
    rw [List.length_map, strL_len]
  have r := itD_rng (i := (st.length : Int)) (by omega)
  have hz : (rngL 0 (st.length : Int)).length ≤ size16 := by rw [rngL_len]; unfold size16; omega
  have hzc : ((hchg st ta ts p w).map mvD).length ≤ size16 := by rw [List.length_map]; have := cg.len; unfold size16; omega
  have hz0 : (0 : Nat) ≤ size16 := Nat.zero_le _
  have hz2 : (2 : Nat) ≤ size16 := by unfold size16; omega
  have en : eqD (.lst []) (.lst []) = some true := eqD_nil (ys := []) rfl
  have me : mvD (p, w) = .tup [.int (p : Int), .int w] := rfl
  rw [me] at t1
  have rme : rmD (rmN st (hnxt ts p w) (addC sh (hchg st ta ts p w)) rm) = .lst ((rmN st (hnxt ts p w) (addC sh (hchg st ta ts p w)) rm).map prD) := rfl
  rw [rme] at c4
  rw [rme]
  clear g P cg s s' hr hr' rme
  generalize (rmN st (hnxt ts p w) (addC sh (hchg st ta ts p w)) rm).map prD = RM2 at *
  generalize ti (strL st (hnxt ts p w) (addC sh (hchg st ta ts p w))) = SL at *
  generalize stD (hnxt ts p w) (addC sh (hchg st ta ts p w)) = S2 at *
  generalize stD ts sh = S1 at *
  generalize (addC sh (hchg st ta ts p w)).getD p 0 = v1 at *
  generalize (hnxt ts p w).getD p 0 = v2 at *
  generalize ti (addC sh (hchg st ta ts p w)) = T2 at *
  generalize L0 ++ [hO st ls ta (hnxt ts p w)] = L2 at *
  generalize L0 ++ [hO st ls ta ts] = L1 at *
  generalize ti (hnxt ts p w) = T1 at *
  generalize (hchg st ta ts p w).map mvD = CL at *
  generalize cgD (hchg st ta ts p w) = CD at *
  generalize rmD rm = RM at *
  generalize bookD st ls = B at *
  generalize ti st = S at *
  generalize ti ta = TA at *
  generalize st.getD p 0 = v3 at *
  generalize ta.getD p 0 = v4 at *
  generalize rngL 0 (st.length : Int) = RG at *
  generalize L0.length = q at *
  simp -implicitDefEqProofs (disch := first | omega | assumption | rfl) only [exSs, exS, evE, evEs, startE, bndR, List.map_cons, List.map_nil, List.length_cons, List.length_nil, List.cons_append, List.nil_append, List.getElem?_cons_zero, List.getElem?_cons_succ, R.bind_ok, R.bind_exc, R.st_ok, R.st_exc, call_eq, callL_eq, truth_bl, truth_int, Nat.reduceAdd, Nat.reduceSub, Int.cast_ofNat_Int, Int.reduceBEq, beq_self_eq_true, Bool.not_true, Bool.not_false, Int.reduceNeg, decide_true, decide_false, Bool.or_false, Bool.and_true, Bool.true_and, Bool.and_false, Bool.false_and, eT_ev, itD_seq, itemsD_tup, itemsD_lst, bi_all, bi_any, bi_len, lenD_tup, lenD_lst, lcEnd_f, List.length_map, List.all_cons, List.all_nil, id_eq, endR_rt, endR_nx, endR_exc, opt_some, Option.map_some, Tg.put, putMany, List.set_cons_zero, List.set_cons_succ, RS.bind_nx, RS.bind_rt, RS.bind_exc, List.replicate, R.nox_ok, wipeE, s__law_moves_right_1, m1, m2, if_pos hz2, f1, it1, if_pos hzc, c1, cmp_ne, if_pos hz0, en, t1, a0, a1, a2, a3, a4, a5, b0, nr, l0, r, if_pos hz, c2, so, l1, c3, c4]
end
end Lw
end

section
set_option Elab.async false
set_option linter.all false
set_option maxRecDepth 100000
set_option maxHeartbeats 1000000
/-! moves and copies right -/
namespace Lw
open PySem (Str)
open Ev
section
variable {st : List Int} {ls : List (List Int)} {ta : List Int}
theorem go_same : ∀ (hs : List (Nat × Int)) (ts sh : List Int), (goF (hchg st ta) hnxt hs ts ts sh).1 = (goF (hchg st ta) hnxt hs ts ts sh).2.1
  | [], ts, sh => rfl
  | m :: hs, ts, sh => go_same hs (hnxt ts m.1 m.2) (addC sh (hchg st ta ts m.1 m.2))
theorem go_sh (bk : BookOk st ls) (tk : TOk ta st.length) : ∀ (hs : List (Nat × Int)) (k : Nat) (ts sh : List Int), Sh st ta k ts sh → (∀ m ∈ hs, IsMv st.length m) → Sh st ta (k + hs.length) (goF (hchg st ta) hnxt hs ts ts sh).2.1 (goF (hchg st ta) hnxt hs ts ts sh).2.2
  | [], k, ts, sh, s, _ => s
  | m :: hs, k, ts, sh, s, hm => by
    have := go_sh bk tk hs (k + 1) (hnxt ts m.1 m.2) (addC sh (hchg st ta ts m.1 m.2)) (s.go bk tk (hm m List.mem_cons_self)) fun m' h' => hm m' (List.mem_cons_of_mem _ h')
    rw [List.length_cons, show k + (hs.length + 1) = k + 1 + hs.length by omega]
    exact this
theorem Sh.reprs (bk : BookOk st ls) (tk : TOk ta st.length) {k : Nat} {ts sh : List Int} (s : Sh st ta k ts sh) (hk : k ≤ 1000) : (∃ z : Str, ∀ L, biD .repr [stD ts sh] L = some (.str z)) ∧ ∃ z : Str, ∀ L, biD .repr [ti (strL st ts sh)] L = some (.str z) := by
  have h6 := bk.le
  refine ⟨repr_st (by rw [s.l1]; omega) (by rw [s.l2]; omega) (fun x hx => ?_) fun x hx => ?_, repr_ti (by rw [strL_len]; omega) fun x hx => ?_⟩
  · obtain ⟨j, hj, rfl⟩ := getD_mem hx
    have := s.le j (by rw [← s.l1]; exact hj)
    omega
  · obtain ⟨j, hj, rfl⟩ := getD_mem hx
    rw [s.l2] at hj
    have := s.le j hj
    rw [s.nr j hj]
    have := near_le (t := ts.getD j 0) (st_rng bk hj) (ta_rng tk hj)
    omega
  · obtain ⟨j, hj, rfl⟩ := getD_mem hx
    rw [strL_len] at hj
    obtain ⟨q1, q2⟩ := s.stray bk hj
    have h1 := st_rng bk hj
    have h2 := ta_rng tk hj
    unfold hc at q1 q2
    omega
theorem mv_loop {n : Nat} (h : 4 ≤ n) (bk : BookOk st ls) (tk : TOk ta st.length) {L0 : LH} (hf : Flat L0) (H : D) : ∀ (hs : List (Nat × Int)) (k : Nat) (ts sh : List Int) (rm : List (Int × Int)) (y6 y7 y8 y9 y12 : Option D), Sh st ta k ts sh → RimOk st ta rm → (∀ m ∈ hs, IsMv st.length m) →
    ∃ (z5 z6 z7 z8 z9 z12 : Option D), forGo (Tg.put (.tp [6, 7])) (exSs (cfN T n) s__law_moves_right_1) (hs.map mvD) [some (bookD st ls), some (ti ta), some H, some (.loc L0.length), some (stD ts sh), some (rmD rm), y6, y7, y8, y9, none, none, y12] (L0 ++ [hO st ls ta ts]) =
      .nx [some (bookD st ls), some (ti ta), some H, some (.loc L0.length), some (stD (goF (hchg st ta) hnxt hs ts ts sh).2.1 (goF (hchg st ta) hnxt hs ts ts sh).2.2), z5, z6, z7, z8, z9, none, none, z12] (L0 ++ [hO st ls ta (goF (hchg st ta) hnxt hs ts ts sh).2.1])
  | [], k, ts, sh, rm, y6, y7, y8, y9, y12, s, hr, _ => ⟨_, _, _, _, _, _, rfl⟩
  | m :: hs, k, ts, sh, rm, y6, y7, y8, y9, y12, s, hr, hm => by
    obtain ⟨p, w⟩ := m
    have im := hm (p, w) List.mem_cons_self
    have e := mv_step (n := n) h bk tk hf s hr im H y8 y9 y12
    have s' := s.go bk tk im
    obtain ⟨z5, z6, z7, z8, z9, z12, q⟩ := mv_loop h bk tk hf H hs (k + 1) (hnxt ts p w) (addC sh (hchg st ta ts p w)) _ (some (.int (p : Nat))) (some (.int w)) (some (cgD (hchg st ta ts p w))) (some (stD ts sh)) (some (ti (strL st (hnxt ts p w) (addC sh (hchg st ta ts p w))))) s' (rmN_ok bk s' hr) fun m' h' => hm m' (List.mem_cons_of_mem _ h')
    refine ⟨z5, z6, z7, z8, z9, z12, ?_⟩
    have p1 : Tg.put (.tp [6, 7]) (mvD (p, w)) [some (bookD st ls), some (ti ta), some H, some (.loc L0.length), some (stD ts sh), some (rmD rm), y6, y7, y8, y9, none, none, y12] = some [some (bookD st ls), some (ti ta), some H, some (.loc L0.length), some (stD ts sh), some (rmD rm), some (.int (p : Nat)), some (.int w), y8, y9, none, none, y12] := rfl
    rw [List.map_cons, forGo_nx p1 e]
    exact q
theorem moves_right_ok {n : Nat} (h : 12 ≤ n) (bk : BookOk st ls) (tk : TOk ta st.length) {L0 : LH} (hf : Flat L0) {hs : List (Nat × Int)} (hm : ∀ m ∈ hs, IsMv st.length m) (hl : hs.length ≤ 1000) :
    callN T n i__law_moves_right [bookD st ls, ti ta, histD hs] L0 = .ok (.bl true) L0 := by
  obtain ⟨n, rfl, _⟩ := pre h
  have h6 := bk.le
  have h1 := halves_ok (n := n) (by omega) bk tk L0
  have e0 : zeros st.length = zrs st.length := rfl
  rw [e0] at h1
  have h2 := noughts_ok (n := n) (by omega) bk (L0 ++ [hO st ls ta (zrs st.length)])
  have b0 := book0 st ls
  have l0 : ∀ L, lenD L (ti st) = some st.length := fun L => by
    show some (st.map D.int).length = _
    rw [List.length_map]
  have ml := mul_lst [prD (0, 0)] st.length (by simp) (by omega)
  rw [rep_one ((0, 0) : Int × Int) prD st.length] at ml
  have s0 : Sh st ta 0 (zrs st.length) (zrs st.length) := Sh.first bk tk rfl
  have gs := go_sh bk tk hs 0 (zrs st.length) (zrs st.length) s0 hm
  rw [Nat.zero_add] at gs
  obtain ⟨z5, z6, z7, z8, z9, z12, lp⟩ := mv_loop (n := n) (by omega) bk tk hf (histD hs) hs 0 (zrs st.length) (zrs st.length) (List.replicate st.length (0, 0)) none none none none none s0 (RimOk.first bk tk) hm
  have sm := go_same (st := st) (ta := ta) hs (zrs st.length) (zrs st.length)
  generalize hG : goF (hchg st ta) hnxt hs (zrs st.length) (zrs st.length) (zrs st.length) = G at *
  obtain ⟨ps, ts, sh⟩ := G
  simp only at sm lp gs
  subst sm
  have hf1 := flat_hO (st := st) (ls := ls) (ta := ta) hf ps
  have h3 := halves_ok (n := n) (by omega) bk tk (L0 ++ [hO st ls ta ps])
  rw [e0] at h3
  have hf2 := flat_hO (st := st) (ls := ls) (ta := ta) hf1 (zrs st.length)
  have g := get_last (L0 ++ [hO st ls ta ps]) (hO st ls ta (zrs st.length))
  have h4 := run_ok (n := n) (by omega) bk (fun k hk => hPlay bk tk (n := k) (by omega)) (s := zrs st.length) (zrs_len _) g hf2 hm
  rw [hG] at h4
  simp only at h4
  obtain ⟨⟨za, ra⟩, zb, rb⟩ := gs.reprs bk tk hl
  have h5 := strays_ok (n := n) (by omega) bk gs.l1 gs.l2 (L0 ++ [hO st ls ta ps] ++ [hO st ls ta (zrs st.length)])
  have h7 := lstrays_ok (n := n) (by omega) bk gs.l1 gs.l2 (L0 ++ [hO st ls ta ps] ++ [hO st ls ta (zrs st.length)])
  have q1 := eqD_str za
  have q2 := eqD_str zb
  have hz1 : (1 : Nat) ≤ size16 := by unfold size16; omega
  have hz2 : (2 : Nat) ≤ size16 := by unfold size16; omega
  have hz3 : (3 : Nat) ≤ size16 := by unfold size16; omega
  have it1 : itemsD (histD hs) = some (hs.map mvD) := rfl
  have pr0 : D.tup [.int 0, .int 0] = prD (0, 0) := rfl
  have ex : exSs (cfN T n) f__law_moves_right.body (startE f__law_moves_right.nl [bookD st ls, ti ta, histD hs]) L0 = .rt (.bl true) (L0 ++ [hO st ls ta ps] ++ [hO st ls ta (zrs st.length)]) := by
    clear gs s0 hG g hf1 hf2 hf
    unfold rmD at lp
    generalize L0 ++ [hO st ls ta ps] ++ [hO st ls ta (zrs st.length)] = L3 at *
    generalize (L0 ++ [hO st ls ta ps]).length = q3 at *
    generalize L0 ++ [hO st ls ta ps] = L2 at *
    generalize L0 ++ [hO st ls ta (zrs st.length)] = L1 at *
    generalize List.map prD (List.replicate st.length (0, 0)) = RM at *
    generalize stD (zrs st.length) (zrs st.length) = S0 at *
    generalize stD ps sh = S1 at *
    generalize ti (strL st ps sh) = SL at *
    generalize hs.map mvD = HL at *
    generalize histD hs = H at *
    generalize prD (0, 0) = P0 at *
    generalize bookD st ls = B at *
    generalize ti ta = TA at *
    generalize ti st = S at *
    generalize L0.length = q at *
    simp -implicitDefEqProofs (disch := first | omega | assumption | rfl) only [exSs, exS, evE, evEs, startE, bndR, List.map_cons, List.map_nil, List.length_cons, List.length_nil, List.cons_append, List.nil_append, List.getElem?_cons_zero, List.getElem?_cons_succ, R.bind_ok, R.bind_exc, R.st_ok, R.st_exc, call_eq, callL_eq, truth_bl, truth_int, Nat.reduceAdd, Nat.reduceSub, Int.cast_ofNat_Int, Int.reduceBEq, beq_self_eq_true, Bool.not_true, Bool.not_false, Int.reduceNeg, decide_true, decide_false, Bool.or_false, Bool.and_true, Bool.true_and, Bool.and_false, Bool.false_and, eT_ev, itD_seq, itemsD_tup, itemsD_lst, bi_all, bi_any, bi_len, lenD_tup, lenD_lst, lcEnd_f, List.length_map, List.all_cons, List.all_nil, id_eq, endR_rt, endR_nx, endR_exc, opt_some, Option.map_some, Tg.put, putMany, List.set_cons_zero, List.set_cons_succ, RS.bind_nx, RS.bind_rt, RS.bind_exc, List.replicate, R.nox_ok, wipeE, f__law_moves_right, h1, h2, pr0, if_pos hz1, if_pos hz2, if_pos hz3, b0, l0, ml, it1, lp, h3, h4, ra, cmp_ne, cmp_eq, q1, h5, h7, rb, q2]
  rw [call_of (fn := f__law_moves_right) rfl rfl, ex, List.append_assoc]
  exact endR_dropL rfl hf rfl
/-! ### copies -/
/-- what is told, move by move -/
def tellF (st ta : List Int) : List (Nat × Int) → List Int → List (List (Nat × Int)) × List Int
  | [], ts => ([], ts)
  | m :: hs, ts => (hchg st ta ts m.1 m.2 :: (tellF st ta hs (hnxt ts m.1 m.2)).1, (tellF st ta hs (hnxt ts m.1 m.2)).2)
theorem tell_len : ∀ (hs : List (Nat × Int)) (ts : List Int), (tellF st ta hs ts).2.length = ts.length
  | [], ts => rfl
  | m :: hs, ts => by
    show (tellF st ta hs (hnxt ts m.1 m.2)).2.length = _
    rw [tell_len hs]; unfold hnxt; rw [List.length_set]
theorem tell_wide (bk : BookOk st ls) (tk : TOk ta st.length) : ∀ (hs : List (Nat × Int)) (ts : List Int), ts.length = st.length → (∀ m ∈ hs, IsMv st.length m) → areData ((tellF st ta hs ts).1.map cgD) = true ∧ wides ((tellF st ta hs ts).1.map cgD) ≤ 100 * hs.length ∧ deps ((tellF st ta hs ts).1.map cgD) ≤ 2
  | [], ts, _, _ => ⟨rfl, by simp [tellF, wides], by simp [tellF, deps]⟩
  | (p, w) :: hs, ts, hl, hm => by
    have im := hm (p, w) List.mem_cons_self
    obtain ⟨q1, q2, q3⟩ := tell_wide bk tk hs (hnxt ts p w) (by unfold hnxt; rw [List.length_set]; exact hl) fun m' h' => hm m' (List.mem_cons_of_mem _ h')
    have by_ := hchg_by bk tk hl im
    have one : isData (cgD (hchg st ta ts p w)) = true ∧ wide (cgD (hchg st ta ts p w)) ≤ 80 ∧ dep (cgD (hchg st ta ts p w)) ≤ 2 := by
      have hp : p < st.length := im.1
      have h6 := bk.le
      unfold hchg at by_ ⊢
      split
      · exact ⟨rfl, by decide, by decide⟩
      · rename_i h0
        rw [if_neg h0] at by_
        obtain ⟨_, b1⟩ := by_ _ List.mem_cons_self
        generalize nb st ta (ts.set p (ts.getD p 0 + w)) p - nb st ta ts p = b at *
        have w1 := wide_i (i := (p : Int)) (by omega)
        have w2 := wide_i (i := b) (by have : b = 1 ∨ b = -1 := b1; omega)
        refine ⟨rfl, ?_, ?_⟩
        · show (wide (.int (p : Int)) + 2 + (wide (.int b) + 2 + 0) + 4 + 2 + 0) + 4 ≤ 80
          omega
        · show max (max 0 (max 0 0) + 1) 0 + 1 ≤ 2
          decide
    obtain ⟨o1, o2, o3⟩ := one
    refine ⟨?_, ?_, ?_⟩
    · show (isData (cgD (hchg st ta ts p w)) && areData ((tellF st ta hs (hnxt ts p w)).1.map cgD)) = true
      rw [o1, q1]; rfl
    · show wide (cgD (hchg st ta ts p w)) + 2 + wides ((tellF st ta hs (hnxt ts p w)).1.map cgD) ≤ 100 * (hs.length + 1)
      omega
    · show max (dep (cgD (hchg st ta ts p w))) (deps ((tellF st ta hs (hnxt ts p w)).1.map cgD)) ≤ 2
      omega
theorem cp_loop {n : Nat} (h : 3 ≤ n) (bk : BookOk st ls) (tk : TOk ta st.length) (q : Nat) (x0 x1 x2 x4 x7 x8 : Option D) : ∀ (hs : List (Nat × Int)) (ts : List Int) (L : LH) (y5 y6 : Option D), ts.length = st.length → L[q]? = some (hO st ls ta ts) → (∀ m ∈ hs, IsMv st.length m) →
    ∃ z5 z6, forGo (Tg.put (.tp [5, 6])) (exSs (cfN T n) s__law_copies_right_1) (hs.map mvD) [x0, x1, x2, some (.loc q), x4, y5, y6, x7, x8] L = .nx [x0, x1, x2, some (.loc q), x4, z5, z6, x7, x8] (L.set q (hO st ls ta (tellF st ta hs ts).2))
  | [], ts, L, y5, y6, hl, g, _ => ⟨y5, y6, by
    show RS.nx _ L = RS.nx _ (L.set q (hO st ls ta ts))
    obtain ⟨h1, e1⟩ := List.getElem?_eq_some_iff.mp g
    rw [← e1, List.set_getElem_self]⟩
  | (p, w) :: hs, ts, L, y5, y6, hl, g, hm => by
    have im := hm (p, w) List.mem_cons_self
    obtain ⟨j, m1, m2⟩ := (hPlay bk tk (n := n) (by omega)).moved hl g im
    have p1 : Tg.put (.tp [5, 6]) (mvD (p, w)) [x0, x1, x2, some (.loc q), x4, y5, y6, x7, x8] = some [x0, x1, x2, some (.loc q), x4, some (.int (p : Nat)), some (.int w), x7, x8] := rfl
    have e : exSs (cfN T n) s__law_copies_right_1 [x0, x1, x2, some (.loc q), x4, some (.int (p : Nat)), some (.int w), x7, x8] L = .nx [x0, x1, x2, some (.loc q), x4, some (.int (p : Nat)), some (.int w), x7, x8] (L.set q (hO st ls ta (hnxt ts p w))) := by
      generalize L.set q (hO st ls ta (hnxt ts p w)) = L2 at *
      generalize cgD (hchg st ta ts p w) = C at *
      simp -implicitDefEqProofs (disch := first | omega | assumption | rfl) only [exSs, exS, evE, evEs, startE, bndR, List.map_cons, List.map_nil, List.length_cons, List.length_nil, List.cons_append, List.nil_append, List.getElem?_cons_zero, List.getElem?_cons_succ, R.bind_ok, R.bind_exc, R.st_ok, R.st_exc, call_eq, callL_eq, truth_bl, truth_int, Nat.reduceAdd, Nat.reduceSub, Int.cast_ofNat_Int, Int.reduceBEq, beq_self_eq_true, Bool.not_true, Bool.not_false, Int.reduceNeg, decide_true, decide_false, Bool.or_false, Bool.and_true, Bool.true_and, Bool.and_false, Bool.false_and, eT_ev, itD_seq, itemsD_tup, itemsD_lst, bi_all, bi_any, bi_len, lenD_tup, lenD_lst, lcEnd_f, List.length_map, List.all_cons, List.all_nil, id_eq, endR_rt, endR_nx, endR_exc, opt_some, Option.map_some, Tg.put, putMany, List.set_cons_zero, List.set_cons_succ, RS.bind_nx, RS.bind_rt, RS.bind_exc, List.replicate, R.nox_ok, wipeE, s__law_copies_right_1, m1, m2]
    obtain ⟨z5, z6, r⟩ := cp_loop h bk tk q x0 x1 x2 x4 x7 x8 hs (hnxt ts p w) (L.set q (hO st ls ta (hnxt ts p w))) (some (.int (p : Nat))) (some (.int w)) (by unfold hnxt; rw [List.length_set]; exact hl) (get_set g _) fun m' h' => hm m' (List.mem_cons_of_mem _ h')
    refine ⟨z5, z6, ?_⟩
    rw [List.map_cons, forGo_nx p1 e, r, List.set_set]
    rfl
theorem cp_lc {n : Nat} (h : 3 ≤ n) (bk : BookOk st ls) (tk : TOk ta st.length) {q : Nat} {e : E} {env : Env} (he : ∀ (L L' : LH) (j : Nat) (p w : D) (r : D), methAt L (.loc q) m_moved = some j → callN T n j [.loc q, p, w] L = .ok r L' → ∀ env1, Tg.put (.tp [5, 6]) (.tup [p, w]) env = some env1 → evE (cfN T n) e env1 L = .ok r L')
    (hput : ∀ p w : D, ∃ env1, Tg.put (.tp [5, 6]) (.tup [p, w]) env = some env1) : ∀ (hs : List (Nat × Int)) (ts : List Int) (L : LH), ts.length = st.length → L[q]? = some (hO st ls ta ts) → (∀ m ∈ hs, IsMv st.length m) →
    lcGo (Tg.put (.tp [5, 6])) (evE (cfN T n) eT) (evE (cfN T n) e) env (hs.map mvD) L = .ok ((tellF st ta hs ts).1.map cgD) (L.set q (hO st ls ta (tellF st ta hs ts).2))
  | [], ts, L, hl, g, _ => by
    show R.ok _ L = R.ok _ (L.set q (hO st ls ta ts))
    obtain ⟨h1, e1⟩ := List.getElem?_eq_some_iff.mp g
    rw [← e1, List.set_getElem_self]; rfl
  | (p, w) :: hs, ts, L, hl, g, hm => by
    have im := hm (p, w) List.mem_cons_self
    obtain ⟨j, m1, m2⟩ := (hPlay bk tk (n := n) (by omega)).moved hl g im
    obtain ⟨env1, p1⟩ := hput (.int (p : Nat)) (.int w)
    have e1 := he _ _ j _ _ _ m1 m2 env1 p1
    have r := cp_lc h bk tk he hput hs (hnxt ts p w) (L.set q (hO st ls ta (hnxt ts p w))) (by unfold hnxt; rw [List.length_set]; exact hl) (get_set g _) fun m' h' => hm m' (List.mem_cons_of_mem _ h')
    rw [List.set_set] at r
    have p1' : Tg.put (.tp [5, 6]) (mvD (p, w)) env = some env1 := p1
    rw [List.map_cons]
    simp only [lcGo, p1', eT_ev, R.bind_ok, truth_bl, e1, r]
    rfl
theorem copies_right_ok {n : Nat} (h : 12 ≤ n) (bk : BookOk st ls) (tk : TOk ta st.length) {L0 : LH} (hf : Flat L0) {hs : List (Nat × Int)} (hm : ∀ m ∈ hs, IsMv st.length m) (hl : hs.length ≤ 1000) :
    callN T n i__law_copies_right [bookD st ls, ti ta, histD hs] L0 = .ok (.bl true) L0 := by
  obtain ⟨n, rfl, _⟩ := pre h
  have h6 := bk.le
  have h1 := halves_ok (n := n) (by omega) bk tk L0
  have lh : ∀ L, lenD L (histD hs) = some hs.length := fun L => by
    show some (hs.map mvD).length = _
    rw [List.length_map]
  obtain ⟨k, hk⟩ : ∃ k : Nat, (hs.length : Int) / 2 = (k : Int) := ⟨((hs.length : Int) / 2).toNat, by omega⟩
  have fd := fdiv2 (hs.length : Int)
  rw [hk] at fd
  have hk2 : k ≤ (hs.map mvD).length := by rw [List.length_map]; omega
  have c1 : sliceD (histD hs) none (some (k : Int)) = some (.tup ((hs.take k).map mvD)) := by
    rw [List.map_take]
    exact congrArg (fun z => some (D.tup z)) (cut_to _ _ hk2)
  have c2 : sliceD (histD hs) (some (k : Int)) none = some (.tup ((hs.drop k).map mvD)) := by
    rw [List.map_drop]
    exact congrArg (fun z => some (D.tup z)) (cut_from _ _ hk2)
  have hz : (zeros st.length).length = st.length := zrs_len _
  obtain ⟨z5, z6, lp⟩ := cp_loop (n := n) (by omega) bk tk L0.length (some (bookD st ls)) (some (ti ta)) (some (histD hs)) (some (.int (k : Nat))) none none (hs.take k) (zeros st.length) (L0 ++ [hO st ls ta (zeros st.length)]) none none hz (get_last _ _) fun m hm' => hm m (List.mem_of_mem_take hm')
  rw [set_last] at lp
  have tl := tell_len (st := st) (ta := ta) (hs.take k) (zeros st.length)
  generalize (tellF st ta (hs.take k) (zeros st.length)).2 = ts at *
  rw [hz] at tl
  have g := get_last L0 (hO st ls ta ts)
  obtain ⟨j, m1, m2⟩ := (hPlay bk tk (n := n) (by omega)).copy (L := L0 ++ [hO st ls ta ts]) tl g
  have hm2 : ∀ m ∈ hs.drop k, IsMv st.length m := fun m hm' => hm m (List.mem_of_mem_drop hm')
  have eL : L0 ++ [hO st ls ta ts] ++ [hO st ls ta ts] = L0 ++ [hO st ls ta ts, hO st ls ta ts] := by rw [List.append_assoc]; rfl
  have ln : (L0 ++ [hO st ls ta ts]).length = L0.length + 1 := by simp
  rw [eL, ln] at m2
  have g1 : (L0 ++ [hO st ls ta ts, hO st ls ta ts])[L0.length]? = some (hO st ls ta ts) := by
    rw [List.getElem?_append_right (Nat.le_refl _)]; simp
  have l1 := cp_lc (n := n) (by omega) bk tk (q := L0.length) (e := e__law_copies_right_1) (env := [some (bookD st ls), some (ti ta), some (histD hs), some (.loc L0.length), some (.int (k : Nat)), none, none, some (.loc (L0.length + 1)), none]) (fun L L' j p w r a1 a2 env1 a3 => by
    cases a3
    generalize bookD st ls = B at *
    generalize ti ta = TA at *
    generalize histD hs = H at *
    simp -implicitDefEqProofs (disch := first | omega | assumption | rfl) only [exSs, exS, evE, evEs, startE, bndR, List.map_cons, List.map_nil, List.length_cons, List.length_nil, List.cons_append, List.nil_append, List.getElem?_cons_zero, List.getElem?_cons_succ, R.bind_ok, R.bind_exc, R.st_ok, R.st_exc, call_eq, callL_eq, truth_bl, truth_int, Nat.reduceAdd, Nat.reduceSub, Int.cast_ofNat_Int, Int.reduceBEq, beq_self_eq_true, Bool.not_true, Bool.not_false, Int.reduceNeg, decide_true, decide_false, Bool.or_false, Bool.and_true, Bool.true_and, Bool.and_false, Bool.false_and, eT_ev, itD_seq, itemsD_tup, itemsD_lst, bi_all, bi_any, bi_len, lenD_tup, lenD_lst, lcEnd_f, List.length_map, List.all_cons, List.all_nil, id_eq, endR_rt, endR_nx, endR_exc, opt_some, Option.map_some, Tg.put, putMany, List.set_cons_zero, List.set_cons_succ, RS.bind_nx, RS.bind_rt, RS.bind_exc, List.replicate, R.nox_ok, wipeE, e__law_copies_right_1, a1, a2]) (fun p w => ⟨_, rfl⟩) (hs.drop k) ts (L0 ++ [hO st ls ta ts, hO st ls ta ts]) tl g1 hm2
  have s1 : ∀ x : O, (L0 ++ [hO st ls ta ts, hO st ls ta ts]).set L0.length x = L0 ++ [x, hO st ls ta ts] := fun x => by
    rw [List.set_append_right _ _ (Nat.le_refl _)]; simp
  rw [s1] at l1
  have g2 : ∀ x : O, (L0 ++ [x, hO st ls ta ts])[L0.length + 1]? = some (hO st ls ta ts) := fun x => by
    rw [List.getElem?_append_right (by omega)]; simp
  have l2 := fun y8 => cp_lc (n := n) (by omega) bk tk (q := L0.length + 1) (e := e__law_copies_right_2) (env := [some (bookD st ls), some (ti ta), some (histD hs), some (.loc L0.length), some (.int (k : Nat)), none, none, some (.loc (L0.length + 1)), y8]) (fun L L' j p w r a1 a2 env1 a3 => by
    cases a3
    generalize bookD st ls = B at *
    generalize ti ta = TA at *
    generalize histD hs = H at *
    simp -implicitDefEqProofs (disch := first | omega | assumption | rfl) only [exSs, exS, evE, evEs, startE, bndR, List.map_cons, List.map_nil, List.length_cons, List.length_nil, List.cons_append, List.nil_append, List.getElem?_cons_zero, List.getElem?_cons_succ, R.bind_ok, R.bind_exc, R.st_ok, R.st_exc, call_eq, callL_eq, truth_bl, truth_int, Nat.reduceAdd, Nat.reduceSub, Int.cast_ofNat_Int, Int.reduceBEq, beq_self_eq_true, Bool.not_true, Bool.not_false, Int.reduceNeg, decide_true, decide_false, Bool.or_false, Bool.and_true, Bool.true_and, Bool.and_false, Bool.false_and, eT_ev, itD_seq, itemsD_tup, itemsD_lst, bi_all, bi_any, bi_len, lenD_tup, lenD_lst, lcEnd_f, List.length_map, List.all_cons, List.all_nil, id_eq, endR_rt, endR_nx, endR_exc, opt_some, Option.map_some, Tg.put, putMany, List.set_cons_zero, List.set_cons_succ, RS.bind_nx, RS.bind_rt, RS.bind_exc, List.replicate, R.nox_ok, wipeE, e__law_copies_right_2, a1, a2]) (fun p w => ⟨_, rfl⟩) (hs.drop k) ts (L0 ++ [hO st ls ta (tellF st ta (hs.drop k) ts).2, hO st ls ta ts]) tl (g2 _) hm2
  have s2 : ∀ x y : O, (L0 ++ [x, hO st ls ta ts]).set (L0.length + 1) y = L0 ++ [x, y] := fun x y => by
    rw [List.set_append_right _ _ (by omega)]; simp
  have l2' : ∀ y8, _ := fun y8 => by
    have := l2 y8
    rw [s2] at this
    exact this
  obtain ⟨w1, w2, w3⟩ := tell_wide bk tk (hs.drop k) ts tl hm2
  have ld : (hs.drop k).length ≤ 1000 := by rw [List.length_drop]; omega
  obtain ⟨z, rp⟩ := repr_any (x := .lst ((tellF st ta (hs.drop k) ts).1.map cgD)) w1 (by
    show wides _ + 4 ≤ 1000000
    omega) (by
    show deps _ + 1 ≤ 60
    omega)
  have qz := eqD_str z
  have zd : ((hs.drop k).map mvD).length ≤ size16 := by rw [List.length_map]; unfold size16; omega
  have hz2 : (2 : Nat) ≤ size16 := by unfold size16; omega
  have ex : exSs (cfN T n) f__law_copies_right.body (startE f__law_copies_right.nl [bookD st ls, ti ta, histD hs]) L0 = .rt (.bl true) (L0 ++ [hO st ls ta (tellF st ta (hs.drop k) ts).2, hO st ls ta (tellF st ta (hs.drop k) ts).2]) := by
    have l3 := l2' (some (.lst ((tellF st ta (hs.drop k) ts).1.map cgD)))
    clear g g1 g2 l2 l2' s1 s2 w1 w2 w3 hm2 eL ln
    generalize L0 ++ [hO st ls ta (tellF st ta (hs.drop k) ts).2, hO st ls ta (tellF st ta (hs.drop k) ts).2] = L5 at *
    generalize L0 ++ [hO st ls ta (tellF st ta (hs.drop k) ts).2, hO st ls ta ts] = L4 at *
    generalize (tellF st ta (hs.drop k) ts).1.map cgD = RES at *
    generalize L0 ++ [hO st ls ta ts, hO st ls ta ts] = L3 at *
    generalize L0 ++ [hO st ls ta ts] = L2 at *
    generalize L0 ++ [hO st ls ta (zeros st.length)] = L1 at *
    generalize (hs.drop k).map mvD = HD at *
    generalize (hs.take k).map mvD = HT at *
    generalize histD hs = H at *
    generalize bookD st ls = B at *
    generalize ti ta = TA at *
    generalize (k : Int) = kk at *
    simp -implicitDefEqProofs (disch := first | omega | assumption | rfl) only [exSs, exS, evE, evEs, startE, bndR, List.map_cons, List.map_nil, List.length_cons, List.length_nil, List.cons_append, List.nil_append, List.getElem?_cons_zero, List.getElem?_cons_succ, R.bind_ok, R.bind_exc, R.st_ok, R.st_exc, call_eq, callL_eq, truth_bl, truth_int, Nat.reduceAdd, Nat.reduceSub, Int.cast_ofNat_Int, Int.reduceBEq, beq_self_eq_true, Bool.not_true, Bool.not_false, Int.reduceNeg, decide_true, decide_false, Bool.or_false, Bool.and_true, Bool.true_and, Bool.and_false, Bool.false_and, eT_ev, itD_seq, itemsD_tup, itemsD_lst, bi_all, bi_any, bi_len, lenD_tup, lenD_lst, lcEnd_f, List.length_map, List.all_cons, List.all_nil, id_eq, endR_rt, endR_nx, endR_exc, opt_some, Option.map_some, Tg.put, putMany, List.set_cons_zero, List.set_cons_succ, RS.bind_nx, RS.bind_rt, RS.bind_exc, List.replicate, R.nox_ok, wipeE, f__law_copies_right, h1, lh, fd, if_pos hz2, bndF, bndT, c1, lp, m1, m2, c2, if_pos zd, l1, l3, rp, cmp_eq, qz]
  rw [call_of (fn := f__law_copies_right) rfl rfl, ex]
  exact endR_dropL rfl hf rfl
end
end Lw
end

section
set_option Elab.async false
set_option linter.all false
set_option maxRecDepth 100000
set_option maxHeartbeats 1000000
/-! ties refused -/
namespace Lw
open PySem (Str)
open Ev
theorem eqD_si {s : Str} (hs : PySem.PyData.strOk s = true) (i j : Int) : eqD (.tup [.str s, .int i]) (.tup [.str s, .int j]) = some (i == j) := by
  have d1 : ∀ k : Int, isData (.tup [.str s, .int k]) = true := fun k => by simp [isData, areData, hs]
  have d2 : ∀ k : Int, dep (.tup [.str s, .int k]) = 1 := fun k => by simp [dep, deps]
  have e : eqv (.tup [.str s, .int i]) (.tup [.str s, .int j]) = (i == j) := by simp [eqv, eqvs]
  have : eqD (.tup [.str s, .int i]) (.tup [.str s, .int j]) = if isData (.tup [.str s, .int i]) && isData (.tup [.str s, .int j]) && decide (min (dep (.tup [.str s, .int i])) (dep (.tup [.str s, .int j])) ≤ 60) then some (eqv (.tup [.str s, .int i]) (.tup [.str s, .int j])) else none := rfl
  rw [this, d1, d1, d2, d2, e]; rfl
theorem ok_ties : PySem.PyData.strOk "ties" = true := by decide +kernel
theorem rep_non (k : Nat) : (List.replicate ((k : Nat) : Int).toNat [D.non]).flatten = List.replicate k D.non := by
  rw [Int.toNat_natCast]
  induction k with
  | zero => rfl
  | succ k ih => rw [List.replicate_succ, List.flatten_cons, ih, List.replicate_succ]; rfl
theorem between_tup {n : Nat} (h : 2 ≤ n) (xs : List D) (a b : Int) (L : LH) : callN T n i_is_between [.tup xs, .int a, .int b] L = .ok (.bl false) L := by
  obtain ⟨n, rfl, _⟩ := pre h
  have w : callN T n i_is_whole [.tup xs] L = .ok (.bl false) L := by
    obtain ⟨n, rfl, _⟩ := pre (k := 0) (n := n) (by omega)
    have i1 : isinD (.tup xs) [.int] = some false := rfl
    rw [call_of (fn := f_is_whole) rfl rfl]
    simp -implicitDefEqProofs (disch := first | omega | assumption | rfl) only [exSs, exS, evE, evEs, startE, bndR, List.map_cons, List.map_nil, List.length_cons, List.length_nil, List.cons_append, List.nil_append, List.getElem?_cons_zero, List.getElem?_cons_succ, R.bind_ok, R.bind_exc, R.st_ok, R.st_exc, call_eq, callL_eq, truth_bl, truth_int, Nat.reduceAdd, Nat.reduceSub, Int.cast_ofNat_Int, Int.reduceBEq, beq_self_eq_true, Bool.not_true, Bool.not_false, Int.reduceNeg, decide_true, decide_false, Bool.or_false, Bool.and_true, Bool.true_and, Bool.and_false, Bool.false_and, eT_ev, itD_seq, itemsD_tup, itemsD_lst, bi_all, bi_any, bi_len, lenD_tup, lenD_lst, lcEnd_f, List.length_map, List.all_cons, List.all_nil, id_eq, endR_rt, endR_nx, endR_exc, opt_some, Option.map_some, Tg.put, putMany, List.set_cons_zero, List.set_cons_succ, RS.bind_nx, RS.bind_rt, RS.bind_exc, List.replicate, R.nox_ok, wipeE, f_is_whole, i1]
  rw [call_of (fn := f_is_between) rfl rfl]
  simp -implicitDefEqProofs (disch := first | omega | assumption | rfl) only [exSs, exS, evE, evEs, startE, bndR, List.map_cons, List.map_nil, List.length_cons, List.length_nil, List.cons_append, List.nil_append, List.getElem?_cons_zero, List.getElem?_cons_succ, R.bind_ok, R.bind_exc, R.st_ok, R.st_exc, call_eq, callL_eq, truth_bl, truth_int, Nat.reduceAdd, Nat.reduceSub, Int.cast_ofNat_Int, Int.reduceBEq, beq_self_eq_true, Bool.not_true, Bool.not_false, Int.reduceNeg, decide_true, decide_false, Bool.or_false, Bool.and_true, Bool.true_and, Bool.and_false, Bool.false_and, eT_ev, itD_seq, itemsD_tup, itemsD_lst, bi_all, bi_any, bi_len, lenD_tup, lenD_lst, lcEnd_f, List.length_map, List.all_cons, List.all_nil, id_eq, endR_rt, endR_nx, endR_exc, opt_some, Option.map_some, Tg.put, putMany, List.set_cons_zero, List.set_cons_succ, RS.bind_nx, RS.bind_rt, RS.bind_exc, List.replicate, R.nox_ok, wipeE, f_is_between, w]
section
variable {st : List Int} {ls : List (List Int)} {ta : List Int}
/-- no tuple of as many -/
def NoT (N : Nat) (x : D) : Prop := isinD x [.tuple] = some false ∨ ∃ xs, x = .tup xs ∧ xs.length ≠ N
theorem want_ties_len {n : Nat} (h : 2 ≤ n) {x : D} (hx : NoT st.length x) (L : LH) : callN T n i_want_ties [bookD st ls, x] L = .exc c_BadTies (.int (-1)) L := by
  obtain ⟨n, rfl, _⟩ := pre h
  rw [call_of (fn := f_want_ties) rfl rfl]
  rcases hx with t | ⟨xs, rfl, hl⟩
  · generalize bookD st ls = B at *
    simp -implicitDefEqProofs (disch := first | omega | assumption | rfl) only [exSs, exS, evE, evEs, startE, bndR, List.map_cons, List.map_nil, List.length_cons, List.length_nil, List.cons_append, List.nil_append, List.getElem?_cons_zero, List.getElem?_cons_succ, R.bind_ok, R.bind_exc, R.st_ok, R.st_exc, call_eq, callL_eq, truth_bl, truth_int, Nat.reduceAdd, Nat.reduceSub, Int.cast_ofNat_Int, Int.reduceBEq, beq_self_eq_true, Bool.not_true, Bool.not_false, Int.reduceNeg, decide_true, decide_false, Bool.or_false, Bool.and_true, Bool.true_and, Bool.and_false, Bool.false_and, eT_ev, itD_seq, itemsD_tup, itemsD_lst, bi_all, bi_any, bi_len, lenD_tup, lenD_lst, lcEnd_f, List.length_map, List.all_cons, List.all_nil, id_eq, endR_rt, endR_nx, endR_exc, opt_some, Option.map_some, Tg.put, putMany, List.set_cons_zero, List.set_cons_succ, RS.bind_nx, RS.bind_rt, RS.bind_exc, List.replicate, R.nox_ok, wipeE, f_want_ties, t, binNeg]
  · have h1 := many_ok (steps := st) (links := ls) (n := n) (by omega) L
    have t : isinD (.tup xs) [.tuple] = some true := rfl
    have e : ((xs.length : Int) == (st.length : Int)) = false := by rw [beq_eq_false_iff_ne]; omega
    generalize bookD st ls = B at *
    simp -implicitDefEqProofs (disch := first | omega | assumption | rfl) only [exSs, exS, evE, evEs, startE, bndR, List.map_cons, List.map_nil, List.length_cons, List.length_nil, List.cons_append, List.nil_append, List.getElem?_cons_zero, List.getElem?_cons_succ, R.bind_ok, R.bind_exc, R.st_ok, R.st_exc, call_eq, callL_eq, truth_bl, truth_int, Nat.reduceAdd, Nat.reduceSub, Int.cast_ofNat_Int, Int.reduceBEq, beq_self_eq_true, Bool.not_true, Bool.not_false, Int.reduceNeg, decide_true, decide_false, Bool.or_false, Bool.and_true, Bool.true_and, Bool.and_false, Bool.false_and, eT_ev, itD_seq, itemsD_tup, itemsD_lst, bi_all, bi_any, bi_len, lenD_tup, lenD_lst, lcEnd_f, List.length_map, List.all_cons, List.all_nil, id_eq, endR_rt, endR_nx, endR_exc, opt_some, Option.map_some, Tg.put, putMany, List.set_cons_zero, List.set_cons_succ, RS.bind_nx, RS.bind_rt, RS.bind_exc, List.replicate, R.nox_ok, wipeE, f_want_ties, t, h1, cmp_ne, eqD_int, e, binNeg]
theorem ties_bad_loop {n : Nat} (h : 2 ≤ n) {odd : D} {rest : List D} {L : LH} (hb : callN T n i_is_between [odd, .int 0, .int 1] L = .ok (.bl false) L) (x0 x1 : Option D) : ∀ (us : List Int) (k : Nat) (y2 y3 : Option D), (∀ a ∈ us, a = 0 ∨ a = 1) →
    ∃ env, forGo (Tg.put (.tp [2, 3])) (exSs (cfN T n) s_want_ties_1) (pairsE k (us.map .int ++ odd :: rest)) [x0, x1, y2, y3] L = .exc c_BadTies (.int ((k + us.length : Nat) : Int)) env L
  | [], k, y2, y3, _ => by
    have e : exSs (cfN T n) s_want_ties_1 [x0, x1, some (.int (k : Nat)), some odd] L = .exc c_BadTies (.int (k : Nat)) [x0, x1, some (.int (k : Nat)), some odd] L := by
      simp -implicitDefEqProofs (disch := first | omega | assumption | rfl) only [exSs, exS, evE, evEs, startE, bndR, List.map_cons, List.map_nil, List.length_cons, List.length_nil, List.cons_append, List.nil_append, List.getElem?_cons_zero, List.getElem?_cons_succ, R.bind_ok, R.bind_exc, R.st_ok, R.st_exc, call_eq, callL_eq, truth_bl, truth_int, Nat.reduceAdd, Nat.reduceSub, Int.cast_ofNat_Int, Int.reduceBEq, beq_self_eq_true, Bool.not_true, Bool.not_false, Int.reduceNeg, decide_true, decide_false, Bool.or_false, Bool.and_true, Bool.true_and, Bool.and_false, Bool.false_and, eT_ev, itD_seq, itemsD_tup, itemsD_lst, bi_all, bi_any, bi_len, lenD_tup, lenD_lst, lcEnd_f, List.length_map, List.all_cons, List.all_nil, id_eq, endR_rt, endR_nx, endR_exc, opt_some, Option.map_some, Tg.put, putMany, List.set_cons_zero, List.set_cons_succ, RS.bind_nx, RS.bind_rt, RS.bind_exc, List.replicate, R.nox_ok, wipeE, s_want_ties_1, hb]
    have p1 : Tg.put (.tp [2, 3]) (.tup [.int (k : Nat), odd]) [x0, x1, y2, y3] = some [x0, x1, some (.int (k : Nat)), some odd] := rfl
    refine ⟨[x0, x1, some (.int (k : Nat)), some odd], ?_⟩
    rw [List.map_nil, List.nil_append, pairsE]
    simp only [forGo, p1, e]
    rfl
  | a :: us, k, y2, y3, hu => by
    have e := tie_step (n := n) h (hu a List.mem_cons_self) L x0 x1 (.int (k : Nat))
    obtain ⟨env, q⟩ := ties_bad_loop h hb x0 x1 us (k + 1) (some (.int (k : Nat))) (some (.int a)) fun b hb => hu b (List.mem_cons_of_mem _ hb)
    have p1 : Tg.put (.tp [2, 3]) (.tup [.int (k : Nat), .int a]) [x0, x1, y2, y3] = some [x0, x1, some (.int (k : Nat)), some (.int a)] := rfl
    refine ⟨env, ?_⟩
    rw [List.map_cons, List.cons_append, pairsE, forGo_nx p1 e, q]
    congr 3
    simp only [List.length_cons]
    omega
theorem want_ties_odd {n : Nat} (h : 3 ≤ n) {odd : D} {rest : List D} {us : List Int} (hl : us.length + 1 + rest.length = st.length) (hu : ∀ a ∈ us, a = 0 ∨ a = 1) {L : LH} (hb : ∀ n, 2 ≤ n → callN T n i_is_between [odd, .int 0, .int 1] L = .ok (.bl false) L) :
    callN T n i_want_ties [bookD st ls, .tup (us.map .int ++ [odd] ++ rest)] L = .exc c_BadTies (.int (us.length : Nat)) L := by
  obtain ⟨n, rfl, _⟩ := pre h
  rw [call_of (fn := f_want_ties) rfl rfl]
  have e0 : us.map D.int ++ [odd] ++ rest = us.map .int ++ odd :: rest := by rw [List.append_assoc]; rfl
  rw [e0]
  have ln : (us.map D.int ++ odd :: rest).length = st.length := by rw [List.length_append, List.length_map, List.length_cons]; omega
  obtain ⟨env, lp⟩ := ties_bad_loop (n := n) (by omega) (rest := rest) (hb n (by omega)) (some (bookD st ls)) (some (.tup (us.map .int ++ odd :: rest))) us 0 none none hu
  rw [Nat.zero_add] at lp
  have h1 := many_ok (steps := st) (links := ls) (n := n) (by omega) L
  generalize us.map D.int ++ odd :: rest = xs at *
  have t : isinD (.tup xs) [.tuple] = some true := rfl
  have i1 : itD .enum [.tup xs] = some (pairsE 0 xs) := rfl
  have e : ((xs.length : Int) == (st.length : Int)) = true := by rw [ln]; simp
  have l1 : lenD L (.tup xs) = some xs.length := rfl
  generalize D.tup xs = X at *
  generalize pairsE 0 xs = PE at *
  generalize bookD st ls = B at *
  simp -implicitDefEqProofs (disch := first | omega | assumption | rfl) only [exSs, exS, evE, evEs, startE, bndR, List.map_cons, List.map_nil, List.length_cons, List.length_nil, List.cons_append, List.nil_append, List.getElem?_cons_zero, List.getElem?_cons_succ, R.bind_ok, R.bind_exc, R.st_ok, R.st_exc, call_eq, callL_eq, truth_bl, truth_int, Nat.reduceAdd, Nat.reduceSub, Int.cast_ofNat_Int, Int.reduceBEq, beq_self_eq_true, Bool.not_true, Bool.not_false, Int.reduceNeg, decide_true, decide_false, Bool.or_false, Bool.and_true, Bool.true_and, Bool.and_false, Bool.false_and, eT_ev, itD_seq, itemsD_tup, itemsD_lst, bi_all, bi_any, bi_len, lenD_tup, lenD_lst, lcEnd_f, List.length_map, List.all_cons, List.all_nil, id_eq, endR_rt, endR_nx, endR_exc, opt_some, Option.map_some, Tg.put, putMany, List.set_cons_zero, List.set_cons_succ, RS.bind_nx, RS.bind_rt, RS.bind_exc, List.replicate, R.nox_ok, wipeE, f_want_ties, t, l1, h1, cmp_ne, eqD_int, e, i1, lp]
theorem halves_exc {n : Nat} (h : 7 ≤ n) (bk : BookOk st ls) {x w : D} {L : LH} (hw : ∀ n, 3 ≤ n → callN T n i_want_ties [bookD st ls, x] L = .exc c_BadTies w L) : callN T n i_halves [bookD st ls, x] L = .exc c_BadTies w L := by
  obtain ⟨n, rfl, _⟩ := pre h
  rw [call_of (fn := f_halves) rfl rfl]
  have h1 := made_ok (n := n) (by omega) bk L
  have h2 := hw n (by omega)
  generalize bookD st ls = B at *
  simp -implicitDefEqProofs (disch := first | omega | assumption | rfl) only [exSs, exS, evE, evEs, startE, bndR, List.map_cons, List.map_nil, List.length_cons, List.length_nil, List.cons_append, List.nil_append, List.getElem?_cons_zero, List.getElem?_cons_succ, R.bind_ok, R.bind_exc, R.st_ok, R.st_exc, call_eq, callL_eq, truth_bl, truth_int, Nat.reduceAdd, Nat.reduceSub, Int.cast_ofNat_Int, Int.reduceBEq, beq_self_eq_true, Bool.not_true, Bool.not_false, Int.reduceNeg, decide_true, decide_false, Bool.or_false, Bool.and_true, Bool.true_and, Bool.and_false, Bool.false_and, eT_ev, itD_seq, itemsD_tup, itemsD_lst, bi_all, bi_any, bi_len, lenD_tup, lenD_lst, lcEnd_f, List.length_map, List.all_cons, List.all_nil, id_eq, endR_rt, endR_nx, endR_exc, opt_some, Option.map_some, Tg.put, putMany, List.set_cons_zero, List.set_cons_succ, RS.bind_nx, RS.bind_rt, RS.bind_exc, List.replicate, R.nox_ok, wipeE, f_halves, h1, h2]
--@if f__law_ties_refused
theorem ties_refused_ok {n : Nat} (h : 8 ≤ n) (bk : BookOk st ls) {x w : D} {L : LH} (hw : ∀ n, 3 ≤ n → callN T n i_want_ties [bookD st ls, x] L = .exc c_BadTies w L) : callN T n i__law_ties_refused [bookD st ls, x] L = .ok (.tup [.str "ties", w]) L := by
  obtain ⟨n, rfl, _⟩ := pre h
  have e := halves_exc (n := n) (by omega) bk hw
  have c1 : catches c_BadTies c_BadTies = true := rfl
  have hz : (2 : Nat) ≤ size16 := by unfold size16; omega
  rw [call_of (fn := f__law_ties_refused) rfl rfl]
  generalize bookD st ls = B at *
  simp -implicitDefEqProofs (disch := first | omega | assumption | rfl) only [exSs, exS, evE, evEs, startE, bndR, List.map_cons, List.map_nil, List.length_cons, List.length_nil, List.cons_append, List.nil_append, List.getElem?_cons_zero, List.getElem?_cons_succ, R.bind_ok, R.bind_exc, R.st_ok, R.st_exc, call_eq, callL_eq, truth_bl, truth_int, Nat.reduceAdd, Nat.reduceSub, Int.cast_ofNat_Int, Int.reduceBEq, beq_self_eq_true, Bool.not_true, Bool.not_false, Int.reduceNeg, decide_true, decide_false, Bool.or_false, Bool.and_true, Bool.true_and, Bool.and_false, Bool.false_and, eT_ev, itD_seq, itemsD_tup, itemsD_lst, bi_all, bi_any, bi_len, lenD_tup, lenD_lst, lcEnd_f, List.length_map, List.all_cons, List.all_nil, id_eq, endR_rt, endR_nx, endR_exc, opt_some, Option.map_some, Tg.put, putMany, List.set_cons_zero, List.set_cons_succ, RS.bind_nx, RS.bind_rt, RS.bind_exc, List.replicate, R.nox_ok, wipeE, f__law_ties_refused, s__law_ties_refused_1, s__law_ties_refused_2, e, exHs, c1, if_true, wipe1, if_pos hz, RS.endH]
theorem wt_step {n : Nat} (h : 8 ≤ n) (bk : BookOk st ls) {x : D} (hx : NoT st.length x) (L : LH) (x0 x2 x3 x5 x6 : Option D) :
    exSs (cfN T n) s__law_wrong_ties_right_1 [x0, some (bookD st ls), x2, x3, some x, x5, x6] L = .nx [x0, some (bookD st ls), x2, x3, some x, x5, x6] L := by
  have e := ties_refused_ok (n := n) h bk (x := x) (w := .int (-1)) (L := L) fun n hn => want_ties_len (by omega) hx L
  have q := eqD_si ok_ties (-1) (-1)
  have hz : (2 : Nat) ≤ size16 := by unfold size16; omega
  generalize bookD st ls = B at *
  simp -implicitDefEqProofs (disch := first | omega | assumption | rfl) only [exSs, exS, evE, evEs, startE, bndR, List.map_cons, List.map_nil, List.length_cons, List.length_nil, List.cons_append, List.nil_append, List.getElem?_cons_zero, List.getElem?_cons_succ, R.bind_ok, R.bind_exc, R.st_ok, R.st_exc, call_eq, callL_eq, truth_bl, truth_int, Nat.reduceAdd, Nat.reduceSub, Int.cast_ofNat_Int, Int.reduceBEq, beq_self_eq_true, Bool.not_true, Bool.not_false, Int.reduceNeg, decide_true, decide_false, Bool.or_false, Bool.and_true, Bool.true_and, Bool.and_false, Bool.false_and, eT_ev, itD_seq, itemsD_tup, itemsD_lst, bi_all, bi_any, bi_len, lenD_tup, lenD_lst, lcEnd_f, List.length_map, List.all_cons, List.all_nil, id_eq, endR_rt, endR_nx, endR_exc, opt_some, Option.map_some, Tg.put, putMany, List.set_cons_zero, List.set_cons_succ, RS.bind_nx, RS.bind_rt, RS.bind_exc, List.replicate, R.nox_ok, wipeE, s__law_wrong_ties_right_1, e, binNeg, if_pos hz, cmp_ne, q]
theorem wrong_ties_ok {n : Nat} (h : 10 ≤ n) (bk : BookOk st ls) (tk : TOk ta st.length) {L0 : LH} {l : Nat} {a b : Int} (s : src L0 l a b) :
    ∃ L', callN T n i__law_wrong_ties_right [.loc l, bookD st ls, ti ta] L0 = .ok (.bl true) L' ∧ At L0 l L' := by
  obtain ⟨n, rfl, _⟩ := pre h
  have hp := bk.pos
  have h6 := bk.le
  have hz1 : (1 : Nat) ≤ size16 := by unfold size16; omega
  have hz2 : (2 : Nat) ≤ size16 := by unfold size16; omega
  have hz5 : (5 : Nat) ≤ size16 := by unfold size16; omega
  have l0 : ∀ L, lenD L (ti st) = some st.length := fun L => by
    show some (st.map D.int).length = _
    rw [List.length_map]
  have b0 := book0 st ls
  have tl := tk.len
  have j1 := add_tup (ta.map .int) [.int 0] (by rw [List.length_map, List.length_singleton]; unfold size16; omega)
  have c1 : ∀ L : LH, sliceD (ti ta) (some 1) none = some (.tup ((ta.map D.int).drop 1)) := fun _ => congrArg (fun z => some (D.tup z)) (cut_from _ 1 (by rw [List.length_map]; omega))
  obtain ⟨env1, ⟨y, rfl⟩, w1⟩ := forGo_keep (put := Tg.put (.nm 4)) (body := exSs (cfN T n) s__law_wrong_ties_right_1) (L := L0) (P := fun env => ∃ y, env = [some (.loc l), some (bookD st ls), some (ti ta), some (.int (st.length : Int)), y, none, none]) (items := [.non, .tup (ta.map .int ++ [.int 0]), .tup ((ta.map D.int).drop 1), .str "ties", .int 0]) (env := [some (.loc l), some (bookD st ls), some (ti ta), some (.int (st.length : Int)), none, none, none]) ⟨_, rfl⟩ (by
    rintro x hx env ⟨y, rfl⟩
    have nt : NoT st.length x := by
      simp only [List.mem_cons, List.not_mem_nil, or_false] at hx
      rcases hx with rfl | rfl | rfl | rfl | rfl
      · exact .inl rfl
      · exact .inr ⟨_, rfl, by simp; omega⟩
      · exact .inr ⟨_, rfl, by simp; omega⟩
      · exact .inl rfl
      · exact .inl rfl
    exact ⟨_, _, rfl, wt_step (n := n) (by omega) bk nt L0 _ _ _ _ _, ⟨_, rfl⟩⟩)
  obtain ⟨v, L1, v0, v1, t1, a1⟩ := take_at (n := n) (by omega) s (At.refl s) (st.length : Int) (by omega)
  obtain ⟨p, rfl⟩ : ∃ p : Nat, v = (p : Int) := ⟨v.toNat, by omega⟩
  obtain ⟨odd, ho, L2, t2, a2⟩ := one_at (n := n) (by omega) s a1 [.int 2, .int (-1), .non, .str "1", .tup [.int 0]] (by simp)
  have hb : ∀ n, 2 ≤ n → callN T n i_is_between [odd, .int 0, .int 1] L2 = .ok (.bl false) L2 := fun n hn => by
    simp only [List.mem_cons, List.not_mem_nil, or_false] at ho
    rcases ho with rfl | rfl | rfl | rfl | rfl
    · exact between_int hn 2 0 1 L2
    · exact between_int hn (-1) 0 1 L2
    · exact between_non hn 0 1 L2
    · exact between_str hn _ 0 1 L2
    · exact between_tup hn _ 0 1 L2
  have ut : ∀ a ∈ ta.take p, a = 0 ∨ a = 1 := fun a ha => tk.rng a (List.mem_of_mem_take ha)
  have ul : (ta.take p).length = p := by rw [List.length_take]; omega
  have e3 := ties_refused_ok (n := n) (by omega) bk (x := .tup ((ta.take p).map .int ++ [odd] ++ List.replicate (st.length - p - 1) .non)) (w := .int ((ta.take p).length : Nat)) (L := L2) fun n hn => want_ties_odd hn (by rw [ul, List.length_replicate]; omega) ut hb
  rw [ul, List.map_take] at e3
  have c2 : ∀ L : LH, sliceD (ti ta) none (some (p : Int)) = some (.tup ((ta.map D.int).take p)) := fun _ => congrArg (fun z => some (D.tup z)) (cut_to _ _ (by rw [List.length_map]; omega))
  have j2 := add_tup ((ta.map D.int).take p) [odd] (by rw [List.length_take, List.length_map, List.length_singleton]; unfold size16; omega)
  have j3 := add_tup ((ta.map D.int).take p ++ [odd]) (List.replicate (st.length - p - 1) .non) (by rw [List.length_append, List.length_take, List.length_map, List.length_singleton, List.length_replicate]; unfold size16; omega)
  have sb1 := sub_int (st.length : Int) (p : Int)
  have sb2 := sub_int ((st.length : Int) - p) 1
  rw [show (st.length : Int) - p - 1 = ((st.length - p - 1 : Nat) : Int) by omega] at sb2
  have ml := mul_tup [.non] (st.length - p - 1) (by simp) (by omega)
  rw [rep_non] at ml
  have q := eqD_si ok_ties (p : Int) (p : Int)
  rw [beq_self_eq_true] at q
  refine ⟨L2, ?_, a2⟩
  rw [call_of (fn := f__law_wrong_ties_right) rfl rfl]
  have mn : ∀ (env : Env) (L : LH), evE (cfN T n) (.neg (.con (.int 1))) env L = .ok (.int (-1)) L := fun env L => rfl
  have tD : ti ta = .tup (ta.map .int) := rfl
  have j1' : binD .add (ti ta) (.tup [.int 0]) = some (.tup (ta.map .int ++ [.int 0])) := j1
  clear s a1 a2
  generalize (ta.map D.int).take p ++ [odd] ++ List.replicate (st.length - p - 1) .non = X3 at *
  generalize (ta.map D.int).take p ++ [odd] = X2 at *
  generalize (ta.map D.int).take p = X1 at *
  generalize List.replicate (st.length - p - 1) D.non = X4 at *
  generalize (ta.map D.int).drop 1 = X5 at *
  generalize ta.map D.int ++ [.int 0] = X6 at *
  clear j1 tD
  generalize ((st.length - p - 1 : Nat) : Int) = r1 at *
  generalize (st.length : Int) - p = r2 at *
  generalize ti ta = TA at *
  generalize bookD st ls = B at *
  generalize ti st = S at *
  simp -implicitDefEqProofs (disch := first | omega | assumption | rfl) only [exSs, exS, evE, evEs, startE, bndR, List.map_cons, List.map_nil, List.length_cons, List.length_nil, List.cons_append, List.nil_append, List.getElem?_cons_zero, List.getElem?_cons_succ, R.bind_ok, R.bind_exc, R.st_ok, R.st_exc, call_eq, callL_eq, truth_bl, truth_int, Nat.reduceAdd, Nat.reduceSub, Int.cast_ofNat_Int, Int.reduceBEq, beq_self_eq_true, Bool.not_true, Bool.not_false, Int.reduceNeg, decide_true, decide_false, Bool.or_false, Bool.and_true, Bool.true_and, Bool.and_false, Bool.false_and, eT_ev, itD_seq, itemsD_tup, itemsD_lst, bi_all, bi_any, bi_len, lenD_tup, lenD_lst, lcEnd_f, List.length_map, List.all_cons, List.all_nil, id_eq, endR_rt, endR_nx, endR_exc, opt_some, Option.map_some, Tg.put, putMany, List.set_cons_zero, List.set_cons_succ, RS.bind_nx, RS.bind_rt, RS.bind_exc, List.replicate, R.nox_ok, wipeE, f__law_wrong_ties_right, b0, l0, if_pos hz1, j1', bndF, bndT, c1 L0, c1 L1, c1 L2, if_pos hz5, w1, t1, mn, t2, c2 L1, c2 L2, j2, sb1, sb2, ml, j3, e3, if_pos hz2, cmp_eq, q]
end
--@fi
end Lw
end

section
set_option Elab.async false
set_option linter.all false
set_option maxRecDepth 100000
set_option maxHeartbeats 1000000
/-! the law -/
namespace Lw
open PySem (Str)
open Ev
/-- two sources and nothing else -/
def Two (L : LH) : Prop := ∃ a b c d : Int, L = [.lst [.int a, .int b], .lst [.int c, .int d]]
theorem Two.s0 {L : LH} (h : Two L) : ∃ a b, src L 0 a b := by obtain ⟨a, b, c, d, rfl⟩ := h; exact ⟨a, b, rfl⟩
theorem Two.s1 {L : LH} (h : Two L) : ∃ a b, src L 1 a b := by obtain ⟨a, b, c, d, rfl⟩ := h; exact ⟨c, d, rfl⟩
theorem Two.p0 {L : LH} (h : Two L) (x y : Int) : Two (put2 L 0 x y) := by obtain ⟨a, b, c, d, rfl⟩ := h; exact ⟨x, y, c, d, rfl⟩
theorem Two.p1 {L : LH} (h : Two L) (x y : Int) : Two (put2 L 1 x y) := by obtain ⟨a, b, c, d, rfl⟩ := h; exact ⟨a, b, x, y, rfl⟩
theorem Two.a0 {L L' : LH} (h : Two L) (a : At L 0 L') : Two L' := by obtain ⟨x, y, rfl⟩ := a; exact h.p0 x y
theorem Two.a1 {L L' : LH} (h : Two L) (a : At L 1 L') : Two L' := by obtain ⟨x, y, rfl⟩ := a; exact h.p1 x y
theorem Two.flat {L : LH} (h : Two L) : Flat L := by
  obtain ⟨a, b, c, d, rfl⟩ := h
  intro o ho n
  simp only [List.mem_cons, List.not_mem_nil, or_false] at ho
  rcases ho with rfl | rfl <;> rfl
section
variable {st : List Int} {ls : List (List Int)} {ta : List Int}
theorem turn_ok {n : Nat} (h : 12 ≤ n) (bk : BookOk st ls) (tk : TOk ta st.length) {L : LH} (hL : Two L) (x0 x1 x5 x6 x7 : Option D) :
    ∃ (y7 : Option D) (L' : LH), exSs (cfN T n) s_law_1 [x0, x1, some (.loc 1), some (bookD st ls), some (ti ta), x5, x6, x7] L = .nx [x0, x1, some (.loc 1), some (bookD st ls), some (ti ta), x5, x6, y7] L' ∧ Two L' := by
  have hp := bk.pos
  have h6 := bk.le
  obtain ⟨a, b, s⟩ := hL.s1
  obtain ⟨v, L1, v0, v1, t1, a1⟩ := take_at (n := n) (by omega) s (At.refl s) 56 (by omega)
  have hL1 := hL.a1 a1
  obtain ⟨K, hK⟩ : ∃ K : Nat, (5 + v) = (K : Int) := ⟨(5 + v).toNat, by omega⟩
  have ad := add_int 5 v
  rw [hK] at ad
  obtain ⟨c, d, s1⟩ := hL1.s1
  obtain ⟨hs, a', b', t2, hl, hm⟩ := drawn_history_ok (n := n) (by omega) s1 hL1.flat (N := st.length) (K := K) (by omega) (by omega)
  have hL2 := hL1.p1 a' b'
  have m1 := moves_right_ok (n := n) h bk tk hL2.flat hm (by omega)
  have m2 := copies_right_ok (n := n) h bk tk hL2.flat hm (by omega)
  have b0 := book0 st ls
  have l0 : ∀ L, lenD L (ti st) = some st.length := fun L => by
    show some (st.map D.int).length = _
    rw [List.length_map]
  refine ⟨some (histD hs), _, ?_, hL2⟩
  clear hL2 hL1 hL s s1 a1
  generalize histD hs = H at *
  generalize bookD st ls = B at *
  generalize ti st = S at *
  generalize ti ta = TA at *
  generalize put2 L1 1 a' b' = L2 at *
  simp -implicitDefEqProofs (disch := first | omega | assumption | rfl) only [exSs, exS, evE, evEs, startE, bndR, List.map_cons, List.map_nil, List.length_cons, List.length_nil, List.cons_append, List.nil_append, List.getElem?_cons_zero, List.getElem?_cons_succ, R.bind_ok, R.bind_exc, R.st_ok, R.st_exc, call_eq, callL_eq, truth_bl, truth_int, Nat.reduceAdd, Nat.reduceSub, Int.cast_ofNat_Int, Int.reduceBEq, beq_self_eq_true, Bool.not_true, Bool.not_false, Int.reduceNeg, decide_true, decide_false, Bool.or_false, Bool.and_true, Bool.true_and, Bool.and_false, Bool.false_and, eT_ev, itD_seq, itemsD_tup, itemsD_lst, bi_all, bi_any, bi_len, lenD_tup, lenD_lst, lcEnd_f, List.length_map, List.all_cons, List.all_nil, id_eq, endR_rt, endR_nx, endR_exc, opt_some, Option.map_some, Tg.put, putMany, List.set_cons_zero, List.set_cons_succ, RS.bind_nx, RS.bind_rt, RS.bind_exc, List.replicate, R.nox_ok, wipeE, s_law_1, b0, l0, t1, ad, t2, m1, m2]
theorem law_ok {n : Nat} (h : 13 ≤ n) (ns : List Int) : ∃ L, callN T n i_law [.scr ns] [] = .ok (.bl true) L := by
  obtain ⟨n, rfl, hn⟩ := pre h
  have hz2 : (2 : Nat) ≤ size16 := by unfold size16; omega
  have hz4 : (4 : Nat) ≤ size16 := by unfold size16; omega
  obtain ⟨a, b, t1⟩ := pool_ok (n := n) (by omega) [] ns 0 (by omega)
  obtain ⟨c, d, t2⟩ := pool_ok (n := n) (by omega) [.lst [.int a, .int b]] ns 1 (by omega)
  have hL2 : Two [.lst [.int a, .int b], .lst [.int c, .int d]] := ⟨a, b, c, d, rfl⟩
  have t1' : callN T n i__law_pool [.scr ns, .int 0] [] = .ok (.loc 0) [.lst [.int a, .int b]] := t1
  have t2' : callN T n i__law_pool [.scr ns, .int 1] [.lst [.int a, .int b]] = .ok (.loc 1) [.lst [.int a, .int b], .lst [.int c, .int d]] := t2
  clear t1 t2
  generalize ([.lst [.int a, .int b], .lst [.int c, .int d]] : LH) = L2 at *
  generalize ([.lst [.int a, .int b]] : LH) = L1 at *
  obtain ⟨a3, b3, s3⟩ := hL2.s0
  obtain ⟨x, hx, L3, t3, at3⟩ := one_at (n := n) (by omega) s3 (At.refl s3) [.int 3, .int 8, .int 8, .int 60] (by simp)
  have hL3 := hL2.a0 at3
  obtain ⟨q, rfl, hq⟩ : ∃ q : Int, x = .int q ∧ 1 ≤ q ∧ q ≤ 60 := by
    simp only [List.mem_cons, List.not_mem_nil, or_false] at hx
    rcases hx with rfl | rfl | rfl | rfl
    · exact ⟨3, rfl, by omega⟩
    · exact ⟨8, rfl, by omega⟩
    · exact ⟨8, rfl, by omega⟩
    · exact ⟨60, rfl, by omega⟩
  obtain ⟨a4, b4, s4⟩ := hL3.s0
  obtain ⟨st, ls, a', b', t4, bk, _, _⟩ := some_book_ok (n := n) (by omega) s4 hL3.flat (p := 4) (q := q) (by omega) hq
  have hL4 := hL3.p0 a' b'
  have h6 := bk.le
  generalize put2 L3 0 a' b' = L4 at *
  obtain ⟨a5, b5, s5⟩ := hL4.s0
  obtain ⟨ys, L5, g5, at5, sel⟩ := lcGo_eff (put := Tg.put (.nm 5)) (cond := evE (cfN T n) eT) (elt := evE (cfN T n) e_law_1) (env := [some (.scr ns), some (.loc 0), some (.loc 1), some (bookD st ls), none, none, none, none]) (A := At L4 0) (P := fun x y => ∃ z : Int, y = .int z ∧ (z = 0 ∨ z = 1)) (Q := fun _ => False) (items := st.map .int) (L := L4) (At.refl s5) (by
    intro x hx L hA
    refine ⟨_, rfl, true, L, rfl, hA, fun _ => ?_, fun c => by cases c⟩
    obtain ⟨v, L', v0, v1, tk, aL⟩ := take_at (n := n) (by omega) s5 hA 2 (by omega)
    refine ⟨.int v, L', ?_, aL, v, rfl, by omega⟩
    generalize bookD st ls = B at *
    simp -implicitDefEqProofs (disch := first | omega | assumption | rfl) only [exSs, exS, evE, evEs, startE, bndR, List.map_cons, List.map_nil, List.length_cons, List.length_nil, List.cons_append, List.nil_append, List.getElem?_cons_zero, List.getElem?_cons_succ, R.bind_ok, R.bind_exc, R.st_ok, R.st_exc, call_eq, callL_eq, truth_bl, truth_int, Nat.reduceAdd, Nat.reduceSub, Int.cast_ofNat_Int, Int.reduceBEq, beq_self_eq_true, Bool.not_true, Bool.not_false, Int.reduceNeg, decide_true, decide_false, Bool.or_false, Bool.and_true, Bool.true_and, Bool.and_false, Bool.false_and, eT_ev, itD_seq, itemsD_tup, itemsD_lst, bi_all, bi_any, bi_len, lenD_tup, lenD_lst, lcEnd_f, List.length_map, List.all_cons, List.all_nil, id_eq, endR_rt, endR_nx, endR_exc, opt_some, Option.map_some, Tg.put, putMany, List.set_cons_zero, List.set_cons_succ, RS.bind_nx, RS.bind_rt, RS.bind_exc, List.replicate, R.nox_ok, wipeE, e_law_1, tk])
  obtain ⟨q1, q2⟩ := sel.all
  obtain ⟨ta, rfl, hta⟩ := sel_ints (P := fun _ _ => True) (Q := fun w => w = 0 ∨ w = 1) (ys := ys) fun y hy => (q2 y hy).elim fun _ hz => hz
  rw [List.length_map, List.length_map] at q1
  have tk : TOk ta st.length := ⟨q1, hta⟩
  have hL5 := hL4.a0 at5
  obtain ⟨a6, b6, s6⟩ := hL5.s1
  obtain ⟨L6, t6, at6⟩ := wrong_ties_ok (n := n) (by omega) bk tk s6
  have hL6 := hL5.a1 at6
  obtain ⟨y7a, L7, e7, hL7⟩ := turn_ok (n := n) (by omega) bk tk hL6 (some (.scr ns)) (some (.loc 0)) none (some (.int 0)) none
  obtain ⟨y7b, L8, e8, hL8⟩ := turn_ok (n := n) (by omega) bk tk hL7 (some (.scr ns)) (some (.loc 0)) none (some (.int 1)) y7a
  have lp : forGo (Tg.put (.nm 6)) (exSs (cfN T n) s_law_1) [.int 0, .int 1] [some (.scr ns), some (.loc 0), some (.loc 1), some (bookD st ls), some (ti ta), none, none, none] L6 = .nx [some (.scr ns), some (.loc 0), some (.loc 1), some (bookD st ls), some (ti ta), none, some (.int 1), y7b] L8 := by
    rw [forGo_nx rfl e7, forGo_nx rfl e8]
    rfl
  have rg : itD .rng [.int 2] = some [.int 0, .int 1] := itD_rng (i := 2) (by omega)
  have b0 := book0 st ls
  have is : itemsD (ti st) = some (st.map .int) := rfl
  have zs : (st.map D.int).length ≤ size16 := by rw [List.length_map]; unfold size16; omega
  refine ⟨L8, ?_⟩
  rw [call_of (fn := f_law) rfl rfl]
  have tt : D.tup (ta.map D.int) = ti ta := rfl
  clear hL2 hL3 hL4 hL5 hL6 hL7 hL8 s3 s4 s5 s6 at3 at5 at6 e7 e8 sel q2
  generalize hTA : ti ta = TA at *
  generalize ta.map D.int = TL at *
  generalize ti st = S at *
  generalize st.map D.int = SL at *
  generalize bookD st ls = B at *
  simp -implicitDefEqProofs (disch := first | omega | assumption | rfl) only [exSs, exS, evE, evEs, startE, bndR, List.map_cons, List.map_nil, List.length_cons, List.length_nil, List.cons_append, List.nil_append, List.getElem?_cons_zero, List.getElem?_cons_succ, R.bind_ok, R.bind_exc, R.st_ok, R.st_exc, call_eq, callL_eq, truth_bl, truth_int, Nat.reduceAdd, Nat.reduceSub, Int.cast_ofNat_Int, Int.reduceBEq, beq_self_eq_true, Bool.not_true, Bool.not_false, Int.reduceNeg, decide_true, decide_false, Bool.or_false, Bool.and_true, Bool.true_and, Bool.and_false, Bool.false_and, eT_ev, itD_seq, itemsD_tup, itemsD_lst, bi_all, bi_any, bi_len, lenD_tup, lenD_lst, lcEnd_f, List.length_map, List.all_cons, List.all_nil, id_eq, endR_rt, endR_nx, endR_exc, opt_some, Option.map_some, Tg.put, putMany, List.set_cons_zero, List.set_cons_succ, RS.bind_nx, RS.bind_rt, RS.bind_exc, List.replicate, R.nox_ok, wipeE, f_law, t1', t2', if_pos hz2, if_pos hz4, t3, t4, b0, is, if_pos zs, g5, bi_tup_lst, tt, t6, rg, lp]
end
theorem hev (ns : List Int) (h1 : ns.length ≤ 63) (h2 : ∀ z ∈ ns, PySem.Builtin.Int.intBits z ≤ 1048576) : ∃ L, callN T 13 i_law [.scr ns] [] = .ok (.bl true) L := law_ok (by omega) ns
end Lw
end

section
set_option Elab.async false
set_option linter.all false
set_option maxRecDepth 100000
set_option maxHeartbeats 0
open PySem PySem.W PySem.Calls PyProof.Rows Ev Lw
theorem PySem.Challenge.cw_byhalves_k04_each_part_rounded_by_itself_holds : PySem.Challenge.rw_byhalves_k04_each_part_rounded_by_itself.Holds := by
  w_on; o_law
  refine HandSHeadRun.head_any (r := OpenLaw.row PySem.Challenge.rw_byhalves_k04_each_part_rounded_by_itself) (q := view (OpenLaw.row PySem.Challenge.rw_byhalves_k04_each_part_rounded_by_itself).prog [lawIx]) (H := Lw.hk) (ob := Lw.ob) (M := 4000) (loose := Lw.loose) (d := HandSHeadRun.topDef (OpenLaw.row PySem.Challenge.rw_byhalves_k04_each_part_rounded_by_itself).prog lawIx) (kwd := []) Lw.ob_eq
    (by kernel_rfl) (fun s => by kernel_rfl) Lw.run (by kernel_rfl) (by kernel_rfl) (by kernel_rfl) (by rfl) (by first | assumption | decide +kernel) (by decide +kernel) ⟨rfl, rfl, rfl, rfl, rfl, by decide +kernel⟩ ?hw ?hc
  case hw => w_witness2
  case hc => exact law_walk (l := PySem.Challenge.rw_byhalves_k04_each_part_rounded_by_itself) (n := 63) (k := 13) (x := "_law_script") (dl := d_law) (cc := cc) (T := T) (ds := ds) rfl (by decide) (by kernel_rfl) ⟨rfl, by decide, by decide⟩ data rfl (by kernel_rfl) (by simp [ds]) rfl rfl rfl rfl (by kernel_rfl) Lw.hev
end
