import PyProof.Rows.All
import HandS.ForMost
import KE.SortData
import KE.DataMinMax
import KE.KeyNested
import HandS.Exc
import HandS.CallSlots
import HandS.WordsExc
import HandS.HotCalls
import HandS.Lambda
import HandS.Style
import HandS.TupAny
import HandS.TupMul
import HandS.Wide
import HandS.Deep
import HandS.IsInst
import KE.DataCmp
import HandS.RevTup
import KE.GoesNew
import KE.GoesMore
import KE.GoesEnum
import HandS.NoneIn
import HandS.ExcIs
import HandS.TryOnly
import HandS.TupSets
import PyProof.ExcBaseAll.ValueError
import HandS.EndTab
import PySem.Challenge.RW_latticewaits_k43_whole_paces_and_times_k
set_option Elab.async false
set_option linter.all false
/-! F0: the IR of the program's defs, and its evaluator over plain data. -/
namespace Lw
open PySem

abbrev PD := PySem.PyData

inductive Bop where | add | sub | mul | fdiv | mod | pow deriving DecidableEq, Repr
inductive Cop where | eq | ne | lt | le | gt | ge | isin | notin | is_ | isnot deriving DecidableEq, Repr
inductive Ty where | int | bool | tuple | str | list | cls (c : Nat) (subs : List Nat) deriving DecidableEq, Repr
inductive ItK where | seq | rng1 | rng2 | zip2 | zip3 | zips | enum | values deriving DecidableEq, Repr
inductive Bi where | len | tuple | list | sum | max | min | max2 | min2 | all | any | abs | int | str | sorted | sortedset | lenset
  | dict | range1 | range2 | zip2 | enum | repr | join | get2 | values | index | count | split deriving DecidableEq, Repr
inductive Tg where | nm (i : Nat) | tu (ts : List Tg) | tt (ts : List Tg)

inductive E where
  | var (i : Nat)
  | cst (d : PD)
  | gfn (f : Nat)
  | gcn (d : PD)
  | tup (es : List E)
  | lst (es : List E)
  | cell (es : List E)
  | bin (o : Bop) (a b : E)
  | neg (a : E)
  | not (a : E)
  | and (es : List E)
  | or (es : List E)
  | cmp (o : Cop) (a b : E)
  | chain (o1 o2 : Cop) (a b c : E)
  | ite (c a b : E)
  | sub (a i : E)
  | slc (a : E) (lo hi : List E)
  | rev (a : E)
  | call (f : Nat) (args : List E)
  | lcall (f : Nat) (body : E)
  | callv (i : Nat) (args : List E)
  | bi (b : Bi) (args : List E)
  | isi (a : E) (t : Ty)
  | lc (elt : E) (tg : Tg) (k : ItK) (srcs conds : List E) (own : List Nat)
  | lc2 (elt : E) (tg : Tg) (k : ItK) (srcs conds : List E) (tg2 : Tg) (k2 : ItK) (srcs2 conds2 : List E) (own : List Nat)
  | lam (body : E) (ps : List Nat)
  | lim (a : E)
  | bad
  | dct (es : List E)
  | kv (k v : E)
  | star (a : E)

inductive St where
  | asg (t : Tg) (e : E)
  | par (is : List (Nat × Bool)) (es : List E)
  | own (i : Nat) (e : E)
  | ret (e : E)
  | rown (i : Nat)
  | ifs (c : E) (a b : List St)
  | forr (t : Tg) (k : ItK) (srcs : List E) (body : List St)
  | forf (i : Nat) (fs : List Nat) (body : List St)
  | whl (c : E) (body : List St)
  | raise (c : Nat) (args : List E)
  | expr (e : E)
  | pass
  | brk
  | cont
  | app (i : Nat) (e : E)
  | remv (i : Nat) (e : E)
  | setk (i : Nat) (k e : E)
  | cset (a k e : E)
  | tryx (body : List St) (hs : List (Nat × List Nat × List Nat × List St))
  | swap (i : Nat) (a b x y : E)
  | bad

structure Def where
  np : Nat
  ns : Nat
  body : List St

structure Exn where
  cls : Nat
  lim : Option PD

inductive W where
  | d (x : PD)
  | bor (x : PD)
  | own (x : PD)
  | loc (n : Nat)
  | scr (xs : List PD)
  | fn (f : Nat)
  | clo (body : E) (ps : List Nat) (env : List (Option W))
  | exc (x : Exn)

abbrev Env := List (Option W)
abbrev Cells := List PD

inductive R (α : Type) where
  | ok (a : α) (s : Cells)
  | exc (x : Exn) (s : Cells)
  | bad

def R.bind {α β : Type} (r : R α) (f : α → Cells → R β) : R β :=
  match r with
  | .ok a s => f a s
  | .exc x s => .exc x s
  | .bad => .bad
/-- nothing may be raised -/
def R.calm {α β : Type} (r : R α) (f : α → Cells → R β) : R β :=
  match r with
  | .ok a s => f a s
  | _ => .bad
def R.opt {α : Type} (o : Option α) (s : Cells) : R α :=
  match o with
  | some a => .ok a s
  | none => .bad

inductive Fk where
  | fn (f : Nat)
  | clo (body : E) (ps : List Nat) (env : Env)
abbrev Callee := Fk → List W → Cells → R W

/-- the data that a value shows -/
def view (s : Cells) : W → Option PD
  | .d x => some x
  | .bor x => some x
  | .loc n => s[n]?
  | _ => none
def pure? : W → Option PD
  | .d x => some x
  | _ => none
def pures : List W → Option (List PD)
  | [] => some []
  | w :: ws => match pure? w, pures ws with
    | some x, some xs => some (x :: xs)
    | _, _ => none
def views (s : Cells) : List W → Option (List PD)
  | [] => some []
  | w :: ws => match view s w, views s ws with
    | some x, some xs => some (x :: xs)
    | _, _ => none

/-- what may be walked: no cell -/
def walks : List W → Option (List PD)
  | [] => some []
  | .d x :: ws => match walks ws with
    | some xs => some (x :: xs)
    | none => none
  | .bor x :: ws => match walks ws with
    | some xs => some (x :: xs)
    | none => none
  | _ => none

abbrev LINE : Nat := 16777216
def small64 (i : Int) : Bool := decide (-(2 ^ 64) < i) && decide (i < 2 ^ 64)
def wide (i : Int) : Bool := decide (i.natAbs.log2 < 400000)

def addD : PD → PD → Option PD
  | .int i, .int j => some (.int (i + j))
  | .tuple xs, .tuple ys => if xs.length + ys.length ≤ LINE then some (.tuple (xs ++ ys)) else none
  | .list xs, .list ys => if xs.length + ys.length ≤ LINE then some (.list (xs ++ ys)) else none
  | .str x, .str y => if x.length + y.length ≤ LINE then some (.str (x ++ y)) else none
  | _, _ => none
def subtD : PD → PD → Option PD
  | .int i, .int j => some (.int (i - j))
  | _, _ => none
def mulOk (i j : Int) : Bool := small64 i || small64 j || (wide i && wide j)
def repOk (n : Nat) (k : Int) : Bool := decide (n ≤ 1000) && decide (-1000 ≤ k) && decide (k ≤ 1000)
def mulD : PD → PD → Option PD
  | .int i, .int j => if mulOk i j then some (.int (i * j)) else none
  | .tuple xs, .int k => if repOk xs.length k then some (.tuple (List.replicate k.toNat xs).flatten) else none
  | .list xs, .int k => if repOk xs.length k then some (.list (List.replicate k.toNat xs).flatten) else none
  | _, _ => none
def fdivD : PD → PD → Option PD
  | .int i, .int j => if 0 < j ∧ j.natAbs.log2 < 9000 then some (.int (i / j)) else none
  | _, _ => none
def modD : PD → PD → Option PD
  | .int i, .int j => if 0 < j then some (.int (i % j)) else none
  | _, _ => none
def powD : PD → PD → Option PD
  | .int i, .int j => if 0 ≤ j ∧ j ≤ 1000 ∧ i.natAbs < 2 ^ 64 then some (.int (i ^ j.toNat)) else none
  | _, _ => none
def binD : Bop → PD → PD → Option PD
  | .add => addD
  | .sub => subtD
  | .mul => mulD
  | .fdiv => fdivD
  | .mod => modD
  | .pow => powD

def okD (d : PD) : Bool := SeqAt.shaped d
def isIn (x : PD) (ys : List PD) : Bool := ys.any fun y => PyData.eqv y x
def dictGet (kvs : List (PD × PD)) (k : PD) : Option PD :=
  match kvs with
  | [] => none
  | (a, v) :: r => if PyData.eqv a k then some v else dictGet r k
def dictPut (kvs : List (PD × PD)) (k v : PD) : List (PD × PD) :=
  match kvs with
  | [] => [(k, v)]
  | (a, u) :: r => if PyData.eqv a k then (a, v) :: r else (a, u) :: dictPut r k v
def dictMerge (a : List (PD × PD)) (b : List (PD × PD)) : List (PD × PD) := b.foldl (fun kvs p => dictPut kvs p.1 p.2) a
mutual
/-- may be a key -/
def keyOk : PD → Bool
  | .none => true
  | .bool _ => true
  | .int _ => true
  | .str _ => true
  | .tuple xs => keyOks xs
  | _ => false
def keyOks : List PD → Bool
  | [] => true
  | x :: xs => keyOk x && keyOks xs
end
def isSeq : PD → Bool
  | .tuple _ => true
  | .list _ => true
  | _ => false
def ltD (x y : PD) : Option Bool :=
  match x, y with
  | .int i, .int j => some (decide (i < j))
  | x, y => if W.alike x y && okD x && okD y && isSeq x then some (W.dataLt x y) else none
def isNone : PD → Bool
  | .none => true
  | _ => false
def cmpD : Cop → PD → PD → Option Bool
  | .eq, x, y => if okD x && okD y then some (PyData.eqv x y) else none
  | .ne, x, y => if okD x && okD y then some (!PyData.eqv x y) else none
  | .lt, x, y => ltD x y
  | .gt, x, y => ltD y x
  | .le, .int i, .int j => some (decide (i ≤ j))
  | .ge, .int i, .int j => some (decide (j ≤ i))
  | .isin, x, .list ys => if okD x && okD (.list ys) then some (isIn x ys) else none
  | .isin, x, .tuple ys => if okD x && okD (.tuple ys) then some (isIn x ys) else none
  | .isin, x, .dict kvs => if okD x && keyOk x then some (dictGet kvs x).isSome else none
  | .notin, x, .list ys => if okD x && okD (.list ys) then some (!isIn x ys) else none
  | .notin, x, .tuple ys => if okD x && okD (.tuple ys) then some (!isIn x ys) else none
  | .notin, x, .dict kvs => if okD x && keyOk x then some (!(dictGet kvs x).isSome) else none
  | .is_, x, .none => some (isNone x)
  | .isnot, x, .none => some (!isNone x)
  | .is_, .bool c, .bool b => some (decide (c = b))
  | .isnot, .bool c, .bool b => some (!decide (c = b))
  | _, _, _ => none
def cmpW (s : Cells) (o : Cop) (a b : W) : Option Bool :=
  match view s a, view s b with
  | some x, some y => cmpD o x y
  | _, _ => none

def ints? : List PD → Option (List Int)
  | [] => some []
  | .int i :: r => match ints? r with
    | some is => some (i :: is)
    | none => none
  | _ => none
def bools? : List PD → Option (List Bool)
  | [] => some []
  | .bool i :: r => match bools? r with
    | some is => some (i :: is)
    | none => none
  | _ => none
def strs? : List PD → Option (List Str)
  | [] => some []
  | .str i :: r => match strs? r with
    | some is => some (i :: is)
    | none => none
  | _ => none
def items? : PD → Option (List PD)
  | .list xs => some xs
  | .tuple xs => some xs
  | .dict kvs => some (kvs.map (·.1))
  | _ => none
def insD (x : PD) : List PD → List PD
  | [] => [x]
  | y :: r => if W.dataLt y x then y :: insD x r else x :: y :: r
def sortD : List PD → List PD
  | [] => []
  | x :: r => insD x (sortD r)
def dedD : List PD → List PD
  | [] => []
  | x :: r => let t := dedD r; if isIn x t then t else x :: t
def allAlike (xs : List PD) : Bool := xs.all fun x => xs.all fun y => W.alike x y
def nonemptyTup : PD → Bool
  | .tuple (_ :: _) => true
  | _ => false
def noTup : PD → Bool
  | .tuple _ => false
  | .none => false
  | _ => true
def sortable (ds : List PD) : Bool := allAlike ds && okD (.list ds) && (ds.all nonemptyTup || ds.all noTup) && decide (ds.length ≤ LINE)
mutual
/-- whole numbers, and tuples of such -/
def keyI : PD → Bool
  | .int _ => true
  | .tuple xs => keyIs xs
  | _ => false
def keyIs : List PD → Bool
  | [] => true
  | x :: xs => keyI x && keyIs xs
end
mutual
def toKey : PD → NestedKey
  | .int i => .num i
  | .tuple xs => .tup (toKeys xs)
  | _ => .none
def toKeys : List PD → List NestedKey
  | [] => []
  | x :: xs => toKey x :: toKeys xs
end
/-- may be in a set of ours -/
def setEl (d : PD) : Bool := nonemptyTup d && keyI d && decide ((toKey d).depth ≤ 8) && decide (d.depth ≤ 60)
def setOk (ds : List PD) : Bool := ds.all setEl && allAlike ds && decide (ds.length < 64)
def rangeD (lo hi : Int) : Option (List PD) :=
  if -(2 ^ 62) ≤ lo ∧ lo < 2 ^ 62 ∧ -(2 ^ 62) ≤ hi ∧ hi < 2 ^ 62 ∧ (hi - lo).toNat ≤ LINE then some ((List.range (hi - lo).toNat).map fun i => .int (lo + (i : Nat))) else none
def zipD (xs ys : List PD) : List PD := (xs.zip ys).map fun p => .tuple [p.1, p.2]
def zipD3 (xs ys zs : List PD) : List PD := (xs.zip (ys.zip zs)).map fun p => .tuple [p.1, p.2.1, p.2.2]
def enumD (i : Nat) : List PD → List PD
  | [] => []
  | x :: r => .tuple [.int (i : Nat), x] :: enumD (i + 1) r
def heads? : List (List PD) → Option (List PD × List (List PD))
  | [] => some ([], [])
  | (x :: r) :: t => match heads? t with
    | some (a, b) => some (x :: a, r :: b)
    | none => none
  | [] :: _ => none
def zipsD (fuel : Nat) (xs : List (List PD)) : List PD :=
  match fuel with
  | 0 => []
  | fuel + 1 => match heads? xs with
    | some (a, b) => .tuple a :: zipsD fuel b
    | none => []
def itemss? : List PD → Option (List (List PD))
  | [] => some []
  | x :: r => match items? x, itemss? r with
    | some a, some b => some (a :: b)
    | _, _ => none
/-- what a loop walks -/
def itItems (k : ItK) (ds : List PD) : Option (List PD) :=
  match k, ds with
  | .seq, [x] => items? x
  | .rng1, [.int n] => rangeD 0 n
  | .rng2, [.int a, .int b] => rangeD a b
  | .zip2, [x, y] => match items? x, items? y with
    | some xs, some ys => some (zipD xs ys)
    | _, _ => none
  | .zip3, [x, y, z] => match items? x, items? y, items? z with
    | some xs, some ys, some zs => some (zipD3 xs ys zs)
    | _, _, _ => none
  | .zips, [x] => match items? x with
    | some xs => match itemss? xs with
      | some [] => none
      | some (a :: r) => some (zipsD (a.length) (a :: r))
      | none => none
    | none => none
  | .enum, [x] => match items? x with
    | some xs => some (enumD 0 xs)
    | none => none
  | .values, [.dict kvs] => some (kvs.map (·.2))
  | _, _ => none

def pairs? : List PD → Option (List (PD × PD))
  | [] => some []
  | .tuple [k, v] :: r => match pairs? r with
    | some t => if keyOk k && okD k then some ((k, v) :: t) else none
    | none => none
  | _ => none
def indexOf (x : PD) : List PD → Option Nat
  | [] => none
  | y :: r => if PyData.eqv y x then some 0 else match indexOf x r with
    | some n => some (n + 1)
    | none => none

def bestOk (xs : List PD) : Bool := allAlike xs && okD (.list xs) && !(xs.any isNone)
def bLen : List PD → Option PD
  | [.list xs] => some (.int xs.length)
  | [.tuple xs] => some (.int xs.length)
  | [.dict xs] => some (.int xs.length)
  | [.str x] => if x.length ≤ LINE then some (.int x.length) else none
  | _ => none
def bTuple : List PD → Option PD
  | [x] => (items? x).map .tuple
  | _ => none
def bList : List PD → Option PD
  | [x] => (items? x).map .list
  | _ => none
def bSum : List PD → Option PD
  | [.list xs] => (ints? xs).map fun is => .int is.sum
  | _ => none
def bMax : List PD → Option PD
  | [.list (x :: xs)] => if bestOk (x :: xs) then some (W.maxD x xs) else none
  | [.tuple (x :: xs)] => if bestOk (x :: xs) then some (W.maxD x xs) else none
  | _ => none
def bMin : List PD → Option PD
  | [.list (x :: xs)] => if bestOk (x :: xs) then some (W.minD x xs) else none
  | [.tuple (x :: xs)] => if bestOk (x :: xs) then some (W.minD x xs) else none
  | _ => none
def bMax2 : List PD → Option PD
  | [.int i, .int j] => some (.int (if j > i then j else i))
  | _ => none
def bMin2 : List PD → Option PD
  | [.int i, .int j] => some (.int (if j < i then j else i))
  | _ => none
def bAll : List PD → Option PD
  | [.list xs] => (bools? xs).map fun bs => .bool (bs.all id)
  | _ => none
def bAny : List PD → Option PD
  | [.list xs] => (bools? xs).map fun bs => .bool (bs.any id)
  | _ => none
def bAbs : List PD → Option PD
  | [.int i] => some (.int (if i < 0 then -i else i))
  | _ => none
def bInt : List PD → Option PD
  | [.int i] => some (.int i)
  | [.bool b] => some (.int (if b then 1 else 0))
  | _ => none
def bStr : List PD → Option PD
  | [.int i] => if i.natAbs.log2 < 64 then some (.str (toString i : String)) else none
  | _ => none
def bSorted : List PD → Option PD
  | [x] => match items? x with
    | some xs => if sortable xs then some (.list (sortD xs)) else none
    | none => none
  | _ => none
def bSortedset : List PD → Option PD
  | [x] => match items? x with
    | some xs => if setOk xs then some (.list (sortD (dedD xs))) else none
    | none => none
  | _ => none
def bLenset : List PD → Option PD
  | [x] => match items? x with
    | some xs => if keyOks xs && okD (.list xs) then some (.int (dedD xs).length) else none
    | none => none
  | _ => none
def bDict : List PD → Option PD
  | [.list xs] => (pairs? xs).map fun kvs => .dict (dictMerge [] kvs)
  | _ => none
def bRange1 : List PD → Option PD
  | [.int n] => (rangeD 0 n).map .list
  | _ => none
def bRange2 : List PD → Option PD
  | [.int a, .int b] => (rangeD a b).map .list
  | _ => none
def bZip2 : List PD → Option PD
  | [x, y] => match items? x, items? y with
    | some xs, some ys => some (.list (zipD xs ys))
    | _, _ => none
  | _ => none
def bEnum : List PD → Option PD
  | [x] => match items? x with
    | some xs => some (.list (enumD 0 xs))
    | none => none
  | _ => none
def bJoin : List PD → Option PD
  | [.str sep, .list xs] => match strs? xs with
    | some ss => if (ss.map (·.length)).sum + ss.length * sep.length ≤ 16777216 then some (.str (Txt.join sep ss)) else none
    | none => none
  | _ => none
def bGet2 : List PD → Option PD
  | [.dict kvs, k, x] => if keyOk k && okD k then some ((dictGet kvs k).getD x) else none
  | _ => none
def bValues : List PD → Option PD
  | [.dict kvs] => some (.list (kvs.map (·.2)))
  | _ => none
def bIndex : List PD → Option PD
  | [.list xs, x] => if okD (.list xs) && okD x then (indexOf x xs).map fun n => .int (n : Nat) else none
  | [.tuple xs, x] => if okD (.tuple xs) && okD x then (indexOf x xs).map fun n => .int (n : Nat) else none
  | _ => none
def bCount : List PD → Option PD
  | [.tuple xs, x] => if okD (.tuple xs) && okD x then some (.int (xs.filter fun y => PyData.eqv y x).length) else none
  | _ => none
def biD : Bi → List PD → Option PD
  | .len => bLen
  | .tuple => bTuple
  | .list => bList
  | .sum => bSum
  | .max => bMax
  | .min => bMin
  | .max2 => bMax2
  | .min2 => bMin2
  | .all => bAll
  | .any => bAny
  | .abs => bAbs
  | .int => bInt
  | .str => bStr
  | .sorted => bSorted
  | .sortedset => bSortedset
  | .lenset => bLenset
  | .dict => bDict
  | .range1 => bRange1
  | .range2 => bRange2
  | .zip2 => bZip2
  | .enum => bEnum
  | .join => bJoin
  | .get2 => bGet2
  | .values => bValues
  | .index => bIndex
  | .count => bCount
  | .repr => fun _ => none
  | .split => fun _ => none

def atD (xs : List PD) (i : Int) : Option PD := L2.atI xs i
def subD : PD → PD → Option PD
  | .list xs, .int i => atD xs i
  | .tuple xs, .int i => atD xs i
  | .dict kvs, k => if keyOk k && okD k then dictGet kvs k else none
  | _, _ => none
def cutL (xs : List PD) (lo hi : Option Int) : List PD := (xs.drop (HT.sIx xs.length 0 lo)).take (HT.sIx xs.length xs.length hi - HT.sIx xs.length 0 lo)
def bound? : List PD → Option (Option Int)
  | [] => some none
  | [.int i] => some (some i)
  | _ => none
def slcD (x : PD) (a b : Option Int) : Option PD :=
  match x with
  | .list xs => some (.list (cutL xs a b))
  | .tuple xs => some (.tuple (cutL xs a b))
  | _ => none
def isiD (x : PD) : Ty → Option Bool
  | .int => some (match x with | .int _ => true | .bool _ => true | _ => false)
  | .bool => some (match x with | .bool _ => true | _ => false)
  | .tuple => some (match x with | .tuple _ => true | _ => false)
  | .str => some (match x with | .str _ => true | _ => false)
  | .list => some (match x with | .list _ => true | _ => false)
  | .cls _ _ => none

mutual
def asgT : Tg → PD → Env → Option Env
  | .nm i, x, env => if i < env.length then some (env.set i (some (.d x))) else none
  | .tu ts, .tuple xs, env => asgTs ts xs env
  | .tu ts, .list xs, env => asgTs ts xs env
  | .tt ts, .tuple xs, env => asgTs ts xs env
  | _, _, _ => none
def asgTs : List Tg → List PD → Env → Option Env
  | [], [], env => some env
  | t :: ts, x :: xs, env => match asgT t x env with
    | some env1 => asgTs ts xs env1
    | none => none
  | _, _, _ => none
end
def wipeE (env : Env) : List Nat → Env
  | [] => env
  | v :: vs => (wipeE env vs).set v none

/-- a comprehension's turns -/
def lcGo (tg : Tg) (cond : Env → Cells → R Bool) (elt : Env → Cells → R (List PD)) (env : Env) : List PD → Cells → R (List PD)
  | [], s => .ok [] s
  | x :: xs, s => match asgT tg x env with
    | none => .bad
    | some env1 => (cond env1 s).calm fun b s1 => if b then (elt env1 s1).calm fun ys s2 => (lcGo tg cond elt env xs s2).calm fun zs s3 => .ok (ys ++ zs) s3
      else lcGo tg cond elt env xs s1

inductive Fl where
  | nx (env : Env)
  | ret (w : W)
  | brk (env : Env)
  | cont (env : Env)

/-- a for loop's turns -/
def forGo (asg : PD → Env → Option Env) (body : Env → Cells → R Fl) : List PD → Env → Cells → R Fl
  | [], env, s => .ok (.nx env) s
  | x :: xs, env, s => match asg x env with
    | none => .bad
    | some env1 => (body env1 s).bind fun f s1 => match f with
      | .nx env2 => forGo asg body xs env2 s1
      | .cont env2 => forGo asg body xs env2 s1
      | .brk env2 => .ok (.nx env2) s1
      | .ret w => .ok (.ret w) s1
def forfGo (i : Nat) (body : Env → Cells → R Fl) : List Nat → Env → Cells → R Fl
  | [], env, s => .ok (.nx env) s
  | x :: xs, env, s => (body (env.set i (some (.fn x))) s).bind fun f s1 => match f with
      | .nx env2 => forfGo i body xs env2 s1
      | .cont env2 => forfGo i body xs env2 s1
      | .brk env2 => .ok (.nx env2) s1
      | .ret w => .ok (.ret w) s1
def whlGo (cond : Env → Cells → R Bool) (body : Env → Cells → R Fl) : Nat → Env → Cells → R Fl
  | 0, _, _ => .bad
  | n + 1, env, s => (cond env s).bind fun b s1 => if b then (body env s1).bind fun f s2 => match f with
      | .nx env2 => whlGo cond body n env2 s2
      | .cont env2 => whlGo cond body n env2 s2
      | .brk env2 => .ok (.nx env2) s2
      | .ret w => .ok (.ret w) s2
    else .ok (.nx env) s1

def boolR (w : W) (s : Cells) : R Bool :=
  match w with
  | .d (.bool b) => .ok b s
  | _ => .bad
def dR (o : Option PD) (s : Cells) : R W :=
  match o with
  | some x => .ok (.d x) s
  | none => .bad

def bndR (ws : List W) (s : Cells) : R (Option Int) :=
  match pures ws with
  | some ds => (match bound? ds with
    | some o => .ok o s
    | none => .bad)
  | none => .bad

def biR (b : Bi) (ws : List W) (s : Cells) : R W :=
  match b, ws with
  | .list, [.scr xs] => .ok (.d (.list xs)) s
  | b, ws => match views s ws with
    | some ds => dR (biD b ds) s
    | none => .bad
def isiR (t : Ty) (x : W) (s : Cells) : R W :=
  match x, t with
  | .exc ⟨c, none⟩, .cls _ subs => .ok (.d (.bool (subs.contains c))) s
  | .exc _, _ => .bad
  | x, t => match view s x with
    | some p => dR ((isiD p t).map .bool) s
    | none => .bad
/-- what is walked -/
def itR (m : Bool) (k : ItK) (ws : List W) (s : Cells) : R (List PD) :=
  match (if m then walks ws else pures ws) with
  | some ds => (match itItems k ds with
    | some xs => .ok xs s
    | none => .bad)
  | none => .bad
def eltR (w : W) (s : Cells) : R (List PD) :=
  match w with
  | .d y => .ok [y] s
  | _ => .bad

mutual
def evE (C : Callee) : E → Env → Cells → R W
  | .var i, env, s => match env[i]? with
    | some (some (.own x)) => .ok (.bor x) s
    | some (some w) => .ok w s
    | _ => .bad
  | .cst d, _, s => .ok (.d d) s
  | .gfn f, _, s => .ok (.fn f) s
  | .gcn d, _, s => .ok (.d d) s
  | .tup es, env, s => (evL C es env s).bind fun ws s1 => dR ((pures ws).map .tuple) s1
  | .lst es, env, s => (evL C es env s).bind fun ws s1 => dR ((pures ws).map .list) s1
  | .cell es, env, s => (evL C es env s).bind fun ws s1 => match pures ws with
    | some xs => .ok (.loc s1.length) (s1 ++ [.list xs])
    | none => .bad
  | .bin o a b, env, s => (evE C a env s).bind fun x s1 => (evE C b env s1).bind fun y s2 => match view s2 x, view s2 y with
    | some p, some q => dR (binD o p q) s2
    | _, _ => .bad
  | .neg a, env, s => (evE C a env s).bind fun x s1 => match x with
    | .d (.int i) => .ok (.d (.int (-i))) s1
    | _ => .bad
  | .not a, env, s => (evE C a env s).bind fun x s1 => (boolR x s1).bind fun b s2 => .ok (.d (.bool (!b))) s2
  | .and es, env, s => evAnd C es env s
  | .or es, env, s => evOr C es env s
  | .cmp o a b, env, s => (evE C a env s).bind fun x s1 => (evE C b env s1).bind fun y s2 => dR ((cmpW s2 o x y).map .bool) s2
  | .chain o1 o2 a b c, env, s => (evE C a env s).bind fun x s1 => (evE C b env s1).bind fun y s2 => match cmpW s2 o1 x y with
    | some true => (evE C c env s2).bind fun z s3 => dR ((cmpW s3 o2 y z).map .bool) s3
    | some false => .ok (.d (.bool false)) s2
    | none => .bad
  | .ite c a b, env, s => (evE C c env s).bind fun x s1 => (boolR x s1).bind fun t s2 => if t then evE C a env s2 else evE C b env s2
  | .sub a i, env, s => (evE C a env s).bind fun x s1 => (evE C i env s1).bind fun y s2 => match view s2 x, pure? y with
    | some p, some q => dR (subD p q) s2
    | _, _ => .bad
  | .slc a lo hi, env, s => (evE C a env s).bind fun x s1 => ((evL C lo env s1).bind bndR).bind fun l s2 => ((evL C hi env s2).bind bndR).bind fun h s3 => match view s3 x with
    | some p => dR (slcD p l h) s3
    | none => .bad
  | .rev a, env, s => (evE C a env s).bind fun x s1 => match view s1 x with
    | some (.list xs) => .ok (.d (.list xs.reverse)) s1
    | some (.tuple xs) => .ok (.d (.tuple xs.reverse)) s1
    | _ => .bad
  | .call f args, env, s => (evL C args env s).bind fun ws s1 => C (.fn f) ws s1
  | .lcall f b, env, s => C (.fn f) [.clo b [] env] s
  | .callv i args, env, s => match env[i]? with
    | some (some (.fn f)) => (evL C args env s).bind fun ws s1 => C (.fn f) ws s1
    | some (some (.clo b ps cenv)) => (evL C args env s).bind fun ws s1 => C (.clo b ps cenv) ws s1
    | _ => .bad
  | .bi b args, env, s => (evL C args env s).bind (biR b)
  | .isi a t, env, s => (evE C a env s).bind (isiR t)
  | .lc elt tg k srcs conds own, env, s => ((evL C srcs env s).bind (itR true k)).bind fun xs s1 => (lcGo tg (fun env1 s2 => evC C conds env1 s2) (fun env1 s2 => (evE C elt env1 s2).calm eltR) (wipeE env own) xs s1).calm fun ys s2 => .ok (.d (.list ys)) s2
  | .lc2 elt tg k srcs conds tg2 k2 srcs2 conds2 own, env, s => ((evL C srcs env s).bind (itR true k)).bind fun xs s1 => (lcGo tg (fun env1 s2 => evC C conds env1 s2) (fun env1 s2 => ((evL C srcs2 env1 s2).calm (itR true k2)).calm fun xs2 s3 => lcGo tg2 (fun env2 s4 => evC C conds2 env2 s4) (fun env2 s4 => (evE C elt env2 s4).calm eltR) env1 xs2 s3)
          (wipeE env own) xs s1).calm fun ys s2 => .ok (.d (.list ys)) s2
  | .lam b ps, env, s => .ok (.clo b ps env) s
  | .lim a, env, s => (evE C a env s).bind fun x s1 => match x with
    | .exc ⟨_, some l⟩ => .ok (.d l) s1
    | _ => .bad
  | .bad, _, _ => .bad
  | .dct es, env, s => evD C es [] env s
  | .kv _ _, _, _ => .bad
  | .star _, _, _ => .bad
def evL (C : Callee) : List E → Env → Cells → R (List W)
  | [], _, s => .ok [] s
  | e :: es, env, s => (evE C e env s).bind fun w s1 => (evL C es env s1).bind fun ws s2 => .ok (w :: ws) s2
def evAnd (C : Callee) : List E → Env → Cells → R W
  | [], _, s => .ok (.d (.bool true)) s
  | e :: es, env, s => (evE C e env s).bind fun x s1 => (boolR x s1).bind fun b s2 => if b then evAnd C es env s2 else .ok (.d (.bool false)) s2
def evOr (C : Callee) : List E → Env → Cells → R W
  | [], _, s => .ok (.d (.bool false)) s
  | e :: es, env, s => (evE C e env s).bind fun x s1 => (boolR x s1).bind fun b s2 => if b then .ok (.d (.bool true)) s2 else evOr C es env s2
def evC (C : Callee) : List E → Env → Cells → R Bool
  | [], _, s => .ok true s
  | e :: es, env, s => (evE C e env s).calm fun x s1 => (boolR x s1).calm fun b s2 => if b then evC C es env s2 else .ok false s2
def evD (C : Callee) : List E → List (PD × PD) → Env → Cells → R W
  | [], acc, _, s => .ok (.d (.dict acc)) s
  | .star v :: es, acc, env, s => (evE C v env s).bind fun w s1 => match view s1 w with
    | some (.dict kvs) => evD C es (dictMerge acc kvs) env s1
    | _ => .bad
  | .kv k v :: es, acc, env, s => (evE C k env s).bind fun kw s1 => (evE C v env s1).bind fun w s2 => match pure? kw, pure? w with
    | some kd, some d => if keyOk kd && okD kd then evD C es (dictPut acc kd d) env s2 else .bad
    | _, _ => .bad
  | _, _, _, _ => .bad
end
def evT (C : Callee) (e : E) (env : Env) (s : Cells) : R Bool := (evE C e env s).bind fun x s1 => boolR x s1

abbrev WF : Nat := 100000
def lcut (s : Cells) (n : Nat) : Cells := s.take n

def setAt (x : PD) (k e : PD) : Option PD :=
  match x, k with
  | .list xs, .int i => if 0 ≤ i ∧ i < xs.length then some (.list (xs.set i.toNat e)) else none
  | .dict kvs, k => if keyOk k && okD k then some (.dict (dictPut kvs k e)) else none
  | _, _ => none
def remD (xs : List PD) (x : PD) : Option (List PD) :=
  match xs with
  | [] => none
  | y :: r => if PyData.eqv y x then some r else (remD r x).map (y :: ·)

/-- names set from one another's values -/
def parSet : List (Nat × Bool) → List W → Env → Option Env
  | [], [], env => some env
  | (i, o) :: is, w :: ws, env => match o, w with
    | true, _ => none
    | _, .bor _ => none
    | _, .own _ => none
    | _, .exc _ => none
    | _, .clo _ _ _ => none
    | _, w => if i < env.length then parSet is ws (env.set i (some w)) else none
  | _, _, _ => none
def parW (is : List (Nat × Bool)) (env : Env) (ws : List W) (s : Cells) : R Fl :=
  match parSet is ws env with
  | some env1 => .ok (.nx env1) s
  | none => .bad
def csetW (aw kw w : W) (env : Env) (s : Cells) : R Fl :=
  match aw, kw, w with
  | .loc n, .d (.int i), .d d => (match s[n]? with
    | some (.list xs) => if 0 ≤ i ∧ i < xs.length then .ok (.nx env) (s.set n (.list (xs.set i.toNat d))) else .bad
    | _ => .bad)
  | _, _, _ => .bad
def setkW (j : Nat) (xs : List PD) (kw w : W) (env : Env) (s : Cells) : R Fl :=
  match kw, w with
  | .d (.int i), .d d => if 0 ≤ i ∧ i < xs.length then .ok (.nx (env.set j (some (.own (.list (xs.set i.toNat d)))))) s else .bad
  | _, _ => .bad
def raiseW (c : Nat) (ws : List W) (s : Cells) : R Fl :=
  match pures ws with
  | some [.str _] => .exc ⟨c, none⟩ s
  | some [x] => .exc ⟨c, some x⟩ s
  | _ => .bad

def nameW (i : Nat) (w : W) (env : Env) (s : Cells) : R Fl :=
  match w with
  | .bor _ => .bad
  | .own _ => .bad
  | .exc _ => .bad
  | .clo _ _ _ => .bad
  | w => if i < env.length then .ok (.nx (env.set i (some w))) s else .bad
def asgW (t : Tg) (w : W) (env : Env) (s : Cells) : R Fl :=
  match t with
  | .nm i => nameW i w env s
  | t => match w with
    | .d x => (match asgT t x env with
      | some env1 => .ok (.nx env1) s
      | none => .bad)
    | _ => .bad
def retW (w : W) (s : Cells) : R Fl :=
  match w with
  | .bor _ => .bad
  | .exc _ => .bad
  | .clo _ _ _ => .bad
  | w => .ok (.ret w) s
/-- a suite that ends by a return -/
def retOnly : R Fl → R Fl
  | .ok (.ret w) s => .ok (.ret w) s
  | _ => .bad
def appW (i : Nat) (w : W) (env : Env) (s : Cells) : R Fl :=
  match env[i]?, w with
  | some (some (.own (.list xs))), .d x => if xs.length < LINE then .ok (.nx (env.set i (some (.own (.list (xs ++ [x])))))) s else .bad
  | _, _ => .bad
mutual
def evS (C : Callee) : St → Env → Cells → R Fl
  | .asg t e, env, s => (evE C e env s).bind fun w s1 => asgW t w env s1
  | .par is es, env, s => (evL C es env s).bind (parW is env)
  | .own i e, env, s => (evE C e env s).bind fun w s1 => match w with
    | .d (.list x) => if i < env.length then .ok (.nx (env.set i (some (.own (.list x))))) s1 else .bad
    | _ => .bad
  | .ret e, env, s => (evE C e env s).bind retW
  | .rown i, env, s => match env[i]? with
    | some (some (.own x)) => .ok (.ret (.d x)) s
    | _ => .bad
  | .ifs c a b, env, s => (evT C c env s).bind fun t s1 => if t then evSs C a env s1 else evSs C b env s1
  | .forr t k srcs body, env, s => ((evL C srcs env s).bind (itR false k)).bind fun xs s1 => forGo (fun x env1 => asgT t x env1) (fun env1 s2 => evSs C body env1 s2) xs env s1
  | .forf i fs body, env, s => forfGo i (fun env1 s2 => evSs C body env1 s2) fs env s
  | .whl c body, env, s => whlGo (fun env1 s1 => evT C c env1 s1) (fun env1 s1 => evSs C body env1 s1) WF env s
  | .raise c args, env, s => (evL C args env s).bind (raiseW c)
  | .expr e, env, s => (evE C e env s).bind fun _ s1 => .ok (.nx env) s1
  | .pass, env, s => .ok (.nx env) s
  | .brk, env, s => .ok (.brk env) s
  | .cont, env, s => .ok (.cont env) s
  | .app i e, env, s => match env[i]? with
    | some (some (.own (.list _))) => (evE C e env s).bind fun w s1 => appW i w env s1
    | _ => .bad
  | .remv i e, env, s => (evE C e env s).bind fun w s1 => match env[i]?, pure? w with
    | some (some (.own (.list xs))), some x => if okD x && xs.all okD then (match remD xs x with
      | some ys => .ok (.nx (env.set i (some (.own (.list ys))))) s1
      | none => .bad) else .bad
    | _, _ => .bad
  | .setk i k e, env, s => (evE C e env s).bind fun w s1 => match env[i]? with
    | some (some (.own (.list xs))) => (evE C k env s1).bind fun kw s2 => setkW i xs kw w env s2
    | _ => .bad
  | .cset a k e, env, s => (evE C e env s).bind fun w s1 => (evE C a env s1).bind fun aw s2 => (evE C k env s2).bind fun kw s3 => csetW aw kw w env s3
  | .tryx body hs, env, s => match evSs C body env s with
    | .ok f s1 => .ok f s1
    | .exc x s1 => evH C hs x env s1
    | .bad => .bad
  | .bad, _, _ => .bad
  | .swap i a b x y, env, s => (evE C x env s).bind fun xw s1 => (evE C y env s1).bind fun yw s2 => (evE C a env s2).bind fun aw s3 => (evE C b env s3).bind fun bw s4 =>
      match env[i]?, pure? xw, pure? yw, pure? aw, pure? bw with
      | some (some (.own l)), some xd, some yd, some ad, some bd => (match setAt l ad xd with
        | some l1 => (match setAt l1 bd yd with
          | some l2 => .ok (.nx (env.set i (some (.own l2)))) s4
          | none => .bad)
        | none => .bad)
      | _, _, _, _, _ => .bad
def evSs (C : Callee) : List St → Env → Cells → R Fl
  | [], env, s => .ok (.nx env) s
  | st :: r, env, s => (evS C st env s).bind fun f s1 => match f with
    | .nx env1 => evSs C r env1 s1
    | f => .ok f s1
/-- handlers: a class (0: every one), the name's slot ([]: none), the suite -/
def evH (C : Callee) : List (Nat × List Nat × List Nat × List St) → Exn → Env → Cells → R Fl
  | [], x, _, s => .exc x s
  | (_, subs, n, suite) :: r, x, env, s => if subs.contains x.cls then
      (match n with
      | [i] => if i < env.length then retOnly (evSs C suite (env.set i (some (.exc x))) s) else .bad
      | [] => retOnly (evSs C suite env s)
      | _ => .bad) else evH C r x env s
end

def startE (n : Nat) (ws : List W) : Env := ws.map some ++ List.replicate (n - ws.length) none
def bor1 : W → W
  | .own x => .bor x
  | w => w
/-- try: the call of what was handed over; what follows -/
def lamShape : List St → Option (List (Nat × List Nat × List Nat × List St) × List St)
  | .tryx [.expr (.callv 0 [])] hs :: rest => some (hs, rest)
  | _ => none
def finF (fl : Fl) (s1 : Cells) : R W := match fl with
  | .ret w => .ok w s1
  | .nx _ => .ok (.d .none) s1
  | _ => .bad
def calmF : R Fl → R Fl
  | .ok f s => .ok f s
  | _ => .bad
/-- behind the call of what was handed over -/
def lamEnd (C : Callee) (n : Nat) (hs : List (Nat × List Nat × List Nat × List St)) (rest : List St) : R W → R Fl
  | .ok _ s1 => calmF (evSs C rest (List.replicate n none) s1)
  | .exc x s1 => calmF (evH C hs x (List.replicate n none) s1)
  | .bad => .bad
def runDef (C : Callee) (df : Def) (ws : List W) (s : Cells) : R Fl := match ws, lamShape df.body with
  | [.clo b ps env], some (hs, rest) => lamEnd C df.ns hs rest (C (.clo b ps env) [] s)
  | _, _ => evSs C df.body (startE df.ns ws) s
/-- a call, by the level of calls that are left -/
def evF (P : Nat → Option Def) : Nat → Callee
  | 0, _, _, _ => .bad
  | k + 1, .fn f, ws, s => match P f with
    | none => .bad
    | some df => if ws.length = df.np then (runDef (evF P k) df ws s).bind finF else .bad
  | k + 1, .clo b ps env, ws, s => if ws.length = ps.length then
      (evE (evF P k) b ((ps.zip ws).foldl (fun e p => e.set p.1 (some p.2)) env) s).bind fun w s1 => match w with
        | .bor _ => .bad
        | w => .ok w s1
    else .bad
end Lw

set_option Elab.async false
set_option linter.all false
set_option maxRecDepth 100000
set_option maxHeartbeats 2000000
/-! F1: how data stand in the abstract heap. -/
namespace Lw
open PySem PySem.Spec PyProof.Rows L2

/-! ### data in the heap; A: addresses that may be written, which no datum bears -/
mutual
inductive Rp (K : PySem.W.Frag) (A : List Addr) (H : Hp) : V → PD → Prop
  | non : Rp K A H .non .none
  | bl (b : Bool) : Rp K A H (.bl b) (.bool b)
  | int (i : Int) : Rp K A H (.int i) (.int i)
  | str (x : Str) : Rp K A H (.str x) (.str x)
  | lst {a : Addr} {xs : List V} {ds : List PD} : a ∉ A → H a = some (.lst xs) → RpL K A H xs ds → Rp K A H (.ref a) (.list ds)
  | tup {a : Addr} {xs : List V} {ds : List PD} : SqT K H a xs → RpL K A H xs ds → Rp K A H (.ref a) (.tuple ds)
inductive RpL (K : PySem.W.Frag) (A : List Addr) (H : Hp) : List V → List PD → Prop
  | nil : RpL K A H [] []
  | cons {v : V} {vs : List V} {d : PD} {ds : List PD} : Rp K A H v d → RpL K A H vs ds → RpL K A H (v :: vs) (d :: ds)
end
/-- the same, whatever stands at the top -/
inductive RpT (K : PySem.W.Frag) (A : List Addr) (H : Hp) : V → PD → Prop
  | of {v : V} {d : PD} : Rp K A H v d → RpT K A H v d
  | lst {a : Addr} {xs : List V} {ds : List PD} : H a = some (.lst xs) → RpL K A H xs ds → RpT K A H (.ref a) (.list ds)

/-- every address is tracked -/
def Trk (A : List Addr) (H : Hp) : Prop := ∀ a ∈ A, H a ≠ none

/-- not a table of code objects -/
def NT (o : HO) : Prop := ∀ ps, o ≠ .tbl ps
/-- from a heap to a later one: the cells at As may have changed, new cells may have come -/
structure Gr (As As' : List Addr) (H H' : Hp) : Prop where
  ex : ∃ zs, As' = As ++ zs ∧ ∀ z ∈ zs, H z = none
  kp : ∀ b o, H b = some o → b ∉ As → NT o → H' b = some o
  tp : ∀ b xs, H b = some (.tup xs) → H' b = some (.tup xs)
  tr : ∀ b, H b ≠ none → H' b ≠ none

section
variable {K : PySem.W.Frag} {A A' As As' As2 B : List Addr} {H H' H1 H2 : Hp} {v : V} {d : PD} {vs : List V} {ds : List PD}
theorem Gr.refl : Gr As As H H := ⟨⟨[], by simp, fun _ h => nomatch h⟩, fun _ _ h _ _ => h, fun _ _ h => h, fun _ h => h⟩
theorem Gr.same (s : Same H H') : Gr As As H H' := ⟨⟨[], by simp, fun _ h => nomatch h⟩, fun b o h _ _ => s b o h, fun b xs h => s b _ h, fun b h => by
  cases q : H b with
  | none => exact absurd q h
  | some o => rw [s b o q]; simp⟩
theorem Gr.trans (a : Gr As As' H H1) (b : Gr As' As2 H1 H2) : Gr As As2 H H2 := by
  obtain ⟨zs, e1, n1⟩ := a.ex
  obtain ⟨ys, e2, n2⟩ := b.ex
  refine ⟨⟨zs ++ ys, by rw [e2, e1, List.append_assoc], fun z hz => ?_⟩, fun c o h n nt => ?_, fun c xs h => b.tp c xs (a.tp c xs h), fun c h => b.tr c (a.tr c h)⟩
  · rcases List.mem_append.mp hz with h | h
    · exact n1 z h
    · cases q : H z with
      | none => rfl
      | some o => exact absurd (n2 z h) (a.tr z (by rw [q]; simp))
  · refine b.kp c o (a.kp c o h n nt) (fun hc => ?_) nt
    rw [e1] at hc
    rcases List.mem_append.mp hc with h' | h'
    · exact n h'
    · rw [n1 c h'] at h; cases h
theorem Gr.mem (g : Gr As As' H H') {a : Addr} (h : a ∈ As') (ht : H a ≠ none) : a ∈ As := by
  obtain ⟨zs, e, n⟩ := g.ex
  rw [e] at h
  rcases List.mem_append.mp h with h | h
  · exact h
  · exact absurd (n a h) ht
theorem Gr.sub (g : Gr As As' H H') {a : Addr} (h : a ∈ As) : a ∈ As' := by
  obtain ⟨zs, e, _⟩ := g.ex
  rw [e]; exact List.mem_append_left _ h
theorem Gr.get (g : Gr As As' H H') {i : Nat} {a : Addr} (h : As[i]? = some a) : As'[i]? = some a := by
  obtain ⟨zs, e, _⟩ := g.ex
  rw [e, List.getElem?_append_left (List.getElem?_eq_some_iff.mp h).1]; exact h

theorem Rd.keep {a : Addr} {u : HO} (h : Rd H a u) (k : ∀ o, H a = some o → H' a = some o) : Rd H' a u := by
  rcases h with h | ⟨o, h⟩
  · exact .inl (k _ h)
  · exact .inr ⟨o, k _ h⟩
theorem Rd.there {a : Addr} {u : HO} (h : Rd H a u) : H a ≠ none := by
  rcases h with h | ⟨o, h⟩ <;> (rw [h]; simp)
/-- tuples and locked things stay -/
theorem SqT.keep {a : Addr} {xs : List V} (h : SqT K H a xs) (k : ∀ o, H a = some o → H' a = some o) : SqT K H' a xs := by
  rcases h with (h | ⟨o, h⟩) | h
  · exact .inl (.inl (k _ h))
  · exact .inl (.inr ⟨o, k _ h⟩)
  · exact .inr h
end

/-- how the addresses at As stand: never a tuple, never locked -/
def cellO : HO → Bool
  | .tup _ => false
  | .frz _ _ => false
  | _ => true
def Cel (As : List Addr) (H : Hp) : Prop := ∀ a ∈ As, ∃ o, H a = some o ∧ cellO o = true

section
variable {K : PySem.W.Frag} {A A' As As' As2 B : List Addr} {H H' H1 H2 : Hp} {v : V} {d : PD} {vs : List V} {ds : List PD}
theorem Cel.notup (c : Cel As H) {a : Addr} {xs : List V} (hA : a ∈ As) : H a ≠ some (.tup xs) := fun h => by
  obtain ⟨o, e, n⟩ := c a hA
  rw [e] at h; cases h; cases n
theorem Cel.nofrz (c : Cel As H) {a : Addr} {o : Obj} {u : HO} (hA : a ∈ As) : H a ≠ some (.frz o u) := fun h => by
  obtain ⟨o, e, n⟩ := c a hA
  rw [e] at h; cases h; cases n
mutual
/-- data stay -/
theorem Rp.imp (kl : ∀ a xs, a ∉ A → H a = some (.lst xs) → a ∉ A' ∧ H' a = some (.lst xs)) (kt : ∀ a xs, SqT K H a xs → SqT K H' a xs) : ∀ {v : V} {d : PD}, Rp K A H v d → Rp K A' H' v d
  | _, _, .non => .non
  | _, _, .bl b => .bl b
  | _, _, .int i => .int i
  | _, _, .str x => .str x
  | _, _, .lst n h r => .lst (kl _ _ n h).1 (kl _ _ n h).2 (RpL.imp kl kt r)
  | _, _, .tup h r => .tup (kt _ _ h) (RpL.imp kl kt r)
theorem RpL.imp (kl : ∀ a xs, a ∉ A → H a = some (.lst xs) → a ∉ A' ∧ H' a = some (.lst xs)) (kt : ∀ a xs, SqT K H a xs → SqT K H' a xs) : ∀ {v : List V} {d : List PD}, RpL K A H v d → RpL K A' H' v d
  | _, _, .nil => .nil
  | _, _, .cons h r => .cons (Rp.imp kl kt h) (RpL.imp kl kt r)
end
theorem Rp.weak (s : ∀ a ∈ A', a ∈ A) (r : Rp K A H v d) : Rp K A' H v d := r.imp (fun a xs n h => ⟨fun q => n (s a q), h⟩) fun _ _ h => h
theorem RpL.weak (s : ∀ a ∈ A', a ∈ A) (r : RpL K A H vs ds) : RpL K A' H vs ds := r.imp (fun a xs n h => ⟨fun q => n (s a q), h⟩) fun _ _ h => h
theorem Rp.same (s : Same H H') (r : Rp K A H v d) : Rp K A H' v d := r.imp (fun a xs n h => ⟨n, s _ _ h⟩) fun _ _ h => SqT.keep h fun o q => s _ o q
theorem RpL.same (s : Same H H') (r : RpL K A H vs ds) : RpL K A H' vs ds := r.imp (fun a xs n h => ⟨n, s _ _ h⟩) fun _ _ h => SqT.keep h fun o q => s _ o q
theorem RpT.same (s : Same H H') (r : RpT K A H v d) : RpT K A H' v d := by
  cases r with
  | of r => exact .of (r.same s)
  | lst h r => exact .lst (s _ _ h) (r.same s)
theorem RpL.len : ∀ {vs : List V} {ds : List PD}, RpL K A H vs ds → vs.length = ds.length
  | _, _, .nil => rfl
  | _, _, .cons _ r => congrArg (· + 1) (RpL.len r)
theorem RpL.get : ∀ {vs : List V} {ds : List PD} {i : Nat} {d : PD}, RpL K A H vs ds → ds[i]? = some d → ∃ v, vs[i]? = some v ∧ Rp K A H v d
  | _, _, _, _, .nil, e => by simp at e
  | _, _, 0, _, .cons h _, e => by
    simp at e; subst e; exact ⟨_, rfl, h⟩
  | _, _, i + 1, d, .cons _ r, e => by
    obtain ⟨v, h1, h2⟩ := RpL.get (i := i) (d := d) r (by simpa using e)
    exact ⟨v, by simpa using h1, h2⟩
theorem RpL.get' : ∀ {vs : List V} {ds : List PD} {i : Nat} {v : V}, RpL K A H vs ds → vs[i]? = some v → ∃ d, ds[i]? = some d ∧ Rp K A H v d
  | _, _, _, _, .nil, e => by simp at e
  | _, _, 0, _, .cons h _, e => by
    simp at e; subst e; exact ⟨_, rfl, h⟩
  | _, _, i + 1, d, .cons _ r, e => by
    obtain ⟨v, h1, h2⟩ := RpL.get' (i := i) (v := d) r (by simpa using e)
    exact ⟨v, by simpa using h1, h2⟩
theorem RpL.app : ∀ {vs ws : List V} {ds es : List PD}, RpL K A H vs ds → RpL K A H ws es → RpL K A H (vs ++ ws) (ds ++ es)
  | _, _, _, _, .nil, r => r
  | _, _, _, _, .cons h r, q => .cons h (RpL.app r q)
theorem RpL.take : ∀ {vs : List V} {ds : List PD} (n : Nat), RpL K A H vs ds → RpL K A H (vs.take n) (ds.take n)
  | _, _, 0, _ => by simp; exact .nil
  | _, _, _ + 1, .nil => .nil
  | _, _, n + 1, .cons h r => .cons h (RpL.take n r)
theorem RpL.drop : ∀ {vs : List V} {ds : List PD} (n : Nat), RpL K A H vs ds → RpL K A H (vs.drop n) (ds.drop n)
  | _, _, 0, r => r
  | _, _, _ + 1, .nil => .nil
  | _, _, n + 1, .cons h r => RpL.drop n r
theorem RpL.set : ∀ {vs : List V} {ds : List PD} {v : V} {d : PD} (n : Nat), RpL K A H vs ds → Rp K A H v d → RpL K A H (vs.set n v) (ds.set n d)
  | _, _, _, _, _, .nil, _ => .nil
  | _, _, _, _, 0, .cons _ r, h => .cons h r
  | _, _, _, _, n + 1, .cons h r, q => .cons h (RpL.set n r q)
theorem RpL.rev {vs : List V} {ds : List PD} (r : RpL K A H vs ds) : RpL K A H vs.reverse ds.reverse := by
  induction vs generalizing ds with
  | nil => cases r; exact .nil
  | cons v vs ih =>
    cases r with
    | cons h r =>
      rw [List.reverse_cons, List.reverse_cons]
      exact (ih r).app (.cons h .nil)
theorem RpL.rep {vs : List V} {ds : List PD} (r : RpL K A H vs ds) : ∀ k : Nat, RpL K A H (List.replicate k vs).flatten (List.replicate k ds).flatten
  | 0 => .nil
  | k + 1 => by
    rw [List.replicate_succ, List.replicate_succ, List.flatten_cons, List.flatten_cons]
    exact r.app (r.rep k)

/-- over growth: data keep away from the cells -/
theorem Rp.grow (c : Cel As H) (g : Gr As As' H H') (r : Rp K (As ++ B) H v d) : Rp K (As' ++ B) H' v d := by
  refine r.imp (fun a xs n h => ?_) fun a xs h => ?_
  · have nA : a ∉ As := fun q => n (List.mem_append_left _ q)
    have nB : a ∉ B := fun q => n (List.mem_append_right _ q)
    refine ⟨fun q => ?_, g.kp a _ h nA (fun _ z => nomatch z)⟩
    rcases List.mem_append.mp q with q | q
    · exact nA (g.mem q (by rw [h]; simp))
    · exact nB q
  · rcases h with (h | ⟨o, h⟩) | h
    · exact .inl (.inl (g.tp _ _ h))
    · exact .inl (.inr ⟨o, g.kp _ _ h (fun q => c.nofrz q h) (fun _ z => nomatch z)⟩)
    · exact .inr h
theorem RpL.grow (c : Cel As H) (g : Gr As As' H H') (r : RpL K (As ++ B) H vs ds) : RpL K (As' ++ B) H' vs ds := by
  induction vs generalizing ds with
  | nil => cases r; exact .nil
  | cons v vs ih => cases r with
    | cons h t => exact .cons (h.grow c g) (ih t)
end
end Lw

set_option Elab.async false
set_option linter.all false
set_option maxRecDepth 100000
set_option maxHeartbeats 2000000
/-! X1: within an except suite: a list gone through, a tuple unpacked. -/
namespace HotX
open PySem PySem.Spec PyProof.Rows
section
variable {prog : Program} {w : World} {A : Around} {E : Value → Shared → Prop} {s : Shared}
theorem pyNext_list_end_hot {it l x1 : Addr} {i : Nat} {items} {Q : Option Value → Shared → Prop} (hot : HotAt A x1 s.heap) (hne : x1 ≠ it)
    (hit : s.heap.IsListIter it l i) (hl : s.heap.IsList l items) (hx : items[i]? = none)
    (hQ : ∀ h', Heap.ExtBut it s.heap h' → Q none { s with heap := h' }) : wpAny (model prog w) A (pyNext (.ref it)) Q E s := by
  obtain ⟨o, ho, hc, hd⟩ := id hit
  obtain ⟨ol, hol, _, nl, hdl⟩ := hl
  obtain ⟨hh, o1, vs1, h1, d1, c1⟩ := hot
  unfold pyNext
  refine wpAny_bind (wpAny_attempt (wpAny_callSpecial?_slot (name := Str.ofString "__next__") hit.typeIs slot_listiter_next
    (wpAny_call_entry slot_listiter_next hit.typeIs entry_listiter_next ?_ (args_listiter_next _))))
  show wpAny _ _ (field (.ref it) 0 >>= _) _ _ s
  refine wpAny_bind (wpAny_field ho hd (x := .ref l) rfl ?_)
  show wpAny _ _ (if (Value.ref l == Value.none) = true then _ else _) _ _ s
  rw [if_neg (show ¬ ((Value.ref l == Value.none) = true) from Bool.false_ne_true)]
  show wpAny _ _ (field (.ref it) 1 >>= _) _ _ s
  refine wpAny_bind (wpAny_field ho hd (x := .int i 0) rfl ?_)
  show wpAny _ _ (seqItems? (.ref l) >>= _) _ _ s
  refine wpAny_bind (wpAny_seqItems hol hdl ?_)
  simp only [Int.toNat_natCast, hx]
  refine wpAny_bind (wpAny_rule (wpAny_bind (wpAny_setField ho hd (by simp) ?_)))
  show wpAny _ _ (newExc (.type "StopIteration") [] >>= _) _ _ _
  refine wpAny_bind ?_
  simp only [newExc, newTuple]
  refine wpAny_bind (wpAny_newObj_type ?_ (by size_fits))
  refine wpAny_bind (m := firstArgMember _ _) (wpAny_of_eq (a := Value.none) (by first | rfl | (simp only [firstArgMember]; rfl)) ?_)
  refine wpAny_newObj_type ?_ (by size_fits)
  refine raiseNew_hot ⟨hh, o1, vs1, Heap.get?_push_of_some _ (Heap.get?_push_of_some _ (by rw [Heap.get?_update_other _ _ hne.symm]; exact h1)), d1, c1⟩ (Nat.ne_of_lt (Heap.lt_size (Heap.get?_push_of_some _ (by rw [Heap.get?_update_other _ _ hne.symm]; exact h1)))) (Heap.get?_push_size _ rfl) rfl (by first | (simp; done) | (simp; omega) | (simp only [Array.size_append]; simp; omega)) ?_
  refine wpAny_bind (wpAny_isInstance (T := "StopIteration") (b := true) ⟨_, Heap.get?_update_self _ (Heap.get?_push_size _ rfl) rfl, rfl⟩ isSubtype_stop ?_)
  refine wpAny_pure (hQ _ fun b o hb e => ?_)
  rw [Heap.get?_update_other _ _ (Nat.ne_of_gt (Heap.lt_size (Heap.get?_push_of_some _ (by rw [Heap.get?_update_other _ _ (Ne.symm hb)]; exact e))))]
  exact Heap.get?_push_of_some _ (Heap.get?_push_of_some _ (by rw [Heap.get?_update_other _ _ (Ne.symm hb)]; exact e))
theorem pyNext_tuple_end_hot {it t x1 : Addr} {i : Nat} {items} {Q : Option Value → Shared → Prop} (hot : HotAt A x1 s.heap) (hne : x1 ≠ it)
    (hit : s.heap.IsTupleIter it t i) (ht : s.heap.IsTuple t items) (hx : items[i]? = none)
    (hQ : ∀ h', Heap.ExtBut it s.heap h' → Q none { s with heap := h' }) : wpAny (model prog w) A (pyNext (.ref it)) Q E s := by
  obtain ⟨o, ho, hc, hd⟩ := id hit
  obtain ⟨ol, hol, _, nl, hdl⟩ := ht
  obtain ⟨hh, o1, vs1, h1, d1, c1⟩ := hot
  unfold pyNext
  refine wpAny_bind (wpAny_attempt (wpAny_callSpecial?_slot (name := Str.ofString "__next__") hit.typeIs F.slot_tuple_iterator_next
    (wpAny_call_entry F.slot_tuple_iterator_next hit.typeIs F.entry_tuple_iterator_next ?_ (F.args_tuple_iterator_next_1 _))))
  show wpAny _ _ (field (.ref it) 0 >>= _) _ _ s
  refine wpAny_bind (wpAny_field ho hd (x := .ref t) rfl ?_)
  show wpAny _ _ (if (Value.ref t == Value.none) = true then _ else _) _ _ s
  rw [if_neg (show ¬ ((Value.ref t == Value.none) = true) from Bool.false_ne_true)]
  show wpAny _ _ (field (.ref it) 1 >>= _) _ _ s
  refine wpAny_bind (wpAny_field ho hd (x := .int i 0) rfl ?_)
  show wpAny _ _ (seqItems? (.ref t) >>= _) _ _ s
  refine wpAny_bind (wpAny_seqItems hol hdl ?_)
  simp only [Int.toNat_natCast, hx]
  refine wpAny_bind (wpAny_rule (wpAny_bind (wpAny_setField ho hd (by simp) ?_)))
  show wpAny _ _ (newExc (.type "StopIteration") [] >>= _) _ _ _
  refine wpAny_bind ?_
  simp only [newExc, newTuple]
  refine wpAny_bind (wpAny_newObj_type ?_ (by size_fits))
  refine wpAny_bind (m := firstArgMember _ _) (wpAny_of_eq (a := Value.none) (by first | rfl | (simp only [firstArgMember]; rfl)) ?_)
  refine wpAny_newObj_type ?_ (by size_fits)
  refine raiseNew_hot ⟨hh, o1, vs1, Heap.get?_push_of_some _ (Heap.get?_push_of_some _ (by rw [Heap.get?_update_other _ _ hne.symm]; exact h1)), d1, c1⟩ (Nat.ne_of_lt (Heap.lt_size (Heap.get?_push_of_some _ (by rw [Heap.get?_update_other _ _ hne.symm]; exact h1)))) (Heap.get?_push_size _ rfl) rfl (by first | (simp; done) | (simp; omega) | (simp only [Array.size_append]; simp; omega)) ?_
  refine wpAny_bind (wpAny_isInstance (T := "StopIteration") (b := true) ⟨_, Heap.get?_update_self _ (Heap.get?_push_size _ rfl) rfl, rfl⟩ isSubtype_stop ?_)
  refine wpAny_pure (hQ _ fun b o hb e => ?_)
  rw [Heap.get?_update_other _ _ (Nat.ne_of_gt (Heap.lt_size (Heap.get?_push_of_some _ (by rw [Heap.get?_update_other _ _ (Ne.symm hb)]; exact e))))]
  exact Heap.get?_push_of_some _ (Heap.get?_push_of_some _ (by rw [Heap.get?_update_other _ _ (Ne.symm hb)]; exact e))
theorem next_tuple_end_hot {it t x1 : Addr} {i : Nat} {items} {Q : Option Value → Shared → Prop} (hot : HotAt A x1 s.heap) (hne : x1 ≠ it)
    (hit : IsTupIter s.heap it t i) (ht : IsTup s.heap t items) (hx : items[i]? = none)
    (hQ : ∀ h', Heap.ExtBut it s.heap h' → Q none { s with heap := h' }) : wpAny (model prog w) A (pyNext (.ref it)) Q E s := by
  obtain ⟨o, ho, hc, hd⟩ := id hit
  obtain ⟨ol, hol, _, nl, hdl⟩ := ht
  obtain ⟨hh, o1, vs1, h1, d1, c1⟩ := hot
  unfold pyNext
  refine wpAny_bind (wpAny_attempt (wpAny_callSpecial?_slot (name := Str.ofString "__next__") hit.typeIs slot_tupleiter_next
    (wpAny_call_entry slot_tupleiter_next hit.typeIs entry_tupleiter_next ?_ (args_tupleiter_next _))))
  show wpAny _ _ (field (.ref it) 0 >>= _) _ _ s
  refine wpAny_bind (wpAny_field ho hd (x := .ref t) rfl ?_)
  show wpAny _ _ (if (Value.ref t == Value.none) = true then _ else _) _ _ s
  rw [if_neg (show ¬ ((Value.ref t == Value.none) = true) from Bool.false_ne_true)]
  show wpAny _ _ (field (.ref it) 1 >>= _) _ _ s
  refine wpAny_bind (wpAny_field ho hd (x := .int i 0) rfl ?_)
  show wpAny _ _ (seqItems? (.ref t) >>= _) _ _ s
  refine wpAny_bind (wpAny_seqItems hol hdl ?_)
  simp only [Int.toNat_natCast, hx]
  refine wpAny_bind (wpAny_rule (wpAny_bind (wpAny_setField ho hd (by simp) ?_)))
  show wpAny _ _ (newExc (.type "StopIteration") [] >>= _) _ _ _
  refine wpAny_bind ?_
  simp only [newExc, newTuple]
  refine wpAny_bind (wpAny_newObj_type ?_ (by size_fits))
  refine wpAny_bind (m := firstArgMember _ _) (wpAny_of_eq (a := Value.none) (by first | rfl | (simp only [firstArgMember]; rfl)) ?_)
  refine wpAny_newObj_type ?_ (by size_fits)
  refine raiseNew_hot ⟨hh, o1, vs1, Heap.get?_push_of_some _ (Heap.get?_push_of_some _ (by rw [Heap.get?_update_other _ _ hne.symm]; exact h1)), d1, c1⟩ (Nat.ne_of_lt (Heap.lt_size (Heap.get?_push_of_some _ (by rw [Heap.get?_update_other _ _ hne.symm]; exact h1)))) (Heap.get?_push_size _ rfl) rfl (by first | (simp; done) | (simp; omega) | (simp only [Array.size_append]; simp; omega)) ?_
  refine wpAny_bind (wpAny_isInstance (T := "StopIteration") (b := true) ⟨_, Heap.get?_update_self _ (Heap.get?_push_size _ rfl) rfl, rfl⟩ isSubtype_stop ?_)
  refine wpAny_pure (hQ _ fun b o hb e => ?_)
  rw [Heap.get?_update_other _ _ (Nat.ne_of_gt (Heap.lt_size (Heap.get?_push_of_some _ (by rw [Heap.get?_update_other _ _ (Ne.symm hb)]; exact e))))]
  exact Heap.get?_push_of_some _ (Heap.get?_push_of_some _ (by rw [Heap.get?_update_other _ _ (Ne.symm hb)]; exact e))
theorem HotAt.keep {x1 : Addr} {h h' : Heap} (hot : HotAt A x1 h) (k : ∀ o, h.get? x1 = some o → h'.get? x1 = some o) : HotAt A x1 h' := by
  obtain ⟨hh, o1, vs1, h1, d1, c1⟩ := hot
  exact ⟨hh, o1, vs1, k _ h1, d1, c1⟩
theorem HotAt.lt {x1 : Addr} {h : Heap} (hot : HotAt A x1 h) : x1 < h.objs.size := by
  obtain ⟨hh, o1, vs1, h1, d1, c1⟩ := hot
  exact Heap.lt_size h1
theorem unpackItems_tuple_hot {t x1 : Addr} {items : Array Value} {Q : List Value → Shared → Prop} (hot : HotAt A x1 s.heap) (ht : IsTup s.heap t items)
    (hQ : ∀ h', Heap.ExtBut s.heap.objs.size s.heap h' → Q items.toList { s with heap := h' }) : wpAny (model prog w) A (unpackItems (.ref t) items.size none) Q E s := by
  have hlt : t ≠ s.heap.objs.size := by obtain ⟨o, ho, _⟩ := ht; exact Nat.ne_of_lt (Heap.lt_size ho)
  have hx := hot.lt
  unfold unpackItems
  refine wpAny_bind ?_
  · unfold notIterableAtAll
    refine wpAny_bind (wpAny_specialOf ht.typeIs slot_tuple_iter.lookup ?_)
    refine wpAny_pure ?_
    simp only [Bool.false_eq_true, if_false]
    refine wpAny_bind (wpAny_holding (iter_tuple ht ?_))
    refine wpAny_bind (wpAny_holding (draw_tuple hlt items.size 0 _ _ ⟨_, Heap.get?_push_size _ rfl, rfl, rfl⟩ (ht.push _) (by omega) fun h₁ hit₁ hs₁ => ?_))
    have hall : List.take items.size (List.drop 0 items.toList) = items.toList := by
      rw [List.drop_zero]; exact List.take_of_length_le (by simp)
    rw [hall]
    rw [if_neg (by simp)]
    have ht₁ : IsTup h₁ t items := (ht.push _).extBut hs₁.extBut hlt
    have hot1 : HotAt A x1 h₁ := hot.keep fun o e => hs₁.extBut x1 o (Nat.ne_of_lt hx) (Heap.get?_push_of_some _ e)
    refine wpAny_bind (wpAny_holding (next_tuple_end_hot hot1 (Nat.ne_of_lt hx) hit₁ ht₁ (by simp) fun h₂ he₂ => ?_))
    simp only [Option.isSome_none, Bool.false_eq_true, if_false]
    refine wpAny_pure (hQ h₂ fun b o hb e => he₂ b o hb (hs₁.extBut b o hb (Heap.get?_push_of_some _ e)))
theorem assign_Tuple_tuple_hot {env : Env} {elts : List Expr} {k} {pos : Pos} {t x1 : Addr} {items : Array Value} {Q : Unit → Shared → Prop} (hot : HotAt A x1 s.heap) (ht : IsTup s.heap t items)
    (hn : (assignEach elts env).length = items.size) (hstar : (assignEach elts env).findIdx? (·.1) = none)
    (h : ∀ h', Heap.ExtBut s.heap.objs.size s.heap h' → wpAny (model prog w) A (assignInOrder ((assignEach elts env).map (·.2)) items.toList) Q E { s with heap := h' }) :
    wpAny (model prog w) A (assign (.Tuple elts k pos) env (.ref t)) Q E s := by
  rw [assign_Tuple]
  refine wpAny_bind (wpAny_standAt ?_)
  unfold unpack
  rw [hn, hstar]
  exact wpAny_bind (wpAny_holding (unpackItems_tuple_hot hot ht h))
end
end HotX
namespace Lw
open PySem PySem.Spec PyProof.Rows L2 HotX L2H
/-- within an except suite: the exception at x1 -/
def HotH (X : Cx) : Prop := ∃ x1, ∀ (pins : List (Addr × Obj)) (σ : L2.St) (H : Hp) (s : Shared), L2.Inv X pins σ H s → HotAt X.A x1 s.heap
section
variable {X : Cx} {tg : Expr} {pos : Pos}
theorem pg_tupH {es : List Expr} {k : Nat} {t : TGs} {n : Nat} (hc : HotH X) (h : PGs X es t)
    (hn : (assignEach es X.env).length = n := by rfl) (hst : (assignEach es X.env).findIdx? (·.1) = none := by rfl) : PG X (.Tuple es k pos) (gTup X.K n t) := by
  refine ⟨fun pins s σ H v u Q I r hw => ?_⟩
  obtain ⟨a, xs, e1, hq, hl, hw⟩ := hw
  subst e1
  cases r
  obtain ⟨its, rv, ht, hz⟩ := I.tuple hq
  obtain ⟨x1, hot⟩ := hc
  refine assign_Tuple_tuple_hot (hot _ _ _ _ I) ht (by simp [hn, ← hl, rv.length]) hst fun h' hx => ?_
  have I1 : Inv X pins σ H { s with heap := h' } := I.kept (t' := s.toks) fun b o e => hx b o (Nat.ne_of_lt (Heap.lt_size e)) e
  exact h.run pins _ σ H xs _ Q I1 (by simpa using rv) hw
end
/-- as Turn, within an except suite -/
structure TurnX (P : Program) (w : World) (K : PySem.W.Frag) (tg : Expr) (J : It) (fp : List Addr) (it : Addr) (tn : Nat → Heap → Prop) : Prop where
  mem : it ∈ fp
  obj : ∀ i h, tn i h → ∀ b ∈ fp, ∃ o, h.get? b = some o ∧ ∀ v, o.data ≠ .cell v
  keep : ∀ i h h', tn i h → (∀ b ∈ fp, ∀ o, h.get? b = some o → h'.get? b = some o) → tn i h'
  item : ∀ (X : Cx), X.prog = P → X.w = w → X.K = K → ∀ (i : Nat) (pins : List (Addr × Obj)) (s : Shared) (σ : L2.St) (H : Hp) (E : Value → Shared → Prop), Inv X pins σ H s → (∀ b ∈ fp, FpOk X pins H b) → tn i s.heap → J.go i H →
    wpAny (model P w) X.A (pyNext (.ref it)) (fun r s1 => ∃ u, r = some u ∧
      wpAny (model P w) X.A (letOwnedTupleGo tg (.ref it) u) (fun _ s2 => ∃ x H', Inv X pins σ H' s2 ∧ RelV x u ∧ J.yld i H x H' ∧ tn (i + 1) s2.heap ∧ ∀ b ∈ fp, H' b = none) E s1) E s
  done : ∀ (X : Cx), X.prog = P → X.w = w → X.K = K → ∀ (x1 : Addr), x1 ∉ fp → ∀ (i : Nat) (pins : List (Addr × Obj)) (s : Shared) (σ : L2.St) (H : Hp) (E : Value → Shared → Prop), HotAt X.A x1 s.heap → Inv X pins σ H s → (∀ b ∈ fp, FpOk X pins H b) → tn i s.heap → J.stop i H →
    wpAny (model P w) X.A (pyNext (.ref it)) (fun r s1 => r = none ∧ Inv X pins σ H s1) E s
  self : ∀ (A : Around) (i : Nat) (s : Shared) (Q : Value → Shared → Prop) (E : Value → Shared → Prop), tn i s.heap → Q (.ref it) s → wpAny (model P w) A (pyIter (.ref it)) Q E s
theorem turn_listX {P : Program} {w : World} {K : PySem.W.Frag} {tg : Expr} (a it : Addr) : TurnX P w K tg (Itl K a) [it] it (fun i h => h.IsListIter it a i) where
  mem := by simp
  obj := fun i h st b hb => by
    have e : b = it := by simpa using hb
    subst e
    obtain ⟨o, e, c, d⟩ := st
    exact ⟨o, e, fun v z => by rw [d] at z; cases z⟩
  keep := fun i h h' st k => st.at fun o e => k it (by simp) o e
  item := by
    intro X hP hw hK i pins s σ H E I hf st hg
    subst hP hw hK
    obtain ⟨xs, x, hq, hx⟩ := hg
    obtain ⟨its, rv, p, hz⟩ := I.list hq
    obtain ⟨u, hu, ru⟩ := rv.get hx
    obtain ⟨f0, f1, f2, f3, f4, f5⟩ := hf it (by simp)
    refine wpAny_pyNext_list_item st p.isList (x := u) (by simpa using hu) fun h' st' sb => ?_
    have I1 : Inv X pins σ H { s with heap := h' } := I.turned (t' := s.toks) (fun b o hb e => (sb.2 b hb).trans e) f0 f1 f3 f4 f5
    obtain ⟨o, e, c, d⟩ := id st'
    exact ⟨u, rfl, go_of (s := { s with heap := h' }) e c d (by decide) ⟨x, H, I1, ru, ⟨rfl, fun ys hy => by rw [I.list_inj hy hq]; exact hx⟩, st', fun b hb => (hf b hb).1⟩⟩
  done := by
    intro X hP hw hK x1 hx1 i pins s σ H E hot I hf st hg
    subst hP hw hK
    obtain ⟨xs, hq, hx⟩ := hg
    obtain ⟨its, rv, p, hz⟩ := I.list hq
    obtain ⟨f0, f1, f2, f3, f4, f5⟩ := hf it (by simp)
    have hl := rv.length
    exact pyNext_list_end_hot hot (fun z => hx1 (by simp [z])) st p.isList (by simp; omega) fun h' eb => ⟨rfl, I.turned (t' := s.toks) (fun b o hb e => eb b o hb e) f0 f1 f3 f4 f5⟩
  self := fun _ _ _ _ _ st h => wpAny_pyIter_listiter st h
theorem turn_tupleX {P : Program} {w : World} {K : PySem.W.Frag} {tg : Expr} (a it : Addr) : TurnX P w K tg (Itt K a) [it] it (fun i h => h.IsTupleIter it a i) where
  mem := by simp
  obj := fun i h st b hb => by
    have e : b = it := by simpa using hb
    subst e
    obtain ⟨o, e, c, d⟩ := st
    exact ⟨o, e, fun v z => by rw [d] at z; cases z⟩
  keep := fun i h h' st k => st.at fun o e => k it (by simp) o e
  item := by
    intro X hP hw hK i pins s σ H E I hf st hg
    subst hP hw hK
    obtain ⟨xs, x, hq, hx⟩ := hg
    obtain ⟨its, rv, p, hz⟩ := I.tuple hq
    obtain ⟨u, hu, ru⟩ := rv.get hx
    obtain ⟨f0, f1, f2, f3, f4, f5⟩ := hf it (by simp)
    refine wpAny_pyNext_tuple_item st (show s.heap.IsTuple a its.toArray from p) (x := u) (by simpa using hu) fun h' st' sb => ?_
    have I1 : Inv X pins σ H { s with heap := h' } := I.turned (t' := s.toks) (fun b o hb e => (sb.2 b hb).trans e) f0 f1 f3 f4 f5
    obtain ⟨o, e, c, d⟩ := id st'
    exact ⟨u, rfl, go_of (s := { s with heap := h' }) e c d (by decide) ⟨x, H, I1, ru, ⟨rfl, fun ys hy => by rw [I.tuple_inj hy hq]; exact hx⟩, st', fun b hb => (hf b hb).1⟩⟩
  done := by
    intro X hP hw hK x1 hx1 i pins s σ H E hot I hf st hg
    subst hP hw hK
    obtain ⟨xs, hq, hx⟩ := hg
    obtain ⟨its, rv, p, hz⟩ := I.tuple hq
    obtain ⟨f0, f1, f2, f3, f4, f5⟩ := hf it (by simp)
    have hl := rv.length
    exact pyNext_tuple_end_hot hot (fun z => hx1 (by simp [z])) st (show s.heap.IsTuple a its.toArray from p) (by simp; omega) fun h' eb => ⟨rfl, I.turned (t' := s.toks) (fun b o hb e => eb b o hb e) f0 f1 f3 f4 f5⟩
  self := fun _ _ _ _ _ st h => wpAny_pyIter_tupleiter st h
/-- an iterator has come -/
def PIEX (X : Cx) (pins : List (Addr × Obj)) (σ : L2.St) (tg : Expr) (R : It → Hp → Prop) (itv : Value) (s2 : Shared) : Prop :=
  ∃ (it : Addr) (fp : List Addr) (tn : Nat → Heap → Prop) (J : It) (H' : Hp), itv = .ref it ∧ Inv X pins σ H' s2 ∧ TurnX X.prog X.w X.K tg J fp it tn ∧ tn 0 s2.heap ∧ (∀ b ∈ fp, FpOk X pins H' b) ∧ R J H'
structure PIX (X : Cx) (tg iter : Expr) (wi : TI) : Prop where
  run : ∀ (pins : List (Addr × Obj)) (s : Shared) (σ : L2.St) (H : Hp) (R : It → Hp → Prop), Inv X pins σ H s → wi σ H R →
    wpAny (model X.prog X.w) X.A (eval iter X.env) (fun v s1 => wpAny (model X.prog X.w) X.A (pyIter v) (PIEX X pins σ tg R) X.xe s1) X.xe s
section
variable {X : Cx}
theorem _root_.L2H.HotC.hot (c : HotC X) : HotH X := by
  obtain ⟨p, ⟨hh, v1, e1, c1⟩, hp⟩ := c
  exact ⟨p.1, fun pins σ H s I => ⟨hh, p.2, v1, (I.pin p (List.mem_append_left _ hp)).1, e1, c1⟩⟩
theorem lc_coreX {pins : List (Addr × Obj)} {s : Shared} {σ : L2.St} {H : Hp} {Q : VK} {elt tg iter : Expr} {ifs : List Expr} {scope : Scope} {own : List (Str × Nat)} {pos pos' : Pos} {wi : TI} {g : TG} {tt : TT} {te : TE} {use : Option (Value → Sem Unit)} {Qf : Value → Shared → Prop}
    (hc : HotC X) (hN : X.N.Nodup) (I : Inv X pins σ H s) (hi : PIX X tg iter wi) (ok : BlkOk X.N X.env.scope scope own)
    (hg : ∀ (s : Shared) (H : Hp) (C : Addr) (cl : List (Str × Addr)) (fp : List Addr), HotH (X.blk s H scope (compEnvC scope cl C X.env) fp) → PG (X.blk s H scope (compEnvC scope cl C X.env) fp) tg g) (ht : ∀ (s : Shared) (H : Hp) (C : Addr) (cl : List (Str × Addr)) (fp : List Addr), HotH (X.blk s H scope (compEnvC scope cl C X.env) fp) → PTs (X.blk s H scope (compEnvC scope cl C X.env) fp) ifs tt)
    (he : ∀ (s : Shared) (H : Hp) (C : Addr) (cl : List (Str × Addr)) (fp : List Addr), HotH (X.blk s H scope (compEnvC scope cl C X.env) fp) → PE (X.blk s H scope (compEnvC scope cl C X.env) fp) elt te) (hs : ∀ x, foldedSetIterable iter X.env x = pure x)
    (h : tLc wi g tt te (own.map (·.2)) σ H Q)
    (hRR : ∀ D C s' m H', Inv X pins σ H' s' → Q (.ref D) H' → s'.heap.Ns C m → FpOk X pins H' C → compPost (model X.prog X.w) X.A X.xe use Qf (.ref D) C (.ok .next) s') :
    wpAny (model X.prog X.w) X.A (comprehension (.ListComp elt [⟨tg, iter, ifs, 0⟩] scope pos) scope X.env pos' (newList []) false (eval iter X.env) use) Qf X.xe s := by
  have hfree : ∀ y ∈ scope.names, y.2 = .free → ∃ c, X.env.cells.lookup y.1 = some c := fun y hy e => by
    rcases ok.free y hy e with k | k
    · exact I.ok.has _ (.inl k)
    · exact I.ok.has _ (.inr k)
  refine wpAny_comprehension_free (use := use) rfl hs (closure_ok hfree) ok.kind (fun y hy e => by rw [ok.uniq y hy, e])
    (thn (hi.run pins s σ H _ I h) fun xv s1 hx => thn hx fun itv s2 h2 => ?_)
  obtain ⟨it, fp, tn, J, H2, e, I2, T, st2, f2, q⟩ := h2
  subst e
  refine wpAny_newObj_type (newEnv_comp ?_) (by show 0 ≤ sizeLine; decide)
  generalize hD : s2.heap.objs.size = D
  have hDn : H2 D = none := I2.hok.fresh (Nat.le_of_eq hD)
  obtain ⟨W, ⟨m0, w0⟩, turn⟩ := q D hDn
  -- the new list
  generalize hs3 : ({ s2 with heap := s2.heap.push { cls := .type "list", data := .seq ([] : List Value).toArray } } : Shared) = s3
  have I3 : Inv X pins σ (upd H2 D (.lst [])) s3 := by
    rw [← hs3]
    refine I2.laid (t' := s2.toks) (fun b o e => Heap.get?_push_of_some _ e) (Nat.le_of_eq hD) ⟨Nat.zero_le _, [], 0, .nil, ?_⟩
    rw [← hD]
    exact Heap.get?_push_size _ rfl
  have h3 : s3.heap = s2.heap.push { cls := .type "list", data := .seq ([] : List Value).toArray } := by rw [← hs3]
  have sz : ∀ b ∈ fp, b < s2.heap.objs.size := fun b hb => by
    obtain ⟨o, e, _⟩ := T.obj _ _ st2 b hb
    exact Heap.lt_size e
  have f3 : ∀ b ∈ fp, FpOk X pins (upd H2 D (.lst [])) b ∧ b < s3.heap.objs.size := fun b hb => by
    have hlt := sz b hb
    refine ⟨⟨?_, (f2 b hb).2⟩, by rw [h3, Heap.size_push]; exact Nat.lt_succ_of_lt hlt⟩
    rw [upd_ne (by rw [← hD]; exact Nat.ne_of_lt hlt)]
    exact (f2 b hb).1
  have st3 : tn 0 s3.heap := T.keep _ _ _ st2 fun b _ o e => by rw [h3]; exact Heap.get?_push_of_some _ e
  have I4 := block_start I3 ok hN f3
  -- the exception, seen from the block
  obtain ⟨p, ⟨hh, v1, e1, c1⟩, hp⟩ := hc
  have hpin := I3.pin p (List.mem_append_left _ hp)
  have pfp : p.1 ∉ fp := fun z => (f2 p.1 z).2.2.2.2.2 p (List.mem_append_left _ hp) rfl
  have pst : p.1 ∉ frs X.stack := fun z => by
    rcases List.mem_cons.mp (I3.stkSub _ z) with e | e
    · exact hpin.2.2.1 e
    · exact hpin.2.2.2.1 e
  have hotB : ∀ (cenv : PySem.Env) (pins' : List (Addr × Obj)) (σ' : L2.St) (H' : Hp) (s' : Shared), Inv (X.blk s3 (upd H2 D (.lst [])) scope cenv fp) pins' σ' H' s' → HotAt X.A p.1 s'.heap := fun cenv pins' σ' H' s' I' => by
    refine ⟨hh, p.2, v1, ?_, e1, c1⟩
    exact I'.base.keep p.1 p.2 hpin.1 hpin.2.1 (fun z => pst (by first | exact z | simpa using z)) pfp
  have pg := hg s3 (upd H2 D (.lst [])) s3.heap.objs.size (cellsFrom (s3.heap.objs.size + 1) scope.names (cloFrom X.env.cells scope.names [])) fp ⟨p.1, fun pins' σ' H' s' I' => hotB _ pins' σ' H' s' I'⟩
  have pt := ht s3 (upd H2 D (.lst [])) s3.heap.objs.size (cellsFrom (s3.heap.objs.size + 1) scope.names (cloFrom X.env.cells scope.names [])) fp ⟨p.1, fun pins' σ' H' s' I' => hotB _ pins' σ' H' s' I'⟩
  have pe := he s3 (upd H2 D (.lst [])) s3.heap.objs.size (cellsFrom (s3.heap.objs.size + 1) scope.names (cloFrom X.env.cells scope.names [])) fp ⟨p.1, fun pins' σ' H' s' I' => hotB _ pins' σ' H' s' I'⟩
  show codeAny _ _ (.compStart (.ListComp elt [⟨tg, iter, ifs, 0⟩] scope pos) 0 (.ref it) (.ref D) (compEnvC scope (cellsFrom (s3.heap.objs.size + 1) scope.names (cloFrom X.env.cells scope.names [])) s3.heap.objs.size X.env)) (compPost (model X.prog X.w) X.A X.xe use Qf (.ref D) s3.heap.objs.size) { s3 with heap := pushCells (s3.heap.push { cls := .type "dict", data := .dict #[] }) scope.names }
  have nfp : ∀ b ∈ fp, (upd H2 D (.lst [])) b = none := fun b hb => (f3 b hb).1.1
  generalize hce : compEnvC scope (cellsFrom (s3.heap.objs.size + 1) scope.names (cloFrom X.env.cells scope.names [])) s3.heap.objs.size X.env = ce at I4 pg pt pe ⊢
  have cL : ce.locals = s3.heap.objs.size := by subst hce; rfl
  have hotB := hotB ce
  generalize hH3 : upd H2 D (.lst []) = H3 at I3 I4 pg pt pe w0 nfp f3 hotB
  generalize hs4 : ({ s3 with heap := pushCells (s3.heap.push { cls := .type "dict", data := .dict #[] }) scope.names } : Shared) = s4 at I4 ⊢
  have st4 : tn 0 s4.heap := T.keep _ _ _ st3 fun b _ o e => by rw [← hs4]; exact pushCells_keeps _ _ _ _ (Heap.get?_push_of_some _ e)
  have stat : ∀ {σ' : L2.St} {H' : Hp} {s' : Shared}, Inv (X.blk s3 H3 scope ce fp) [] σ' H' s' → (∀ b ∈ fp, H' b = none) → ∀ b ∈ fp, FpOk (X.blk s3 H3 scope ce fp) [] H' b := fun {σ' H' s'} I' hn b hb =>
    ⟨hn b hb, (I'.ok.exf b hb).1, I'.ok.exfs b hb, .inl hb, fun x c e => (I'.ok.exf b hb).2 x c e, fun p hp => absurd (show p ∈ ([] : List (Addr × Obj)) ++ [] from hp) (by simp)⟩
  have loop : codeAny (model X.prog X.w) X.A (.compLoop (.ListComp elt [⟨tg, iter, ifs, 0⟩] scope pos) 0 (.ref it) (.ref D) ce) (compPost (model X.prog X.w) X.A X.xe use Qf (.ref D) s3.heap.objs.size) s4 := by
    refine compLoop_any (fun n s' => ∃ i H', Inv (X.blk s3 H3 scope ce fp) [] (wipe σ (own.map (·.2))) H' s' ∧ tn i s'.heap ∧ (∀ b ∈ fp, H' b = none) ∧ W i n H') ?_ m0 ⟨0, H3, I4, st4, nfp, w0⟩
    rintro n s5 ⟨i, H5, I5, st5, n5, w5⟩
    rcases turn i n H5 w5 with ⟨stop, qq⟩ | ⟨go, Nx, hNx, step⟩
    · have td := T.done (X.blk s3 H3 scope ce fp) rfl rfl rfl p.1 pfp i [] s5 _ H5 (fun _ _ => False) (hotB _ _ _ _ I5) I5 (stat I5 n5) st5 stop
      refine thnF td fun r s6 ⟨hr, I6⟩ => ?_
      subst hr
      -- back in the def's context
      have I7 : Inv X pins σ H5 s6 := I3.call' (ch := fp) I6.os I6.base I6.hok I6.bare fun b hb => ⟨(f3 b hb).1.2.2.2.1, (f3 b hb).1.2.1, (f3 b hb).1.2.2.2.2.1, (f3 b hb).1.2.2.2.2.2⟩
      have nC : H5 s3.heap.objs.size = none := by
        have z : H5 ce.locals = none := I6.free
        rw [cL] at z
        exact z
      obtain ⟨m, hn, _⟩ := I6.loc
      have hn : s6.heap.Ns ce.locals m := hn
      rw [cL] at hn
      exact hRR D s3.heap.objs.size s6 m H5 I7 qq hn (I3.fpOk (Nat.le_refl _) nC)
    · have ti := T.item (X.blk s3 H3 scope ce fp) rfl rfl rfl i [] s5 _ H5 (fun _ _ => False) I5 (stat I5 n5) st5 go
      refine thnF ti fun r s6 ⟨u, hr, h6⟩ => ?_
      subst hr
      refine thnF h6 fun _ s7 ⟨x, H7, I7, r7, y7, st7, n7⟩ => ?_
      have I7' := I7.pinned (stat I7 n7) (T.obj _ _ st7)
      refine thnF (pg.run _ s7 _ H7 x u _ I7' r7 (step x H7 y7)) fun _ s8 ⟨σ8, H8, I8, hw8, q8⟩ => ?_
      refine thnF (pt.run _ s8 σ8 H8 _ I8 q8) fun b s9 ⟨H9, I9, q9⟩ => ?_
      -- the turn's end
      have fin : ∀ {s' : Shared} {H' : Hp}, Inv (X.blk s3 H3 scope ce fp) ([] ++ pinsAt fp s7.heap) σ8 H' s' → Nx H' → ∃ m, m < n ∧ ∃ i H', Inv (X.blk s3 H3 scope ce fp) [] (wipe σ (own.map (·.2))) H' s' ∧ tn i s'.heap ∧ (∀ b ∈ fp, H' b = none) ∧ W i m H' := fun {s' H'} I' nx => by
        obtain ⟨m', hm, w'⟩ := hNx H' nx
        have pin' : ∀ b ∈ fp, ∀ o, s7.heap.get? b = some o → s'.heap.get? b = some o ∧ H' b = none := fun b hb o e =>
          let z := I'.pin (b, o) (List.mem_append_right _ (List.mem_append_right _ (mem_pinsAt hb e)))
          ⟨z.1, z.2.1⟩
        have hl : (wipe σ (own.map (·.2))).length = σ8.length := by rw [← hw8, wipe_length]
        refine ⟨m', hm, i + 1, H', (I'.unpinned (pins := [])).weak hl (fun j v e => ?_), T.keep _ _ _ st7 fun b hb o e => (pin' b hb o e).1, fun b hb => ?_, w'⟩
        · rw [← hw8] at e
          exact (wipe_some e).1
        · obtain ⟨o, e, _⟩ := T.obj _ _ st7 b hb
          exact (pin' b hb o e).2
      cases b with
      | false =>
        simp only [Bool.false_eq_true, if_false] at q9 ⊢
        exact fin I9 q9
      | true =>
        simp only [if_true] at q9 ⊢
        refine thnF (pe.run _ s9 σ8 H9 _ I9 q9) fun z s10 ⟨yv, H10, I10, r10, acc, hD10, hz10, nx⟩ => ?_
        exact app_ok (X := X.blk s3 H3 scope ce fp) I10 hD10 hz10 r10 fun s11 I11 => fin I11 nx
  exact codeAny_compStart_list loop (T.self X.A 0 _ _ _ st4 loop)
theorem pe_lcX {elt tg iter : Expr} {ifs : List Expr} {scope : Scope} {own : List (Str × Nat)} {pos : Pos} {wi : TI} {g : TG} {tt : TT} {te : TE} (hc : HotC X) (hN : X.N.Nodup) (hi : PIX X tg iter wi) (ok : BlkOk X.N X.env.scope scope own)
    (hg : ∀ (s : Shared) (H : Hp) (C : Addr) (cl : List (Str × Addr)) (fp : List Addr), HotH (X.blk s H scope (compEnvC scope cl C X.env) fp) → PG (X.blk s H scope (compEnvC scope cl C X.env) fp) tg g) (ht : ∀ (s : Shared) (H : Hp) (C : Addr) (cl : List (Str × Addr)) (fp : List Addr), HotH (X.blk s H scope (compEnvC scope cl C X.env) fp) → PTs (X.blk s H scope (compEnvC scope cl C X.env) fp) ifs tt)
    (he : ∀ (s : Shared) (H : Hp) (C : Addr) (cl : List (Str × Addr)) (fp : List Addr), HotH (X.blk s H scope (compEnvC scope cl C X.env) fp) → PE (X.blk s H scope (compEnvC scope cl C X.env) fp) elt te) (hs : ∀ x, foldedSetIterable iter X.env x = pure x := by intro _; rfl) :
    PE X (.ListComp elt [⟨tg, iter, ifs, 0⟩] scope pos) (tLc wi g tt te (own.map (·.2))) := by
  refine ⟨fun pins s σ H Q I h => ?_⟩
  rw [eval_ListComp]
  refine lc_coreX hc hN I hi ok hg ht he hs h fun D C s' m H' I' q hn f => ⟨m, hn, fun h'' sb => ?_⟩
  obtain ⟨f0, f1, f2, f3, f4, f5⟩ := f
  exact ⟨.ref D, H', I'.turned (t' := s'.toks) (fun b o hb e => (sb.2 b hb).trans e) f0 f1 f3 f4 f5, rfl, q⟩
end
end Lw

set_option Elab.async false
set_option linter.all false
set_option maxRecDepth 100000
set_option maxHeartbeats 2000000
/-! X2: try with several except clauses, each with a name or none. -/
namespace L2N
open PySem PySem.Spec PyProof.Rows L2
def endsAt (D : Ends) (i : Nat) : Ends := { nx := fun σ' H' => D.nx (σ'.set i none) H', rt := D.rt, bk := fun σ' H' => D.bk (σ'.set i none) H', ct := fun σ' H' => D.ct (σ'.set i none) H' }
def wHds (K : PySem.W.Frag) (Wout : WX) (D : Ends) : List (Value × Option Nat × (Addr → Value → Option Addr → TS)) → WX
  | [] => Wout
  | (c, some i, ts) :: r => fun cls d σ H => ∃ b, PySem.W.exmOne K cls c = some b ∧ (b = true → ∀ a, H a = none → ts a cls d (endsAt D i) (σ.set i (some (.ref a))) H) ∧ (b = false → wHds K Wout D r cls d σ H)
  | (c, none, ts) :: r => fun cls d σ H => ∃ b, PySem.W.exmOne K cls c = some b ∧ (b = true → ∀ a, H a = none → ts a cls d D σ H) ∧ (b = false → wHds K Wout D r cls d σ H)
inductive HdX (X : Cx) : List ExceptHandler → List (Value × Option Nat × (Addr → Value → Option Addr → TS)) → Prop
  | nil : HdX X [] []
  | only {x : Str} {c : Value} {ts : Addr → Value → Option Addr → TS} {b₀ : Stmt} {suite : List Stmt} {np pos' : Pos} {hds : List ExceptHandler} {l : List (Value × Option Nat × (Addr → Value → Option Addr → TS))} (hc : Names X x c)
      (hsu : ∀ (a : Addr) (oe : Obj) (cls : Value) (d : Option Addr) (pn : List (Addr × Obj)), Zn cls d oe → (∃ vs, oe.data = .fields vs) → PSs (X.suite a ((a, oe) :: pn)) (b₀ :: suite) (ts a cls d)) (r : HdX X hds l) :
      HdX X (.ExceptHandler (some (.Name x np)) none (b₀ :: suite) pos' :: hds) ((c, none, ts) :: l)
  | as_ {x n : Str} {c : Value} {i : Nat} {ts : Addr → Value → Option Addr → TS} {b₀ : Stmt} {suite : List Stmt} {np pos' : Pos} {hds : List ExceptHandler} {l : List (Value × Option Nat × (Addr → Value → Option Addr → TS))} (hi : X.N[i]? = some n) (hln : X.env.kindOf n = some .local) (hc : Names X x c)
      (hsu : ∀ (a : Addr) (oe : Obj) (cls : Value) (d : Option Addr) (pn : List (Addr × Obj)), Zn cls d oe → (∃ vs, oe.data = .fields vs) → PSs (X.suite a ((a, oe) :: pn)) (b₀ :: suite) (ts a cls d)) (r : HdX X hds l) :
      HdX X (.ExceptHandler (some (.Name x np)) (some n) (b₀ :: suite) pos' :: hds) ((c, some i, ts) :: l)
section
variable {X : Cx} {body : List Stmt} {h₀ : ExceptHandler} {hds : List ExceptHandler} {l : List (Value × Option Nat × (Addr → Value → Option Addr → TS))} {pos : Pos} {tb : WX → TS} {Wout : WX}
theorem ps_try_hds (hN : X.N.Nodup) (hs : X.stack = X.env :: X.outer) (hf : X.env.frame = some X.env.locals) (tk : Takes X Wout)
    (hb : ∀ (W : WX) (pn : List (Addr × Obj)) (xe : Value → Shared → Prop), Takes (X.tr pn xe) W → PassesOwn (model X.prog X.w) X.A X.env xe → PSs (X.tr pn xe) body (tb W))
    (hh : HdX X (h₀ :: hds) l) : PS X (.Try body (h₀ :: hds) [] [] pos) (fun D σ H => tb (wHds X.K Wout D l) D σ H) := by
  refine ⟨fun pins s σ H D I h => ?_⟩
  have ok := I.ok
  have hfr : X.A.frames = some (X.env :: X.outer) := by rw [ok.frames, hs]
  refine wpAny_Try_except ?_
  refine wpAny_mono ((hb (wHds X.K Wout D l) (X.pn ++ pins) (fun e s₁ => wpAny (model X.prog X.w) X.A (noteFrame e X.env) (fun _ s₂ => wpAny (model X.prog X.w) X.A (setFlight e none) (fun _ s₃ =>
    wpAny (model X.prog X.w) X.A (handleBy e X.env (h₀ :: hds)) (SP X pins D) X.xe s₃) X.xe s₂) X.xe s₁) (fun u s' xx => ?_) PassesOwn.looking).run [] s σ H D (I.toTry _) h) (fun f s1 hsp => ?_) (fun e s1 he => he)
  · -- the catch
    obtain ⟨a, B, sI, pins', σ', H', cls, d, rfl, J', nb, up, sky, na, os, ag, w⟩ := xx
    have J : Inv X pins σ' H' sI := J'.ofTry ok
    have sky' : Sky B (X.env :: X.outer) a (Zn cls d) X.env.locals s'.heap := by rw [← hs]; exact sky
    show wpAny (model X.prog X.w) X.A (noteFrame (.ref a) X.env) _ _ _
    refine Sky.land Zn.steady hfr hf sky' fun h3 fl3 up3 => ?_
    have J3 : Inv X pins σ' H' { s' with heap := h3 } := J.landed nb fl3.1 (up.trans up3) os ag
    obtain ⟨oe3, vs3, he3, hz3, hd3⟩ := fl3.there
    have notFr : ∀ {h : Heap} {o : Obj} {vs : Array Value}, h.FunFrames B (X.env :: X.outer) → h.get? a = some o → o.data = .fields vs → a ∉ frs (X.env :: X.outer) := fun {h o vs} ff e dd hm => by
      obtain ⟨_, o', e', hnf⟩ := ff.mem hm
      rw [e] at e'; cases e'
      exact hnf _ dd
    have nfr := notFr fl3.2.2.1 he3 hd3
    have nL : a ≠ X.env.locals := fun z => nfr (List.mem_filterMap.mpr ⟨X.env, List.mem_cons_self, by rw [hf, z]⟩)
    have nF : a ∉ X.fs := fun hm => by
      obtain ⟨e, he, q⟩ := List.mem_filterMap.mp hm
      exact nfr (List.mem_filterMap.mpr ⟨e, List.mem_cons_of_mem _ he, q⟩)
    have S3 := J3.suite he3 hd3 na nL nF
    have go : ∀ {hds' : List ExceptHandler} {l' : List (Value × Option Nat × (Addr → Value → Option Addr → TS))}, HdX X hds' l' → wHds X.K Wout D l' cls d σ' H' →
        wpAny (model X.prog X.w) X.A (handleBy (.ref a) X.env hds') (SP X pins D) X.xe { s' with heap := h3 } := by
      intro hds' l' hk
      induction hk with
      | nil =>
        intro w
        refine wpAny_handleBy_nil ?_
        obtain ⟨k1, k2, k3, oe, vs, T, oT, ts', he, hz, hd, h1, hr⟩ := id fl3
        unfold PySem.passOn
        refine wpAny_bind (wpAny_field he hd h1 ?_)
        rw [if_neg (show ¬ ((Value.ref T == Value.none) = true) from by simp)]
        have fin : wpAny (model X.prog X.w) X.A (setFlight (.ref a) X.env.frame) (fun _ s4 => wpAny (model X.prog X.w) X.A (throw (.ref a) : Sem Flow) (SP X pins D) X.xe s4) X.xe { s' with heap := h3 } := by
          rw [hf]
          refine HandSPX.setFlight_upZ fl3 fun h4 hh4 up4 => wpAny_throw (tk _ _ ?_)
          exact ⟨a, B, sI, pins, σ', H', cls, d, rfl, J, nb, (up.trans up3).trans up4, .inr (.inr (by rw [hs]; exact hh4)), na, os, ag, w⟩
        first
          | exact wpAny_bind (wpAny_pure (wpAny_bind fin))
          | exact wpAny_bind fin
      | @only x c ts b₀ suite np pos' hds2 l2 hc hsu r ih =>
        intro w
        obtain ⟨b, hb1, hyes, hno⟩ := w
        refine wpAny_handleBy_cons (codeAny_handlers_test ?_) (by intro q; cases q)
        have LT : PySem.W.Looks (model X.prog X.w) h3 (typeOf (.ref a)) cls := fun A Q E s k q => wpAny_typeOf_ref (k _ _ he3) (by rw [hz3.1]; exact q)
        have LM := PySem.W.exm_one (M := model X.prog X.w) (J3.kIn) LT hb1
        have test : ∀ {Q : Value → Shared → Prop} {E : Value → Shared → Prop}, Q c { s' with heap := h3 } → wpAny (model X.prog X.w) (X.A.mark (some (.ref a))) (eval (.Name x np) X.env) Q E { s' with heap := h3 } := fun {Q E} q => by
          obtain ⟨hg, hdbg, hm | ⟨hm, hv, hnn⟩⟩ := hc
          · exact ld_glob (X := X.suite a ((a, oe3) :: (X.pn ++ pins))) S3 hg hm q hdbg
          · exact ld_blt (X := X.suite a ((a, oe3) :: (X.pn ++ pins))) S3 hg hm hv q hnn hdbg
        refine test (LM.here ?_)
        cases b with
        | true =>
          refine codeAny_handlers_suite ?_
          refine HandSPX.lands_againZ fl3 fun h4 fl4 up4 => ?_
          have J4 : Inv X pins σ' H' { s' with heap := h4 } := J.landed nb fl4.1 ((up.trans up3).trans up4) os ag
          obtain ⟨oe4, vs4, he4, hz4, hd4⟩ := fl4.there
          have S4 := J4.suite he4 hd4 na nL nF
          refine wpAny_mono ((hsu a oe4 cls d (X.pn ++ pins) hz4 ⟨_, hd4⟩).run [] _ _ H' _ S4 (hyes rfl a na)) (fun f s6 hsp => ?_) (fun _ _ z => False.elim z)
          cases f with
          | next =>
            obtain ⟨σ6, H6, S6, q6⟩ := hsp
            exact ⟨_, _, S6.unsuite ok, q6⟩
          | brk =>
            obtain ⟨σ6, H6, S6, q6⟩ := hsp
            exact ⟨_, _, S6.unsuite ok, q6⟩
          | cont =>
            obtain ⟨σ6, H6, S6, q6⟩ := hsp
            exact ⟨_, _, S6.unsuite ok, q6⟩
          | ret u =>
            obtain ⟨v6, σ6, H6, S6, r6, q6⟩ := hsp
            exact ⟨_, _, _, S6.unsuite ok, r6, q6⟩
        | false =>
          show wpAny _ X.A (handleBy (.ref a) X.env hds2) _ _ _
          exact ih (hno rfl)
      | @as_ x n c i ts b₀ suite np pos' hds2 l2 hi hln hc hsu r ih =>
        intro w
        obtain ⟨b, hb1, hyes, hno⟩ := w
        refine wpAny_handleBy_cons (codeAny_handlers_test ?_) (by intro q; cases q)
        have LT : PySem.W.Looks (model X.prog X.w) h3 (typeOf (.ref a)) cls := fun A Q E s k q => wpAny_typeOf_ref (k _ _ he3) (by rw [hz3.1]; exact q)
        have LM := PySem.W.exm_one (M := model X.prog X.w) (J3.kIn) LT hb1
        have test : ∀ {Q : Value → Shared → Prop} {E : Value → Shared → Prop}, Q c { s' with heap := h3 } → wpAny (model X.prog X.w) (X.A.mark (some (.ref a))) (eval (.Name x np) X.env) Q E { s' with heap := h3 } := fun {Q E} q => by
          obtain ⟨hg, hdbg, hm | ⟨hm, hv, hnn⟩⟩ := hc
          · exact ld_glob (X := X.suite a ((a, oe3) :: (X.pn ++ pins))) S3 hg hm q hdbg
          · exact ld_blt (X := X.suite a ((a, oe3) :: (X.pn ++ pins))) S3 hg hm hv q hnn hdbg
        refine test (LM.here ?_)
        cases b with
        | true =>
          refine codeAny_handlers_suite_as ?_
          refine HandSPX.lands_againZ fl3 fun h4 fl4 up4 => ?_
          have J4 : Inv X pins σ' H' { s' with heap := h4 } := J.landed nb fl4.1 ((up.trans up3).trans up4) os ag
          obtain ⟨oe4, vs4, he4, hz4, hd4⟩ := fl4.there
          have S4 := J4.suite he4 hd4 na nL nF
          refine store_ok (X := X.suite a ((a, oe4) :: (X.pn ++ pins))) (v := .ref a) S4 hN hi (.inl hln) rfl (fun s5 S5 => ?_) (.inr hln)
          refine wpAny_mono ((hsu a oe4 cls d (X.pn ++ pins) hz4 ⟨_, hd4⟩).run [] s5 _ H' _ S5 (hyes rfl a na)) (fun f s6 hsp => ?_) (fun _ _ z => False.elim z)
          have end_ : ∀ {σ6 : L2.St} {H6 : Hp} {Q : Shared → Prop}, Inv (X.suite a ((a, oe4) :: (X.pn ++ pins))) [] σ6 H6 s6 → (∀ s7, Inv X pins (σ6.set i none) H6 s7 → Q s7) →
              wpAny (model X.prog X.w) X.A (do bindName X.env n .none; unbindBehindTheSuite X.env n pos') (fun _ s7 => Q s7) X.xe s6 := fun {σ6 H6 Q} S6 hq => gone_ok (S6.unsuite ok) hN hi hln hq
          cases f with
          | next =>
            obtain ⟨σ6, H6, S6, q6⟩ := hsp
            exact end_ S6 fun s7 J7 => ⟨_, _, J7, q6⟩
          | brk =>
            obtain ⟨σ6, H6, S6, q6⟩ := hsp
            exact end_ S6 fun s7 J7 => ⟨_, _, J7, q6⟩
          | cont =>
            obtain ⟨σ6, H6, S6, q6⟩ := hsp
            exact end_ S6 fun s7 J7 => ⟨_, _, J7, q6⟩
          | ret u =>
            obtain ⟨v6, σ6, H6, S6, r6, q6⟩ := hsp
            exact end_ S6 fun s7 J7 => ⟨_, _, _, J7, r6, q6⟩
        | false =>
          show wpAny _ X.A (handleBy (.ref a) X.env hds2) _ _ _
          exact ih (hno rfl)
    exact go hh w
  · cases f with
    | next =>
      obtain ⟨σ', H', J', q⟩ := hsp
      exact wpAny_execs_nil ⟨σ', H', J'.ofTry ok, q⟩
    | brk =>
      obtain ⟨σ', H', J', q⟩ := hsp
      exact ⟨σ', H', J'.ofTry ok, q⟩
    | cont =>
      obtain ⟨σ', H', J', q⟩ := hsp
      exact ⟨σ', H', J'.ofTry ok, q⟩
    | ret u =>
      obtain ⟨v, σ', H', J', r, q⟩ := hsp
      exact ⟨v, σ', H', J'.ofTry ok, r, q⟩
end
end L2N

set_option Elab.async false
set_option linter.all false
set_option maxRecDepth 100000
set_option maxHeartbeats 2000000
/-! X3: a lambda handed to a def that calls it in a try. -/
namespace LamX
open PySem PySem.Spec PyProof.Rows L2
/-- the lambda's own context, its exceptions with no context of their own -/
def lamCxN (X : Cx) (A : Around) (outer : List Env) (s : Shared) (H : Hp) (E : XK) (scope : Scope) (f c' : Addr) : Cx :=
  { lamCx X A outer s H E scope f c' with xe := fun e s' => wpAny (model X.prog X.w) (A.deeper (lamEnv X scope s.heap.objs.size f c')) (leaving (lamEnv X scope s.heap.objs.size f c') e) (fun _ s'' => L2N.CX X.prog X.w outer H s E e s'') (fun e' s'' => L2N.CX X.prog X.w outer H s E e' s'') s' }
theorem lam_startN {X : Cx} {A : Around} {outer : List Env} {s s1 : Shared} {H HZ : Hp} {E : XK} {scope : Scope} {f c' : Addr} {σ : L2.St} (I : Inv (lamCx X A outer s H E scope f c') [] σ HZ s1) : Inv (lamCxN X A outer s H E scope f c') [] σ HZ s1 :=
  I.toTry (fun e s' => wpAny (model X.prog X.w) (A.deeper (lamEnv X scope s.heap.objs.size f c')) (leaving (lamEnv X scope s.heap.objs.size f c') e) (fun _ s'' => L2N.CX X.prog X.w outer H s E e s'') (fun e' s'' => L2N.CX X.prog X.w outer H s E e' s'') s')
section
variable {X : Cx} {pins : List (Addr × Obj)} {σ : L2.St} {H : Hp} {s : Shared}
/-- the lambda is made: its code object is new, or found in the table -/
theorem lam_make3 {T : List (Addr × Str)} {c P : Addr} {params : Arguments} {body : Expr} {scope : Scope} {pos : Pos} {E : Value → Shared → Prop} {Q : Value → Shared → Prop} (I : Inv X pins σ H s) (TB : TabB X.base X.mg c P) (hcode : X.env.code = .ref c)
    (hm : (P, X.env.qual ++ "<lambda>") ∈ T) (hu : ∀ p ∈ T, p.1 = P → p.2 = X.env.qual ++ "<lambda>") (hT : Tabs T H) (hdef : defaultsOf params X.env = ([], [])) (hfree : ∀ y ∈ scope.names, y.2 = .free → ∃ c, X.env.cells.lookup y.1 = some c)
    (h : ∀ (f c' : Addr) (pm ctv : Value) (H1 : Hp) (s' : Shared), Inv X pins σ H1 s' → ExtN H H1 → (∀ b, H b ≠ none → H1 b ≠ none) → Tabs T H1 →
      s'.heap.get? f = some (PySem.W.kla_obj "<lambda>" (X.env.qual ++ "<lambda>") params body scope (cloFrom X.env.cells scope.names []) pm c' ctv) → H1 f = none → f ∉ frs X.stack → H1 c' = some (CodeO c' (X.env.qual ++ "<lambda>")) → Q (.ref f) s') :
    wpAny (model X.prog X.w) X.A (eval (.Lambda params body scope pos) X.env) Q E s := by
  obtain ⟨ps, hP, ht, ha⟩ := hT _ hm
  refine PySem.W.kla_eval hdef ?_
  have bP : s.heap.BuiltinsAt X.mg P := TB.bm.keeps I.bk
  have hP' : s.heap.get? P = some { cls := .none, data := .fields ps } := I.hok P _ hP
  have nofr : ∀ f, s.heap.objs.size ≤ f → f ∉ frs X.stack := fun f hf z => by
    rcases List.mem_cons.mp (I.stkSub _ z) with e | e
    · have h1 := I.lt
      rw [← e] at h1
      exact Nat.lt_irrefl _ (Nat.lt_of_lt_of_le h1 hf)
    · exact I.nofs hf e
  cases hc : codeAmong pos ps.toList with
  | none =>
    refine PySem.W.kla_makeFunction (mg := X.mg) (c := c) (P := P) (ps := ps) (closure_ok hfree) I.ok.glob (I.mod.glob.keeps I.bk) hcode (TB.code.keeps I.bk) hP' ht hc TB.gP bP fun c' ctv h' tk hx hge hlt hrec htb => ?_
    obtain ⟨c2, oc, vs, t, e2, hoc, hd, hv⟩ := hrec
    cases e2
    have hsz : s.heap.objs.size ≤ h'.objs.size := Nat.le_trans hge (Nat.le_of_lt hlt)
    have nC : H c' = none := I.hok.fresh hge
    have I1 := inv_table (t' := tk) (more := #[rawInt pos.line, rawInt pos.col, .ref c']) (h' := h'.push (PySem.W.kla_obj "<lambda>" (X.env.qual ++ "<lambda>") params body scope (cloFrom X.env.cells scope.names []) ((X.mg "__name__").getD .none) c' ctv)) I hP
      (fun b o hb e => Heap.get?_push_of_some _ (hx b o hb e)) (Heap.get?_push_of_some _ htb) hge ⟨oc, vs, t, Heap.get?_push_of_some _ hoc, hd, hv⟩
    have hE : ExtN H (upd (upd H P (.tbl (ps ++ #[rawInt pos.line, rawInt pos.col, .ref c']))) c' (CodeO c' (X.env.qual ++ "<lambda>"))) := fun b o e n => by
      rw [upd_ne (ne_of_none e nC), upd_ne (fun z => n ps (Option.some.inj (e.symm.trans (by rw [z]; exact hP))))]
      exact e
    have eL : (ps ++ #[rawInt pos.line, rawInt pos.col, .ref c']).toList = ps.toList ++ [rawInt pos.line, rawInt pos.col, .ref c'] := by simp
    refine h h'.objs.size c' ((X.mg "__name__").getD .none) ctv _ _ I1 hE (fun b hb => by
      by_cases e1 : b = c'
      · rw [e1, upd_same]; simp
      · rw [upd_ne e1]
        by_cases e2 : b = P
        · rw [e2, upd_same]; simp
        · rw [upd_ne e2]; exact hb) (fun p hp => ?_) (Heap.get?_push_size _ rfl) ?_ (nofr _ hsz) upd_same
    · by_cases hb : p.1 = P
      · rw [hu p hp hb, hb]
        refine ⟨_, by rw [upd_ne (ne_of_none hP nC), upd_same], by rw [eL]; exact PySem.TriplesOk_snoc _ _ _ _ ht, fun p' cv hcv => ?_⟩
        rw [eL] at hcv
        rcases among_app _ ht hcv with z | z
        · obtain ⟨c0, e1, e2⟩ := ha p' cv z
          exact ⟨c0, e1, hE _ _ e2 codeO_ne⟩
        · exact ⟨c', z, upd_same⟩
      · obtain ⟨ps', a1, a2, a3⟩ := hT p hp
        refine ⟨ps', by rw [upd_ne (ne_of_none a1 nC), upd_ne hb]; exact a1, a2, fun p' cv hcv => ?_⟩
        obtain ⟨c0, e1, e2⟩ := a3 p' cv hcv
        exact ⟨c0, e1, hE _ _ e2 codeO_ne⟩
    · have n1 : h'.objs.size ≠ c' := Nat.ne_of_gt hlt
      have n2 : h'.objs.size ≠ P := Nat.ne_of_gt (Nat.lt_of_lt_of_le (Heap.lt_size hP') hsz)
      rw [upd_ne n1, upd_ne n2]
      exact I.hok.fresh hsz
  | some cv =>
    obtain ⟨c', e, hco⟩ := ha pos cv hc
    subst e
    refine PySem.W.kla_makeFunctionHit (mg := X.mg) (c := c) (P := P) (ps := ps) (closure_ok hfree) I.ok.glob (I.mod.glob.keeps I.bk) hcode (TB.code.keeps I.bk) hP' ht hc bP fun ctv h' tk hx hsz => ?_
    have I1 : Inv X pins σ H { s with heap := h'.push (PySem.W.kla_obj "<lambda>" (X.env.qual ++ "<lambda>") params body scope (cloFrom X.env.cells scope.names []) ((X.mg "__name__").getD .none) c' ctv), toks := tk } := I.kept fun b o e => Heap.get?_push_of_some _ (hx b o e)
    exact h h'.objs.size c' ((X.mg "__name__").getD .none) ctv H _ I1 (ExtN.refl H) (fun _ z => z) hT (Heap.get?_push_size _ rfl) (I.hok.fresh hsz) (nofr _ hsz) hco
end
section
variable {X : Cx} {pins : List (Addr × Obj)} {σ : L2.St} {H HZ : Hp} {s s1 : Shared}
/-- x(), in the def that got the lambda: Z is that def's context, entered at s -/
theorem pe_actN {CXg : CXT} {Eg : XK} {Ng : List Str} {qg : Str} {sg : Scope} {g f c' : Addr} {cdg pm ctv : Value} {params : Arguments} {body : Expr} {scope : Scope} {k i : Nat} {a : Str} {pn : List (Addr × Obj)} {xe : Value → Shared → Prop} {W : WX} {E : XK} {tb : TE} {p1 p2 : Pos}
    (I : Inv X pins σ H s) (L : LamS X.env.scope scope) (hf : s.heap.get? f = some (PySem.W.kla_obj "<lambda>" (X.env.qual ++ "<lambda>") params body scope (cloFrom X.env.cells scope.names []) pm c' ctv)) (hfn : H f = none) (hfr : f ∉ frs X.stack)
    (hbind : bindArgs (PySem.W.kla_fn "<lambda>" (X.env.qual ++ "<lambda>") params body scope (cloFrom X.env.cells scope.names []) pm (.ref c') ctv) ⟨[], []⟩ = pure [])
    (tk : L2N.Takes ((cxOf CXg X.prog X.w X.K X.mg X.base Ng qg sg g cdg X.A X.stack s H Eg).tr pn xe) W) (hW : ∀ cls d σ' H', E cls d H' → W cls d σ' H') (hr : Room (k + 1) (X.A.deeper (envOfC qg sg s.heap.objs.size g cdg)))
    (hbody : ∀ (A : Around) (outer : List Env) (s : Shared) (H : Hp), Room k (A.deeper (lamEnv X scope s.heap.objs.size f c')) → PE (lamCxN X A outer s H E scope f c') body tb)
    (hN : Ng[i]? = some a) (hv : Vis sg a) (hd : (a == ("__debug__" : Str)) = false := by decide) (hcd : (a == ("__classdict__" : Str)) = false := by decide) :
    PE ((cxOf CXg X.prog X.w X.K X.mg X.base Ng qg sg g cdg X.A X.stack s H Eg).tr pn xe) (.Call (.Name a p1) [] [] p2)
      (fun σZ HZ Q => σZ[i]? = some (some (.ref f)) ∧ HZ c' = some (CodeO c' (X.env.qual ++ "<lambda>")) ∧ tb σ HZ Q) := by
  refine ⟨fun pinsZ sZ σZ HZ Q IZ h => ?_⟩
  obtain ⟨hs, hc, ht⟩ := h
  refine wpAny_Call_Name_kw (thn ((pe_var (pos := p1) (i := i) hN hv hd hcd).run pinsZ sZ σZ HZ (fun v H1 => v = .ref f ∧ H1 = HZ) IZ ⟨.ref f, hs, rfl, rfl⟩) fun u s1 ⟨v, H1, I1, r1, q1⟩ => ?_)
  obtain ⟨ev, eH⟩ := q1
  subst ev
  rw [eH] at I1
  obtain rfl : u = Value.ref f := r1
  have of1 : s1.heap.get? f = some (PySem.W.kla_obj "<lambda>" (X.env.qual ++ "<lambda>") params body scope (cloFrom X.env.cells scope.names []) pm c' ctv) := I1.base.keep f _ hf hfn hfr (fun z => nomatch (show f ∈ ([] : List Addr) from z))
  refine PySem.W.callWith_F0 ⟨_, _, _, _, of1⟩ ?_
  have un : Un (frs X.stack) [] H HZ s.heap s1.heap := I1.base
  obtain ⟨⟨oc, vs, t, hoc, hdc, hvc⟩, _, _⟩ := I1.hok c' _ hc
  have rc : codeAny (model X.prog X.w) (X.A.deeper (envOfC qg sg s.heap.objs.size g cdg)) (.call (.ref f) ⟨[], []⟩) (CR (L2N.CX X.prog X.w) (envOfC qg sg s.heap.objs.size g cdg :: X.stack) X.prog X.w HZ s1 Q E) s1 := by
    refine PySem.W.kla_callFunE hr.depth of1 rfl L.co L.gen rfl ⟨c', oc, vs, t, rfl, hoc, hdc, hvc⟩ ?_
    rw [hbind]
    refine wpAny_pure (wpAny_newFunctionEnv (fun y hy => (L.own y hy).2) (fun y hy => absurd hy (by simp)) (fun h₁ hns hsb => ⟨I1.nolimit.fresh _ hsb, ?_⟩) L.kind)
    show codeAny _ _ (.expr body (lamEnv X scope s1.heap.objs.size f c')) _ _
    have kp : ∀ b o, s1.heap.get? b = some o → h₁.get? b = some o := fun b o e => hsb.extBut b o (Nat.ne_of_lt (Heap.lt_size e)) (Heap.get?_push_of_some _ e)
    have J : Inv (lamCxN X (X.A.deeper (envOfC qg sg s.heap.objs.size g cdg)) (envOfC qg sg s.heap.objs.size g cdg :: X.stack) s1 HZ E scope f c') [] σ HZ { s1 with heap := h₁, toks := s1.toks + ([] : List (Str × Value)).length } :=
      lam_startN (lam_start2 I L I1.env0 hr.hd un hns kp)
    refine PySem.W.kla_codeExpr (wpAny_mono ((hbody _ _ s1 HZ (hr.deeper _)).run [] _ _ HZ Q J ht) (fun v s' hq => ?_) fun e s' hq => hq)
    obtain ⟨w', H', J', rv, q⟩ := hq
    exact ⟨w', H', J'.os, J'.bare, J'.base, J'.hok, rv, q⟩
  have hx : Passes (L2N.CX X.prog X.w) ((cxOf CXg X.prog X.w X.K X.mg X.base Ng qg sg g cdg X.A X.stack s H Eg).tr pn xe) E := L2N.passes_call tk hW
  refine wpAny_call (codeAny_mono rc fun r s' hq => ?_)
  cases r with
  | error e => exact hx pinsZ σZ HZ s1 e s' I1 hq
  | ok fl =>
    cases fl with
    | ret u => exact I1.after hq
    | next => exact False.elim hq
    | brk => exact False.elim hq
    | cont => exact False.elim hq
end
/-- the def that calls what it got: a calls it; TT: what it makes of the lambda's reading -/
def GivesToN (X : Cx) (Ng : List Str) (x : Str) (sg : Scope) (g : Addr) (cdg : Value) (bg : List Stmt) (a : Str) (q : Str) (TT : (XK → Hp → VK → Prop) → Hp → VK → Prop) : Prop :=
  ∀ (f c' : Addr) (s : Shared) (H : Hp) (Q : VK) (tl : XK → Hp → VK → Prop),
    (∀ (W : WX) (pn : List (Addr × Obj)) (xe : Value → Shared → Prop) (E : XK) (p1 p2 : Pos), L2N.Takes ((cxOf C8.CX0 X.prog X.w X.K X.mg X.base Ng x sg g cdg X.A X.stack s H C8.E0).tr pn xe) W → (∀ cls d σ' H', E cls d H' → W cls d σ' H') →
      PE ((cxOf C8.CX0 X.prog X.w X.K X.mg X.base Ng x sg g cdg X.A X.stack s H C8.E0).tr pn xe) (.Call (.Name a p1) [] [] p2) (fun σZ HZ Q => σZ[0]? = some (some (.ref f)) ∧ HZ c' = some (CodeO c' q) ∧ tl E HZ Q)) →
    H c' = some (CodeO c' q) → TT tl H Q →
    ∃ t, PSs (cxOf C8.CX0 X.prog X.w X.K X.mg X.base Ng x sg g cdg X.A X.stack s H C8.E0).nox bg t ∧ t { nx := fun _ H' => Q .non H', rt := Q } (L2.start Ng [.ref f]) H
def tLamN (T : List (Addr × Str)) (TT : (XK → Hp → VK → Prop) → Hp → VK → Prop) (t : XK → TE) : TE := fun σ H Q => Tabs T H ∧ ∀ H1, ExtN H H1 → (∀ b, H b ≠ none → H1 b ≠ none) → Tabs T H1 → TT (fun E H' Q' => t E σ H' Q') H1 Q
section
variable {X : Cx}
/-- x(lambda: body) -/
theorem pe_lamcallN {T : List (Addr × Str)} {TT : (XK → Hp → VK → Prop) → Hp → VK → Prop} {x a : Str} {g c P : Addr} {k : Nat} {pg : Arguments} {bg : List Stmt} {sg : Scope} {dV kV doc pm cdv ct oc : Value} {an od : Option Addr} {osl : Array (Option Value)} {Ng : List Str}
    {params : Arguments} {body : Expr} {scope : Scope} {t : XK → TE} {p lpos pos : Pos} (hg : Gl X x) (hm : X.mg x = some (.ref g)) (hk : PySem.W.keepIn X.K (.ref g) = true)
    (lk : X.K.lookup g = some ⟨oc, od, .func (PySem.W.fnOf x x pg bg sg dV kV doc pm an cdv ct), osl⟩) (hcg : PySem.W.codeIn X.K cdv x = true) (hb : L2.Binds X.K (PySem.W.fnOf x x pg bg sg dV kV doc pm an cdv ct) [a] []) (Sg : FnScope Ng [a] sg) (hNg : Ng[0]? = some a) (hva : Vis sg a)
    (hG : GivesToN X Ng x sg g cdv bg a (X.env.qual ++ "<lambda>") TT)
    (TB : TabB X.base X.mg c P) (hcode : X.env.code = .ref c) (hmT : (P, X.env.qual ++ "<lambda>") ∈ T) (hu : ∀ p ∈ T, p.1 = P → p.2 = X.env.qual ++ "<lambda>") (hr : Room (k + 2) X.A) (L : LamS X.env.scope scope) (hdef : defaultsOf params X.env = ([], []))
    (hbind : ∀ (q : Str) (cl : List (Str × Addr)) (pm cv ctv : Value), bindArgs (PySem.W.kla_fn "<lambda>" q params body scope cl pm cv ctv) ⟨[], []⟩ = pure [])
    (hbody : ∀ (A : Around) (outer : List Env) (s : Shared) (H : Hp) (E : XK) (f c' : Addr), Room k (A.deeper (lamEnv X scope s.heap.objs.size f c')) → PE (lamCxN X A outer s H E scope f c') body (t E))
    (hdb : (x == ("__debug__" : Str)) = false := by decide) (hd : (a == ("__debug__" : Str)) = false := by decide) (hcd : (a == ("__classdict__" : Str)) = false := by decide) :
    PE X (.Call (.Name x p) [.Lambda params body scope lpos] [] pos) (tLamN T TT t) := by
  refine ⟨fun pins s σ H Q I h => ?_⟩
  obtain ⟨hT, h⟩ := h
  refine wpAny_Call_Name_kw (ld_glob I hg hm ?_ hdb)
  refine PySem.W.callWith_K (h₀ := X.base) I.ok.mod.kin hk ?_ (by rfl) (by rfl)
  show wpAny _ _ (spliced ((false, eval (.Lambda params body scope lpos) X.env) :: backTo pos (starEach [] X.env))) _ _ s
  refine Calls.spliced_cons (lam_make3 I TB hcode hmT hu hT hdef (L.has I.ok) fun f c' pm' ctv H1 s' I1 eN tr T1 hf hfn hfr hco => ?_)
  refine Calls.spliced_nil ⟨I1.kIn, ?_⟩
  have rc : codeAny (model X.prog X.w) X.A (.call (.ref g) ⟨[.ref f], []⟩) (CR C8.CX0 X.stack X.prog X.w H1 s' Q C8.E0) s' := by
    refine run_ofS (N := Ng) (ps := [a]) (us := [.ref f]) (vs := [.ref f]) lk hcg Sg hr I1.env0 (hb s' [.ref f] I1.kIn rfl) (.cons rfl .nil) rfl fun hr' => ?_
    obtain ⟨t', ht', hq'⟩ := hG f c' s' H1 Q (fun E H' Q' => t E σ H' Q') (fun W pn xe E p1 p2 tk hW => pe_actN (i := 0) I1 L hf hfn hfr (hbind _ _ _ _ _) tk hW hr' (fun A outer s H hr2 => hbody A outer s H E f c' hr2) hNg hva hd hcd) hco (h H1 eN tr T1)
    exact ⟨t', ht'.nox, hq'⟩
  refine wpAny_call (codeAny_mono rc fun r s2 hq => ?_)
  cases r with
  | error e => exact (show False from hq).elim
  | ok fl =>
    cases fl with
    | ret u => exact I1.after hq
    | next => exact False.elim hq
    | brk => exact False.elim hq
    | cont => exact False.elim hq
end
end LamX

set_option Elab.async false
set_option linter.all false
set_option maxRecDepth 100000
set_option maxHeartbeats 2000000
/-! F2: values, states, what a run's answer owes. -/
namespace Lw
open PySem PySem.Spec PyProof.Rows L2

/-- the program's table: functions, constants, classes, by their ids or names -/
structure Tab where
  fnm : List (Nat × Str)
  cns : List (Str × PD)
  cls : List (Nat × Str)
  lms : List (Nat × Str)
  hcl : List (Nat × List Nat × Str)
  lfn : List (Nat × Str)
/-- .. the defs, the tables of code objects, the exception that the suite handles -/
structure TabX extends Tab where
  P : Nat → Option Def
  tbs : List (Addr × Str)
  ex : Option (Addr × Exn)
instance : Coe TabX Tab := ⟨TabX.toTab⟩
/-- what the top has written -/
structure Gc where
  K : PySem.W.Frag
  mg : Str → Option Value
  T : TabX

/-- the script -/
def ScrOk (K : PySem.W.Frag) (As B : List Addr) (H : Hp) (a : Addr) (xs : List V) : Prop := (H a = some (.lst xs) ∧ a ∉ As ++ B) ∨ (∃ o, H a = some (.frz o (.lst xs)) ∧ a ∉ As) ∨
  ∃ (o : Obj) (its : Array Value) (n : Nat), K.lookup a = some o ∧ o.cls = .type "list" ∧ o.dict = none ∧ o.data = .seq its n ∧ its.size ≤ sizeLine ∧ Vals xs its.toList
theorem ScrOk.sqL {K : PySem.W.Frag} {As B : List Addr} {H : Hp} {a : Addr} {xs : List V} (h : ScrOk K As B H a xs) : SqL K H a xs := by
  rcases h with h | ⟨o, h, _⟩ | h
  · exact .inl (.inl h.1)
  · exact .inl (.inr ⟨o, h⟩)
  · exact .inr h
theorem ScrOk.grow {K : PySem.W.Frag} {As As' B : List Addr} {H H' : Hp} {a : Addr} {xs : List V} (h : ScrOk K As B H a xs) (g : Gr As As' H H') : ScrOk K As' B H' a xs := by
  rcases h with ⟨h, n⟩ | ⟨o, h, n⟩ | h
  · refine .inl ⟨g.kp _ _ h (fun q => n (List.mem_append_left _ q)) (fun _ z => nomatch z), fun q => ?_⟩
    rcases List.mem_append.mp q with q | q
    · exact n (List.mem_append_left _ (g.mem q (by rw [h]; simp)))
    · exact n (List.mem_append_right _ q)
  · exact .inr (.inl ⟨o, g.kp _ _ h n (fun _ z => nomatch z), fun q => n (g.mem q (by rw [h]; simp))⟩)
  · exact .inr (.inr h)
/-- a value: As the cells, B what the frames own -/
inductive RpW (G : Gc) (As B : List Addr) (H : Hp) : V → W → Prop
  | d {v : V} {x : PD} : Rp G.K (As ++ B) H v x → RpW G As B H v (.d x)
  | bor {a : Addr} {xs : List V} {ds : List PD} : a ∈ B → a ∉ As → H a = some (.lst xs) → RpL G.K (As ++ B) H xs ds → RpW G As B H (.ref a) (.bor (.list ds))
  | loc {a : Addr} {n : Nat} : As[n]? = some a → RpW G As B H (.ref a) (.loc n)
  | scr {a : Addr} {xs : List V} {ds : List PD} : ScrOk G.K As B H a xs → RpL G.K (As ++ B) H xs ds → RpW G As B H (.ref a) (.scr ds)
  | fn {a : Addr} {f : Nat} {x : Str} : (f, x) ∈ G.T.fnm → G.mg x = some (.ref a) → RpW G As B H (.ref a) (.fn f)
  | exc {a : Addr} {x : Exn} : G.T.ex = some (a, x) → RpW G As B H (.ref a) (.exc x)
inductive RpWs (G : Gc) (As B : List Addr) (H : Hp) : List V → List W → Prop
  | nil : RpWs G As B H [] []
  | cons {v : V} {vs : List V} {w : W} {ws : List W} : RpW G As B H v w → RpWs G As B H vs ws → RpWs G As B H (v :: vs) (w :: ws)
/-- the cells -/
structure Cells.Ok (G : Gc) (As B : List Addr) (H : Hp) (S : Cells) : Prop where
  len : As.length = S.length
  nd : As.Nodup
  dis : ∀ a ∈ As, a ∉ B
  cel : Cel As H
  own : ∀ a ∈ B, H a ≠ none
  at_ : ∀ (i : Nat) (a : Addr) (x : PD), As[i]? = some a → S[i]? = some x → ∃ xs ds, H a = some (.lst xs) ∧ x = .list ds ∧ RpL G.K (As ++ B) H xs ds
  tbs : LamX.Tabs G.T.tbs H
/-- the slots -/
structure Slots (G : Gc) (As B : List Addr) (O : Nat → Option Addr) (H : Hp) (σ : L2.St) (env : Env) : Prop where
  len : env.length = σ.length
  at_ : ∀ (i : Nat) (w : W), env[i]? = some (some w) → (∀ x, w ≠ .own x) → ∃ v, σ[i]? = some (some v) ∧ RpW G As B H v w
  own : ∀ (i : Nat) (x : PD), env[i]? = some (some (.own x)) → ∃ a xs ds, O i = some a ∧ σ[i]? = some (some (.ref a)) ∧ H a = some (.lst xs) ∧ x = .list ds ∧ RpL G.K (As ++ B) H xs ds
  inj : ∀ i j a, O i = some a → O j = some a → i = j
  mem : ∀ i a, O i = some a → a ∈ B
structure Rst (G : Gc) (As B : List Addr) (O : Nat → Option Addr) (H : Hp) (σ : L2.St) (env : Env) (S : Cells) : Prop where
  cells : Cells.Ok G As B H S
  slots : Slots G As B O H σ env
/-- an exception: its class, its own dict -/
inductive RpX (G : Gc) (H : Hp) : Exn → Value → Option Addr → Prop
  | plain {c : Nat} {x : Str} {C : Addr} : (c, x) ∈ G.T.cls → G.mg x = some (.ref C) → RpX G H ⟨c, none⟩ (.ref C) none
  | lim {c : Nat} {x : Str} {C d : Addr} {v : V} {l : PD} : (c, x) ∈ G.T.lms → G.mg x = some (.ref C) → H d = some (.xd [("limit", v)]) → Rp G.K [] H v l → RpX G H ⟨c, some l⟩ (.ref C) (some d)

section
variable {G : Gc} {As As' As1 As2 B : List Addr} {O : Nat → Option Addr} {H H' H1 H2 : Hp} {σ : L2.St} {env : Env} {S S' : Cells} {v : V} {w : W} {vs : List V} {ws : List W} {x : PD}
theorem RpW.grow (c : Cel As H) (g : Gr As As' H H') (r : RpW G As B H v w) : RpW G As' B H' v w := by
  cases r with
  | d r => exact .d (r.grow c g)
  | bor h n e r => exact .bor h (fun q => n (g.mem q (by rw [e]; simp))) (g.kp _ _ e n (fun _ z => nomatch z)) (r.grow c g)
  | loc h => exact .loc (g.get h)
  | scr e r => exact .scr (e.grow g) (r.grow c g)
  | fn h m => exact .fn h m
  | exc h => exact .exc h
theorem RpWs.grow (c : Cel As H) (g : Gr As As' H H') (r : RpWs G As B H vs ws) : RpWs G As' B H' vs ws := by
  induction vs generalizing ws with
  | nil => cases r; exact .nil
  | cons v vs ih => cases r with
    | cons h t => exact .cons (h.grow c g) (ih t)
theorem RpWs.app : ∀ {vs us : List V} {ws zs : List W}, RpWs G As B H vs ws → RpWs G As B H us zs → RpWs G As B H (vs ++ us) (ws ++ zs)
  | _, _, _, _, .nil, r => r
  | _, _, _, _, .cons h r, q => .cons h (RpWs.app r q)
theorem RpWs.len : ∀ {vs : List V} {ws : List W}, RpWs G As B H vs ws → vs.length = ws.length
  | _, _, .nil => rfl
  | _, _, .cons _ r => congrArg (· + 1) (RpWs.len r)
theorem RpWs.pures : ∀ {vs : List V} {ws : List W} {xs : List PD}, RpWs G As B H vs ws → pures ws = some xs → RpL G.K (As ++ B) H vs xs
  | _, _, _, .nil, e => by
    simp [Lw.pures] at e; subst e; exact .nil
  | _, _, _, .cons h r, e => by
    unfold Lw.pures at e
    split at e
    · rename_i x xs e1 e2
      cases e
      refine .cons ?_ (RpWs.pures r e2)
      cases h <;> simp [pure?] at e1
      subst e1; assumption
    · cases e
theorem same_there (g : Same H H') {a : Addr} (h : H a ≠ none) : H' a ≠ none := fun q => by
  cases z : H a with
  | none => exact h z
  | some o => rw [g _ _ z] at q; cases q
theorem Cells.Ok.grow (k : Cells.Ok G As B H S) (g : Same H H') : Cells.Ok G As B H' S := by
  refine ⟨k.len, k.nd, k.dis, fun a h => ?_, fun a h => same_there g (k.own a h), fun i a x e1 e2 => ?_, k.tbs.ext g⟩
  · obtain ⟨o, e, n⟩ := k.cel a h
    exact ⟨o, g _ _ e, n⟩
  · obtain ⟨xs, ds, h1, h2, h3⟩ := k.at_ i a x e1 e2
    exact ⟨xs, ds, g _ _ h1, h2, h3.same g⟩
theorem Slots.grow (k : Slots G As B O H σ env) (c : Cells.Ok G As B H S) (g : Gr As As' H H') : Slots G As' B O H' σ env :=
  ⟨k.len, fun i w e n => let ⟨v, h1, h2⟩ := k.at_ i w e n; ⟨v, h1, h2.grow c.cel g⟩,
   fun i x e => let ⟨a, xs, ds, h1, h2, h3, h4, h5⟩ := k.own i x e; ⟨a, xs, ds, h1, h2, g.kp _ _ h3 (fun q => c.dis a q (k.mem i a h1)) (fun _ z => nomatch z), h4, h5.grow c.cel g⟩, k.inj, k.mem⟩
theorem Rst.same (k : Rst G As B O H σ env S) (g : Same H H') : Rst G As B O H' σ env S := ⟨k.cells.grow g, k.slots.grow k.cells (Gr.same g)⟩
/-- what a value shows -/
theorem RpW.view (k : Cells.Ok G As B H S) (r : RpW G As B H v w) (e : view S w = some x) : RpT G.K (As ++ B) H v x := by
  cases r with
  | d r => simp [Lw.view] at e; subst e; exact .of r
  | bor h n z r => simp [Lw.view] at e; subst e; exact .lst z r
  | loc h =>
    obtain ⟨xs, ds, h1, h2, h3⟩ := k.at_ _ _ _ h e
    subst h2
    exact .lst h1 h3
  | scr q r => simp [Lw.view] at e
  | fn h m => simp [Lw.view] at e
  | exc h => simp [Lw.view] at e
theorem Cells.Ok.trk (k : Cells.Ok G As B H S) : Trk (As ++ B) H := fun a h => by
  rcases List.mem_append.mp h with h | h
  · obtain ⟨o, e, _⟩ := k.cel a h
    rw [e]; simp
  · exact k.own a h

/-- what an answer owes -/
def Fin {α ι : Type} (G : Gc) (Wx : WX) (B : List Addr) (O : Nat → Option Addr) (σ : L2.St) (env : Env) (Rx : List Addr → Hp → ι → α → Prop) (Q : ι → Hp → Prop) (As : List Addr) (H : Hp) : R α → Prop
  | .ok a S' => ∀ i H' As', Gr As As' H H' → Rst G As' B O H' σ env S' → Rx As' H' i a → Q i H'
  | .exc x S' => ∀ cls dd H' As', Gr As As' H H' → Rst G As' B O H' σ env S' → RpX G H' x cls dd → Wx cls dd σ H'
  | .bad => False
variable {Wx : WX} {α β ι κ : Type} {Rx : List Addr → Hp → ι → α → Prop} {Ry : List Addr → Hp → κ → β → Prop}
theorem Fin.mono {Q Q' : ι → Hp → Prop} {r : R α} (h : Fin G Wx B O σ env Rx Q As H r) (q : ∀ i H', Q i H' → Q' i H') : Fin G Wx B O σ env Rx Q' As H r := by
  cases r with
  | ok a S' => exact fun i H' As' g k rx => q _ _ (h i H' As' g k rx)
  | exc x S' => exact h
  | bad => exact h
theorem Fin.grow {Q : ι → Hp → Prop} {r : R α} (h : Fin G Wx B O σ env Rx Q As H r) (g : Gr As As1 H H1) : Fin G Wx B O σ env Rx Q As1 H1 r := by
  cases r with
  | ok a S' => exact fun i H' As' g' k rx => h i H' As' (g.trans g') k rx
  | exc x S' => exact fun cls dd H' As' g' k rx => h cls dd H' As' (g.trans g') k rx
  | bad => exact h
theorem Fin.bind {Q : κ → Hp → Prop} {r : R α} {f : α → Cells → R β} (h : Fin G Wx B O σ env Ry Q As H (r.bind f)) :
    Fin G Wx B O σ env Rx (fun i H1 => ∃ a S1 As1, Gr As As1 H H1 ∧ Rst G As1 B O H1 σ env S1 ∧ Rx As1 H1 i a ∧ Fin G Wx B O σ env Ry Q As1 H1 (f a S1)) As H r := by
  cases r with
  | ok a S' => exact fun i H' As' g k rx => ⟨a, S', As', g, k, rx, Fin.grow (r := f a S') h g⟩
  | exc x S' => exact h
  | bad => exact h
theorem Fin.calm {Q : κ → Hp → Prop} {r : R α} {f : α → Cells → R β} (h : Fin G Wx B O σ env Ry Q As H (r.calm f)) :
    Fin G (fun _ _ _ _ => False) B O σ env Rx (fun i H1 => ∃ a S1 As1, Gr As As1 H H1 ∧ Rst G As1 B O H1 σ env S1 ∧ Rx As1 H1 i a ∧ Fin G Wx B O σ env Ry Q As1 H1 (f a S1)) As H r := by
  cases r with
  | ok a S' => exact fun i H' As' g k rx => ⟨a, S', As', g, k, rx, Fin.grow (r := f a S') h g⟩
  | exc x S' => exact h.elim
  | bad => exact h
end

/-! ### the readings -/
section
variable (G : Gc) (Wx : WX) (C : Callee)
/-- .. of an expression, a list, a test -/
def tE (e : E) : TE := fun σ H Q => ∃ As B O env S, Rst G As B O H σ env S ∧ Fin G Wx B O σ env (fun As' H' => RpW G As' B H') Q As H (evE C e env S)
def tL (es : List E) : TA := fun σ H Q => ∃ As B O env S, Rst G As B O H σ env S ∧ Fin G Wx B O σ env (fun As' H' => RpWs G As' B H') Q As H (evL C es env S)
def tT (e : E) : TT := fun σ H Q => ∃ As B O env S, Rst G As B O H σ env S ∧ Fin G Wx B O σ env (fun _ _ (i : Bool) b => i = b) Q As H (evT C e env S)
end
theorem _root_.L2.PE.impL {X : Cx} {e : Expr} {t t' : TE} (h : PE X e t) (q : ∀ σ H Q, t' σ H Q → t σ H Q) : PE X e t' := ⟨fun pins s σ H Q I hw => h.run pins s σ H Q I (q _ _ _ hw)⟩
theorem _root_.L2.PT.impL {X : Cx} {e : Expr} {t t' : TT} (h : PT X e t) (q : ∀ σ H Q, t' σ H Q → t σ H Q) : PT X e t' := ⟨fun pins s σ H Q I hw => h.run pins s σ H Q I (q _ _ _ hw)⟩
theorem _root_.L2.PW.impL {X : Cx} {e : Expr} {t t' : TT} (h : PW X e t) (q : ∀ σ H Q, t' σ H Q → t σ H Q) : PW X e t' := ⟨fun wh pins s σ H Q I hw => h.run wh pins s σ H Q I (q _ _ _ hw)⟩
theorem _root_.L2.PA.impL {X : Cx} {e : List Expr} {t t' : TA} (h : PA X e t) (q : ∀ σ H Q, t' σ H Q → t σ H Q) : PA X e t' := ⟨fun pos pins s σ H Q I hw => h.run pos pins s σ H Q I (q _ _ _ hw)⟩
theorem _root_.L2.PS.impL {X : Cx} {e : Stmt} {t t' : TS} (h : PS X e t) (q : ∀ D σ H, t' D σ H → t D σ H) : PS X e t' := ⟨fun pins s σ H D I hw => h.run pins s σ H D I (q _ _ _ hw)⟩
theorem _root_.L2.PSs.impL {X : Cx} {e : List Stmt} {t t' : TS} (h : PSs X e t) (q : ∀ D σ H, t' D σ H → t D σ H) : PSs X e t' := ⟨fun pins s σ H D I hw => h.run pins s σ H D I (q _ _ _ hw)⟩
end Lw

set_option Elab.async false
set_option linter.all false
set_option maxRecDepth 100000
set_option maxHeartbeats 2000000
/-! X5: a tuple from its end. -/
namespace HT
open PySem PySem.Spec PyProof.Rows
section
variable {prog : Program} {w : World} {A : Around} {E : Value → Shared → Prop} {s : Shared}
theorem places_back (n : Nat) : Builtin.Slice.slicePlaces ((n : Int) - 1) (-1) (-1) = n := by
  unfold Builtin.Slice.slicePlaces
  by_cases h : n = 0
  · subst h; decide
  · first
    | (simp; omega)
    | (rw [if_neg (by decide)]; split <;> omega)
    | (split <;> split <;> omega)
theorem sliceApplied_back {sl : Addr} {vs : Value} {n : Nat} {Q : Int × Int × Nat → Shared → Prop} (hs : s.heap.IsSliceOf sl .none .none vs) (ps : IsPart vs (some (-1)))
    (h : Q ((n : Int) - 1, -1, n) s) : wpAny (model prog w) A (Builtin.Slice.sliceApplied (.ref sl) (pure (n : Int))) Q E s := by
  obtain ⟨os, hos, hcs, hds⟩ := id hs
  unfold Builtin.Slice.sliceApplied Builtin.Slice.sliceFields
  refine wpAny_bind (wpAny_bind (wpAny_field hos hds (x := .none) rfl (wpAny_bind (wpAny_field hos hds (x := .none) rfl (wpAny_bind (wpAny_field hos hds (x := vs) rfl (wpAny_pure ?_)))))))
  refine wpAny_bind (slicePart_ ps ?_)
  show wpAny _ _ (if ((-1 : Int) == 0) = true then _ else _) _ _ s
  rw [if_neg (by decide)]
  refine wpAny_bind (slicePart_none (wpAny_bind (slicePart_none (wpAny_bind (wpAny_pure ?_)))))
  show wpAny _ _ (match Builtin.Slice.sliceAdjust none none (-1) (n : Int) with | (lo, hi) => pure (lo, (-1 : Int), Builtin.Slice.slicePlaces lo hi (-1))) _ _ s
  have e : Builtin.Slice.sliceAdjust none none (-1) (n : Int) = ((n : Int) - 1, -1) := by
    first
    | rfl
    | (unfold Builtin.Slice.sliceAdjust; simp)
  rw [e]
  show wpAny _ _ (pure ((n : Int) - 1, (-1 : Int), Builtin.Slice.slicePlaces ((n : Int) - 1) (-1) (-1))) _ _ s
  rw [places_back]
  exact wpAny_pure h
theorem pick_back (xs : Array Value) : ((List.range xs.size).filterMap fun (m : Nat) => xs[((xs.size : Int) - 1 + (m : Int) * (-1)).toNat]?).toArray = xs.toList.reverse.toArray := by
  have e : (List.range xs.size).filterMap (fun (m : Nat) => xs[((xs.size : Int) - 1 + (m : Int) * (-1)).toNat]?) = ((List.range xs.size).map (fun k => xs.size - 1 - k)).filterMap (xs[·]?) := by
    rw [List.filterMap_map]
    congr 1
    funext m
    have : ((xs.size : Int) - 1 + (m : Int) * (-1)).toNat = xs.size - 1 - m := by omega
    rw [this]
    rfl
  rw [e, PySem.W.krv_range, List.filterMap_reverse, PySem.W.krv_all]
theorem getItem_tuple_back {t sl : Addr} {items : Array Value} {vs : Value} {Q : Value → Shared → Prop} (ht : IsTup s.heap t items) (hs : s.heap.IsSliceOf sl .none .none vs) (ps : IsPart vs (some (-1)))
    (h : Q (.ref s.heap.objs.size) { s with heap := s.heap.push { cls := .type "tuple", data := .seq items.toList.reverse.toArray } })
    (hsz : items.size ≤ sizeLine) : wpAny (model prog w) A (getItem (.ref t) (.ref sl)) Q E s := by
  have htake : sizeOk (.seq items.toList.reverse.toArray) := by
    show items.toList.reverse.toArray.size ≤ sizeLine
    rw [List.size_toArray, List.length_reverse, Array.length_toList]
    omega
  obtain ⟨os, hos, hcs, hds⟩ := id hs
  have hTs : s.TypeIs (.ref sl) "slice" := ⟨os, hos, hcs⟩
  unfold getItem
  try with_reducible refine wpAny_holding ?_
  first | refine wpAny_bind (wpAny_pure ?_) | skip
  refine wpAny_bind (wpAny_sequenceKey ht.typeIs (by decide) ?_)
  refine wpAny_bind (wpAny_callSpecial?_slot (name := Str.ofString "__getitem__") ht.typeIs PyProof.Rows.slot_tuple_getitem
    (wpAny_call_entry PyProof.Rows.slot_tuple_getitem ht.typeIs entry_tuple_getitem ?_ (args_tuple_getitem _ _)))
  show wpAny _ _ (Builtin.Tuple.tupleItemsOf (.ref t) >>= _) _ _ s
  refine wpAny_bind (tupleItemsOf_ ht ?_)
  refine wpAny_bind (wpAny_typeOf hTs ?_)
  rw [if_pos (by decide)]
  refine wpAny_bind (sliceApplied_back hs ps ?_)
  have hno : ¬ ((((items.size : Int) - 1) == 0 && (-1 : Int) == 1 && items.size == items.size) = true) := by
    intro q
    rw [Bool.and_eq_true, Bool.and_eq_true] at q
    exact absurd q.1.2 (by decide)
  show wpAny _ _ (if (((items.size : Int) - 1) == 0 && (-1 : Int) == 1 && items.size == items.size) = true then _ else _) _ _ s
  rw [if_neg hno, pick_back]
  first
    | exact wpAny_bind (m := Builtin.Tuple.tupleExact _) (wpAny_newObj_type (wpAny_pure ⟨_, rfl, wpAny_pure h⟩) htake)
    | exact wpAny_bind (m := Builtin.Tuple.tupleExact _) (wpAny_newObj_type (wpAny_bind (wpAny_pure (wpAny_pure ⟨_, rfl, wpAny_pure h⟩))) htake)
    | exact wpAny_bind (wpAny_bind (m := Builtin.Tuple.tupleExact _) (wpAny_newObj_type (wpAny_pure (wpAny_pure ⟨_, rfl, wpAny_pure h⟩)) htake))
    | exact wpAny_bind (wpAny_bind (m := Builtin.Tuple.tupleExact _) (wpAny_newObj_type (wpAny_pure ⟨_, rfl, wpAny_pure h⟩) htake))
end
end HT
namespace Lw
open PySem PySem.Spec PyProof.Rows L2
variable {X : Cx}
/-- xs[::-1] of a list or of a tuple -/
def tRev (K : PySem.W.Frag) (te : TE) : TE := fun σ H Q => te σ H fun x H1 => (∃ a xs, x = .ref a ∧ SqL K H1 a xs ∧ ∀ p, H1 p = none → Q (.ref p) (upd H1 p (.lst xs.reverse))) ∨
  ∃ a xs, x = .ref a ∧ SqT K H1 a xs ∧ ∀ p, H1 p = none → Q (.ref p) (upd H1 p (.tup xs.reverse))
theorem pe_rev {e : Expr} {te : TE} {k : Nat} {p1 p2 p3 pos : Pos} (he : PE X e te) : PE X (.Subscript e (.Slice none none (some (.UnaryOp .USub (.Constant (.int 1) k p1) p2)) p3) pos) (tRev X.K te) := by
  refine ⟨fun pins s σ H Q I h => ?_⟩
  refine Subscript_ (thn (he.run pins s σ H _ I h) fun v s1 ⟨x, H1, I1, r1, q1⟩ => ?_)
  have hst : PO X (some (.UnaryOp .USub (.Constant (.int 1) k p1) p2)) (tPart (tUn (rU fun i => .int (-i)) (tC (.int 1)))) := po_some (pe_un un_neg pe_int)
  refine wpAny_Slice (thn (po_none.run pins s1 σ H1 (fun o H2 => o = none ∧ H2 = H1) I1 ⟨rfl, rfl⟩) fun vl s2 ⟨l, H2, I2, pl, el, e2⟩ => ?_)
  subst el e2
  refine thn (po_none.run pins s2 σ H2 (fun o H3 => o = none ∧ H3 = H2) I2 ⟨rfl, rfl⟩) fun vu s3 ⟨u, H3, I3, pu, eu, e3⟩ => ?_
  subst eu e3
  refine thn (hst.run pins s3 σ H3 (fun o H4 => o = some (-1) ∧ H4 = H3) I3 ⟨1, rfl, -1, rfl, rfl, rfl⟩) fun vs s4 ⟨o, H4, I4, ps, eo, e4⟩ => ?_
  subst eo e4
  have I5 : Inv X pins σ H4 { s4 with heap := s4.heap.push { cls := .type "slice", data := .fields #[vl, vu, vs] } } := I4.kept (t' := s4.toks) fun b ob q => Heap.get?_push_of_some _ q
  rcases q1 with ⟨a, xs, ex, hx, q⟩ | ⟨a, xs, ex, hx, q⟩
  · subst ex
    cases r1
    obtain ⟨its, r, ht, hz⟩ := I5.list hx
    have hlen := r.length
    show wpAny (model X.prog X.w) X.A (subscriptTail e (.Slice none none (some (.UnaryOp .USub (.Constant (.int 1) k p1) p2)) p3) (.ref a) (.ref s4.heap.objs.size)) (EP X pins σ Q) X.xe { s4 with heap := s4.heap.push { cls := .type "slice", data := .fields #[vl, vu, vs] } }
    refine tail_any (ops := [.ref a, .ref s4.heap.objs.size]) ht.isList.typeIs (PySem.slot_list_getitem.lookup) ?_ (by with_unfolding_all rfl)
    refine wpAny_getItem_list_slice ht.isList (Heap.IsSliceOf.new _ vl vu vs) pl pu ps (by decide) ?_ (by rw [List.size_toArray]; omega)
    rw [PySem.W.krv_pick]
    refine ⟨.ref _, _, I5.laid (t' := s4.toks) (o := .lst xs.reverse) (fun b ob q => Heap.get?_push_of_some _ q) (Nat.le_refl _) ?_, rfl, q _ (I5.hok.fresh (Nat.le_refl _))⟩
    exact ⟨by rw [List.length_reverse]; exact hz, _, 0, r.reverse, Heap.get?_push_size _ rfl⟩
  · subst ex
    cases r1
    obtain ⟨its, r, ht, hz⟩ := I5.tuple hx
    have hlen := r.length
    cases pl
    cases pu
    show wpAny (model X.prog X.w) X.A (subscriptTail e (.Slice none none (some (.UnaryOp .USub (.Constant (.int 1) k p1) p2)) p3) (.ref a) (.ref s4.heap.objs.size)) (EP X pins σ Q) X.xe { s4 with heap := s4.heap.push { cls := .type "slice", data := .fields #[.none, .none, vs] } }
    refine tail_any (ops := [.ref a, .ref s4.heap.objs.size]) ht.typeIs PyProof.Rows.slot_tuple_getitem.lookup ?_ (by with_unfolding_all rfl)
    refine HT.getItem_tuple_back ht (Heap.IsSliceOf.new _ .none .none vs) ps ?_ (by rw [List.size_toArray]; omega)
    refine ⟨.ref _, _, I5.laid (t' := s4.toks) (o := .tup xs.reverse) (fun b ob q => Heap.get?_push_of_some _ q) (Nat.le_refl _) ?_, rfl, q _ (I5.hok.fresh (Nat.le_refl _))⟩
    exact ⟨by rw [List.length_reverse]; exact hz, _, r.reverse, IsTup.new _ _⟩
end Lw

set_option Elab.async false
set_option linter.all false
set_option maxRecDepth 100000
set_option maxHeartbeats 2000000
/-! F3: operators on data, by values. -/
namespace Lw
open PySem PySem.Spec PyProof.Rows L2

section
variable {K : PySem.W.Frag} {A : List Addr} {H : Hp} {v : V}
theorem RpT.int {i : Int} (r : RpT K A H v (.int i)) : v = .int i := by
  cases r with
  | of r => cases r; rfl
theorem RpT.bl {b : Bool} (r : RpT K A H v (.bool b)) : v = .bl b := by
  cases r with
  | of r => cases r; rfl
theorem RpT.non (r : RpT K A H v .none) : v = .non := by
  cases r with
  | of r => cases r; rfl
theorem RpT.str {x : Str} (r : RpT K A H v (.str x)) : v = .str x := by
  cases r with
  | of r => cases r; rfl
theorem RpT.tup {ds : List PD} (r : RpT K A H v (.tuple ds)) : ∃ a xs, v = .ref a ∧ SqT K H a xs ∧ RpL K A H xs ds := by
  cases r with
  | of r => cases r with
    | tup h q => exact ⟨_, _, rfl, h, q⟩
theorem RpT.list {ds : List PD} (r : RpT K A H v (.list ds)) : ∃ a xs, v = .ref a ∧ H a = some (.lst xs) ∧ RpL K A H xs ds := by
  cases r with
  | of r => cases r with
    | lst n h q => exact ⟨_, _, rfl, h, q⟩
  | lst h q => exact ⟨_, _, rfl, h, q⟩
theorem RpT.nodict {kvs : List (PD × PD)} (r : RpT K A H v (.dict kvs)) : False := by
  cases r with
  | of r => cases r
/-- its items, a list's or a tuple's -/
theorem RpT.items {d : PD} {ds : List PD} (r : RpT K A H v d) (e : items? d = some ds) : ∃ a xs, v = .ref a ∧ ((H a = some (.lst xs) ∧ d = .list ds) ∨ (SqT K H a xs ∧ d = .tuple ds)) ∧ RpL K A H xs ds := by
  cases d with
  | list xs =>
    simp [items?] at e; subst e
    obtain ⟨a, us, h1, h2, h3⟩ := r.list
    exact ⟨a, us, h1, .inl ⟨h2, rfl⟩, h3⟩
  | tuple xs =>
    simp [items?] at e; subst e
    obtain ⟨a, us, h1, h2, h3⟩ := r.tup
    exact ⟨a, us, h1, .inr ⟨h2, rfl⟩, h3⟩
  | dict kvs => exact r.nodict.elim
  | none => simp [items?] at e
  | bool b => simp [items?] at e
  | int i => simp [items?] at e
  | str x => simp [items?] at e
mutual
theorem Rp.dp : ∀ {v : V} {d : PD}, Rp K A H v d → Dp K H v d
  | _, _, .non => .non
  | _, _, .bl b => .bl b
  | _, _, .int i => .int i
  | _, _, .str x => .str x
  | _, _, .lst _ h r => .lst (SqL.of h) (RpL.dp r)
  | _, _, .tup h r => .tup h (RpL.dp r)
theorem RpL.dp : ∀ {v : List V} {d : List PD}, RpL K A H v d → DpAll K H v d
  | _, _, .nil => .nil
  | _, _, .cons h r => .cons (Rp.dp h) (RpL.dp r)
end
theorem RpT.dp {d : PD} (r : RpT K A H v d) : Dp K H v d := by
  cases r with
  | of r => exact r.dp
  | lst h r => exact .lst (SqL.of h) r.dp
theorem ints_of : ∀ {vs : List V} {ds : List PD} {ns : List Int}, RpL K A H vs ds → ints? ds = some ns → vs = ns.map V.int
  | _, _, _, .nil, e => by simp [ints?] at e; subst e; rfl
  | _, _, ns, .cons (v := v) (d := d) h r, e => by
    cases d with
    | int i =>
      simp only [ints?] at e
      split at e
      · rename_i is e2
        cases e
        cases h
        rw [List.map_cons, ints_of r e2]
      · cases e
    | _ => simp [ints?] at e
theorem bools_of : ∀ {vs : List V} {ds : List PD} {ns : List Bool}, RpL K A H vs ds → bools? ds = some ns → vs = ns.map V.bl
  | _, _, _, .nil, e => by simp [bools?] at e; subst e; rfl
  | _, _, ns, .cons (v := v) (d := d) h r, e => by
    cases d with
    | bool i =>
      simp only [bools?] at e
      split at e
      · rename_i is e2
        cases e
        cases h
        rw [List.map_cons, bools_of r e2]
      · cases e
    | _ => simp [bools?] at e
theorem strs_of : ∀ {vs : List V} {ds : List PD} {ns : List Str}, RpL K A H vs ds → strs? ds = some ns → vs = ns.map V.str
  | _, _, _, .nil, e => by simp [strs?] at e; subst e; rfl
  | _, _, ns, .cons (v := v) (d := d) h r, e => by
    cases d with
    | str i =>
      simp only [strs?] at e
      split at e
      · rename_i is e2
        cases e
        cases h
        rw [List.map_cons, strs_of r e2]
      · cases e
    | _ => simp [strs?] at e
theorem Same.upd {p : Addr} {o : HO} (h : H p = none) : Same H (upd H p o) := fun b x e => by
  rw [upd_ne (ne_of_none e h)]
  exact e
/-- a new tuple, a new list -/
theorem Rp.newT {p : Addr} {xs : List V} {ds : List PD} (h : H p = none) (r : RpL K A H xs ds) : Rp K A (upd H p (.tup xs)) (.ref p) (.tuple ds) :=
  .tup (.inl (.inl upd_same)) (r.same (Same.upd h))
theorem Rp.newL {p : Addr} {xs : List V} {ds : List PD} (t : Trk A H) (h : H p = none) (r : RpL K A H xs ds) : Rp K A (upd H p (.lst xs)) (.ref p) (.list ds) :=
  .lst (fun q => t p q h) upd_same (r.same (Same.upd h))
theorem Trk.same {H' : Hp} (t : Trk A H) (s : Same H H') : Trk A H' := fun a h => same_there s (t a h)
end

/-- an operator of two data -/
def rD (K : PySem.W.Frag) (g : PD → PD → Option PD) : R2 := fun x y H Q => ∃ A p q r, RpT K A H x p ∧ RpT K A H y q ∧ Trk A H ∧ g p q = some r ∧ ∀ v H', Same H H' → Rp K A H' v r → Q v H'
/-- calls of a builtin by data -/
def rB (K : PySem.W.Frag) (g : List PD → Option PD) : List V → Hp → VK → Prop := fun xs H Q => ∃ A ps r, Paired (RpT K A H) xs ps ∧ Trk A H ∧ g ps = some r ∧ ∀ v H', Same H H' → Rp K A H' v r → Q v H'

section
variable {X : Cx}
theorem OpR.byR {f : Value → Value → Sem Value} {r r' : R2} (h : OpR X f r) (q : ∀ x y H Q, r' x y H Q → r x y H Q) : OpR X f r' := fun pins s σ H x y v u Q I rx ry hr => h pins s σ H x y v u Q I rx ry (q _ _ _ _ hr)
theorem od_add : OpR X (binaryOp .Add) (rD X.K addD) := by
  intro pins s σ H x y v u Q I rx ry ⟨A, p, q, r, hp, hq, tr, e, k⟩
  unfold addD at e
  split at e
  · rename_i i j
    cases e
    cases hp.int; cases hq.int
    exact op_add pins s σ H _ _ v u Q I rx ry ⟨i, j, rfl, rfl, k _ _ (Same.refl H) (.int _)⟩
  · rename_i xs ys
    split at e
    · rename_i hz
      cases e
      obtain ⟨a, vs, rfl, h1, h2⟩ := hp.tup
      obtain ⟨b, us, rfl, g1, g2⟩ := hq.tup
      refine op_catA pins s σ H _ _ v u Q I rx ry ⟨a, b, vs, us, rfl, rfl, h1, g1, by rw [h2.len, g2.len, sizeLine_eq]; exact hz, fun e => ?_, fun e e' => ?_, fun _ _ p hn => ?_⟩
      · subst e; cases h2
        exact k _ _ (Same.refl H) (.tup g1 g2)
      · subst e'; cases g2
        rw [List.append_nil] at k
        exact k _ _ (Same.refl H) (.tup h1 h2)
      · exact k _ _ (Same.upd hn) (Rp.newT hn (h2.app g2))
    · cases e
  · rename_i xs ys
    split at e
    · rename_i hz
      cases e
      obtain ⟨a, vs, rfl, h1, h2⟩ := hp.list
      obtain ⟨b, us, rfl, g1, g2⟩ := hq.list
      exact op_cat pins s σ H _ _ v u Q I rx ry ⟨a, b, vs, us, rfl, rfl, h1, g1, by rw [h2.len, g2.len, sizeLine_eq]; exact hz, fun p hn => k _ _ (Same.upd hn) (Rp.newL tr hn (h2.app g2))⟩
    · cases e
  · rename_i xs ys
    split at e
    · rename_i hz
      cases e
      cases hp.str; cases hq.str
      exact op_add_str pins s σ H _ _ v u Q I rx ry ⟨_, _, rfl, rfl, by rw [sizeLine_eq]; exact hz, k _ _ (Same.refl H) (.str _)⟩
    · cases e
  · cases e
theorem od_sub : OpR X (binaryOp .Sub) (rD X.K subtD) := by
  intro pins s σ H x y v u Q I rx ry ⟨A, p, q, r, hp, hq, tr, e, k⟩
  unfold subtD at e
  split at e
  · rename_i i j
    cases e
    cases hp.int; cases hq.int
    exact op_sub pins s σ H _ _ v u Q I rx ry ⟨i, j, rfl, rfl, k _ _ (Same.refl H) (.int _)⟩
  · cases e
theorem od_fdiv : OpR X (binaryOp .FloorDiv) (rD X.K fdivD) := by
  intro pins s σ H x y v u Q I rx ry ⟨A, p, q, r, hp, hq, tr, e, k⟩
  unfold fdivD at e
  split at e
  · rename_i i j
    split at e
    · rename_i hc
      cases e
      cases hp.int; cases hq.int
      exact op_fdivW pins s σ H _ _ v u Q I rx ry ⟨i, j, rfl, rfl, hc, k _ _ (Same.refl H) (.int _)⟩
    · cases e
  · cases e
theorem od_mod : OpR X (binaryOp .Mod) (rD X.K modD) := by
  intro pins s σ H x y v u Q I rx ry ⟨A, p, q, r, hp, hq, tr, e, k⟩
  unfold modD at e
  split at e
  · rename_i i j
    split at e
    · rename_i hc
      cases e
      cases hp.int; cases hq.int
      exact op_mod pins s σ H _ _ v u Q I rx ry ⟨i, j, rfl, rfl, hc, k _ _ (Same.refl H) (.int _)⟩
    · cases e
  · cases e
theorem od_pow : OpR X (binaryOp .Pow) (rD X.K powD) := by
  intro pins s σ H x y v u Q I rx ry ⟨A, p, q, r, hp, hq, tr, e, k⟩
  unfold powD at e
  split at e
  · rename_i i j
    split at e
    · rename_i hc
      cases e
      cases hp.int; cases hq.int
      exact op_pow pins s σ H _ _ v u Q I rx ry ⟨i, j, rfl, rfl, ⟨hc.1, by omega, hc.2.2⟩, k _ _ (Same.refl H) (.int _)⟩
    · cases e
  · cases e
theorem mul_ok {i j : Int} (h : mulOk i j = true) : CMul i j ∨ CMulW i j := by
  unfold mulOk small64 wide at h
  simp only [Bool.or_eq_true, Bool.and_eq_true, decide_eq_true_eq] at h
  rcases h with (h | h) | h
  · exact .inl (.inl h)
  · exact .inl (.inr h)
  · exact .inr (by unfold CMulW; omega)
/-! a tuple times an int -/
theorem tuple_mul1 (l : Addr) (items : Array Value) (n : Nat) (dd : Option Addr) (sl : Array (Option Value)) (x : Int) (u : Tok) (c0 : (decide (x < -(2 ^ 63)) || decide (x ≥ 2 ^ 63)) = false) (c1 : (items.isEmpty || x == 1) = true) :
    Meets (Builtin.«tuple.__mul__» ⟨[.ref l, .int x u], []⟩) (fun _ R s => s.heap.get? l = some { cls := .type "tuple", dict := dd, data := .seq items n, slots := sl } ∧ R (.ok (.ret (Value.ref l))) s) :=
  .of_wp fun prog w A R s h => by
    obtain ⟨hp, g, d, tk, os⟩ := s
    obtain ⟨hl, h⟩ := h
    have f1 := AutoSeq1.idx_int
    wp_walk using wpAny_loadPart' hl
    repeat (first
      | (refine wpAny_ite_false (decide_eq_false (by rw [c0]; exact Bool.false_ne_true)) ?_; wp_walk using wpAny_loadPart' hl)
      | (refine wpAny_ite_true c1 ?_; wp_walk using wpAny_loadPart' hl))
    exact ⟨_, rfl, h⟩
theorem tuple_mul0 (l : Addr) (items : Array Value) (n : Nat) (dd : Option Addr) (sl : Array (Option Value)) (x : Int) (u : Tok) (c0 : (decide (x < -(2 ^ 63)) || decide (x ≥ 2 ^ 63)) = false) (c1 : (items.isEmpty || x == 1) = false) (c2 : (decide (x ≤ 0) || items.isEmpty) = true) :
    Meets (Builtin.«tuple.__mul__» ⟨[.ref l, .int x u], []⟩) (fun _ R s => s.heap.get? l = some { cls := .type "tuple", dict := dd, data := .seq items n, slots := sl } ∧
      R (.ok (.ret (Value.ref s.heap.objs.size))) { s with heap := s.heap.push { cls := Value.type "tuple", data := Data.seq #[] }, toks := s.toks }) :=
  .of_wp fun prog w A R s h => by
    obtain ⟨hp, g, d, tk, os⟩ := s
    obtain ⟨hl, h⟩ := h
    have f1 := AutoSeq1.idx_int
    wp_walk using wpAny_loadPart' hl
    repeat (first
      | (refine wpAny_ite_false (decide_eq_false (by rw [c0]; exact Bool.false_ne_true)) ?_; wp_walk using wpAny_loadPart' hl)
      | (refine wpAny_ite_false (decide_eq_false (by rw [c1]; exact Bool.false_ne_true)) ?_; wp_walk using wpAny_loadPart' hl)
      | (refine wpAny_ite_true c2 ?_; wp_walk using wpAny_loadPart' hl))
    exact ⟨_, rfl, h⟩
end
end Lw

set_option Elab.async false
set_option linter.all false
set_option maxRecDepth 100000
set_option maxHeartbeats 2000000
/-! F4: more operators on data. -/
namespace Lw
open PySem PySem.Spec PyProof.Rows L2

theorem rep_le0 {α : Type} (xs : List α) {k : Int} (h : k ≤ 0) : (List.replicate k.toNat xs).flatten = [] := by
  have : k.toNat = 0 := by omega
  rw [this]; rfl
theorem rep_one {α : Type} (xs : List α) : (List.replicate (1 : Int).toNat xs).flatten = xs := by simp
theorem rep_nil {α : Type} (k : Nat) : (List.replicate k ([] : List α)).flatten = [] := by
  induction k with
  | zero => rfl
  | succ k ih => rw [List.replicate_succ, List.flatten_cons, ih]; rfl
section
variable {X : Cx}
/-- a tuple times any small int -/
theorem op_repT1 : OpR X (binaryOp .Mult) (fun x y H Q => ∃ l k xs, x = .ref l ∧ y = .int k ∧ SqT X.K H l xs ∧ -1000 ≤ k ∧ k ≤ 1000 ∧ xs.length ≤ 1000 ∧
    ((xs = [] ∨ k = 1) → Q (.ref l) H) ∧ (¬ (xs = [] ∨ k = 1) → ∀ p, H p = none → Q (.ref p) (upd H p (.tup (List.replicate k.toNat xs).flatten)))) := by
  intro pins s σ H x y v u Q I rx ry h
  obtain ⟨l, k, xs, rfl, rfl, hT, h1, h2, hz, q1, q2⟩ := h
  by_cases hc : xs = [] ∨ k = 1
  · have rx' := rx
    have ry' := ry
    cases rx'
    obtain ⟨t, rfl⟩ := ry'
    obtain ⟨its, r, ⟨⟨cls, dd, data, sl⟩, ho, hc', n, hd⟩, hs⟩ := I.tuple hT
    simp only at hc' hd
    subst hc' hd
    have c0 : (decide (k < -(2 ^ 63)) || decide (k ≥ 2 ^ 63)) = false := by
      rw [decide_eq_false (by omega), decide_eq_false (by omega)] <;> rfl
    have c1 : (its.toArray.isEmpty || k == 1) = true := by
      rcases hc with e | e
      · subst e; cases r; rfl
      · subst e; simp
    exact wpAny_binaryOp_repeat_ref (T := "tuple") (U := "int") (by decide) ⟨_, ho, rfl⟩ (fun s' => typeIs_int s' k t) noFill_tuple_mul F.fills_int_mul F.slot_int_rmul repeat_tuple F.slot_int_index.lookup
      (call_meets F.slot_int_rmul (typeIs_int s k t) F.entry_int_rmul (F.args_int_rmul_2 _ _) (int_rmul_tuple k t l its.toArray n dd sl)
        ⟨ho, rfl, ⟨_, ho, rfl⟩, call_meets F.slot_tuple_mul ⟨_, ho, rfl⟩ F.entry_tuple_mul (F.args_tuple_mul_2 _ _) (tuple_mul1 l its.toArray n dd sl k t c0 c1) ⟨ho, ⟨.ref l, H, I, rfl, q1 hc⟩⟩⟩)
  · by_cases hk : 2 ≤ k
    · exact op_repT pins s σ H _ _ v u Q I rx ry ⟨l, k, xs, rfl, rfl, hT, fun e => hc (.inl e), hk, h2, hz, q2 hc⟩
    · have rx' := rx
      have ry' := ry
      cases rx'
      obtain ⟨t, rfl⟩ := ry'
      obtain ⟨its, r, ⟨⟨cls, dd, data, sl⟩, ho, hc', n, hd⟩, hs⟩ := I.tuple hT
      simp only at hc' hd
      subst hc' hd
      have hk0 : k ≤ 0 := by
        have : k ≠ 1 := fun e => hc (.inr e)
        omega
      have c0 : (decide (k < -(2 ^ 63)) || decide (k ≥ 2 ^ 63)) = false := by
        rw [decide_eq_false (by omega), decide_eq_false (by omega)] <;> rfl
      have hi : its.toArray.isEmpty = false := by
        cases its with
        | nil => cases r; exact absurd (.inl rfl) hc
        | cons a b => rfl
      have c1 : (its.toArray.isEmpty || k == 1) = false := by
        rw [hi, Bool.false_or]
        exact beq_eq_false_iff_ne.mpr (by omega)
      have c2 : (decide (k ≤ 0) || its.toArray.isEmpty) = true := by
        rw [decide_eq_true hk0]; rfl
      refine wpAny_binaryOp_repeat_ref (T := "tuple") (U := "int") (by decide) ⟨_, ho, rfl⟩ (fun s' => typeIs_int s' k t) noFill_tuple_mul F.fills_int_mul F.slot_int_rmul repeat_tuple F.slot_int_index.lookup
        (call_meets F.slot_int_rmul (typeIs_int s k t) F.entry_int_rmul (F.args_int_rmul_2 _ _) (int_rmul_tuple k t l its.toArray n dd sl)
          ⟨ho, rfl, ⟨_, ho, rfl⟩, call_meets F.slot_tuple_mul ⟨_, ho, rfl⟩ F.entry_tuple_mul (F.args_tuple_mul_2 _ _) (tuple_mul0 l its.toArray n dd sl k t c0 c1 c2) ⟨ho, ?_⟩⟩)
      have q := q2 hc
      rw [rep_le0 xs hk0] at q
      exact ⟨.ref s.heap.objs.size, _, I.laid (t' := s.toks) (o := .tup []) (fun b ob q => Heap.get?_push_of_some _ q) (Nat.le_refl _) ⟨Nat.zero_le _, [], .nil, IsTup.new _ _⟩, rfl, q _ (I.hok.fresh (Nat.le_refl _))⟩
theorem od_mul : OpR X (binaryOp .Mult) (rD X.K mulD) := by
  intro pins s σ H x y v u Q I rx ry ⟨A, p, q, r, hp, hq, tr, e, k⟩
  unfold mulD at e
  split at e
  · rename_i i j
    split at e
    · rename_i hc
      cases e
      cases hp.int; cases hq.int
      rcases mul_ok hc with h | h
      · exact op_mul pins s σ H _ _ v u Q I rx ry ⟨i, j, rfl, rfl, h, k _ _ (Same.refl H) (.int _)⟩
      · exact op_mulW pins s σ H _ _ v u Q I rx ry ⟨i, j, rfl, rfl, h, k _ _ (Same.refl H) (.int _)⟩
    · cases e
  · rename_i xs j
    split at e
    · rename_i hc
      cases e
      unfold repOk at hc
      simp only [Bool.and_eq_true, decide_eq_true_eq] at hc
      obtain ⟨⟨c1, c2⟩, c3⟩ := hc
      cases hq.int
      obtain ⟨a, vs, rfl, h1, h2⟩ := hp.tup
      refine op_repT1 pins s σ H _ _ v u Q I rx ry ⟨a, j, vs, rfl, rfl, h1, c2, c3, by rw [h2.len]; exact c1, fun hc => ?_, fun hc p hn => k _ _ (Same.upd hn) (Rp.newT hn (h2.rep _))⟩
      rcases hc with e | e
      · subst e; cases h2
        rw [rep_nil] at k
        exact k _ _ (Same.refl H) (.tup h1 .nil)
      · subst e
        rw [rep_one] at k
        exact k _ _ (Same.refl H) (.tup h1 h2)
    · cases e
  · rename_i xs j
    split at e
    · rename_i hc
      cases e
      unfold repOk at hc
      simp only [Bool.and_eq_true, decide_eq_true_eq] at hc
      obtain ⟨⟨c1, c2⟩, c3⟩ := hc
      cases hq.int
      obtain ⟨a, vs, rfl, h1, h2⟩ := hp.list
      refine op_rep pins s σ H _ _ v u Q I rx ry ⟨a, j, vs, rfl, rfl, h1, by omega, by omega, ?_, fun p hn => k _ _ (Same.upd hn) (Rp.newL tr hn (h2.rep _))⟩
      rw [h2.len, sizeLine_eq]
      have : xs.length * j.toNat ≤ 1000 * 1000 := Nat.mul_le_mul c1 (by omega)
      omega
    · cases e
  · cases e
theorem od_bin {o : Operator} (b : Bop) (h : o = match b with | .add => .Add | .sub => .Sub | .mul => .Mult | .fdiv => .FloorDiv | .mod => .Mod | .pow => .Pow) : OpR X (binaryOp o) (rD X.K (binD b)) := by
  subst h
  cases b
  · exact od_add
  · exact od_sub
  · exact od_mul
  · exact od_fdiv
  · exact od_mod
  · exact od_pow

/-! comparisons -/
/-- a comparison of two data -/
def rC (K : PySem.W.Frag) (g : PD → PD → Option Bool) : R2 := fun x y H Q => ∃ A p q r, RpT K A H x p ∧ RpT K A H y q ∧ g p q = some r ∧ Q (.bl r) H
theorem RpT.reads {pins : List (Addr × Obj)} {σ : L2.St} {H : Hp} {s : Shared} {A : List Addr} {v : V} {u : Value} {d : PD} (I : Inv X pins σ H s) (r : RpT X.K A H v d) (rv : RelV v u) : ∃ as, Reads s.heap u d as := Dp.reads I d v u r.dp rv
theorem oc_eq (hu : X.A.units + 64 < cLine) : OpR X (compareOp .Eq) (rC X.K (cmpD .eq)) := by
  intro pins s σ H x y v u Q I rx ry ⟨A, p, q, r, hp, hq, e, k⟩
  simp only [cmpD] at e
  split at e
  · rename_i hc
    cases e
    rw [Bool.and_eq_true] at hc
    exact op_eqD hu pins s σ H x y v u Q I rx ry ⟨p, q, hp.dp, hq.dp, hc.1, hc.2, k⟩
  · cases e
theorem oc_ne (hu : X.A.units + 64 < cLine) : OpR X (compareOp .NotEq) (rC X.K (cmpD .ne)) := by
  intro pins s σ H x y v u Q I rx ry ⟨A, p, q, r, hp, hq, e, k⟩
  simp only [cmpD] at e
  split at e
  · rename_i hc
    cases e
    rw [Bool.and_eq_true] at hc
    exact op_neD hu pins s σ H x y v u Q I rx ry ⟨p, q, hp.dp, hq.dp, hc.1, hc.2, k⟩
  · cases e
theorem ltD_cases {p q : PD} {r : Bool} (e : ltD p q = some r) : (∃ i j, p = .int i ∧ q = .int j ∧ r = decide (i < j)) ∨ (W.alike p q = true ∧ okD p = true ∧ okD q = true ∧ p ≠ .none ∧ r = W.dataLt p q) := by
  unfold ltD at e
  split at e
  · cases e; exact .inl ⟨_, _, rfl, rfl, rfl⟩
  · split at e
    · rename_i hc
      cases e
      simp only [Bool.and_eq_true] at hc
      refine .inr ⟨hc.1.1.1, hc.1.1.2, hc.1.2, fun z => ?_, rfl⟩
      rw [z] at hc
      exact absurd hc.2 (by simp [isSeq])
    · cases e
theorem depth_min {d e : PD} (h : okD d = true) {n : Nat} (hu : n + 64 < cLine) : n + min d.depth e.depth < cLine := by
  have h1 := SeqAt.depth_of_shaped h
  have h2 : min d.depth e.depth ≤ d.depth := Nat.min_le_left _ _
  omega
theorem oc_lt (hu : X.A.units + 64 < cLine) : OpR X (compareOp .Lt) (rC X.K (cmpD .lt)) := by
  intro pins s σ H x y v u Q I rx ry ⟨A, p, q, r, hp, hq, e, k⟩
  rcases ltD_cases e with ⟨i, j, rfl, rfl, rfl⟩ | ⟨h1, h2, h3, h4, rfl⟩
  · cases hp.int; cases hq.int
    exact op_lt pins s σ H _ _ v u Q I rx ry ⟨i, j, rfl, rfl, k⟩
  · obtain ⟨as, r1⟩ := hp.reads I rx
    obtain ⟨bs, r2⟩ := hq.reads I ry
    exact PySem.W.lt_data r1 r2 h1 h4 (depth_min h2 hu) ⟨.bl _, H, I, rfl, k⟩
theorem oc_gt (hu : X.A.units + 64 < cLine) : OpR X (compareOp .Gt) (rC X.K (cmpD .gt)) := by
  intro pins s σ H x y v u Q I rx ry ⟨A, p, q, r, hp, hq, e, k⟩
  rcases ltD_cases e with ⟨i, j, rfl, rfl, rfl⟩ | ⟨h1, h2, h3, h4, rfl⟩
  · cases hp.int; cases hq.int
    exact op_gt pins s σ H _ _ v u Q I rx ry ⟨j, i, rfl, rfl, k⟩
  · obtain ⟨as, r1⟩ := hp.reads I rx
    obtain ⟨bs, r2⟩ := hq.reads I ry
    rw [PySem.W.alike_comm] at h1
    have h5 := PySem.W.ne_none_both (x := q) (y := p) (by rw [PySem.W.alike_comm]; exact h1) h4
    exact PySem.W.gt_data r1 r2 h1 h5 (depth_min h3 hu) ⟨.bl _, H, I, rfl, k⟩
theorem oc_le : OpR X (compareOp .LtE) (rC X.K (cmpD .le)) := by
  intro pins s σ H x y v u Q I rx ry ⟨A, p, q, r, hp, hq, e, k⟩
  cases p <;> cases q <;> first | (simp [cmpD] at e; done) | skip
  simp only [cmpD] at e
  cases e
  cases hp.int; cases hq.int
  exact op_le pins s σ H _ _ v u Q I rx ry ⟨_, _, rfl, rfl, k⟩
theorem oc_ge : OpR X (compareOp .GtE) (rC X.K (cmpD .ge)) := by
  intro pins s σ H x y v u Q I rx ry ⟨A, p, q, r, hp, hq, e, k⟩
  cases p <;> cases q <;> first | (simp [cmpD] at e; done) | skip
  simp only [cmpD] at e
  cases e
  cases hp.int; cases hq.int
  exact op_ge pins s σ H _ _ v u Q I rx ry ⟨_, _, rfl, rfl, k⟩
end
end Lw

set_option Elab.async false
set_option linter.all false
set_option maxRecDepth 100000
set_option maxHeartbeats 2000000
/-! F5: in, is, places, slices, built-ins, by values. -/
namespace Lw
open PySem PySem.Spec PyProof.Rows L2

section
variable {X : Cx}
theorem is_none_V {K : PySem.W.Frag} {A : List Addr} {H : Hp} {v : V} {d : PD} (r : RpT K A H v d) : decide (v = .non) = isNone d := by
  cases r with
  | of r => cases r <;> simp [isNone]
  | lst h r => simp [isNone]
theorem in_room {ds : List PD} {d : PD} (h : okD d = true) (hu : X.A.units + 65 < cLine) : X.A.units + 1 + min (PyData.depthAll ds) d.depth < cLine := room_in_shaped h hu
theorem lay_list {ds : List PD} (h : okD (.list ds) = true) : PyData.canLayAll0 ds = true := by
  have := SeqAt.canLay_of_shaped h
  simpa [PyData.canLay0] using this
theorem lay_tuple {ds : List PD} (h : okD (.tuple ds) = true) : PyData.canLayAll0 ds = true := by
  have := SeqAt.canLay_of_shaped h
  simpa [PyData.canLay0] using this
theorem oc_in (hu : X.A.units + 65 < cLine) : OpR X (compareOp .In) (rC X.K (cmpD .isin)) := by
  intro pins s σ H x y v u Q I rx ry ⟨A, p, q, r, hp, hq, e, k⟩
  obtain ⟨as, r1⟩ := hp.reads I rx
  cases q with
  | list ys =>
    simp only [cmpD] at e
    split at e
    · rename_i hc
      cases e
      rw [Bool.and_eq_true] at hc
      obtain ⟨bs, r2⟩ := hq.reads I ry
      exact SeqAt.in_list_reads r2 r1 (lay_list hc.2) (SeqAt.canLay_of_shaped hc.1) (in_room hc.1 hu) ⟨.bl _, H, I, rfl, k⟩
    · cases e
  | tuple ys =>
    simp only [cmpD] at e
    split at e
    · rename_i hc
      cases e
      rw [Bool.and_eq_true] at hc
      obtain ⟨bs, r2⟩ := hq.reads I ry
      exact SeqAt.in_tuple_reads r2 r1 (lay_tuple hc.2) (SeqAt.canLay_of_shaped hc.1) (in_room hc.1 hu) ⟨.bl _, H, I, rfl, k⟩
    · cases e
  | dict kvs => exact hq.nodict.elim
  | none => simp [cmpD] at e
  | bool b => simp [cmpD] at e
  | int i => simp [cmpD] at e
  | str x => simp [cmpD] at e
theorem oc_notin (hu : X.A.units + 65 < cLine) : OpR X (compareOp .NotIn) (rC X.K (cmpD .notin)) := by
  intro pins s σ H x y v u Q I rx ry ⟨A, p, q, r, hp, hq, e, k⟩
  obtain ⟨as, r1⟩ := hp.reads I rx
  cases q with
  | list ys =>
    simp only [cmpD] at e
    split at e
    · rename_i hc
      cases e
      rw [Bool.and_eq_true] at hc
      obtain ⟨bs, r2⟩ := hq.reads I ry
      exact SeqAt.notIn_list_reads r2 r1 (lay_list hc.2) (SeqAt.canLay_of_shaped hc.1) (in_room hc.1 hu) ⟨.bl _, H, I, rfl, k⟩
    · cases e
  | tuple ys =>
    simp only [cmpD] at e
    split at e
    · rename_i hc
      cases e
      rw [Bool.and_eq_true] at hc
      obtain ⟨bs, r2⟩ := hq.reads I ry
      exact SeqAt.notIn_tuple_reads r2 r1 (lay_tuple hc.2) (SeqAt.canLay_of_shaped hc.1) (in_room hc.1 hu) ⟨.bl _, H, I, rfl, k⟩
    · cases e
  | dict kvs => exact hq.nodict.elim
  | none => simp [cmpD] at e
  | bool b => simp [cmpD] at e
  | int i => simp [cmpD] at e
  | str x => simp [cmpD] at e
theorem oc_is : OpR X (compareOp .Is) (rC X.K (cmpD .is_)) := by
  intro pins s σ H x y v u Q I rx ry ⟨A, p, q, r, hp, hq, e, k⟩
  cases q with
  | none =>
    simp only [cmpD] at e
    cases e
    cases hq.non
    rw [← is_none_V hp] at k
    exact op_isN pins s σ H _ _ v u Q I rx ry ⟨rfl, k⟩
  | bool b =>
    cases p <;> simp only [cmpD] at e <;> cases e
    cases hp.bl; cases hq.bl
    exact op_isBl pins s σ H _ _ v u Q I rx ry ⟨_, _, rfl, rfl, k⟩
  | _ => cases p <;> simp [cmpD] at e
theorem oc_isnot : OpR X (compareOp .IsNot) (rC X.K (cmpD .isnot)) := by
  intro pins s σ H x y v u Q I rx ry ⟨A, p, q, r, hp, hq, e, k⟩
  cases q with
  | none =>
    simp only [cmpD] at e
    cases e
    cases hq.non
    rw [← is_none_V hp] at k
    exact op_notN pins s σ H _ _ v u Q I rx ry ⟨rfl, k⟩
  | bool b =>
    cases p <;> simp only [cmpD] at e <;> cases e
    cases hp.bl; cases hq.bl
    exact op_notBl pins s σ H _ _ v u Q I rx ry ⟨_, _, rfl, rfl, k⟩
  | _ => cases p <;> simp [cmpD] at e
def copO : Cop → CmpOp
  | .eq => .Eq
  | .ne => .NotEq
  | .lt => .Lt
  | .le => .LtE
  | .gt => .Gt
  | .ge => .GtE
  | .isin => .In
  | .notin => .NotIn
  | .is_ => .Is
  | .isnot => .IsNot
def bopO : Bop → Operator
  | .add => .Add
  | .sub => .Sub
  | .mul => .Mult
  | .fdiv => .FloorDiv
  | .mod => .Mod
  | .pow => .Pow
theorem oc_cmp (hu : X.A.units + 65 < cLine) (o : Cop) : OpR X (compareOp (copO o)) (rC X.K (cmpD o)) := by
  have hu' : X.A.units + 64 < cLine := by omega
  cases o
  · exact oc_eq hu'
  · exact oc_ne hu'
  · exact oc_lt hu'
  · exact oc_le
  · exact oc_gt hu'
  · exact oc_ge
  · exact oc_in hu
  · exact oc_notin hu
  · exact oc_is
  · exact oc_isnot
theorem od_bop (b : Bop) : OpR X (binaryOp (bopO b)) (rD X.K (binD b)) := by
  cases b
  · exact od_add
  · exact od_sub
  · exact od_mul
  · exact od_fdiv
  · exact od_mod
  · exact od_pow

/-! places -/
theorem atI_rp {K : PySem.W.Frag} {A : List Addr} {H : Hp} {vs : List V} {ds : List PD} {i : Int} {d : PD} (r : RpL K A H vs ds) (e : atI ds i = some d) : ∃ v, atI vs i = some v ∧ Rp K A H v d := by
  unfold atI at e ⊢
  rw [r.len]
  cases q : ixN ds.length i with
  | none => rw [q] at e; cases e
  | some j =>
    rw [q] at e
    exact r.get (show ds[j]? = some d from e)
theorem ix_data : IxR X (rD X.K subD) := by
  intro value slice pins s σ H x y v u Q I rx ry ⟨A, p, q, r, hp, hq, tr, e, k⟩ hs
  cases p with
  | list xs =>
    cases q <;> simp only [subD] at e <;> try cases e
    cases hq.int
    obtain ⟨a, vs, rfl, h1, h2⟩ := hp.list
    obtain ⟨w, e1, e2⟩ := atI_rp h2 e
    exact ix_list value slice pins s σ H _ _ v u Q I rx ry ⟨a, vs, _, w, rfl, rfl, SqL.of h1, e1, k _ _ (Same.refl H) e2⟩ hs
  | tuple xs =>
    cases q <;> simp only [subD] at e <;> try cases e
    cases hq.int
    obtain ⟨a, vs, rfl, h1, h2⟩ := hp.tup
    obtain ⟨w, e1, e2⟩ := atI_rp h2 e
    exact ix_tup value slice pins s σ H _ _ v u Q I rx ry ⟨a, vs, _, w, rfl, rfl, h1, e1, k _ _ (Same.refl H) e2⟩ hs
  | dict kvs => exact hp.nodict.elim
  | _ => simp [subD] at e
/-! slices -/
def rSlD (K : PySem.W.Frag) : V → Option Int → Option Int → Hp → VK → Prop := fun x lo hi H Q => ∃ A p, RpT K A H x p ∧ Trk A H ∧
  ((∃ xs, p = .list xs ∧ ∀ v H', Same H H' → Rp K A H' v (.list (cutL xs lo hi)) → Q v H') ∨ (∃ xs, p = .tuple xs ∧ ∀ v H', Same H H' → Rp K A H' v (.tuple (cutL xs lo hi)) → Q v H'))
theorem cut_rp {K : PySem.W.Frag} {A : List Addr} {H : Hp} {vs : List V} {ds : List PD} (r : RpL K A H vs ds) (lo hi : Option Int) : RpL K A H (cutV vs lo hi) (cutL ds lo hi) := by
  unfold cutV cutL
  rw [r.len]
  exact (r.drop _).take _
theorem sl_data : SlR X (rSlD X.K) := by
  intro pins s σ H x v vl vu lo hi sl Q I rx hs pl pu ⟨A, p, hp, tr, h⟩
  rcases h with ⟨xs, rfl, k⟩ | ⟨xs, rfl, k⟩
  · obtain ⟨a, vs, rfl, h1, h2⟩ := hp.list
    exact sl_list pins s σ H _ v vl vu lo hi sl Q I rx hs pl pu ⟨a, vs, rfl, SqL.of h1, fun p hn => k _ _ (Same.upd hn) (Rp.newL tr hn (cut_rp h2 lo hi))⟩
  · obtain ⟨a, vs, rfl, h1, h2⟩ := hp.tup
    refine sl_tupA pins s σ H _ v vl vu lo hi sl Q I rx hs pl pu ⟨a, vs, rfl, h1, fun hw => ?_, fun hw p hn => k _ _ (Same.upd hn) (Rp.newT hn (cut_rp h2 lo hi))⟩
    have e : cutL xs lo hi = xs := by
      unfold cutL
      rw [← h2.len, hw.1, hw.2, List.drop_zero, Nat.sub_zero, h2.len, List.take_length]
    rw [e] at k
    exact k _ _ (Same.refl H) (.tup h1 h2)

/-! built-ins -/
section
variable {K : PySem.W.Frag} {A : List Addr} {H : Hp}
theorem pr1 {xs : List V} {d : PD} (r : Paired (RpT K A H) xs [d]) : ∃ x, xs = [x] ∧ RpT K A H x d := by
  cases r with
  | cons h t => cases t; exact ⟨_, rfl, h⟩
theorem pr2 {xs : List V} {d e : PD} (r : Paired (RpT K A H) xs [d, e]) : ∃ x y, xs = [x, y] ∧ RpT K A H x d ∧ RpT K A H y e := by
  cases r with
  | cons h t => cases t with
    | cons h2 t => cases t; exact ⟨_, _, rfl, h, h2⟩
theorem len_pos {d : PD} {ds : List PD} {n : Nat} : True := trivial
end
theorem cb_len : CallR X (.builtin "len") (rB X.K bLen) := by
  intro pins s σ H xs us Q I rv ⟨A, ps, r, hp, tr, e, k⟩
  unfold bLen at e
  split at e
  · obtain ⟨x, rfl, h⟩ := pr1 hp
    cases e
    obtain ⟨a, vs, rfl, h1, h2⟩ := h.list
    rw [← h2.len] at k
    exact call_len_seq pins s σ H _ us Q I rv ⟨a, vs, rfl, .inl (SqL.of h1), k _ _ (Same.refl H) (.int _)⟩
  · obtain ⟨x, rfl, h⟩ := pr1 hp
    cases e
    obtain ⟨a, vs, rfl, h1, h2⟩ := h.tup
    rw [← h2.len] at k
    exact call_len_seq pins s σ H _ us Q I rv ⟨a, vs, rfl, .inr h1, k _ _ (Same.refl H) (.int _)⟩
  · obtain ⟨x, rfl, h⟩ := pr1 hp
    exact h.nodict.elim
  · obtain ⟨x, rfl, h⟩ := pr1 hp
    split at e
    · rename_i hc
      cases e
      cases h.str
      exact call_len_str pins s σ H _ us Q I rv ⟨_, rfl, by rw [sizeLine_eq]; exact hc, k _ _ (Same.refl H) (.int _)⟩
    · cases e
  · cases e
theorem cb_tuple : CallR X (.type "tuple") (rB X.K bTuple) := by
  intro pins s σ H xs us Q I rv ⟨A, ps, r, hp, tr, e, k⟩
  unfold bTuple at e
  split at e
  · obtain ⟨x, rfl, h⟩ := pr1 hp
    obtain ⟨ds, e1, rfl⟩ := Option.map_eq_some_iff.mp e
    obtain ⟨a, vs, rfl, h1, h2⟩ := h.items e1
    refine call_tuple_of pins s σ H _ us Q I rv ⟨a, vs, rfl, ?_⟩
    rcases h1 with ⟨h1, _⟩ | ⟨h1, _⟩
    · exact .inl ⟨SqL.of h1, fun l hn => k _ _ (Same.upd hn) (Rp.newT hn h2)⟩
    · exact .inr ⟨h1, k _ _ (Same.refl H) (.tup h1 h2)⟩
  · cases e
theorem cb_list : CallR X (.type "list") (rB X.K bList) := by
  intro pins s σ H xs us Q I rv ⟨A, ps, r, hp, tr, e, k⟩
  unfold bList at e
  split at e
  · obtain ⟨x, rfl, h⟩ := pr1 hp
    obtain ⟨ds, e1, rfl⟩ := Option.map_eq_some_iff.mp e
    obtain ⟨a, vs, rfl, h1, h2⟩ := h.items e1
    refine call_list_of pins s σ H _ us Q I rv ⟨a, vs, rfl, ?_, fun l hn => k _ _ (Same.upd hn) (Rp.newL tr hn h2)⟩
    rcases h1 with ⟨h1, _⟩ | ⟨h1, _⟩
    · exact .inl (SqL.of h1)
    · exact .inr h1
  · cases e
theorem cb_sum (hc : X.calm = true) : CallR X (.builtin "sum") (rB X.K bSum) := by
  intro pins s σ H xs us Q I rv ⟨A, ps, r, hp, tr, e, k⟩
  unfold bSum at e
  split at e
  · obtain ⟨x, rfl, h⟩ := pr1 hp
    obtain ⟨ns, e1, rfl⟩ := Option.map_eq_some_iff.mp e
    obtain ⟨a, vs, rfl, h1, h2⟩ := h.list
    cases ints_of h2 e1
    exact cr_sum hc pins s σ H _ us Q I rv ⟨a, ns, rfl, SqL.of h1, k _ _ (Same.refl H) (.int _)⟩
  · cases e
theorem cb_all (hc : X.calm = true) : CallR X (.builtin "all") (rB X.K bAll) := by
  intro pins s σ H xs us Q I rv ⟨A, ps, r, hp, tr, e, k⟩
  unfold bAll at e
  split at e
  · obtain ⟨x, rfl, h⟩ := pr1 hp
    obtain ⟨ns, e1, rfl⟩ := Option.map_eq_some_iff.mp e
    obtain ⟨a, vs, rfl, h1, h2⟩ := h.list
    cases bools_of h2 e1
    exact cr_all hc pins s σ H _ us Q I rv ⟨a, ns, rfl, SqL.of h1, k _ _ (Same.refl H) (.bl _)⟩
  · cases e
theorem cb_any (hc : X.calm = true) : CallR X (.builtin "any") (rB X.K bAny) := by
  intro pins s σ H xs us Q I rv ⟨A, ps, r, hp, tr, e, k⟩
  unfold bAny at e
  split at e
  · obtain ⟨x, rfl, h⟩ := pr1 hp
    obtain ⟨ns, e1, rfl⟩ := Option.map_eq_some_iff.mp e
    obtain ⟨a, vs, rfl, h1, h2⟩ := h.list
    cases bools_of h2 e1
    exact cr_any hc pins s σ H _ us Q I rv ⟨a, ns, rfl, SqL.of h1, k _ _ (Same.refl H) (.bl _)⟩
  · cases e
theorem cb_abs : CallR X (.builtin "abs") (rB X.K bAbs) := by
  intro pins s σ H xs us Q I rv ⟨A, ps, r, hp, tr, e, k⟩
  unfold bAbs at e
  split at e
  · obtain ⟨x, rfl, h⟩ := pr1 hp
    cases e
    cases h.int
    exact call_abs pins s σ H _ us Q I rv ⟨_, rfl, k _ _ (Same.refl H) (.int _)⟩
  · cases e
theorem cb_int : CallR X (.type "int") (rB X.K bInt) := by
  intro pins s σ H xs us Q I rv ⟨A, ps, r, hp, tr, e, k⟩
  unfold bInt at e
  split at e
  · obtain ⟨x, rfl, h⟩ := pr1 hp
    cases e
    cases h.int
    exact call_int1 pins s σ H _ us Q I rv (.inl ⟨_, rfl, k _ _ (Same.refl H) (.int _)⟩)
  · obtain ⟨x, rfl, h⟩ := pr1 hp
    cases e
    cases h.bl
    exact call_int1 pins s σ H _ us Q I rv (.inr ⟨_, rfl, k _ _ (Same.refl H) (.int _)⟩)
  · cases e
theorem cb_str : CallR X (.type "str") (rB X.K bStr) := by
  intro pins s σ H xs us Q I rv ⟨A, ps, r, hp, tr, e, k⟩
  unfold bStr at e
  split at e
  · obtain ⟨x, rfl, h⟩ := pr1 hp
    split at e
    · rename_i hc
      cases e
      cases h.int
      exact call_str_int pins s σ H _ us Q I rv ⟨_, rfl, by omega, k _ _ (Same.refl H) (.str _)⟩
    · cases e
  · cases e
theorem cb_max2 (hc : X.calm = true) : CallR X (.builtin "max") (rB X.K bMax2) := by
  intro pins s σ H xs us Q I rv ⟨A, ps, r, hp, tr, e, k⟩
  unfold bMax2 at e
  split at e
  · obtain ⟨x, y, rfl, h, h'⟩ := pr2 hp
    cases e
    cases h.int; cases h'.int
    exact call_max2 hc pins s σ H _ us Q I rv ⟨_, _, rfl, k _ _ (Same.refl H) (.int _)⟩
  · cases e
theorem cb_min2 (hc : X.calm = true) : CallR X (.builtin "min") (rB X.K bMin2) := by
  intro pins s σ H xs us Q I rv ⟨A, ps, r, hp, tr, e, k⟩
  unfold bMin2 at e
  split at e
  · obtain ⟨x, y, rfl, h, h'⟩ := pr2 hp
    cases e
    cases h.int; cases h'.int
    exact call_min2 hc pins s σ H _ us Q I rv ⟨_, _, rfl, k _ _ (Same.refl H) (.int _)⟩
  · cases e
end
end Lw

set_option Elab.async false
set_option linter.all false
set_option maxRecDepth 100000
set_option maxHeartbeats 2000000
/-! F6: what loops and comprehensions walk: lists and tuples, alone, with numbers, side by side. -/
namespace Lw
open PySem PySem.Spec PyProof.Rows L2

/-! a source: a list (b) or a tuple -/
def srcIs (b : Bool) (h : Heap) (a : Addr) (items : Array Value) : Prop := if b then h.IsList a items else h.IsTuple a items
def srcIt (b : Bool) (h : Heap) (it a : Addr) (i : Nat) : Prop := if b then h.IsListIter it a i else h.IsTupleIter it a i
def srcSq (K : PySem.W.Frag) (b : Bool) (H : Hp) (a : Addr) (xs : List V) : Prop := if b then SqL K H a xs else SqT K H a xs
def srcO (b : Bool) (a : Addr) : Obj := { cls := .type (if b then "list_iterator" else "tuple_iterator"), data := .fields #[.ref a, .int 0 0] }
section
variable {b : Bool} {h h' : Heap} {a it : Addr} {i : Nat} {items : Array Value}
theorem srcIs.lt (x : srcIs b h a items) : a < h.objs.size := by
  cases b
  · obtain ⟨_, e, _⟩ := (show h.IsTuple a items from x); exact Heap.lt_size e
  · obtain ⟨_, e, _⟩ := (show h.IsList a items from x); exact Heap.lt_size e
theorem srcIs.keep (x : srcIs b h a items) (k : ∀ o, h.get? a = some o → h'.get? a = some o) : srcIs b h' a items := by
  cases b
  · exact (show h.IsTuple a items from x).at k
  · exact (show h.IsList a items from x).at k
theorem srcIt.keep (x : srcIt b h it a i) (k : ∀ o, h.get? it = some o → h'.get? it = some o) : srcIt b h' it a i := by
  cases b
  · exact (show h.IsTupleIter it a i from x).at k
  · exact (show h.IsListIter it a i from x).at k
theorem srcIt.obj (x : srcIt b h it a i) : ∃ o, h.get? it = some o ∧ ∀ v, o.data ≠ .cell v := by
  cases b
  · obtain ⟨o, e, c, d⟩ := (show h.IsTupleIter it a i from x)
    exact ⟨o, e, fun v z => by rw [d] at z; cases z⟩
  · obtain ⟨o, e, c, d⟩ := (show h.IsListIter it a i from x)
    exact ⟨o, e, fun v z => by rw [d] at z; cases z⟩
theorem srcIt.of (e : h.get? it = some (srcO b a)) : srcIt b h it a 0 := by
  cases b
  · exact ⟨_, e, rfl, rfl⟩
  · exact ⟨_, e, rfl, rfl⟩
theorem src_begins (b : Bool) (a : Addr) (items : Array Value) : Begins (.ref a) (srcO b a) fun h => srcIs b h a items := by
  cases b
  · exact begins_tuple a items
  · exact begins_list a items
theorem src_draws {prog : Program} {w : World} {A : Around} (hh : A.handled = none) (b : Bool) (it a : Addr) (hne : a ≠ it) (items : Array Value) :
    Draws prog w A it [it, a] items.size (fun i v => items[i]? = some v) (fun i h => srcIt b h it a i ∧ srcIs b h a items) := by
  cases b
  · exact Draws.tuple hh it a hne items
  · exact Draws.list hh it a hne items
end
section
variable {X : Cx} {pins : List (Addr × Obj)} {σ : L2.St} {H : Hp} {s : Shared} {b : Bool} {a : Addr} {xs ys : List V}
theorem src_inv (I : Inv X pins σ H s) (h : srcSq X.K b H a xs) : ∃ its : List Value, Vals xs its ∧ srcIs b s.heap a its.toArray ∧ xs.length = its.length ∧ xs.length ≤ sizeLine := by
  cases b
  · obtain ⟨its, r, t, z⟩ := I.tuple (show SqT X.K H a xs from h)
    exact ⟨its, r, t, r.length, z⟩
  · obtain ⟨its, r, t, z⟩ := I.list (show SqL X.K H a xs from h)
    exact ⟨its, r, t.isList, r.length, z⟩
theorem src_inj (I : Inv X pins σ H s) (h : srcSq X.K b H a xs) (h' : srcSq X.K b H a ys) : xs = ys := by
  cases b
  · exact I.tuple_inj h h'
  · exact I.list_inj h h'
theorem src_it {tg : Expr} {E : Value → Shared → Prop} {Q : Unit → Shared → Prop} {it : Addr} {i : Nat} {u : Value} (x : srcIt b s.heap it a i) (hQ : Q () s) : wpAny (model X.prog X.w) X.A (letOwnedTupleGo tg (.ref it) u) Q E s := by
  cases b
  · obtain ⟨o, e, c, d⟩ := (show s.heap.IsTupleIter it a i from x)
    exact go_of e c d (by decide) hQ
  · obtain ⟨o, e, c, d⟩ := (show s.heap.IsListIter it a i from x)
    exact go_of e c d (by decide) hQ
end

/-! enumerate -/
def JE (K : PySem.W.Frag) (b : Bool) (a : Addr) : It :=
  ⟨fun i H => ∃ (xs : List V) (x : V), srcSq K b H a xs ∧ xs[i]? = some x,
   fun i H v H' => ∃ T x, v = .ref T ∧ H T = none ∧ H' = upd H T (.tup [.int (i : Nat), x]) ∧ ∀ xs, srcSq K b H a xs → xs[i]? = some x,
   fun i H => ∃ xs : List V, srcSq K b H a xs ∧ xs.length = i⟩
theorem turn_E {P : Program} {w : World} {K : PySem.W.Frag} {elts : List Expr} {kk : Nat} {tpos : Pos} (b : Bool) (a e it : Addr) (hei : e ≠ it) (hea : e ≠ a) (hai : a ≠ it) :
    Turn P w K (.Tuple elts kk tpos) (JE K b a) [e, it] e (fun i h => (∃ old, IsEnum h e it (0 + (i : Int)) old) ∧ srcIt b h it a i) where
  mem := by simp
  obj := fun i h st c hc => by
    obtain ⟨⟨old, he⟩, hi⟩ := st
    have e' : c = e ∨ c = it := by simpa using hc
    rcases e' with z | z
    · rw [z]; exact ⟨_, he, fun v q => nomatch q⟩
    · rw [z]; exact hi.obj
  keep := fun i h h' st k => let ⟨⟨old, he⟩, hi⟩ := st; ⟨⟨old, k e (by simp) _ he⟩, hi.keep fun o q => k it (by simp) o q⟩
  item := by
    intro X hP hw hK hc i pins s σ H E I hf st hg
    subst hP hw hK
    obtain ⟨he, hit⟩ := st
    obtain ⟨xs, x, hq, hx⟩ := hg
    obtain ⟨its, rv, p, hl, hz⟩ := src_inv I hq
    have W := GoesN.enumFrom (prog := X.prog) (w := X.w) (A := X.A) (elts := elts) (x1 := kk) (pos := tpos) 0 (src_draws (prog := X.prog) (w := X.w) (A := X.A.in1) (I.ok.hd hc) b it a hai its.toArray) e hei (by simp [hei, hea]) (by simp)
    have hil : i < its.toArray.size := by
      have := (List.getElem?_eq_some_iff.mp hx).1
      simp; omega
    refine wpAny_mono (W.goes i s (fun v s2 => ∃ x H', Inv X pins σ H' s2 ∧ RelV x v ∧ (JE X.K b a).yld i H x H' ∧ ((∃ old, IsEnum s2.heap e it (0 + ((i + 1 : Nat) : Int)) old) ∧ srcIt b s2.heap it a (i + 1)) ∧ ∀ c ∈ [e, it], H' c = none) E hil ⟨he, hit, p⟩ fun v h' tk hY st' hk _ => ?_) (fun r s1 h1 => ?_) fun _ _ q => q
    · obtain ⟨T, t, y, rfl, hT, hy, hTup⟩ := hY
      obtain ⟨u, hu, ru⟩ := rv.get hx
      have ey : y = u := by
        have : its[i]? = some y := by simpa using hy
        rw [this] at hu
        exact Option.some.inj hu
      subst ey
      have new : ObjOk X.prog X.w (upd H T (.tup [.int (i : Nat), x])) h' T (.tup [.int (i : Nat), x]) :=
        ⟨by show 2 ≤ sizeLine; decide, [.int (0 + (i : Int)) t, y], .cons ⟨t, by rw [Int.zero_add]⟩ (.cons ru .nil), hTup⟩
      have I1 := I.turnedNew (t' := tk) (ch := [e, it]) hk hf hT new
      refine ⟨.ref T, _, I1, rfl, ⟨T, x, rfl, I.hok.fresh hT, rfl, fun ys hy => by rw [src_inj I hy hq]; exact hx⟩, ⟨st'.1, st'.2.1⟩, fun c hc => ?_⟩
      have hcl : c < s.heap.objs.size := by
        have e' : c = e ∨ c = it := by simpa using hc
        rcases e' with z | z
        · rw [z]; obtain ⟨_, q⟩ := he; exact Heap.lt_size q
        · rw [z]; obtain ⟨_, q, _⟩ := hit.obj; exact Heap.lt_size q
      rw [upd_ne (Nat.ne_of_lt (Nat.lt_of_lt_of_le hcl hT))]
      exact (hf c hc).1
    · obtain ⟨v, hv, h2⟩ := h1
      exact ⟨v, hv, h2⟩
  done := by
    intro X hP hw hK hc i pins s σ H E I hf st hg
    subst hP hw hK
    obtain ⟨he, hit⟩ := st
    obtain ⟨xs, hq, hx⟩ := hg
    obtain ⟨its, rv, p, hl, hz⟩ := src_inv I hq
    have W := GoesN.enumFrom (prog := X.prog) (w := X.w) (A := X.A) (elts := elts) (x1 := kk) (pos := tpos) 0 (src_draws (prog := X.prog) (w := X.w) (A := X.A.in1) (I.ok.hd hc) b it a hai its.toArray) e hei (by simp [hei, hea]) (by simp)
    have en : i = its.toArray.size := by simp; omega
    subst en
    refine W.stops s (fun s1 => Inv X pins σ H s1) E ⟨he, hit, p⟩ fun h' tk hk _ => ?_
    exact I.turnedL (ch := [e, it]) hk hf
  self := fun A i s Q E st h => let ⟨⟨_, he⟩, _⟩ := st; wpAny_pyIter_enum he h
theorem meets_enumerate_new1 {v : Value} {o : Obj} {H : Heap → Prop} (B : Begins v o H) :
    Meets (Builtin.«enumerate.__new__» ⟨[.type "enumerate", v], []⟩) (fun _ R s => H s.heap ∧
      R (.ok (.ret (.ref (s.heap.push o).objs.size))) { s with heap := (s.heap.push o).push { cls := .type "enumerate", data := .fields #[.none, .bool false, .ref s.heap.objs.size, rawInt 0, .none, .none] } }) :=
  .of_wp fun prog w A R s h => by
    obtain ⟨hp, g, d, tk, os⟩ := s; obtain ⟨hl, h⟩ := h
    have hsub := sub_enumerate
    have q1 : ∀ {A' : Around} {E : Value → Shared → Prop} {Q : Value → Shared → Prop}, Q (.ref hp.objs.size) ⟨(hp.push o), g, d, tk, os⟩ → wpAny (model prog w) A' (pyIter v) Q E ⟨hp, g, d, tk, os⟩ :=
      fun q => B.iter prog w _ _ ⟨hp, g, d, tk, os⟩ _ hl q
    wp_walk using q1
    refine wpAny_stack_any fun st => wpAny_pure ?_
    split
    · rename_i c _ _ _ _ _
      cases (c == Value.type "enumerate")
      · wp_walk using q1
        exact ⟨_, rfl, h⟩
      · wp_walk using q1
        exact ⟨_, rfl, h⟩
    · wp_walk using q1
      exact ⟨_, rfl, h⟩
theorem call_enum1 {prog : Program} {w : World} {A : Around} {E : Value → Shared → Prop} {s : Shared} {v : Value} {o : Obj} {H : Heap → Prop} {Q : Value → Shared → Prop} (B : Begins v o H) (hl : H s.heap)
    (h : ∀ h', IsEnum h' (s.heap.objs.size + 1) s.heap.objs.size 0 .none → h'.get? s.heap.objs.size = some o → h'.objs.size = s.heap.objs.size + 2 →
      (∀ b o, s.heap.get? b = some o → h'.get? b = some o) → Q (.ref (s.heap.objs.size + 1)) { s with heap := h' }) :
    wpAny (model prog w) A (call (.type "enumerate") [v]) Q E s := by
  refine callType_new F.called_enumerate (by decide) (F.typeCall_enumerate_1 _) (F.newCall_enumerate_1 _) (fun obj => F.args_object_init_2 obj _) F.entry_enumerate_new
    (meets_enumerate_new1 B) ⟨hl, ?_⟩
  have hz : (s.heap.push o).objs.size = s.heap.objs.size + 1 := Heap.size_push ..
  show _ ∧ _
  rw [hz]
  have he : IsEnum ((s.heap.push o).push { cls := .type "enumerate", data := .fields #[.none, .bool false, .ref s.heap.objs.size, rawInt 0, .none, .none] }) (s.heap.objs.size + 1) s.heap.objs.size 0 .none := by
    have := Heap.get?_push_size (s.heap.push o) (o := { cls := .type "enumerate", data := .fields #[.none, .bool false, .ref s.heap.objs.size, rawInt 0, .none, .none] }) rfl
    rw [hz] at this; exact this
  refine ⟨⟨_, he, rfl⟩, h _ he (Heap.get?_push_of_some _ (Heap.get?_push_size _ B.free)) (by rw [Heap.size_push, hz]) fun b o x => Heap.get?_push_of_some _ (Heap.get?_push_of_some _ x)⟩
end Lw

set_option Elab.async false
set_option linter.all false
set_option maxRecDepth 100000
set_option maxHeartbeats 2000000
/-! F7: zip of two, of three. -/
namespace Lw
open PySem PySem.Spec PyProof.Rows L2

def JZ (K : PySem.W.Frag) (b1 b2 : Bool) (a1 a2 : Addr) : It :=
  ⟨fun i H => ∃ (xs ys : List V) (x y : V), srcSq K b1 H a1 xs ∧ srcSq K b2 H a2 ys ∧ xs[i]? = some x ∧ ys[i]? = some y,
   fun i H v H' => ∃ T x y, v = .ref T ∧ H T = none ∧ H' = upd H T (.tup [x, y]) ∧ (∀ xs, srcSq K b1 H a1 xs → xs[i]? = some x) ∧ ∀ ys, srcSq K b2 H a2 ys → ys[i]? = some y,
   fun i H => ∃ xs ys : List V, srcSq K b1 H a1 xs ∧ srcSq K b2 H a2 ys ∧ min xs.length ys.length = i⟩
def ZS (h : Heap) (N : Nat) (b1 b2 : Bool) (a1 a2 : Addr) (i : Nat) : Prop :=
  IsZip h (N + 4) (N + 2) (N + 3) .none ∧ IsTupOf2 h (N + 2) (.ref N) (.ref (N + 1)) ∧ (∃ c1 c2, IsTupOf2 h (N + 3) c1 c2) ∧ srcIt b1 h N a1 i ∧ srcIt b2 h (N + 1) a2 i
theorem below1 {N a : Nat} (h : a < N) : ∀ b ∈ ([a] : List Addr), b < N := fun b hb => by
  have : b = a := by simpa using hb
  rw [this]; exact h
theorem turn_Z {P : Program} {w : World} {K : PySem.W.Frag} {elts : List Expr} {kk : Nat} {tpos : Pos} (b1 b2 : Bool) (a1 a2 : Addr) (N : Nat) (h1 : a1 < N) (h2 : a2 < N) :
    Turn P w K (.Tuple elts kk tpos) (JZ K b1 b2 a1 a2) [N + 4, N + 2, N + 3, N, N + 1] (N + 4) (fun i h => ZS h N b1 b2 a1 a2 i) where
  mem := by simp
  obj := fun i h st c hc => by
    obtain ⟨hz, ht, ⟨c1, c2, ho⟩, hi1, hi2⟩ := st
    have e' : c = N + 4 ∨ c = N + 2 ∨ c = N + 3 ∨ c = N ∨ c = N + 1 := by simpa using hc
    rcases e' with z | z | z | z | z
    · rw [z]; exact ⟨_, hz, fun v q => nomatch q⟩
    · rw [z]; exact ⟨_, ht, fun v q => nomatch q⟩
    · rw [z]; exact ⟨_, ho, fun v q => nomatch q⟩
    · rw [z]; exact hi1.obj
    · rw [z]; exact hi2.obj
  keep := fun i h h' st k => let ⟨hz, ht, ⟨c1, c2, ho⟩, hi1, hi2⟩ := st
    ⟨k _ (by simp) _ hz, k _ (by simp) _ ht, ⟨c1, c2, k _ (by simp) _ ho⟩, hi1.keep fun o q => k _ (by simp) o q, hi2.keep fun o q => k _ (by simp) o q⟩
  item := by
    intro X hP hw hK hc i pins s σ H E I hf st hg
    subst hP hw hK
    obtain ⟨xs, ys, x, y, hq1, hq2, hx, hy⟩ := hg
    obtain ⟨its1, rv1, p1, hl1, hz1⟩ := src_inv I hq1
    obtain ⟨its2, rv2, p2, hl2, hz2⟩ := src_inv I hq2
    have W := GoesN.zip2 (prog := X.prog) (w := X.w) (A := X.A) (elts := elts) (x1 := kk) (pos := tpos) (zip_sep2 (N := N) (fp1 := [a1]) (fp2 := [a2]) (below1 h1) (below1 h2))
      (src_draws (A := X.A.in1) (I.ok.hd hc) b1 N a1 (Nat.ne_of_lt h1) its1.toArray) (src_draws (A := X.A.in1) (I.ok.hd hc) b2 (N + 1) a2 (Nat.ne_of_lt (Nat.lt_succ_of_lt h2)) its2.toArray)
    have hil : i < min its1.toArray.size its2.toArray.size := by
      have u1 := (List.getElem?_eq_some_iff.mp hx).1
      have u2 := (List.getElem?_eq_some_iff.mp hy).1
      simp; omega
    obtain ⟨q1, q2, q3, q4, q5⟩ := st
    refine wpAny_mono (W.goes i s (fun v s2 => ∃ x H', Inv X pins σ H' s2 ∧ RelV x v ∧ (JZ X.K b1 b2 a1 a2).yld i H x H' ∧ ZS s2.heap N b1 b2 a1 a2 (i + 1) ∧ ∀ c ∈ [N + 4, N + 2, N + 3, N, N + 1], H' c = none) E hil ⟨q1, q2, q3, ⟨q4, p1⟩, ⟨q5, p2⟩⟩ fun v h' tk hY st' hk _ => ?_) (fun r s1 h1 => ?_) fun _ _ q => q
    · obtain ⟨T, v1, v2, rfl, hT, hv1, hv2, hTup⟩ := hY
      obtain ⟨u, hu, ru⟩ := rv1.get hx
      obtain ⟨u', hu', ru'⟩ := rv2.get hy
      have e1 : v1 = u := by
        have : its1[i]? = some v1 := by simpa using hv1
        rw [this] at hu
        exact Option.some.inj hu
      have e2 : v2 = u' := by
        have : its2[i]? = some v2 := by simpa using hv2
        rw [this] at hu'
        exact Option.some.inj hu'
      subst e1 e2
      have new : ObjOk X.prog X.w (upd H T (.tup [x, y])) h' T (.tup [x, y]) := ⟨by show 2 ≤ sizeLine; decide, [v1, v2], .cons ru (.cons ru' .nil), hTup⟩
      have I1 := I.turnedNew (t' := tk) (ch := [N + 4, N + 3, N, N + 1]) hk (fun c hc => hf c (by
        have e' : c = N + 4 ∨ c = N + 3 ∨ c = N ∨ c = N + 1 := by simpa using hc
        rcases e' with z | z | z | z <;> simp [z])) hT new
      refine ⟨.ref T, _, I1, rfl, ⟨T, x, y, rfl, I.hok.fresh hT, rfl, fun ys hy => by rw [src_inj I hy hq1]; exact hx, fun ys hy' => by rw [src_inj I hy' hq2]; exact hy⟩, ⟨st'.1, st'.2.1, st'.2.2.1, st'.2.2.2.1.1, st'.2.2.2.2.1⟩, fun c hc => ?_⟩
      have hcl : c < s.heap.objs.size := by
        have e' : c = N + 4 ∨ c = N + 2 ∨ c = N + 3 ∨ c = N ∨ c = N + 1 := by simpa using hc
        rcases e' with z | z | z | z | z
        · rw [z]; exact Heap.lt_size q1
        · rw [z]; exact Heap.lt_size q2
        · rw [z]; obtain ⟨_, _, q⟩ := q3; exact Heap.lt_size q
        · rw [z]; obtain ⟨_, q, _⟩ := q4.obj; exact Heap.lt_size q
        · rw [z]; obtain ⟨_, q, _⟩ := q5.obj; exact Heap.lt_size q
      rw [upd_ne (Nat.ne_of_lt (Nat.lt_of_lt_of_le hcl hT))]
      exact (hf c hc).1
    · obtain ⟨v, hv, h2⟩ := h1
      exact ⟨v, hv, h2⟩
  done := by
    intro X hP hw hK hc i pins s σ H E I hf st hg
    subst hP hw hK
    obtain ⟨xs, ys, hq1, hq2, hx⟩ := hg
    obtain ⟨its1, rv1, p1, hl1, hz1⟩ := src_inv I hq1
    obtain ⟨its2, rv2, p2, hl2, hz2⟩ := src_inv I hq2
    have W := GoesN.zip2 (prog := X.prog) (w := X.w) (A := X.A) (elts := elts) (x1 := kk) (pos := tpos) (zip_sep2 (N := N) (fp1 := [a1]) (fp2 := [a2]) (below1 h1) (below1 h2))
      (src_draws (A := X.A.in1) (I.ok.hd hc) b1 N a1 (Nat.ne_of_lt h1) its1.toArray) (src_draws (A := X.A.in1) (I.ok.hd hc) b2 (N + 1) a2 (Nat.ne_of_lt (Nat.lt_succ_of_lt h2)) its2.toArray)
    have en : i = min its1.toArray.size its2.toArray.size := by simp; omega
    subst en
    obtain ⟨q1, q2, q3, q4, q5⟩ := st
    refine W.stops s (fun s1 => Inv X pins σ H s1) E ⟨q1, q2, q3, ⟨q4, p1⟩, ⟨q5, p2⟩⟩ fun h' tk hk _ => ?_
    exact I.turnedL (ch := [N + 4, N + 3, N, N + 1]) hk fun c hc => hf c (by
        have e' : c = N + 4 ∨ c = N + 3 ∨ c = N ∨ c = N + 1 := by simpa using hc
        rcases e' with z | z | z | z <;> simp [z])
  self := fun A i s Q E st h => wpAny_pyIter_zip st.1 h

def JZ3 (K : PySem.W.Frag) (b1 b2 b3 : Bool) (a1 a2 a3 : Addr) : It :=
  ⟨fun i H => ∃ (xs ys zs : List V) (x y z : V), srcSq K b1 H a1 xs ∧ srcSq K b2 H a2 ys ∧ srcSq K b3 H a3 zs ∧ xs[i]? = some x ∧ ys[i]? = some y ∧ zs[i]? = some z,
   fun i H v H' => ∃ T x y z, v = .ref T ∧ H T = none ∧ H' = upd H T (.tup [x, y, z]) ∧ (∀ xs, srcSq K b1 H a1 xs → xs[i]? = some x) ∧ (∀ ys, srcSq K b2 H a2 ys → ys[i]? = some y) ∧ ∀ ys, srcSq K b3 H a3 ys → ys[i]? = some z,
   fun i H => ∃ xs ys zs : List V, srcSq K b1 H a1 xs ∧ srcSq K b2 H a2 ys ∧ srcSq K b3 H a3 zs ∧ min (min xs.length ys.length) zs.length = i⟩
def ZS3 (h : Heap) (N : Nat) (b1 b2 b3 : Bool) (a1 a2 a3 : Addr) (i : Nat) : Prop :=
  IsZip h (N + 5) (N + 3) (N + 4) .none ∧ IsTupOf3 h (N + 3) (.ref N) (.ref (N + 1)) (.ref (N + 2)) ∧ (∃ c1 c2 c3, IsTupOf3 h (N + 4) c1 c2 c3) ∧ srcIt b1 h N a1 i ∧ srcIt b2 h (N + 1) a2 i ∧ srcIt b3 h (N + 2) a3 i
theorem turn_Z3 {P : Program} {w : World} {K : PySem.W.Frag} {elts : List Expr} {kk : Nat} {tpos : Pos} (b1 b2 b3 : Bool) (a1 a2 a3 : Addr) (N : Nat) (h1 : a1 < N) (h2 : a2 < N) (h3 : a3 < N) :
    Turn P w K (.Tuple elts kk tpos) (JZ3 K b1 b2 b3 a1 a2 a3) [N + 5, N + 3, N + 4, N, N + 1, N + 2] (N + 5) (fun i h => ZS3 h N b1 b2 b3 a1 a2 a3 i) where
  mem := by simp
  obj := fun i h st c hc => by
    obtain ⟨hz, ht, ⟨c1, c2, c3, ho⟩, hi1, hi2, hi3⟩ := st
    have e' : c = N + 5 ∨ c = N + 3 ∨ c = N + 4 ∨ c = N ∨ c = N + 1 ∨ c = N + 2 := by simpa using hc
    rcases e' with z | z | z | z | z | z
    · rw [z]; exact ⟨_, hz, fun v q => nomatch q⟩
    · rw [z]; exact ⟨_, ht, fun v q => nomatch q⟩
    · rw [z]; exact ⟨_, ho, fun v q => nomatch q⟩
    · rw [z]; exact hi1.obj
    · rw [z]; exact hi2.obj
    · rw [z]; exact hi3.obj
  keep := fun i h h' st k => let ⟨hz, ht, ⟨c1, c2, c3, ho⟩, hi1, hi2, hi3⟩ := st
    ⟨k _ (by simp) _ hz, k _ (by simp) _ ht, ⟨c1, c2, c3, k _ (by simp) _ ho⟩, hi1.keep fun o q => k _ (by simp) o q, hi2.keep fun o q => k _ (by simp) o q, hi3.keep fun o q => k _ (by simp) o q⟩
  item := by
    intro X hP hw hK hc i pins s σ H E I hf st hg
    subst hP hw hK
    obtain ⟨xs, ys, zs, x, y, z, hq1, hq2, hq3, hx, hy, hz⟩ := hg
    obtain ⟨its1, rv1, p1, hl1, hz1⟩ := src_inv I hq1
    obtain ⟨its2, rv2, p2, hl2, hz2⟩ := src_inv I hq2
    obtain ⟨its3, rv3, p3, hl3, hz3⟩ := src_inv I hq3
    have W := GoesN.zip3 (prog := X.prog) (w := X.w) (A := X.A) (elts := elts) (x1 := kk) (pos := tpos) (zip_sep3 (N := N) (fp1 := [a1]) (fp2 := [a2]) (fp3 := [a3]) (below1 h1) (below1 h2) (below1 h3))
      (src_draws (A := X.A.in1) (I.ok.hd hc) b1 N a1 (Nat.ne_of_lt h1) its1.toArray) (src_draws (A := X.A.in1) (I.ok.hd hc) b2 (N + 1) a2 (Nat.ne_of_lt (Nat.lt_succ_of_lt h2)) its2.toArray)
      (src_draws (A := X.A.in1) (I.ok.hd hc) b3 (N + 2) a3 (Nat.ne_of_lt (Nat.lt_succ_of_lt (Nat.lt_succ_of_lt h3))) its3.toArray)
    have hil : i < min (min its1.toArray.size its2.toArray.size) its3.toArray.size := by
      have u1 := (List.getElem?_eq_some_iff.mp hx).1
      have u2 := (List.getElem?_eq_some_iff.mp hy).1
      have u3 := (List.getElem?_eq_some_iff.mp hz).1
      simp; omega
    obtain ⟨q1, q2, q3, q4, q5, q6⟩ := st
    refine wpAny_mono (W.goes i s (fun v s2 => ∃ x H', Inv X pins σ H' s2 ∧ RelV x v ∧ (JZ3 X.K b1 b2 b3 a1 a2 a3).yld i H x H' ∧ ZS3 s2.heap N b1 b2 b3 a1 a2 a3 (i + 1) ∧ ∀ c ∈ [N + 5, N + 3, N + 4, N, N + 1, N + 2], H' c = none) E hil ⟨q1, q2, q3, ⟨q4, p1⟩, ⟨q5, p2⟩, ⟨q6, p3⟩⟩ fun v h' tk hY st' hk _ => ?_) (fun r s1 h1 => ?_) fun _ _ q => q
    · obtain ⟨T, v1, v2, v3, rfl, hT, hv1, hv2, hv3, hTup⟩ := hY
      obtain ⟨u, hu, ru⟩ := rv1.get hx
      obtain ⟨u', hu', ru'⟩ := rv2.get hy
      obtain ⟨u3, hu3, ru3⟩ := rv3.get hz
      have e1 : v1 = u := by
        have : its1[i]? = some v1 := by simpa using hv1
        rw [this] at hu
        exact Option.some.inj hu
      have e2 : v2 = u' := by
        have : its2[i]? = some v2 := by simpa using hv2
        rw [this] at hu'
        exact Option.some.inj hu'
      have e3 : v3 = u3 := by
        have : its3[i]? = some v3 := by simpa using hv3
        rw [this] at hu3
        exact Option.some.inj hu3
      subst e1 e2 e3
      have new : ObjOk X.prog X.w (upd H T (.tup [x, y, z])) h' T (.tup [x, y, z]) := ⟨by show 3 ≤ sizeLine; decide, [v1, v2, v3], .cons ru (.cons ru' (.cons ru3 .nil)), hTup⟩
      have I1 := I.turnedNew (t' := tk) (ch := [N + 5, N + 4, N, N + 1, N + 2]) hk (fun c hc => hf c (by
        have e' : c = N + 5 ∨ c = N + 4 ∨ c = N ∨ c = N + 1 ∨ c = N + 2 := by simpa using hc
        rcases e' with z | z | z | z | z <;> simp [z])) hT new
      refine ⟨.ref T, _, I1, rfl, ⟨T, x, y, z, rfl, I.hok.fresh hT, rfl, fun ys hy => by rw [src_inj I hy hq1]; exact hx, fun ys hy' => by rw [src_inj I hy' hq2]; exact hy, fun ys hy' => by rw [src_inj I hy' hq3]; exact hz⟩,
        ⟨st'.1, st'.2.1, st'.2.2.1, st'.2.2.2.1.1, st'.2.2.2.2.1.1, st'.2.2.2.2.2.1⟩, fun c hc => ?_⟩
      have hcl : c < s.heap.objs.size := by
        have e' : c = N + 5 ∨ c = N + 3 ∨ c = N + 4 ∨ c = N ∨ c = N + 1 ∨ c = N + 2 := by simpa using hc
        rcases e' with z | z | z | z | z | z
        · rw [z]; exact Heap.lt_size q1
        · rw [z]; exact Heap.lt_size q2
        · rw [z]; obtain ⟨_, _, _, q⟩ := q3; exact Heap.lt_size q
        · rw [z]; obtain ⟨_, q, _⟩ := q4.obj; exact Heap.lt_size q
        · rw [z]; obtain ⟨_, q, _⟩ := q5.obj; exact Heap.lt_size q
        · rw [z]; obtain ⟨_, q, _⟩ := q6.obj; exact Heap.lt_size q
      rw [upd_ne (Nat.ne_of_lt (Nat.lt_of_lt_of_le hcl hT))]
      exact (hf c hc).1
    · obtain ⟨v, hv, h2⟩ := h1
      exact ⟨v, hv, h2⟩
  done := by
    intro X hP hw hK hc i pins s σ H E I hf st hg
    subst hP hw hK
    obtain ⟨xs, ys, zs, hq1, hq2, hq3, hx⟩ := hg
    obtain ⟨its1, rv1, p1, hl1, hz1⟩ := src_inv I hq1
    obtain ⟨its2, rv2, p2, hl2, hz2⟩ := src_inv I hq2
    obtain ⟨its3, rv3, p3, hl3, hz3⟩ := src_inv I hq3
    have W := GoesN.zip3 (prog := X.prog) (w := X.w) (A := X.A) (elts := elts) (x1 := kk) (pos := tpos) (zip_sep3 (N := N) (fp1 := [a1]) (fp2 := [a2]) (fp3 := [a3]) (below1 h1) (below1 h2) (below1 h3))
      (src_draws (A := X.A.in1) (I.ok.hd hc) b1 N a1 (Nat.ne_of_lt h1) its1.toArray) (src_draws (A := X.A.in1) (I.ok.hd hc) b2 (N + 1) a2 (Nat.ne_of_lt (Nat.lt_succ_of_lt h2)) its2.toArray)
      (src_draws (A := X.A.in1) (I.ok.hd hc) b3 (N + 2) a3 (Nat.ne_of_lt (Nat.lt_succ_of_lt (Nat.lt_succ_of_lt h3))) its3.toArray)
    have en : i = min (min its1.toArray.size its2.toArray.size) its3.toArray.size := by simp; omega
    subst en
    obtain ⟨q1, q2, q3, q4, q5, q6⟩ := st
    refine W.stops s (fun s1 => Inv X pins σ H s1) E ⟨q1, q2, q3, ⟨q4, p1⟩, ⟨q5, p2⟩, ⟨q6, p3⟩⟩ fun h' tk hk _ => ?_
    exact I.turnedL (ch := [N + 5, N + 4, N, N + 1, N + 2]) hk fun c hc => hf c (by
        have e' : c = N + 5 ∨ c = N + 4 ∨ c = N ∨ c = N + 1 ∨ c = N + 2 := by simpa using hc
        rcases e' with z | z | z | z | z <;> simp [z])
  self := fun A i s Q E st h => wpAny_pyIter_zip st.1 h
end Lw

set_option Elab.async false
set_option linter.all false
set_option maxRecDepth 100000
set_option maxHeartbeats 2000000
/-! F8: what is walked, as data. -/
namespace Lw
open PySem PySem.Spec PyProof.Rows L2

/-- an item: a value that stands, or a pair (triple) that is made when it is handed out -/
inductive Itm where
  | one (v : V)
  | tup (vs : List V)
inductive RpI (K : PySem.W.Frag) (A : List Addr) (H : Hp) : Itm → PD → Prop
  | one {v : V} {d : PD} : Rp K A H v d → RpI K A H (.one v) d
  | tup {vs : List V} {ds : List PD} : RpL K A H vs ds → RpI K A H (.tup vs) (.tuple ds)
/-- handed out at H: as x, at H' -/
def YI (H : Hp) : Itm → V → Hp → Prop
  | .one v, x, H' => x = v ∧ H' = H
  | .tup vs, x, H' => ∃ T, x = .ref T ∧ H T = none ∧ H' = upd H T (.tup vs)
/-- the lists at L stand as at H0, and all tuples -/
structure Later (L : List Addr) (H0 H : Hp) : Prop where
  at_ : ∀ a ∈ L, ∀ o, H0 a = some o → NT o → H a = some o
  tp : ∀ b xs, H0 b = some (.tup xs) → H b = some (.tup xs)
  fz : ∀ b o xs, H0 b = some (.frz o (.tup xs)) → H b = some (.frz o (.tup xs))
structure ItD (J : It) (L : List Addr) (H0 : Hp) (its : List Itm) : Prop where
  go : ∀ H i it, Later L H0 H → its[i]? = some it → J.go i H ∧ ∀ x H', J.yld i H x H' → YI H it x H'
  stop : ∀ H, Later L H0 H → J.stop its.length H
/-- the items are the data -/
def RpIs (K : PySem.W.Frag) (A : List Addr) (H : Hp) (its : List Itm) (ds : List PD) : Prop := its.length = ds.length ∧ ∀ (i : Nat) (it : Itm) (d : PD), its[i]? = some it → ds[i]? = some d → RpI K A H it d

section
variable {K : PySem.W.Frag} {A As As' B : List Addr} {H H' H0 : Hp} {it : Itm} {d : PD} {its : List Itm} {ds : List PD}
theorem RpI.grow (c : Cel As H) (g : Gr As As' H H') (r : RpI K (As ++ B) H it d) : RpI K (As' ++ B) H' it d := by
  cases r with
  | one r => exact .one (r.grow c g)
  | tup r => exact .tup (r.grow c g)
theorem RpI.yi {x : V} (r : RpI K A H it d) (y : YI H it x H') : Same H H' ∧ Rp K A H' x d := by
  cases r with
  | one r =>
    obtain ⟨rfl, rfl⟩ := y
    exact ⟨Same.refl _, r⟩
  | tup r =>
    obtain ⟨T, rfl, hT, rfl⟩ := y
    exact ⟨Same.upd hT, Rp.newT hT r⟩
theorem Later.refl (L : List Addr) (H : Hp) : Later L H H := ⟨fun _ _ _ h _ => h, fun _ _ h => h, fun _ _ _ h => h⟩
theorem Later.trans {L : List Addr} {H1 H2 : Hp} (a : Later L H H1) (b : Later L H1 H2) : Later L H H2 := ⟨fun c hc o h nt => b.at_ c hc o (a.at_ c hc o h nt) nt, fun c xs h => b.tp c xs (a.tp c xs h), fun c o xs h => b.fz c o xs (a.fz c o xs h)⟩
theorem Later.of (c : Cel As H) (g : Gr As As' H H') {L : List Addr} (hL : ∀ a ∈ L, a ∉ As) : Later L H H' :=
  ⟨fun a ha o h nt => g.kp a o h (hL a ha) nt, g.tp, fun b o xs h => g.kp b _ h (fun q => c.nofrz q h) (fun _ z => nomatch z)⟩
theorem srcSq.later {b : Bool} {a : Addr} {xs : List V} {L : List Addr} (h : srcSq K b H0 a xs) (l : Later L H0 H) (hm : b = true → a ∈ L) : srcSq K b H a xs := by
  cases b
  · rcases (show SqT K H0 a xs from h) with (h | ⟨o, h⟩) | h
    · exact .inl (.inl (l.tp _ _ h))
    · exact .inl (.inr ⟨o, l.fz _ _ _ h⟩)
    · exact .inr h
  · rcases (show SqL K H0 a xs from h) with (h | ⟨o, h⟩) | h
    · exact .inl (.inl (l.at_ a (hm rfl) _ h (fun _ z => nomatch z)))
    · exact .inl (.inr ⟨o, l.at_ a (hm rfl) _ h (fun _ z => nomatch z)⟩)
    · exact .inr h
theorem zip_get {α β : Type} {xs : List α} {ys : List β} {i : Nat} {x : α} {y : β} : (xs.zip ys)[i]? = some (x, y) ↔ xs[i]? = some x ∧ ys[i]? = some y := by
  rw [List.getElem?_zip_eq_some]
theorem itd_list {a : Addr} {xs : List V} (h : SqL K H0 a xs) : ItD (Itl K a) [a] H0 (xs.map .one) where
  go := fun H i it l e => by
    have q : SqL K H a xs := srcSq.later (b := true) h l fun _ => by simp
    rw [List.getElem?_map] at e
    cases ex : xs[i]? with
    | none => rw [ex] at e; cases e
    | some x =>
      rw [ex] at e; cases e
      exact ⟨⟨xs, x, q, ex⟩, fun y H' ⟨e1, e2⟩ => ⟨Option.some.inj ((e2 xs q).symm.trans ex), e1⟩⟩
  stop := fun H l => ⟨xs, srcSq.later (b := true) h l fun _ => by simp, by simp⟩
theorem itd_tup {a : Addr} {xs : List V} (h : SqT K H0 a xs) : ItD (Itt K a) [] H0 (xs.map .one) where
  go := fun H i it l e => by
    have q : SqT K H a xs := srcSq.later (b := false) h l (fun z => nomatch z)
    rw [List.getElem?_map] at e
    cases ex : xs[i]? with
    | none => rw [ex] at e; cases e
    | some x =>
      rw [ex] at e; cases e
      exact ⟨⟨xs, x, q, ex⟩, fun y H' ⟨e1, e2⟩ => ⟨Option.some.inj ((e2 xs q).symm.trans ex), e1⟩⟩
  stop := fun H l => ⟨xs, srcSq.later (b := false) h l (fun z => nomatch z), by simp⟩
theorem itd_range (lo : Int) (n : Nat) : ItD (Itr lo n) [] H0 ((List.range n).map fun i => .one (.int (lo + (i : Nat)))) where
  go := fun H i it l e => by
    rw [List.getElem?_map] at e
    cases ex : (List.range n)[i]? with
    | none => rw [ex] at e; cases e
    | some x =>
      rw [ex] at e; cases e
      obtain ⟨h1, h2⟩ := List.getElem?_eq_some_iff.mp ex
      rw [List.getElem_range] at h2
      rw [List.length_range] at h1
      subst h2
      exact ⟨h1, fun y H' ⟨e1, e2⟩ => ⟨e2, e1⟩⟩
  stop := fun H l => by show n ≤ _; simp
/-- items with their numbers -/
def enumI (n : Nat) : List V → List Itm
  | [] => []
  | x :: r => .tup [.int (n : Nat), x] :: enumI (n + 1) r
theorem enumI_len : ∀ (xs : List V) (n : Nat), (enumI n xs).length = xs.length
  | [], _ => rfl
  | x :: r, n => by simp [enumI, enumI_len r]
theorem enumI_get : ∀ (xs : List V) (n i : Nat), (enumI n xs)[i]? = xs[i]?.map fun x => .tup [.int ((n + i : Nat)), x]
  | [], _, _ => by simp [enumI]
  | x :: r, n, 0 => by simp [enumI]
  | x :: r, n, i + 1 => by
    show (enumI (n + 1) r)[i]? = _
    rw [enumI_get r (n + 1) i]
    have : n + 1 + i = n + (i + 1) := by omega
    rw [this]
    rfl
theorem itd_enum {b : Bool} {a : Addr} {xs : List V} (h : srcSq K b H0 a xs) : ItD (JE K b a) (if b then [a] else []) H0 (enumI 0 xs) where
  go := fun H i it l e => by
    have q : srcSq K b H a xs := srcSq.later h l fun z => by simp [z]
    rw [enumI_get] at e
    cases ex : xs[i]? with
    | none => rw [ex] at e; cases e
    | some x =>
      rw [ex] at e; cases e
      refine ⟨⟨xs, x, q, ex⟩, fun y H' ⟨T, z, e1, e2, e3, e4⟩ => ⟨T, e1, e2, ?_⟩⟩
      have : z = x := Option.some.inj ((e4 xs q).symm.trans ex)
      rw [e3, this, Nat.zero_add]
  stop := fun H l => ⟨xs, srcSq.later h l fun z => by simp [z], by rw [enumI_len]⟩
theorem itd_zip {b1 b2 : Bool} {a1 a2 : Addr} {xs ys : List V} (h1 : srcSq K b1 H0 a1 xs) (h2 : srcSq K b2 H0 a2 ys) :
    ItD (JZ K b1 b2 a1 a2) ((if b1 then [a1] else []) ++ (if b2 then [a2] else [])) H0 ((xs.zip ys).map fun p => .tup [p.1, p.2]) where
  go := fun H i it l e => by
    have q1 : srcSq K b1 H a1 xs := srcSq.later h1 l fun z => by simp [z]
    have q2 : srcSq K b2 H a2 ys := srcSq.later h2 l fun z => by simp [z]
    rw [List.getElem?_map] at e
    cases ex : (xs.zip ys)[i]? with
    | none => rw [ex] at e; cases e
    | some p =>
      rw [ex] at e; cases e
      obtain ⟨x, y⟩ := p
      obtain ⟨e1, e2⟩ := zip_get.mp ex
      refine ⟨⟨xs, ys, x, y, q1, q2, e1, e2⟩, fun z H' ⟨T, x', y', f1, f2, f3, f4, f5⟩ => ⟨T, f1, f2, ?_⟩⟩
      have g1 : x' = x := Option.some.inj ((f4 xs q1).symm.trans e1)
      have g2 : y' = y := Option.some.inj ((f5 ys q2).symm.trans e2)
      rw [f3, g1, g2]
  stop := fun H l => ⟨xs, ys, srcSq.later h1 l fun z => by simp [z], srcSq.later h2 l fun z => by simp [z], by simp⟩
theorem itd_zip3 {b1 b2 b3 : Bool} {a1 a2 a3 : Addr} {xs ys zs : List V} (h1 : srcSq K b1 H0 a1 xs) (h2 : srcSq K b2 H0 a2 ys) (h3 : srcSq K b3 H0 a3 zs) :
    ItD (JZ3 K b1 b2 b3 a1 a2 a3) ((if b1 then [a1] else []) ++ (if b2 then [a2] else []) ++ (if b3 then [a3] else [])) H0 ((xs.zip (ys.zip zs)).map fun p => .tup [p.1, p.2.1, p.2.2]) where
  go := fun H i it l e => by
    have q1 : srcSq K b1 H a1 xs := srcSq.later h1 l fun z => by simp [z]
    have q2 : srcSq K b2 H a2 ys := srcSq.later h2 l fun z => by simp [z]
    have q3 : srcSq K b3 H a3 zs := srcSq.later h3 l fun z => by simp [z]
    rw [List.getElem?_map] at e
    cases ex : (xs.zip (ys.zip zs))[i]? with
    | none => rw [ex] at e; cases e
    | some p =>
      rw [ex] at e; cases e
      obtain ⟨x, y, z⟩ := p
      obtain ⟨e1, e2⟩ := zip_get.mp ex
      obtain ⟨e2, e3⟩ := zip_get.mp e2
      refine ⟨⟨xs, ys, zs, x, y, z, q1, q2, q3, e1, e2, e3⟩, fun w H' ⟨T, x', y', z', f1, f2, f3, f4, f5, f6⟩ => ⟨T, f1, f2, ?_⟩⟩
      have g1 : x' = x := Option.some.inj ((f4 xs q1).symm.trans e1)
      have g2 : y' = y := Option.some.inj ((f5 ys q2).symm.trans e2)
      have g3 : z' = z := Option.some.inj ((f6 zs q3).symm.trans e3)
      rw [f3, g1, g2, g3]
  stop := fun H l => ⟨xs, ys, zs, srcSq.later h1 l fun z => by simp [z], srcSq.later h2 l fun z => by simp [z], srcSq.later h3 l fun z => by simp [z], by simp⟩
/-! the data -/
theorem rpis_one {vs : List V} (r : RpL K A H vs ds) : RpIs K A H (vs.map .one) ds := by
  refine ⟨by rw [List.length_map]; exact r.len, fun i it d e1 e2 => ?_⟩
  rw [List.getElem?_map] at e1
  cases ex : vs[i]? with
  | none => rw [ex] at e1; cases e1
  | some x =>
    rw [ex] at e1; cases e1
    obtain ⟨d', h1, h2⟩ := r.get' ex
    rw [e2] at h1; cases h1
    exact .one h2
theorem enumD_len : ∀ (xs : List PD) (n : Nat), (enumD n xs).length = xs.length
  | [], _ => rfl
  | x :: r, n => by simp [enumD, enumD_len r]
theorem enumD_get : ∀ (xs : List PD) (n i : Nat), (enumD n xs)[i]? = xs[i]?.map fun x => .tuple [.int ((n + i : Nat)), x]
  | [], _, _ => by simp [enumD]
  | x :: r, n, 0 => by simp [enumD]
  | x :: r, n, i + 1 => by
    show (enumD (n + 1) r)[i]? = _
    rw [enumD_get r (n + 1) i]
    have : n + 1 + i = n + (i + 1) := by omega
    rw [this]
    rfl
theorem rpis_enum {vs : List V} (r : RpL K A H vs ds) : RpIs K A H (enumI 0 vs) (enumD 0 ds) := by
  refine ⟨by rw [enumI_len, enumD_len]; exact r.len, fun i it d e1 e2 => ?_⟩
  rw [enumI_get] at e1
  rw [enumD_get] at e2
  cases ex : vs[i]? with
  | none => rw [ex] at e1; cases e1
  | some x =>
    rw [ex] at e1; cases e1
    obtain ⟨d', h1, h2⟩ := r.get' ex
    rw [h1] at e2; cases e2
    exact .tup (.cons (.int _) (.cons h2 .nil))
theorem rpis_zip {vs us : List V} {es : List PD} (r : RpL K A H vs ds) (q : RpL K A H us es) : RpIs K A H ((vs.zip us).map fun p => .tup [p.1, p.2]) (zipD ds es) := by
  unfold zipD
  refine ⟨by simp [r.len, q.len], fun i it d e1 e2 => ?_⟩
  rw [List.getElem?_map] at e1 e2
  cases ex : (vs.zip us)[i]? with
  | none => rw [ex] at e1; cases e1
  | some p =>
    obtain ⟨x, y⟩ := p
    rw [ex] at e1; cases e1
    obtain ⟨f1, f2⟩ := zip_get.mp ex
    obtain ⟨d1, g1, g2⟩ := r.get' f1
    obtain ⟨d2, g3, g4⟩ := q.get' f2
    rw [zip_get.mpr ⟨g1, g3⟩] at e2; cases e2
    exact .tup (.cons g2 (.cons g4 .nil))
theorem rpis_zip3 {vs us ws : List V} {es fs : List PD} (r : RpL K A H vs ds) (q : RpL K A H us es) (t : RpL K A H ws fs) : RpIs K A H ((vs.zip (us.zip ws)).map fun p => .tup [p.1, p.2.1, p.2.2]) (zipD3 ds es fs) := by
  unfold zipD3
  refine ⟨by simp [r.len, q.len, t.len], fun i it d e1 e2 => ?_⟩
  rw [List.getElem?_map] at e1 e2
  cases ex : (vs.zip (us.zip ws))[i]? with
  | none => rw [ex] at e1; cases e1
  | some p =>
    obtain ⟨x, y, z⟩ := p
    rw [ex] at e1; cases e1
    obtain ⟨f1, f2⟩ := zip_get.mp ex
    obtain ⟨f2, f3⟩ := zip_get.mp f2
    obtain ⟨d1, g1, g2⟩ := r.get' f1
    obtain ⟨d2, g3, g4⟩ := q.get' f2
    obtain ⟨d3, g5, g6⟩ := t.get' f3
    rw [zip_get.mpr ⟨g1, zip_get.mpr ⟨g3, g5⟩⟩] at e2; cases e2
    exact .tup (.cons g2 (.cons g4 (.cons g6 .nil)))
theorem rpis_range (lo : Int) (n : Nat) : RpIs K A H ((List.range n).map fun i => .one (.int (lo + (i : Nat)))) ((List.range n).map fun i => .int (lo + (i : Nat))) := by
  refine ⟨by simp, fun i it d e1 e2 => ?_⟩
  rw [List.getElem?_map] at e1 e2
  cases ex : (List.range n)[i]? with
  | none => rw [ex] at e1; cases e1
  | some x =>
    rw [ex] at e1 e2; cases e1; cases e2
    exact .one (.int _)
end
end Lw

set_option Elab.async false
set_option linter.all false
set_option maxRecDepth 100000
set_option maxHeartbeats 2000000
/-! F9: the check of an IR expression against the text's. -/
namespace Lw
open PySem PySem.Spec PyProof.Rows L2

/-- a scope, and the names whose cells are the frame's own -/
structure Sco where
  sc : Scope
  fn : Str → Bool
  /-- 0: not within an except suite; 1: there; 2: in a comprehension there -/
  hot : Nat
  lam : Bool
def kindB (sc : Scope) (x : Str) : Option NameKind := sc.names.lookup x
def visB (S : Sco) (x : Str) : Bool := match S.sc.names.lookup x with
  | some .local => true
  | some .cell => true
  | some .free => true
  | _ => false
def locB (S : Sco) (x : Str) : Bool := match S.sc.names.lookup x with
  | some .local => true
  | some .cell => S.fn x
  | _ => false
def gloB (S : Sco) (x : Str) : Bool := match S.sc.names.lookup x with
  | some .globalImplicit => !(x == ("__debug__" : Str)) && !(x == ("__name__" : Str))
  | _ => false
def varB (N : List Str) (S : Sco) (i : Nat) (x : Str) : Bool := decide (N[i]? = some x) && visB S x && !(x == ("__debug__" : Str)) && !(x == ("__classdict__" : Str))
def blkS (S : Sco) (scope : Scope) : Sco := ⟨relS scope S.sc, fun x => scope.names.lookup x == some .cell, if S.hot = 0 then 0 else 2, S.lam⟩
def lamSc (scope : Scope) : Sco := ⟨scope, fun _ => false, 0, false⟩

mutual
/-- the data that stand written -/
def pdEq : PD → PD → Bool
  | .none, .none => true
  | .bool a, .bool b => a == b
  | .int a, .int b => a == b
  | .str a, .str b => a == b
  | .tuple xs, .tuple ys => pdEqs xs ys
  | _, _ => false
def pdEqs : List PD → List PD → Bool
  | [], [] => true
  | x :: xs, y :: ys => pdEq x y && pdEqs xs ys
  | _, _ => false
end
mutual
theorem pdEq_eq : ∀ (a b : PD), pdEq a b = true → a = b
  | .none, b, h => by cases b <;> simp [pdEq] at h <;> rfl
  | .bool a, b, h => by cases b <;> simp [pdEq] at h; rw [h]
  | .int a, b, h => by cases b <;> simp [pdEq] at h; rw [h]
  | .str a, b, h => by cases b <;> simp [pdEq] at h; rw [h]
  | .tuple xs, b, h => by
    cases b <;> simp [pdEq] at h
    rw [pdEqs_eq xs _ h]
  | .list _, b, h => by cases b <;> simp [pdEq] at h
  | .dict _, b, h => by cases b <;> simp [pdEq] at h
theorem pdEqs_eq : ∀ (a b : List PD), pdEqs a b = true → a = b
  | [], b, h => by cases b <;> simp [pdEqs] at h <;> rfl
  | x :: xs, b, h => by
    cases b <;> simp [pdEqs] at h
    rw [pdEq_eq x _ h.1, pdEqs_eq xs _ h.2]
end
def cnB (T : Tab) (x : Str) (d : PD) : Bool := T.cns.any fun p => decide (p.1 = x) && pdEq p.2 d
def hclB (T : Tab) (c : Nat) (subs : List Nat) (x : Str) : Bool := T.hcl.any fun p => decide (p.1 = c) && decide (p.2.1 = subs) && decide (p.2.2 = x)
def lfnB (T : Tab) (f : Nat) (x : Str) : Bool := T.lfn.any fun p => decide (p.1 = f) && decide (p.2 = x)
def fnB (T : Tab) (f : Nat) (x : Str) : Bool := T.fnm.any fun p => decide (p.1 = f) && decide (p.2 = x)
def biNm : Bi → Option Str
  | .len => some "len"
  | .tuple => some "tuple"
  | .list => some "list"
  | .sum => some "sum"
  | .max => some "max"
  | .min => some "min"
  | .max2 => some "max"
  | .min2 => some "min"
  | .all => some "all"
  | .any => some "any"
  | .abs => some "abs"
  | .int => some "int"
  | .str => some "str"
  | .sorted => none
  | _ => none
def tyNm : Ty → Option Str
  | .int => some "int"
  | .bool => some "bool"
  | .tuple => some "tuple"
  | .str => some "str"
  | .list => some "list"
  | _ => none
/-- not a star, not a slice -/
def plainX : Expr → Bool
  | .Starred _ _ => false
  | .Slice _ _ _ _ => false
  | .Set _ _ _ => false
  | _ => true
mutual
def chkG (N : List Str) (S : Sco) : Tg → Expr → Bool
  | .nm i, .Name x _ => decide (N[i]? = some x) && locB S x
  | .tu ts, .Tuple es _ _ => decide (S.hot = 0) && chkGs N S ts es
  | .tt ts, .Tuple es _ _ => chkGs N S ts es
  | _, _ => false
def chkGs (N : List Str) (S : Sco) : List Tg → List Expr → Bool
  | [], [] => true
  | t :: ts, e :: es => plainX e && chkG N S t e && chkGs N S ts es
  | _, _ => false
end
def isTup : Expr → Bool
  | .Tuple _ _ _ => true
  | _ => false
mutual
def tgSlots : Tg → List Nat
  | .nm i => [i]
  | .tu ts => tgsSlots ts
  | .tt ts => tgsSlots ts
def tgsSlots : List Tg → List Nat
  | [] => []
  | t :: ts => tgSlots t ++ tgsSlots ts
end
def ownL (N : List Str) (own : List Nat) : List (Str × Nat) := own.map fun i => (N.getD i "", i)

/-! what an expression of the text is -/
def vName : Expr → Option Str
  | .Name x _ => some x
  | _ => none
def vTup : Expr → Option (List Expr)
  | .Tuple xs _ _ => some xs
  | _ => none
def vLst : Expr → Option (List Expr)
  | .List xs _ => some xs
  | _ => none
def vBin : Expr → Option (Expr × Operator × Expr)
  | .BinOp a p b _ => some (a, p, b)
  | _ => none
def vNeg : Expr → Option Expr
  | .UnaryOp .USub a _ => some a
  | _ => none
def vNot : Expr → Option Expr
  | .UnaryOp .Not a _ => some a
  | _ => none
def vAnd : Expr → Option (List Expr)
  | .BoolOp .And xs _ => some xs
  | _ => none
def vOr : Expr → Option (List Expr)
  | .BoolOp .Or xs _ => some xs
  | _ => none
def vCmp : Expr → Option (Expr × CmpOp × Expr)
  | .Compare a [p] [b] _ => some (a, p, b)
  | _ => none
def vChain : Expr → Option (Expr × CmpOp × Expr × CmpOp × Expr)
  | .Compare a [p, q] [b, c] _ => some (a, p, b, q, c)
  | _ => none
def vIf : Expr → Option (Expr × Expr × Expr)
  | .IfExp a b c _ => some (a, b, c)
  | _ => none
def vSub : Expr → Option (Expr × Expr)
  | .Subscript a b _ => some (a, b)
  | _ => none
def vSlc : Expr → Option (Expr × Option Expr × Option Expr)
  | .Subscript a (.Slice l h none _) _ => some (a, l, h)
  | _ => none
def vCall : Expr → Option (Str × List Expr)
  | .Call (.Name f _) xs [] _ => some (f, xs)
  | _ => none
def vSS : Expr → Option (Str × Str × Expr)
  | .Call (.Name f _) [.Call (.Name g _) [x] [] _] [] _ => some (f, g, x)
  | _ => none
def vRev : Expr → Option Expr
  | .Subscript a (.Slice none none (some (.UnaryOp .USub (.Constant (.int i) _ _) _)) _) _ => if i = 1 then some a else none
  | _ => none
def vLam : Expr → Option (Str × Expr × Scope)
  | .Call (.Name f _) [.Lambda ⟨[], [], none, [], [], none, []⟩ b scope _] [] _ => some (f, b, scope)
  | _ => none
def vLim : Expr → Option Expr
  | .Attribute a f _ => if f = "limit" then some a else none
  | _ => none
def vJoin : Expr → Option (Str × Expr)
  | .Call (.Attribute (.Constant (.str c) _ _) m p1) [x] [] p2 => if m = "join" && p1.endLine == p2.line then some (c, x) else none
  | _ => none
theorem vJoin_eq {x y : Expr} {c : Str} (h : vJoin x = some (c, y)) : ∃ j q p1 p2, x = .Call (.Attribute (.Constant (.str c) j q) "join" p1) [y] [] p2 ∧ (p1.endLine == p2.line) = true := by
  unfold vJoin at h
  split at h
  · split at h
    · rename_i hc
      cases h
      simp only [Bool.and_eq_true, decide_eq_true_eq] at hc
      obtain ⟨h1, h2⟩ := hc
      subst h1
      exact ⟨_, _, _, _, rfl, h2⟩
    · cases h
  · cases h
def isStrC (a : E) (c : Str) : Bool := match a with
  | .cst (.str d) => decide (d = c)
  | _ => false
def vLc : Expr → Option (Expr × Expr × Expr × List Expr × Scope)
  | .ListComp e [⟨t, it, ifs, 0⟩] scope _ => some (e, t, it, ifs, scope)
  | _ => none
def vConst : Expr → Option PD
  | .Constant .none _ _ => some .none
  | .Constant (.bool c) _ _ => some (.bool c)
  | .Constant (.int c) _ _ => some (.int c)
  | .Constant (.str c) _ _ => some (.str c)
  | _ => none
section
variable {x : Expr}
theorem vName_eq {y : Str} (h : vName x = some y) : ∃ p, x = .Name y p := by
  unfold vName at h; split at h <;> cases h; exact ⟨_, rfl⟩
theorem vTup_eq {y : List Expr} (h : vTup x = some y) : ∃ j p, x = .Tuple y j p := by
  unfold vTup at h; split at h <;> cases h; exact ⟨_, _, rfl⟩
theorem vLst_eq {y : List Expr} (h : vLst x = some y) : ∃ p, x = .List y p := by
  unfold vLst at h; split at h <;> cases h; exact ⟨_, rfl⟩
theorem vBin_eq {a b : Expr} {o : Operator} (h : vBin x = some (a, o, b)) : ∃ p, x = .BinOp a o b p := by
  unfold vBin at h; split at h <;> cases h; exact ⟨_, rfl⟩
theorem vNeg_eq {a : Expr} (h : vNeg x = some a) : ∃ p, x = .UnaryOp .USub a p := by
  unfold vNeg at h; split at h <;> cases h; exact ⟨_, rfl⟩
theorem vNot_eq {a : Expr} (h : vNot x = some a) : ∃ p, x = .UnaryOp .Not a p := by
  unfold vNot at h; split at h <;> cases h; exact ⟨_, rfl⟩
theorem vAnd_eq {a : List Expr} (h : vAnd x = some a) : ∃ p, x = .BoolOp .And a p := by
  unfold vAnd at h; split at h <;> cases h; exact ⟨_, rfl⟩
theorem vOr_eq {a : List Expr} (h : vOr x = some a) : ∃ p, x = .BoolOp .Or a p := by
  unfold vOr at h; split at h <;> cases h; exact ⟨_, rfl⟩
theorem vCmp_eq {a b : Expr} {o : CmpOp} (h : vCmp x = some (a, o, b)) : ∃ p, x = .Compare a [o] [b] p := by
  unfold vCmp at h; split at h <;> cases h; exact ⟨_, rfl⟩
theorem vChain_eq {a b c : Expr} {o q : CmpOp} (h : vChain x = some (a, o, b, q, c)) : ∃ p, x = .Compare a [o, q] [b, c] p := by
  unfold vChain at h; split at h <;> cases h; exact ⟨_, rfl⟩
theorem vIf_eq {a b c : Expr} (h : vIf x = some (a, b, c)) : ∃ p, x = .IfExp a b c p := by
  unfold vIf at h; split at h <;> cases h; exact ⟨_, rfl⟩
theorem vSub_eq {a b : Expr} (h : vSub x = some (a, b)) : ∃ p, x = .Subscript a b p := by
  unfold vSub at h; split at h <;> cases h; exact ⟨_, rfl⟩
theorem vSlc_eq {a : Expr} {l r : Option Expr} (h : vSlc x = some (a, l, r)) : ∃ p q, x = .Subscript a (.Slice l r none p) q := by
  unfold vSlc at h; split at h <;> cases h; exact ⟨_, _, rfl⟩
theorem vCall_eq {f : Str} {a : List Expr} (h : vCall x = some (f, a)) : ∃ p q, x = .Call (.Name f p) a [] q := by
  unfold vCall at h; split at h <;> cases h; exact ⟨_, _, rfl⟩
theorem vSS_eq {f g : Str} {y : Expr} (h : vSS x = some (f, g, y)) : ∃ p q r t, x = .Call (.Name f p) [.Call (.Name g q) [y] [] r] [] t := by
  unfold vSS at h; split at h <;> cases h; exact ⟨_, _, _, _, rfl⟩
theorem vRev_eq {a : Expr} (h : vRev x = some a) : ∃ k p1 p2 p3 pos, x = .Subscript a (.Slice none none (some (.UnaryOp .USub (.Constant (.int 1) k p1) p2)) p3) pos := by
  unfold vRev at h; split at h
  · split at h
    · rename_i e; cases h; subst e; exact ⟨_, _, _, _, _, rfl⟩
    · cases h
  · cases h
theorem vLam_eq {f : Str} {b : Expr} {scope : Scope} (h : vLam x = some (f, b, scope)) : ∃ p q r, x = .Call (.Name f p) [.Lambda ⟨[], [], none, [], [], none, []⟩ b scope q] [] r := by
  unfold vLam at h; split at h <;> cases h; exact ⟨_, _, _, rfl⟩
theorem vLim_eq {a : Expr} (h : vLim x = some a) : ∃ p, x = .Attribute a "limit" p := by
  unfold vLim at h; split at h
  · split at h
    · rename_i e; cases h; subst e; exact ⟨_, rfl⟩
    · cases h
  · cases h
theorem vLc_eq {e t it : Expr} {ifs : List Expr} {scope : Scope} (h : vLc x = some (e, t, it, ifs, scope)) : ∃ p, x = .ListComp e [⟨t, it, ifs, 0⟩] scope p := by
  unfold vLc at h; split at h <;> cases h; exact ⟨_, rfl⟩
end
def conB (d : PD) (x : Expr) : Bool := match vConst x with
  | some c => pdEq c d
  | none => false

mutual
/-- t: as a test -/
def chkE (T : Tab) (N : List Str) (t : Bool) (S : Sco) (x : Expr) : E → Bool
  | .var i => match vName x with
    | some y => varB N S i y
    | none => false
  | .cst d => !t && conB d x
  | .gfn f => match vName x with
    | some y => decide (S.hot = 0) && (!t && fnB T f y && gloB S y)
    | none => false
  | .gcn d => match vName x with
    | some y => !t && cnB T y d && gloB S y
    | none => false
  | .tup es => match vTup x with
    | some xs => !t && decide (es.length ≤ 1000) && chkL T N S xs es
    | none => false
  | .lst es => match vLst x with
    | some xs => !t && decide (es.length ≤ 1000) && chkL T N S xs es
    | none => false
  | .cell es => match vLst x with
    | some xs => !t && decide (es.length ≤ 1000) && chkL T N S xs es
    | none => false
  | .bin o a b => match vBin x with
    | some (y, p, z) => !t && decide (p = bopO o) && chkE T N false S y a && chkE T N false S z b
    | none => false
  | .neg a => match vNeg x with
    | some y => !t && chkE T N false S y a
    | none => false
  | .not a => match vNot x with
    | some y => chkE T N t S y a
    | none => false
  | .and es => match vAnd x with
    | some xs => chkB T N t S xs es
    | none => false
  | .or es => match vOr x with
    | some xs => chkB T N t S xs es
    | none => false
  | .cmp o a b => match vCmp x with
    | some (y, p, z) => decide (p = copO o) && !behindInMarks p z && chkE T N false S y a && chkE T N false S z b
    | none => false
  | .chain o1 o2 a b c => match vChain x with
    | some (y, p, z, q, u) => decide (p = copO o1) && decide (q = copO o2) && !lastMarks [p, q] [z, u] && chkE T N false S y a && chkE T N false S z b && chkE T N false S u c
    | none => false
  | .ite c a b => match vIf x with
    | some (y, z, u) => !t && chkE T N true S y c && chkE T N false S z a && chkE T N false S u b
    | none => false
  | .sub a i => match vSub x with
    | some (y, z) => plainX z && chkE T N false S y a && chkE T N false S z i
    | none => false
  | .slc a lo hi => match vSlc x with
    | some (y, l, h) => !t && chkE T N false S y a && chkO T N S l lo && chkO T N S h hi
    | none => false
  | .call f args => match vCall x with
    | some (y, xs) => decide (S.hot = 0) && (fnB T f y && gloB S y && chkL T N S xs args)
    | none => false
  | .lcall f b => match vLam x with
    | some (y, xb, scope) => decide (S.hot = 0) && (S.lam && (lfnB T f y && gloB S y && LamX.lamSB S.sc scope && chkE T N false (lamSc scope) xb b))
    | none => false
  | .bi b args => (match vCall x with
    | some (y, xs) => decide (S.hot = 0) && decide (biNm b = some y) && gloB S y && !xs.isEmpty && chkL T N S xs args
    | none => false) || (match vSS x with
    | some (f, g, y) => decide (S.hot = 0) && decide (b = .sortedset) && decide (f = ("sorted" : Str)) && decide (g = ("set" : Str)) && gloB S f && gloB S g && !t && chkL T N S [y] args
    | none => false) || (match vJoin x with
    | some (c, y) => decide (b = .join) && !t && chkJ T N S c y args
    | none => false)
  | .isi a ty => match vCall x with
    | some (y, [z, u]) => (match vName u with
      | some v => (match ty, a, vName z with
        | .cls c subs, .var i, some n => decide (S.hot = 1) && (varB N S i n && hclB T c subs v && decide (y = ("isinstance" : Str)) && gloB S y && gloB S v)
        | _, _, _ => false) || decide (y = ("isinstance" : Str)) && gloB S y && decide (tyNm ty = some v) && gloB S v && plainX z && chkE T N false S z a
      | none => false)
    | _ => false
  | .lc elt tg k srcs conds own => match vLc x with
    | some (e, tt, it, ifs, scope) => (decide (S.hot = 0) || (decide (S.hot = 1) && (match k with | .seq => true | _ => false))) && !t && blkC N S.sc scope (ownL N own) && chkI T N S k it srcs && (match k with | .zip2 | .zip3 | .enum => isTup tt | _ => true) && chkG N (blkS S scope) tg tt && (tgSlots tg).all (fun i => own.contains i) && chkC T N (blkS S scope) ifs conds && chkE T N false (blkS S scope) e elt
    | none => false
  | .rev a => match vRev x with
    | some y => !t && chkE T N false S y a
    | none => false
  | .bad => true
  | _ => false
def chkJ (T : Tab) (N : List Str) (S : Sco) (c : Str) (y : Expr) : List E → Bool
  | [a, e] => isStrC a c && plainX y && chkE T N false S y e
  | _ => false
def chkL (T : Tab) (N : List Str) (S : Sco) : List Expr → List E → Bool
  | [], [] => true
  | x :: xs, e :: es => plainX x && chkE T N false S x e && chkL T N S xs es
  | _, _ => false
/-- operands of and, or: one at least -/
def chkB (T : Tab) (N : List Str) (t : Bool) (S : Sco) : List Expr → List E → Bool
  | [x], [e] => chkE T N t S x e
  | x :: xs, e :: es => chkE T N t S x e && chkB T N t S xs es
  | _, _ => false
def chkO (T : Tab) (N : List Str) (S : Sco) : Option Expr → List E → Bool
  | none, [] => true
  | some x, [e] => chkE T N false S x e
  | _, _ => false
/-- a comprehension's tests: none or one -/
def chkC (T : Tab) (N : List Str) (S : Sco) : List Expr → List E → Bool
  | [], [] => true
  | [x], [e] => chkE T N true S x e
  | _, _ => false
/-- what is walked -/
def chkI (T : Tab) (N : List Str) (S : Sco) (k : ItK) (x : Expr) : List E → Bool
  | [a] => (match k with
    | .seq => plainX x && chkE T N false S x a
    | .rng1 => (match vCall x with
      | some (f, [y]) => decide (f = ("range" : Str)) && gloB S f && plainX y && chkE T N false S y a
      | _ => false)
    | .enum => (match vCall x with
      | some (f, [y]) => decide (f = ("enumerate" : Str)) && gloB S f && plainX y && chkE T N false S y a
      | _ => false)
    | _ => false)
  | [a, b] => (match vCall x with
    | some (f, [y, z]) => (match k with
      | .rng2 => decide (f = ("range" : Str))
      | .zip2 => decide (f = ("zip" : Str))
      | _ => false) && gloB S f && plainX y && plainX z && chkE T N false S y a && chkE T N false S z b
    | _ => false)
  | [a, b, c] => (match vCall x with
    | some (f, [y, z, u]) => (match k with
      | .zip3 => decide (f = ("zip" : Str))
      | _ => false) && gloB S f && plainX y && plainX z && plainX u && chkE T N false S y a && chkE T N false S z b && chkE T N false S u c
    | _ => false)
  | _ => false
end
end Lw

set_option Elab.async false
set_option linter.all false
set_option maxRecDepth 100000
set_option maxHeartbeats 2000000
/-! F10: the context; names, constants, displays, operators. -/
namespace Lw
open PySem PySem.Spec PyProof.Rows L2

abbrev gx (X : Cx) (T : TabX) : Gc := ⟨X.K, X.mg, T⟩
def BIS : List Str := ["len", "tuple", "list", "sum", "max", "min", "all", "any", "abs", "int", "str", "sorted", "isinstance", "bool", "range", "enumerate", "zip", "set", "dict"]
/-- what a call's answer owes -/
def FinC (G : Gc) (B : List Addr) (Q : VK) (E : XK) (As : List Addr) (H : Hp) : R W → Prop
  | .ok w S' => ∀ v H' As', Gr As As' H H' → Cells.Ok G As' B H' S' → RpW G As' B H' v w → Q v H'
  | .exc x S' => ∀ cls dd H' As', Gr As As' H H' → Cells.Ok G As' B H' S' → RpX G H' x cls dd → E cls dd H'
  | .bad => False
/-- a def's promise: what the evaluator says -/
def spC (G : Gc) (C : Callee) (f : Nat) (np : Nat) : Sp := fun vs H Q E => vs.length = np ∧ ∃ As B ws S, Cells.Ok G As B H S ∧ RpWs G As B H vs ws ∧ FinC G B Q E As H (C (.fn f) ws S)
/-- what the text alone says -/
structure TSt (G : Gc) : Prop where
  cn : ∀ x d, (x, d) ∈ G.T.cns → ∃ u v, G.mg x = some u ∧ RelV v u ∧ ∀ A H, Rp G.K A H v d
  bi : ∀ x ∈ BIS, G.mg x = none
  ex : ∀ c x, (c, x) ∈ G.T.cls → ∃ Ca, G.mg x = some (.ref Ca) ∧ PySem.W.excIn G.K Ca [.type "ValueError", .type "Exception", .type "BaseException", .type "object"] "ValueError.__new__" = true ∧ PySem.W.keepIn G.K (.ref Ca) = true ∧
    PySem.W.subIn G.K (.ref Ca) (.type "BaseException") = some true ∧ PySem.W.typeIn G.K (.ref Ca) = some (.type "type")
  hc : ∀ c subs x, (c, subs, x) ∈ G.T.hcl → ∃ Ca, G.mg x = some (.ref Ca) ∧ (∀ c' x', (c', x') ∈ G.T.cls ++ G.T.lms → ∀ Cb, G.mg x' = some (.ref Cb) → PySem.W.exmOne G.K (.ref Cb) (.ref Ca) = some (subs.contains c') ∧ PySem.W.kitOne G.K (.ref Cb) (.ref Ca) = some (subs.contains c'))
  xc : ∀ c x, (c, x) ∈ G.T.cls ++ G.T.lms → ∀ Cb, G.mg x = some (.ref Cb) → L2.ExcC G.K Cb
/-- how a lambda is made in the context -/
def LamC (X : Cx) (tbs : List (Addr × Str)) : Prop := ∃ c P, X.env.code = .ref c ∧ LamX.TabB X.base X.mg c P ∧ (P, X.env.qual ++ "<lambda>") ∈ tbs ∧ ∀ p ∈ tbs, p.1 = P → p.2 = X.env.qual ++ "<lambda>"
structure TOk (P : Program) (w : World) (G : Gc) (base : Heap) (k : Nat) (C : Callee) : Prop where
  fn : ∀ f x, (f, x) ∈ G.T.fnm → ∃ (a : Addr) (fd : FuncData) (ps : List Str), G.mg x = some (.ref a) ∧ PySem.W.keepIn G.K (.ref a) = true ∧ Binds G.K fd ps [] ∧ (∀ ws S, ws.length ≠ ps.length → C (.fn f) ws S = .bad) ∧ FnOk P w G.K G.mg base (L2N.CX P w) k a fd ps (spC G C f ps.length)
  lm : ∀ f x, (f, x) ∈ G.T.lfn → ∀ (X : Cx) (T : TabX) (e : E) (Wx : WX) (body : Expr) (scope : Scope) (p lp pos : Pos), X.prog = P → X.w = w → gx X T = G → X.base = base → X.calm = true → Room k X.A → LamC X T.tbs → Gl X x → LamX.LamS X.env.scope scope → (x == ("__debug__" : Str)) = false →
    (∀ j, k = j + 2 → ∀ (A : Around) (outer : List PySem.Env) (s : Shared) (H : Hp) (E : XK) (f c' : Addr), Room j (A.deeper (LamX.lamEnv X scope s.heap.objs.size f c')) → PE (LamX.lamCxN X A outer s H E scope f c') body (tE (gx X T) (fun cls d _ H => E cls d H) (evF T.P j) e)) →
    PE X (.Call (.Name x p) [.Lambda ⟨[], [], none, [], [], none, []⟩ body scope lp] [] pos) (tE (gx X T) Wx C (.lcall f e))
structure Gd (X : Cx) (T : TabX) (S : Sco) (k : Nat) (C : Callee) (Wx : WX) : Prop where
  hs : X.env.scope = S.sc
  hf : ∀ x, S.fn x = true → X.fn x = true
  nd : X.N.Nodup
  un : X.A.units + 65 < cLine
  cool : S.hot = 0 → X.calm = true ∧ Room k X.A ∧ L2N.Takes X Wx ∧ ∀ j, j ≤ k → TOk X.prog X.w (gx X T) X.base j (evF T.P j)
  hotc : S.hot = 1 → L2H.HotC X
  hoth : S.hot ≠ 0 → HotH X
  eqC : C = evF T.P k
  st : TSt (gx X T)
  lam : S.lam = true → LamC X T.tbs
  exo : ∀ a x, T.ex = some (a, x) → S.hot = 1 → ∃ (X0 : Cx) (oe : Obj) (pn : List (Addr × Obj)) (cls : Value) (dd : Option Addr) (H : Hp), X = X0.suite a ((a, oe) :: pn) ∧ L2N.Zn cls dd oe ∧ (∃ vs, oe.data = .fields vs) ∧ RpX (gx X T) H x cls dd

section
variable {X : Cx} {T : TabX} {S : Sco} {k : Nat} {C : Callee} {Wx : WX} {pos : Pos}
theorem Gd.tab (g : Gd X T S k C Wx) (h : S.hot = 0) : TOk X.prog X.w (gx X T) X.base k C := by
  have := (g.cool h).2.2.2 k (Nat.le_refl k)
  rw [← g.eqC] at this
  exact this
theorem Gd.calm (g : Gd X T S k C Wx) (h : S.hot = 0) : X.calm = true := (g.cool h).1
theorem Gd.room (g : Gd X T S k C Wx) (h : S.hot = 0) : Room k X.A := (g.cool h).2.1
theorem Gd.tk (g : Gd X T S k C Wx) (h : S.hot = 0) : L2N.Takes X Wx := (g.cool h).2.2.1
theorem Gd.vis (g : Gd X T S k C Wx) {x : Str} (h : visB S x = true) : Vis X.env.scope x := by
  rw [g.hs]
  unfold visB at h
  unfold Vis
  split at h
  · rename_i e; exact .inl e
  · rename_i e; exact .inr (.inl e)
  · rename_i e; exact .inr (.inr e)
  · cases h
theorem Gd.glo (g : Gd X T S k C Wx) {x : Str} (h : gloB S x = true) : Gl X x ∧ (x == ("__debug__" : Str)) = false ∧ x ≠ "__name__" := by
  unfold gloB at h
  split at h
  · rename_i e
    rw [Bool.and_eq_true, Bool.not_eq_true', Bool.not_eq_true'] at h
    refine ⟨?_, h.1, fun z => ?_⟩
    · show X.env.kindOf x = _
      unfold Env.kindOf
      rw [g.hs]; exact e
    · rw [z] at h; exact absurd h.2 (by simp)
  · cases h
theorem Gd.loc (g : Gd X T S k C Wx) {x : Str} (h : locB S x = true) : L2.Loc X.env.scope x ∧ (X.fn x = true ∨ X.env.scope.names.lookup x = some .local) := by
  rw [g.hs]
  unfold locB at h
  unfold L2.Loc
  split at h
  · rename_i e; exact ⟨.inl e, .inr e⟩
  · rename_i e; exact ⟨.inr e, .inl (g.hf x h)⟩
  · cases h
/-- the first step of a composite: the answer of a part, then the rest -/
theorem step {α : Type} {G : Gc} {B : List Addr} {O : Nat → Option Addr} {σ : L2.St} {env : Env} {Q : VK} {As : List Addr} {H : Hp} {r : R W} {f : W → Cells → R W}
    (h : Fin G Wx B O σ env (fun As' H' => RpW G As' B H') Q As H (r.bind f)) :
    Fin G Wx B O σ env (fun As' H' => RpW G As' B H') (fun v H1 => ∃ w S1 As1, Gr As As1 H H1 ∧ Rst G As1 B O H1 σ env S1 ∧ RpW G As1 B H1 v w ∧ Fin G Wx B O σ env (fun As' H' => RpW G As' B H') Q As1 H1 (f w S1)) As H r := Fin.bind h
/-! names and constants -/
theorem sd_var {i : Nat} {x : Str} (g : Gd X T S k C Wx) (h : varB X.N S i x = true) : PE X (.Name x pos) (tE (gx X T) Wx C (.var i)) := by
  unfold varB at h
  simp only [Bool.and_eq_true, decide_eq_true_eq, Bool.not_eq_true'] at h
  obtain ⟨⟨⟨h1, h2⟩, h3⟩, h4⟩ := h
  refine (pe_var (pos := pos) h1 (g.vis h2) h3 h4).impL fun σ H Q ⟨As, B, O, env, S', rst, fin⟩ => ?_
  simp only [evE] at fin
  split at fin
  · rename_i y e
    obtain ⟨a, xs, ds, e1, e2, e3, e4, e5⟩ := rst.slots.own i y e
    subst e4
    exact ⟨.ref a, e2, fin _ _ _ Gr.refl rst (.bor (rst.slots.mem i a e1) (fun q => rst.cells.dis a q (rst.slots.mem i a e1)) e3 e5)⟩
  · rename_i w e e'
    obtain ⟨v, e1, e2⟩ := rst.slots.at_ i w e' fun y q => e y q
    exact ⟨v, e1, fin _ _ _ Gr.refl rst e2⟩
  · exact fin.elim
theorem sd_const {d : PD} {v : V} {e : Expr} (h : PE X e (tC v)) (r : ∀ A H, Rp X.K A H v d) : PE X e (tE (gx X T) Wx C (.cst d)) :=
  h.impL fun σ H Q ⟨As, B, O, env, S', rst, fin⟩ => fin v H As Gr.refl rst (.d (r _ _))
theorem sd_gcn {d : PD} {x : Str} (g : Gd X T S k C Wx) (h : cnB T x d = true) (h2 : gloB S x = true) : PE X (.Name x pos) (tE (gx X T) Wx C (.gcn d)) := by
  unfold cnB at h
  obtain ⟨⟨y, d'⟩, hp, he⟩ := List.any_eq_true.mp h
  simp only [Bool.and_eq_true, decide_eq_true_eq] at he
  obtain ⟨e1, he⟩ := he
  have e2 := pdEq_eq _ _ he
  rw [e1, e2] at hp
  obtain ⟨u, v, h1, h3, h4⟩ := g.st.cn x d hp
  obtain ⟨g1, g2, g3⟩ := g.glo h2
  exact (pe_glob (pos := pos) g1 h1 h3 g2).impL fun σ H Q ⟨As, B, O, env, S', rst, fin⟩ => fin v H As Gr.refl rst (.d (h4 _ _))
theorem sd_gfn {f : Nat} {x : Str} (g : Gd X T S k C Wx) (h0 : S.hot = 0) (h : fnB T f x = true) (h2 : gloB S x = true) : PE X (.Name x pos) (tE (gx X T) Wx C (.gfn f)) := by
  unfold fnB at h
  obtain ⟨⟨y, d'⟩, hp, he⟩ := List.any_eq_true.mp h
  simp only [Bool.and_eq_true, decide_eq_true_eq] at he
  obtain ⟨rfl, rfl⟩ := he
  obtain ⟨a, fd, ps, h1, _⟩ := (g.tab h0).fn _ _ hp
  obtain ⟨g1, g2, g3⟩ := g.glo h2
  exact (pe_glob (v := .ref a) (pos := pos) g1 h1 rfl g2).impL fun σ H Q ⟨As, B, O, env, S', rst, fin⟩ => fin _ H As Gr.refl rst (.fn hp h1)
/-! displays, operators -/
variable {a b c i : E} {ea eb ec : Expr} {es : List E} {xs : List Expr}
theorem pures_len : ∀ {ws : List W} {xs : List PD}, pures ws = some xs → ws.length = xs.length
  | [], _, e => by simp [pures] at e; subst e; rfl
  | w :: ws, _, e => by
    unfold pures at e
    split at e
    · rename_i x xs e1 e2
      cases e
      simp [pures_len e2]
    · cases e
theorem evL_len : ∀ {es : List E} {env : Env} {s : Cells} {ws : List W} {s' : Cells}, evL C es env s = .ok ws s' → ws.length = es.length
  | [], _, _, _, _, e => by simp [evL] at e; rw [e.1]; rfl
  | x :: es, env, s, ws, s', e => by
    simp only [evL] at e
    cases h1 : evE C x env s with
    | ok w s1 =>
      rw [h1] at e
      simp only [R.bind] at e
      cases h2 : evL C es env s1 with
      | ok ws2 s2 =>
        rw [h2] at e
        simp only [R.ok.injEq] at e
        rw [← e.1]
        simp [evL_len h2]
      | exc x s2 => rw [h2] at e; simp at e
      | bad => rw [h2] at e; simp at e
    | exc x s1 => rw [h1] at e; simp [R.bind] at e
    | bad => rw [h1] at e; simp [R.bind] at e
theorem sd_tup {j : Nat} (h : PA X xs (tL (gx X T) Wx C es)) (hl : es.length ≤ 1000) : PE X (.Tuple xs j pos) (tE (gx X T) Wx C (.tup es)) := by
  refine (pe_tup (x1 := j) (pos := pos) h).impL fun σ H Q ⟨As, B, O, env, S', rst, fin⟩ => ?_
  simp only [evE] at fin
  have hlen : ∀ ws s', evL C es env S' = .ok ws s' → ws.length ≤ 1000 := fun ws s' e => by rw [evL_len e]; exact hl
  refine ⟨As, B, O, env, S', rst, ?_⟩
  cases he : evL C es env S' with
  | ok ws S1 =>
    rw [he] at fin
    simp only [R.bind] at fin
    have hw := hlen ws S1 he
    intro vs H1 As1 gr rst1 rws
    cases hp : pures ws with
    | none => rw [hp] at fin; exact fin.elim
    | some ds =>
      rw [hp] at fin
      have rl := rws.pures hp
      refine ⟨by rw [rws.len, sizeLine_eq]; omega, fun p hn => ?_⟩
      exact fin (.ref p) _ As1 (gr.trans (Gr.same (Same.upd hn))) (rst1.same (Same.upd hn)) (.d (Rp.newT hn rl))
  | exc x S1 => rw [he] at fin; exact fin
  | bad => rw [he] at fin; exact fin
theorem sd_lst (h : PA X xs (tL (gx X T) Wx C es)) (hl : es.length ≤ 1000) : PE X (.List xs pos) (tE (gx X T) Wx C (.lst es)) := by
  refine (pe_lst (pos := pos) h).impL fun σ H Q ⟨As, B, O, env, S', rst, fin⟩ => ?_
  simp only [evE] at fin
  have hlen : ∀ ws s', evL C es env S' = .ok ws s' → ws.length ≤ 1000 := fun ws s' e => by rw [evL_len e]; exact hl
  refine ⟨As, B, O, env, S', rst, ?_⟩
  cases he : evL C es env S' with
  | ok ws S1 =>
    rw [he] at fin
    simp only [R.bind] at fin
    have hw := hlen ws S1 he
    intro vs H1 As1 gr rst1 rws
    cases hp : pures ws with
    | none => rw [hp] at fin; exact fin.elim
    | some ds =>
      rw [hp] at fin
      have rl := rws.pures hp
      refine ⟨by rw [rws.len, sizeLine_eq]; omega, fun p hn => ?_⟩
      exact fin (.ref p) _ As1 (gr.trans (Gr.same (Same.upd hn))) (rst1.same (Same.upd hn)) (.d (Rp.newL rst1.cells.trk hn rl))
  | exc x S1 => rw [he] at fin; exact fin
  | bad => rw [he] at fin; exact fin
theorem dR_fin {G : Gc} {B : List Addr} {O : Nat → Option Addr} {σ : L2.St} {env : Env} {Q : VK} {As : List Addr} {H : Hp} {o : Option PD} {S' : Cells}
    (h : Fin G Wx B O σ env (fun As' H' => RpW G As' B H') Q As H (dR o S')) : ∃ d, o = some d ∧ ∀ v H' As', Gr As As' H H' → Rst G As' B O H' σ env S' → Rp G.K (As' ++ B) H' v d → Q v H' := by
  cases o with
  | none => exact h.elim
  | some d => exact ⟨d, rfl, fun v H' As' g r q => h v H' As' g r (.d q)⟩
theorem sd_bin {o : Bop} {p : Operator} (ha : PE X ea (tE (gx X T) Wx C a)) (hb : PE X eb (tE (gx X T) Wx C b)) (hp : p = bopO o) : PE X (.BinOp ea p eb pos) (tE (gx X T) Wx C (.bin o a b)) := by
  subst hp
  refine (pe_op (pos := pos) (od_bop o) ha hb).impL fun σ H Q ⟨As, B, O, env, S', rst, fin⟩ => ?_
  simp only [evE] at fin
  refine ⟨As, B, O, env, S', rst, (Fin.bind fin).mono fun x H1 ⟨w, S1, As1, g1, r1, q1, f1⟩ => ?_⟩
  refine ⟨As1, B, O, env, S1, r1, (Fin.bind f1).mono fun y H2 ⟨w2, S2, As2, g2, r2, q2, f2⟩ => ?_⟩
  have q1' := q1.grow r1.cells.cel g2
  split at f2
  · rename_i p q e1 e2
    obtain ⟨d, e, k⟩ := dR_fin f2
    exact ⟨As2 ++ B, p, q, d, q1'.view r2.cells e1, q2.view r2.cells e2, r2.cells.trk, e, fun v H' s r => k v H' As2 (Gr.same s) (r2.same s) r⟩
  · exact f2.elim
theorem sd_cmp {o : Cop} {p : CmpOp} (g : Gd X T S k C Wx) (ha : PE X ea (tE (gx X T) Wx C a)) (hb : PE X eb (tE (gx X T) Wx C b)) (hp : p = copO o) (hm : behindInMarks p eb = false) : PE X (.Compare ea [p] [eb] pos) (tE (gx X T) Wx C (.cmp o a b)) := by
  subst hp
  refine (pe_cmpR (pos := pos) (oc_cmp g.un o) ha hb hm).impL fun σ H Q ⟨As, B, O, env, S', rst, fin⟩ => ?_
  simp only [evE] at fin
  refine ⟨As, B, O, env, S', rst, (Fin.bind fin).mono fun x H1 ⟨w, S1, As1, g1, r1, q1, f1⟩ => ?_⟩
  refine ⟨As1, B, O, env, S1, r1, (Fin.bind f1).mono fun y H2 ⟨w2, S2, As2, g2, r2, q2, f2⟩ => ?_⟩
  have q1' := q1.grow r1.cells.cel g2
  obtain ⟨d, e, k⟩ := dR_fin f2
  obtain ⟨t, e1, rfl⟩ := Option.map_eq_some_iff.mp e
  unfold cmpW at e1
  split at e1
  · rename_i p q f1 f2
    exact ⟨As2 ++ B, p, q, t, q1'.view r2.cells f1, q2.view r2.cells f2, e1, k _ _ As2 Gr.refl r2 (.bl _)⟩
  · cases e1
theorem st_cmp {o : Cop} {p : CmpOp} (g : Gd X T S k C Wx) (ha : PE X ea (tE (gx X T) Wx C a)) (hb : PE X eb (tE (gx X T) Wx C b)) (hp : p = copO o) (hm : behindInMarks p eb = false) : PT X (.Compare ea [p] [eb] pos) (tT (gx X T) Wx C (.cmp o a b)) := by
  subst hp
  refine (pt_cmpR (pos := pos) (oc_cmp g.un o) ha hb hm).impL fun σ H Q ⟨As, B, O, env, S', rst, fin⟩ => ?_
  unfold evT at fin
  simp only [evE] at fin
  have fin' : Fin (gx X T) Wx B O σ env (fun _ _ (i : Bool) b => i = b) Q As H ((evE C a env S').bind fun x s1 => (evE C b env s1).bind fun y s2 => (dR ((cmpW s2 o x y).map .bool) s2).bind fun x s1 => boolR x s1) := by
    revert fin
    cases evE C a env S' with
    | ok w s1 =>
      simp only [R.bind]
      cases evE C b env s1 <;> simp only [R.bind] <;> exact id
    | exc x s1 => exact id
    | bad => exact id
  refine ⟨As, B, O, env, S', rst, (Fin.bind fin').mono fun x H1 ⟨w, S1, As1, g1, r1, q1, f1⟩ => ?_⟩
  refine ⟨As1, B, O, env, S1, r1, (Fin.bind f1).mono fun y H2 ⟨w2, S2, As2, g2, r2, q2, f2⟩ => ?_⟩
  have q1' := q1.grow r1.cells.cel g2
  cases e1 : cmpW S2 o w w2 with
  | none => rw [e1] at f2; exact f2.elim
  | some t =>
    rw [e1] at f2
    unfold cmpW at e1
    split at e1
    · rename_i p q h1 h2
      exact ⟨As2 ++ B, p, q, t, q1'.view r2.cells h1, q2.view r2.cells h2, e1, t, rfl, f2 t H2 As2 Gr.refl r2 rfl⟩
    · cases e1
end
end Lw

set_option Elab.async false
set_option linter.all false
set_option maxRecDepth 100000
set_option maxHeartbeats 2000000
/-! F11: more expressions. -/
namespace Lw
open PySem PySem.Spec PyProof.Rows L2

section
variable {X : Cx} {T : TabX} {S : Sco} {k : Nat} {C : Callee} {Wx : WX} {pos : Pos} {a b c i : E} {ea eb ec : Expr} {es : List E} {xs : List Expr}
theorem star_plain {e : Expr} {r : List Expr} {env : PySem.Env} (h : plainX e = true) : starEach (e :: r) env = (false, eval e env) :: starEach r env := by
  cases e <;> first | rfl | (simp [plainX] at h)
theorem ix_plain {e : Expr} (h : plainX e = true) : PlainIx e := by
  intro o i
  cases e <;> first | rfl | (simp [plainX] at h)
theorem fold_plain {e : Expr} {env : PySem.Env} (h : plainX e = true) : ∀ x, foldedSetIterable e env x = pure x := by
  intro x
  cases e <;> first | rfl | (simp [plainX] at h)
/-! lists -/
theorem sl_nil : PA X [] (tL (gx X T) Wx C []) := pa_nil.impL fun σ H Q ⟨As, B, O, env, S', rst, fin⟩ => fin [] H As Gr.refl rst .nil
theorem sl_cons (ha : PE X ea (tE (gx X T) Wx C a)) (hr : PA X xs (tL (gx X T) Wx C es)) (hp : plainX ea = true) : PA X (ea :: xs) (tL (gx X T) Wx C (a :: es)) := by
  refine (pa_cons ha hr (star_plain hp)).impL fun σ H Q ⟨As, B, O, env, S', rst, fin⟩ => ?_
  simp only [evL] at fin
  refine ⟨As, B, O, env, S', rst, (Fin.bind fin).mono fun x H1 ⟨w, S1, As1, g1, r1, q1, f1⟩ => ?_⟩
  refine ⟨As1, B, O, env, S1, r1, (Fin.bind f1).mono fun ys H2 ⟨ws, S2, As2, g2, r2, q2, f2⟩ => ?_⟩
  exact f2 _ H2 As2 Gr.refl r2 (.cons (q1.grow r1.cells.cel g2) q2)
/-! one part -/
theorem sd_neg (ha : PE X ea (tE (gx X T) Wx C a)) : PE X (.UnaryOp .USub ea pos) (tE (gx X T) Wx C (.neg a)) := by
  refine (pe_un (pos := pos) un_neg ha).impL fun σ H Q ⟨As, B, O, env, S', rst, fin⟩ => ?_
  simp only [evE] at fin
  refine ⟨As, B, O, env, S', rst, (Fin.bind fin).mono fun x H1 ⟨w, S1, As1, g1, r1, q1, f1⟩ => ?_⟩
  split at f1
  · rename_i j
    cases q1 with
    | d q => cases q; exact ⟨j, rfl, f1 _ H1 As1 Gr.refl r1 (.d (.int _))⟩
  · exact f1.elim
theorem bool_of {G : Gc} {B : List Addr} {O : Nat → Option Addr} {σ : L2.St} {env : Env} {α ι : Type} {Rx : List Addr → Hp → ι → α → Prop} {Q : ι → Hp → Prop} {As : List Addr} {H : Hp} {w : W} {s : Cells} {f : Bool → Cells → R α}
    (h : Fin G Wx B O σ env Rx Q As H ((boolR w s).bind f)) : ∃ t, w = .d (.bool t) ∧ Fin G Wx B O σ env Rx Q As H (f t s) := by
  unfold boolR at h
  split at h
  · exact ⟨_, rfl, h⟩
  · exact h.elim
theorem sd_not (ha : PE X ea (tE (gx X T) Wx C a)) : PE X (.UnaryOp .Not ea pos) (tE (gx X T) Wx C (.not a)) := by
  refine (pe_not (pos := pos) ha).impL fun σ H Q ⟨As, B, O, env, S', rst, fin⟩ => ?_
  simp only [evE] at fin
  refine ⟨As, B, O, env, S', rst, (Fin.bind fin).mono fun x H1 ⟨w, S1, As1, g1, r1, q1, f1⟩ => ?_⟩
  obtain ⟨t, rfl, f2⟩ := bool_of f1
  cases q1 with
  | d q => cases q; exact ⟨t, rfl, f2 _ H1 As1 Gr.refl r1 (.d (.bl _))⟩
/-- a value that is a bool, as a test -/
theorem st_of (h : PE X ea (tE (gx X T) Wx C a)) (he : ∀ whole, isTrue ea X.env whole = (do let v ← whole; standAt ea.pos; holding [v] (truthy v))) : PT X ea (tT (gx X T) Wx C a) := by
  refine (pt_val h he).impL fun σ H Q ⟨As, B, O, env, S', rst, fin⟩ => ?_
  unfold evT at fin
  refine ⟨As, B, O, env, S', rst, (Fin.bind fin).mono fun x H1 ⟨w, S1, As1, g1, r1, q1, f1⟩ => ?_⟩
  unfold boolR at f1
  split at f1
  · rename_i t
    cases q1 with
    | d q => cases q; exact ⟨t, rfl, f1 t H1 As1 Gr.refl r1 rfl⟩
  · exact f1.elim
theorem st_not (ha : PT X ea (tT (gx X T) Wx C a)) : PT X (.UnaryOp .Not ea pos) (tT (gx X T) Wx C (.not a)) := by
  refine (pt_not (pos := pos) ha).impL fun σ H Q ⟨As, B, O, env, S', rst, fin⟩ => ?_
  unfold evT at fin
  simp only [evE] at fin
  refine ⟨As, B, O, env, S', rst, ?_⟩
  unfold evT
  cases e : evE C a env S' with
  | ok w s1 =>
    rw [e] at fin
    simp only [R.bind] at fin ⊢
    cases e2 : boolR w s1 with
    | ok t s2 =>
      rw [e2] at fin
      simp only [R.bind] at fin
      exact fun i H' As' g r q => by subst q; exact fin (!i) H' As' g r rfl
    | exc x s2 => rw [e2] at fin; simp only [R.bind] at fin; exact fin
    | bad => rw [e2] at fin; exact fin
  | exc x s1 => rw [e] at fin; exact fin
  | bad => rw [e] at fin; exact fin
/-! and, or -/
theorem sd_and1 (ha : PE X ea (tE (gx X T) Wx C a)) : PE X (.BoolOp .And [ea] pos) (tE (gx X T) Wx C (.and [a])) := by
  refine (pe_one (op := .And) (pos := pos) ha).impL fun σ H Q ⟨As, B, O, env, S', rst, fin⟩ => ?_
  simp only [evE, evAnd] at fin
  refine ⟨As, B, O, env, S', rst, (Fin.bind fin).mono fun x H1 ⟨w, S1, As1, g1, r1, q1, f1⟩ => ?_⟩
  obtain ⟨t, rfl, f2⟩ := bool_of f1
  cases q1 with
  | d q =>
    cases q
    cases t
    · exact f2 _ H1 As1 Gr.refl r1 (.d (.bl _))
    · exact f2 _ H1 As1 Gr.refl r1 (.d (.bl _))
theorem sd_and (ha : PE X ea (tE (gx X T) Wx C a)) (hr : PE X (.BoolOp .And (eb :: xs) pos) (tE (gx X T) Wx C (.and es))) : PE X (.BoolOp .And (ea :: eb :: xs) pos) (tE (gx X T) Wx C (.and (a :: es))) := by
  refine (pe_and (pos := pos) ha hr).impL fun σ H Q ⟨As, B, O, env, S', rst, fin⟩ => ?_
  simp only [evE, evAnd] at fin
  refine ⟨As, B, O, env, S', rst, (Fin.bind fin).mono fun x H1 ⟨w, S1, As1, g1, r1, q1, f1⟩ => ?_⟩
  obtain ⟨t, rfl, f2⟩ := bool_of f1
  cases q1 with
  | d q =>
    cases q
    refine ⟨t, rfl, ?_⟩
    cases t
    · exact f2 _ H1 As1 Gr.refl r1 (.d (.bl _))
    · exact ⟨As1, B, O, env, S1, r1, by simp only [evE]; exact f2⟩
theorem sd_or1 (ha : PE X ea (tE (gx X T) Wx C a)) : PE X (.BoolOp .Or [ea] pos) (tE (gx X T) Wx C (.or [a])) := by
  refine (pe_one (op := .Or) (pos := pos) ha).impL fun σ H Q ⟨As, B, O, env, S', rst, fin⟩ => ?_
  simp only [evE, evOr] at fin
  refine ⟨As, B, O, env, S', rst, (Fin.bind fin).mono fun x H1 ⟨w, S1, As1, g1, r1, q1, f1⟩ => ?_⟩
  obtain ⟨t, rfl, f2⟩ := bool_of f1
  cases q1 with
  | d q =>
    cases q
    cases t
    · exact f2 _ H1 As1 Gr.refl r1 (.d (.bl _))
    · exact f2 _ H1 As1 Gr.refl r1 (.d (.bl _))
theorem sd_or (ha : PE X ea (tE (gx X T) Wx C a)) (hr : PE X (.BoolOp .Or (eb :: xs) pos) (tE (gx X T) Wx C (.or es))) : PE X (.BoolOp .Or (ea :: eb :: xs) pos) (tE (gx X T) Wx C (.or (a :: es))) := by
  refine (pe_or (pos := pos) ha hr).impL fun σ H Q ⟨As, B, O, env, S', rst, fin⟩ => ?_
  simp only [evE, evOr] at fin
  refine ⟨As, B, O, env, S', rst, (Fin.bind fin).mono fun x H1 ⟨w, S1, As1, g1, r1, q1, f1⟩ => ?_⟩
  obtain ⟨t, rfl, f2⟩ := bool_of f1
  cases q1 with
  | d q =>
    cases q
    refine ⟨t, rfl, ?_⟩
    cases t
    · exact ⟨As1, B, O, env, S1, r1, by simp only [evE]; exact f2⟩
    · exact f2 _ H1 As1 Gr.refl r1 (.d (.bl _))
/-! .. as tests -/
theorem evT_and {a : E} {es : List E} {env : Env} {s : Cells} : evT C (.and (a :: es)) env s = (evT C a env s).bind fun t s1 => if t then evT C (.and es) env s1 else .ok false s1 := by
  simp only [evT, evE, evAnd]
  cases evE C a env s with
  | ok w s1 =>
    simp only [R.bind]
    cases boolR w s1 with
    | ok t s2 => cases t <;> rfl
    | exc x s2 => rfl
    | bad => rfl
  | exc x s1 => rfl
  | bad => rfl
theorem evT_or {a : E} {es : List E} {env : Env} {s : Cells} : evT C (.or (a :: es)) env s = (evT C a env s).bind fun t s1 => if t then .ok true s1 else evT C (.or es) env s1 := by
  simp only [evT, evE, evOr]
  cases evE C a env s with
  | ok w s1 =>
    simp only [R.bind]
    cases boolR w s1 with
    | ok t s2 => cases t <;> rfl
    | exc x s2 => rfl
    | bad => rfl
  | exc x s1 => rfl
  | bad => rfl
theorem sw_and1 (ha : PT X ea (tT (gx X T) Wx C a)) : PW X (.BoolOp .And [ea] pos) (tT (gx X T) Wx C (.and [a])) := by
  refine (pw_and1 (pos := pos) ha).impL fun σ H Q ⟨As, B, O, env, S', rst, fin⟩ => ?_
  rw [evT_and] at fin
  refine ⟨As, B, O, env, S', rst, (Fin.bind fin).mono fun t H1 ⟨w, S1, As1, g1, r1, q1, f1⟩ => ?_⟩
  subst q1
  cases t
  · exact f1 _ H1 As1 Gr.refl r1 rfl
  · exact f1 _ H1 As1 Gr.refl r1 rfl
theorem sw_and (ha : PT X ea (tT (gx X T) Wx C a)) (hr : PW X (.BoolOp .And (eb :: xs) pos) (tT (gx X T) Wx C (.and es))) : PW X (.BoolOp .And (ea :: eb :: xs) pos) (tT (gx X T) Wx C (.and (a :: es))) := by
  refine (pw_and (pos := pos) ha hr).impL fun σ H Q ⟨As, B, O, env, S', rst, fin⟩ => ?_
  rw [evT_and] at fin
  refine ⟨As, B, O, env, S', rst, (Fin.bind fin).mono fun t H1 ⟨w, S1, As1, g1, r1, q1, f1⟩ => ?_⟩
  subst q1
  cases t
  · exact f1 _ H1 As1 Gr.refl r1 rfl
  · exact ⟨As1, B, O, env, S1, r1, f1⟩
theorem sw_or1 (ha : PT X ea (tT (gx X T) Wx C a)) : PW X (.BoolOp .Or [ea] pos) (tT (gx X T) Wx C (.or [a])) := by
  refine (pw_or1 (pos := pos) ha).impL fun σ H Q ⟨As, B, O, env, S', rst, fin⟩ => ?_
  rw [evT_or] at fin
  refine ⟨As, B, O, env, S', rst, (Fin.bind fin).mono fun t H1 ⟨w, S1, As1, g1, r1, q1, f1⟩ => ?_⟩
  subst q1
  cases t
  · exact f1 _ H1 As1 Gr.refl r1 rfl
  · exact f1 _ H1 As1 Gr.refl r1 rfl
theorem sw_or (ha : PT X ea (tT (gx X T) Wx C a)) (hr : PW X (.BoolOp .Or (eb :: xs) pos) (tT (gx X T) Wx C (.or es))) : PW X (.BoolOp .Or (ea :: eb :: xs) pos) (tT (gx X T) Wx C (.or (a :: es))) := by
  refine (pw_or (pos := pos) ha hr).impL fun σ H Q ⟨As, B, O, env, S', rst, fin⟩ => ?_
  rw [evT_or] at fin
  refine ⟨As, B, O, env, S', rst, (Fin.bind fin).mono fun t H1 ⟨w, S1, As1, g1, r1, q1, f1⟩ => ?_⟩
  subst q1
  cases t
  · exact ⟨As1, B, O, env, S1, r1, f1⟩
  · exact f1 _ H1 As1 Gr.refl r1 rfl
/-! a chain, a choice -/
theorem chain_step {o1 o2 : Cop} {G : Gc} {B : List Addr} {O : Nat → Option Addr} {σ : L2.St} {env : Env} {α ι : Type} {Rx : List Addr → Hp → ι → α → Prop} {Q : ι → Hp → Prop} {As : List Addr} {H : Hp} {x y : W} {s : Cells} {f : R W → R α}
    (hb : f .bad = .bad)
    (h : Fin G Wx B O σ env Rx Q As H (f (match cmpW s o1 x y with
      | some true => (evE C c env s).bind fun z s3 => dR ((cmpW s3 o2 y z).map .bool) s3
      | some false => .ok (.d (.bool false)) s
      | none => .bad))) : ∃ t p q, view s x = some p ∧ view s y = some q ∧ cmpD o1 p q = some t ∧
        Fin G Wx B O σ env Rx Q As H (f (if t then (evE C c env s).bind fun z s3 => dR ((cmpW s3 o2 y z).map .bool) s3 else .ok (.d (.bool false)) s)) := by
  cases e : cmpW s o1 x y with
  | none => rw [e] at h; simp only at h; rw [hb] at h; exact h.elim
  | some t =>
    rw [e] at h
    unfold cmpW at e
    split at e
    · rename_i p q h1 h2
      refine ⟨t, p, q, h1, h2, e, ?_⟩
      cases t
      · exact h
      · exact h
    · cases e
theorem sd_chain {o1 o2 : Cop} {p q : CmpOp} (g : Gd X T S k C Wx) (ha : PE X ea (tE (gx X T) Wx C a)) (hb : PE X eb (tE (gx X T) Wx C b)) (hc : PE X ec (tE (gx X T) Wx C c)) (hp : p = copO o1) (hq : q = copO o2)
    (hm : lastMarks [p, q] [eb, ec] = false) : PE X (.Compare ea [p, q] [eb, ec] pos) (tE (gx X T) Wx C (.chain o1 o2 a b c)) := by
  subst hp hq
  refine (pe_chain (pos := pos) (oc_cmp g.un o1) (oc_cmp g.un o2) ha hb hc hm).impL fun σ H Q ⟨As, B, O, env, S', rst, fin⟩ => ?_
  simp only [evE] at fin
  refine ⟨As, B, O, env, S', rst, (Fin.bind fin).mono fun x H1 ⟨w, S1, As1, g1, r1, q1, f1⟩ => ?_⟩
  refine ⟨As1, B, O, env, S1, r1, (Fin.bind f1).mono fun y H2 ⟨w2, S2, As2, g2, r2, q2, f2⟩ => ?_⟩
  obtain ⟨t, p, q, h1, h2, h3, f3⟩ := chain_step (f := id) rfl f2
  refine ⟨As2 ++ B, p, q, t, (q1.grow r1.cells.cel g2).view r2.cells h1, q2.view r2.cells h2, h3, t, rfl, ?_⟩
  cases t
  · exact f3 _ H2 As2 Gr.refl r2 (.d (.bl _))
  · refine ⟨As2, B, O, env, S2, r2, (Fin.bind f3).mono fun z H3 ⟨w3, S3, As3, g3, r3, q3, f4⟩ => ?_⟩
    obtain ⟨d, e, kk⟩ := dR_fin f4
    obtain ⟨t, e1, rfl⟩ := Option.map_eq_some_iff.mp e
    unfold cmpW at e1
    split at e1
    · rename_i p q k1 k2
      exact ⟨As3 ++ B, p, q, t, (q2.grow r2.cells.cel g3).view r3.cells k1, q3.view r3.cells k2, e1, kk _ _ As3 Gr.refl r3 (.bl _)⟩
    · cases e1
theorem st_chain {o1 o2 : Cop} {p q : CmpOp} (g : Gd X T S k C Wx) (ha : PE X ea (tE (gx X T) Wx C a)) (hb : PE X eb (tE (gx X T) Wx C b)) (hc : PE X ec (tE (gx X T) Wx C c)) (hp : p = copO o1) (hq : q = copO o2)
    (hm : lastMarks [p, q] [eb, ec] = false) : PT X (.Compare ea [p, q] [eb, ec] pos) (tT (gx X T) Wx C (.chain o1 o2 a b c)) := by
  subst hp hq
  refine (pt_chain (pos := pos) (oc_cmp g.un o1) (oc_cmp g.un o2) ha hb hc hm).impL fun σ H Q ⟨As, B, O, env, S', rst, fin⟩ => ?_
  unfold evT at fin
  simp only [evE] at fin
  have fin' : Fin (gx X T) Wx B O σ env (fun _ _ (i : Bool) b => i = b) Q As H ((evE C a env S').bind fun x s1 => (evE C b env s1).bind fun y s2 => (fun r : R W => r.bind fun x s1 => boolR x s1) (match cmpW s2 o1 x y with
      | some true => (evE C c env s2).bind fun z s3 => dR ((cmpW s3 o2 y z).map .bool) s3
      | some false => .ok (.d (.bool false)) s2
      | none => .bad)) := by
    revert fin
    cases evE C a env S' with
    | ok w s1 =>
      simp only [R.bind]
      cases evE C b env s1 <;> simp only [R.bind] <;> exact id
    | exc x s1 => exact id
    | bad => exact id
  refine ⟨As, B, O, env, S', rst, (Fin.bind fin').mono fun x H1 ⟨w, S1, As1, g1, r1, q1, f1⟩ => ?_⟩
  refine ⟨As1, B, O, env, S1, r1, (Fin.bind f1).mono fun y H2 ⟨w2, S2, As2, g2, r2, q2, f2⟩ => ?_⟩
  obtain ⟨t, p, q, h1, h2, h3, f3⟩ := chain_step (f := fun r : R W => r.bind fun x s1 => boolR x s1) rfl f2
  refine ⟨As2 ++ B, p, q, t, (q1.grow r1.cells.cel g2).view r2.cells h1, q2.view r2.cells h2, h3, t, rfl, ?_⟩
  cases t
  · exact ⟨false, rfl, f3 _ H2 As2 Gr.refl r2 rfl⟩
  · simp only [if_true] at f3
    have f3' : Fin (gx X T) Wx B O σ env (fun _ _ (i : Bool) b => i = b) Q As2 H2 ((evE C c env S2).bind fun z s3 => (dR ((cmpW s3 o2 w2 z).map .bool) s3).bind fun x s1 => boolR x s1) := by
      revert f3
      cases evE C c env S2 <;> exact id
    refine ⟨As2, B, O, env, S2, r2, (Fin.bind f3').mono fun z H3 ⟨w3, S3, As3, g3, r3, q3, f4⟩ => ?_⟩
    cases e1 : cmpW S3 o2 w2 w3 with
    | none => rw [e1] at f4; exact f4.elim
    | some t =>
      rw [e1] at f4
      unfold cmpW at e1
      split at e1
      · rename_i p q k1 k2
        exact ⟨As3 ++ B, p, q, t, (q2.grow r2.cells.cel g3).view r3.cells k1, q3.view r3.cells k2, e1, t, rfl, f4 t H3 As3 Gr.refl r3 rfl⟩
      · cases e1
theorem sd_ite (hc : PT X ec (tT (gx X T) Wx C c)) (ha : PE X ea (tE (gx X T) Wx C a)) (hb : PE X eb (tE (gx X T) Wx C b)) : PE X (.IfExp ec ea eb pos) (tE (gx X T) Wx C (.ite c a b)) := by
  refine (pe_ifExp (pos := pos) hc ha hb).impL fun σ H Q ⟨As, B, O, env, S', rst, fin⟩ => ?_
  have fin' : Fin (gx X T) Wx B O σ env (fun As' H' => RpW (gx X T) As' B H') Q As H ((evT C c env S').bind fun t s2 => if t then evE C a env s2 else evE C b env s2) := by
    simp only [evE] at fin
    unfold evT
    revert fin
    cases evE C c env S' <;> exact id
  refine ⟨As, B, O, env, S', rst, (Fin.bind fin').mono fun t H1 ⟨w, S1, As1, g1, r1, q1, f1⟩ => ?_⟩
  subst q1
  cases t
  · exact ⟨As1, B, O, env, S1, r1, f1⟩
  · exact ⟨As1, B, O, env, S1, r1, f1⟩
/-! places, slices -/
theorem sd_sub (ha : PE X ea (tE (gx X T) Wx C a)) (hi : PE X eb (tE (gx X T) Wx C i)) (hp : plainX eb = true) : PE X (.Subscript ea eb pos) (tE (gx X T) Wx C (.sub a i)) := by
  refine (pe_ix (pos := pos) ix_data ha hi (ix_plain hp)).impL fun σ H Q ⟨As, B, O, env, S', rst, fin⟩ => ?_
  simp only [evE] at fin
  refine ⟨As, B, O, env, S', rst, (Fin.bind fin).mono fun x H1 ⟨w, S1, As1, g1, r1, q1, f1⟩ => ?_⟩
  refine ⟨As1, B, O, env, S1, r1, (Fin.bind f1).mono fun y H2 ⟨w2, S2, As2, g2, r2, q2, f2⟩ => ?_⟩
  split at f2
  · rename_i p q e1 e2
    obtain ⟨d, e, kk⟩ := dR_fin f2
    have e3 : view S2 w2 = some q := by cases w2 <;> simp [pure?] at e2; subst e2; rfl
    exact ⟨As2 ++ B, p, q, d, (q1.grow r1.cells.cel g2).view r2.cells e1, q2.view r2.cells e3, r2.cells.trk, e, fun v H' s r => kk v H' As2 (Gr.same s) (r2.same s) r⟩
  · exact f2.elim
/-- a slice's part -/
def tO (G : Gc) (Wx : WX) (C : Callee) (es : List E) : TO := fun σ H Q => ∃ As B O env S, Rst G As B O H σ env S ∧ Fin G Wx B O σ env (fun _ _ (i : Option Int) o => i = o) Q As H ((evL C es env S).bind bndR)
theorem so_none : PO X none (tO (gx X T) Wx C []) := by
  refine ⟨fun pins s σ H Q I ⟨As, B, O, env, S', rst, fin⟩ => po_none.run pins s σ H Q I ?_⟩
  exact fin none H As Gr.refl rst rfl
theorem so_some (ha : PE X ea (tE (gx X T) Wx C a)) : PO X (some ea) (tO (gx X T) Wx C [a]) := by
  refine ⟨fun pins s σ H Q I ⟨As, B, O, env, S', rst, fin⟩ => (po_some ha).run pins s σ H Q I ?_⟩
  have fin' : Fin (gx X T) Wx B O σ env (fun _ _ (i : Option Int) o => i = o) Q As H ((evE C a env S').bind fun w s1 => bndR [w] s1) := by
    revert fin
    simp only [evL]
    cases evE C a env S' <;> exact id
  refine ⟨As, B, O, env, S', rst, (Fin.bind fin').mono fun x H1 ⟨w, S1, As1, g1, r1, q1, f1⟩ => ?_⟩
  cases q1 with
  | d q =>
    rename_i d
    simp only [bndR, pures, pure?] at f1
    cases d with
    | int j =>
      cases q
      exact ⟨j, rfl, f1 (some j) H1 As1 Gr.refl r1 rfl⟩
    | _ => simp only [bound?] at f1; exact f1.elim
  | _ => simp only [bndR, pures, pure?] at f1; exact f1.elim
theorem sd_slc {lo hi : List E} {l h : Option Expr} {p2 : Pos} (ha : PE X ea (tE (gx X T) Wx C a)) (hl : PO X l (tO (gx X T) Wx C lo)) (hh : PO X h (tO (gx X T) Wx C hi)) : PE X (.Subscript ea (.Slice l h none p2) pos) (tE (gx X T) Wx C (.slc a lo hi)) := by
  refine (pe_slice (pos := pos) (p2 := p2) sl_data ha hl hh).impL fun σ H Q ⟨As, B, O, env, S', rst, fin⟩ => ?_
  simp only [evE] at fin
  refine ⟨As, B, O, env, S', rst, (Fin.bind fin).mono fun x H1 ⟨w, S1, As1, g1, r1, q1, f1⟩ => ?_⟩
  refine ⟨As1, B, O, env, S1, r1, (Fin.bind f1).mono fun o1 H2 ⟨o, S2, As2, g2, r2, e2, f2⟩ => ?_⟩
  subst e2
  refine ⟨As2, B, O, env, S2, r2, (Fin.bind f2).mono fun o2 H3 ⟨o', S3, As3, g3, r3, e3, f3⟩ => ?_⟩
  subst e3
  cases hv : view S3 w with
  | none => rw [hv] at f3; exact f3.elim
  | some d =>
    rw [hv] at f3
    have q := ((q1.grow r1.cells.cel g2).grow r2.cells.cel g3).view r3.cells hv
    obtain ⟨d', e, kk⟩ := dR_fin f3
    cases d with
    | list xs =>
      cases e
      exact ⟨As3 ++ B, _, q, r3.cells.trk, .inl ⟨xs, rfl, fun v H' s r => kk v H' As3 (Gr.same s) (r3.same s) r⟩⟩
    | tuple xs =>
      cases e
      exact ⟨As3 ++ B, _, q, r3.cells.trk, .inr ⟨xs, rfl, fun v H' s r => kk v H' As3 (Gr.same s) (r3.same s) r⟩⟩
    | _ => cases e
end
end Lw

set_option Elab.async false
set_option linter.all false
set_option maxRecDepth 100000
set_option maxHeartbeats 2000000
/-! F12: what is walked, in code. -/
namespace Lw
open PySem PySem.Spec PyProof.Rows L2

/-- what a walk may begin at -/
def SrcD (K : PySem.W.Frag) (Ax A : List Addr) (H : Hp) (v : V) (d : PD) : Prop :=
  (∀ i, d = .int i → v = .int i) ∧ ∀ ds, items? d = some ds → ∃ b a vs, v = .ref a ∧ srcSq K b H a vs ∧ RpL K A H vs ds ∧ (b = true → a ∉ Ax ∧ H a ≠ none)
/-- what a walk must keep away from -/
def Axm (m : Bool) (As B : List Addr) : List Addr := if m then As else As ++ B
inductive SrcDs (K : PySem.W.Frag) (Ax A : List Addr) (H : Hp) : List V → List PD → Prop
  | nil : SrcDs K Ax A H [] []
  | cons {v : V} {vs : List V} {d : PD} {ds : List PD} : SrcD K Ax A H v d → SrcDs K Ax A H vs ds → SrcDs K Ax A H (v :: vs) (d :: ds)
section
variable {G : Gc} {As B : List Addr} {H : Hp}
theorem srcD_of {m : Bool} {v : V} {d : PD} (r : Rp G.K (As ++ B) H v d) : SrcD G.K (Axm m As B) (As ++ B) H v d := by
  refine ⟨fun i e => ?_, fun ds e => ?_⟩
  · subst e; cases r; rfl
  · cases r with
    | lst n h r =>
      cases e
      refine ⟨true, _, _, rfl, .inl (.inl h), r, fun _ => ⟨fun q => n ?_, by rw [h]; simp⟩⟩
      cases m
      · exact q
      · exact List.mem_append_left _ q
    | tup h r =>
      cases e
      exact ⟨false, _, _, rfl, h, r, fun z => nomatch z⟩
    | _ => cases e
theorem srcDs_of : ∀ {vs : List V} {ws : List W} {ds : List PD}, RpWs G As B H vs ws → walks ws = some ds → SrcDs G.K (Axm true As B) (As ++ B) H vs ds
  | _, _, _, .nil, e => by
    simp [walks] at e; subst e; exact .nil
  | _, _, _, .cons h r, e => by
    unfold walks at e
    split at e
    · rename_i h0; cases h0
    · rename_i x ws' h0
      cases h0
      split at e
      · rename_i xs e1
        cases e
        cases h with
        | d h => exact .cons (srcD_of h) (srcDs_of r e1)
      · cases e
    · rename_i x ws' h0
      cases h0
      split at e
      · rename_i xs e1
        cases e
        cases h with
        | bor m n z h =>
          refine .cons ⟨fun i e => (by cases e), fun ds e => ?_⟩ (srcDs_of r e1)
          cases e
          exact ⟨true, _, _, rfl, .inl (.inl z), h, fun _ => ⟨n, by rw [z]; simp⟩⟩
      · cases e
    · cases e
theorem srcDs_pure : ∀ {vs : List V} {ds : List PD}, RpL G.K (As ++ B) H vs ds → SrcDs G.K (Axm false As B) (As ++ B) H vs ds
  | _, _, .nil => .nil
  | _, _, .cons h r => .cons (srcD_of h) (srcDs_pure r)
theorem srcDs_m {m : Bool} {vs : List V} {ws : List W} {ds : List PD} (r : RpWs G As B H vs ws) (e : (if m then walks ws else pures ws) = some ds) : SrcDs G.K (Axm m As B) (As ++ B) H vs ds := by
  cases m
  · exact srcDs_pure (r.pures e)
  · exact srcDs_of r e
end
theorem it_rng1 {ds xs : List PD} (h : itItems .rng1 ds = some xs) : ∃ n, ds = [.int n] ∧ rangeD 0 n = some xs := by
  unfold itItems at h
  split at h
  all_goals first | contradiction | skip
  exact ⟨_, rfl, h⟩
theorem it_rng2 {ds xs : List PD} (h : itItems .rng2 ds = some xs) : ∃ a b, ds = [.int a, .int b] ∧ rangeD a b = some xs := by
  unfold itItems at h
  split at h
  all_goals first | contradiction | skip
  exact ⟨_, _, rfl, h⟩
theorem it_seq {ds xs : List PD} (h : itItems .seq ds = some xs) : ∃ x, ds = [x] ∧ items? x = some xs := by
  unfold itItems at h
  split at h
  all_goals first | contradiction | skip
  exact ⟨_, rfl, h⟩
theorem it_enum {ds xs : List PD} (h : itItems .enum ds = some xs) : ∃ x ys, ds = [x] ∧ items? x = some ys ∧ xs = enumD 0 ys := by
  unfold itItems at h
  split at h
  all_goals first | contradiction | skip
  split at h
  · cases h; exact ⟨_, _, rfl, by assumption, rfl⟩
  · cases h
theorem it_zip2 {ds xs : List PD} (h : itItems .zip2 ds = some xs) : ∃ x y ys zs, ds = [x, y] ∧ items? x = some ys ∧ items? y = some zs ∧ xs = zipD ys zs := by
  unfold itItems at h
  split at h
  all_goals first | contradiction | skip
  split at h
  · cases h; exact ⟨_, _, _, _, rfl, by assumption, by assumption, rfl⟩
  · cases h
theorem it_zip3 {ds xs : List PD} (h : itItems .zip3 ds = some xs) : ∃ x y z xs' ys zs, ds = [x, y, z] ∧ items? x = some xs' ∧ items? y = some ys ∧ items? z = some zs ∧ xs = zipD3 xs' ys zs := by
  unfold itItems at h
  split at h
  all_goals first | contradiction | skip
  split at h
  · cases h; exact ⟨_, _, _, _, _, _, rfl, by assumption, by assumption, by assumption, rfl⟩
  · cases h
/-- the reading of what is walked -/
def rxI (G : Gc) (Ax A : List Addr) (H : Hp) (J : It) (xs : List PD) : Prop := ∃ L its, ItD J L H its ∧ (∀ a ∈ L, a ∉ Ax ∧ H a ≠ none) ∧ RpIs G.K A H its xs ∧ xs.length ≤ sizeLine
def tI (G : Gc) (Wx : WX) (C : Callee) (m : Bool) (k : ItK) (es : List E) : TI := fun σ H R => ∃ As B O env S, Rst G As B O H σ env S ∧ Fin G Wx B O σ env (fun As' H' => rxI G (Axm m As' B) (As' ++ B) H') R As H ((evL C es env S).bind (itR m k))
theorem rangeD_some {lo hi : Int} {xs : List PD} (h : rangeD lo hi = some xs) : (-(2 ^ 62) ≤ lo ∧ lo < 2 ^ 62 ∧ -(2 ^ 62) ≤ hi ∧ hi < 2 ^ 62) ∧ xs = (List.range (hi - lo).toNat).map (fun i => .int (lo + (i : Nat))) ∧ xs.length ≤ sizeLine := by
  unfold rangeD at h
  split at h
  · rename_i q
    cases h
    exact ⟨⟨q.1, q.2.1, q.2.2.1, q.2.2.2.1⟩, rfl, by rw [List.length_map, List.length_range, sizeLine_eq]; exact q.2.2.2.2⟩
  · cases h
section
variable {X : Cx} {T : TabX} {S : Sco} {k : Nat} {C : Callee} {Wx : WX} {pos p : Pos} {a b c : E} {ea eb ec tg : Expr} {es : List E} {xs : List Expr}
theorem itR_ok {m : Bool} {k : ItK} {G : Gc} {B : List Addr} {O : Nat → Option Addr} {σ : L2.St} {env : Env} {ι : Type} {Rx : List Addr → Hp → ι → List PD → Prop} {Q : ι → Hp → Prop} {As : List Addr} {H : Hp} {ws : List W} {s : Cells}
    (h : Fin G Wx B O σ env Rx Q As H (itR m k ws s)) : ∃ ds xs, (if m then walks ws else pures ws) = some ds ∧ itItems k ds = some xs ∧ itR m k ws s = .ok xs s := by
  unfold itR at h ⊢
  cases e : (if m then walks ws else pures ws) with
  | none => rw [e] at h; exact h.elim
  | some ds =>
    rw [e] at h
    simp only at h ⊢
    cases e2 : itItems k ds with
    | none => rw [e2] at h; exact h.elim
    | some xs => exact ⟨ds, xs, rfl, e2, rfl⟩
/-- the common step: sources, then the rule -/
theorem ti_step {m : Bool} {k : ItK} {σ : L2.St} {H : Hp} {R : It → Hp → Prop} (h : tI (gx X T) Wx C m k es σ H R) :
    tL (gx X T) Wx C es σ H fun vs H1 => ∃ ds xs Ax A, SrcDs X.K Ax A H1 vs ds ∧ itItems k ds = some xs ∧ ∀ J, rxI (gx X T) Ax A H1 J xs → R J H1 := by
  obtain ⟨As, B, O, env, S', rst, fin⟩ := h
  refine ⟨As, B, O, env, S', rst, (Fin.bind fin).mono fun vs H1 ⟨ws, S1, As1, g1, r1, q1, f1⟩ => ?_⟩
  obtain ⟨ds, xs, e1, e2, e3⟩ := itR_ok f1
  rw [e3] at f1
  exact ⟨ds, xs, _, _, srcDs_m q1 e1, e2, fun J j => f1 J H1 As1 Gr.refl r1 j⟩
theorem si_seq {m : Bool} (ha : PA X [ea] (tL (gx X T) Wx C [a])) (h1 : PE X ea (tE (gx X T) Wx C a)) : PI X tg ea (tI (gx X T) Wx C m .seq [a]) := by
  refine ⟨fun pins s σ H R I h => ?_⟩
  have h' : tE (gx X T) Wx C a σ H fun v H1 => ∃ ds xs Ax A, SrcDs X.K Ax A H1 [v] ds ∧ itItems .seq ds = some xs ∧ ∀ J, rxI (gx X T) Ax A H1 J xs → R J H1 := by
    obtain ⟨As, B, O, env, S', rst, fin⟩ := ti_step h
    refine ⟨As, B, O, env, S', rst, ?_⟩
    revert fin
    simp only [evL]
    cases evE C a env S' with
    | ok w s1 => exact fun f v H' As' g r q => f [v] H' As' g r (.cons q .nil)
    | exc x s1 => exact id
    | bad => exact id
  refine thn (h1.run pins s σ H _ I h') fun v s1 ⟨x, H1, I1, r1, ds, xs, As, B, sd, e, q⟩ => ?_
  cases sd with
  | cons sd sn =>
    cases sn
    rename_i d
    have e : items? d = some xs := e
    obtain ⟨b, a, vs, rfl, hq, rl, hn⟩ := sd.2 xs e
    cases r1
    cases b
    · obtain ⟨its, rv, p, hz⟩ := I1.tuple (show SqT X.K H1 a vs from hq)
      refine wpAny_pyIter_tuple (show s1.heap.IsTuple a its.toArray from p) ?_
      exact pi_one (tk := s1.toks) I1 _ (turn_tuple a _) ⟨_, Heap.get?_push_size _ rfl, rfl, rfl⟩ (q _ ⟨[], _, itd_tup hq, ⟨fun _ h => by simp at h, rpis_one rl, by rw [← rl.len]; exact hz⟩⟩)
    · obtain ⟨its, rv, p, hz⟩ := I1.list (show SqL X.K H1 a vs from hq)
      refine wpAny_pyIter_list p.isList ?_
      refine pi_one (tk := s1.toks) I1 _ (turn_list a _) ⟨_, Heap.get?_push_size _ rfl, rfl, rfl⟩ (q _ ⟨[a], _, itd_list hq, fun b hb => ?_, rpis_one rl, by rw [← rl.len]; exact hz⟩)
      have : b = a := by simpa using hb
      subst this
      exact hn rfl
theorem ifL {b : Bool} {a c : Addr} (h : c ∈ (if b then [a] else [])) : b = true ∧ c = a := by
  cases b
  · simp at h
  · exact ⟨rfl, by simpa using h⟩
theorem si_rng1 {m : Bool} (g : Gd X T S k C Wx) (hg : gloB S "range" = true) (ha : PA X [ea] (tL (gx X T) Wx C [a])) (hp : plainX ea = true) : PI X tg (.Call (.Name "range" p) [ea] [] pos) (tI (gx X T) Wx C m .rng1 [a]) := by
  have h := pi_range1 (tg := tg) (p := p) (pos := pos) (g.glo hg).1 (g.st.bi _ (by decide)) ha (by rw [star_plain hp]; rfl)
  refine ⟨fun pins s σ H R I hh => h.run pins s σ H R I ?_⟩
  obtain ⟨As, B, O, env, S', rst, fin⟩ := ti_step hh
  refine ⟨As, B, O, env, S', rst, fin.mono fun vs H1 ⟨ds, xs, As, B, sd, e, q⟩ => ?_⟩
  obtain ⟨n, rfl, e⟩ := it_rng1 e
  cases sd with
  | cons s1 sr =>
    cases sr with
    | nil =>
      have := s1.1 n rfl
      subst this
      obtain ⟨h1, rfl, hz⟩ := rangeD_some (lo := 0) (hi := n) e
      refine ⟨n, rfl, h1.2.2.1, h1.2.2.2, q _ ⟨[], _, itd_range 0 n.toNat, fun _ h => by simp at h, ?_, hz⟩⟩
      have := rpis_range (K := X.K) (A := B) (H := H1) 0 n.toNat
      simpa using this
theorem si_rng2 {m : Bool} (g : Gd X T S k C Wx) (hg : gloB S "range" = true) (ha : PA X [ea, eb] (tL (gx X T) Wx C [a, b])) (hp : plainX ea = true) (hp2 : plainX eb = true) : PI X tg (.Call (.Name "range" p) [ea, eb] [] pos) (tI (gx X T) Wx C m .rng2 [a, b]) := by
  have h := pi_range2 (tg := tg) (p := p) (pos := pos) (g.glo hg).1 (g.st.bi _ (by decide)) ha (by rw [star_plain hp, star_plain hp2]; rfl) (by rw [star_plain hp2]; rfl)
  refine ⟨fun pins s σ H R I hh => h.run pins s σ H R I ?_⟩
  obtain ⟨As, B, O, env, S', rst, fin⟩ := ti_step hh
  refine ⟨As, B, O, env, S', rst, fin.mono fun vs H1 ⟨ds, xs, As, B, sd, e, q⟩ => ?_⟩
  obtain ⟨i, j, rfl, e⟩ := it_rng2 e
  cases sd with
  | cons s1 sr =>
    cases sr with
    | cons s2 sr =>
      cases sr with
      | nil =>
        have := s1.1 i rfl
        subst this
        have := s2.1 j rfl
        subst this
        obtain ⟨h1, rfl, hz⟩ := rangeD_some (lo := i) (hi := j) e
        exact ⟨i, j, rfl, h1, q _ ⟨[], _, itd_range i (j - i).toNat, fun _ h => by simp at h, rpis_range i (j - i).toNat, hz⟩⟩
theorem si_enum {m : Bool} {elts : List Expr} {kk : Nat} {tpos : Pos} (g : Gd X T S k C Wx) (hg : gloB S "enumerate" = true) (ha : PA X [ea] (tL (gx X T) Wx C [a])) (hp : plainX ea = true) : PI X (.Tuple elts kk tpos) (.Call (.Name "enumerate" p) [ea] [] pos) (tI (gx X T) Wx C m .enum [a]) := by
  refine ⟨fun pins s σ H R I hh => ?_⟩
  refine Call_ (ld_blt I (g.glo hg).1 (g.st.bi _ (by decide)) boot_enumerate (PyProof.Rows.callWith_type1 (thn (ha.run pos pins s σ H _ I (ti_step hh)) fun us s1 ⟨vs, H1, I1, r1, ds, xs, As, B, sd, e, q⟩ => ?_) (star_plain hp) rfl))
  obtain ⟨d, ys, rfl, hi, rfl⟩ := it_enum e
  cases sd with
  | cons s1' sr =>
    cases sr with
    | nil =>
        obtain ⟨b, a, ws, rfl, hq, rl, hn⟩ := s1'.2 ys hi
        cases r1 with
        | cons r rr =>
          cases rr
          cases r
          obtain ⟨its, rv, p', hl, hz⟩ := src_inv I1 hq
          refine call_enum1 (src_begins b a its.toArray) p' fun h' he ho hsz hk => wpAny_pyIter_enum he ?_
          have I2 : Inv X pins σ H1 { s1 with heap := h' } := I1.kept (t' := s1.toks) hk
          have hal : a < s1.heap.objs.size := p'.lt
          refine ⟨s1.heap.objs.size + 1, [s1.heap.objs.size + 1, s1.heap.objs.size], _, _, H1, rfl, I2, turn_E b a (s1.heap.objs.size + 1) s1.heap.objs.size (Nat.succ_ne_self _) (Nat.ne_of_gt (Nat.lt_succ_of_lt hal)) (Nat.ne_of_lt hal), ⟨⟨.none, by simpa using he⟩, srcIt.of ho⟩, fun c hc => ?_, q _ ⟨_, _, itd_enum hq, fun c hc => ?_, rpis_enum rl, by rw [enumD_len, ← rl.len]; exact hz⟩⟩
          · have hle : s1.heap.objs.size ≤ c := by
              have e' : c = s1.heap.objs.size + 1 ∨ c = s1.heap.objs.size := by simpa using hc
              rcases e' with z | z <;> (rw [z]; first | exact Nat.le_add_right _ _ | exact Nat.le_refl _)
            exact I1.fpOk hle (I1.hok.fresh hle)
          · obtain ⟨hb1, rfl⟩ := ifL hc
            exact hn hb1
theorem si_zip2 {m : Bool} {elts : List Expr} {kk : Nat} {tpos : Pos} (g : Gd X T S k C Wx) (hg : gloB S "zip" = true) (ha : PA X [ea, eb] (tL (gx X T) Wx C [a, b])) (hp : plainX ea = true) (hp2 : plainX eb = true) : PI X (.Tuple elts kk tpos) (.Call (.Name "zip" p) [ea, eb] [] pos) (tI (gx X T) Wx C m .zip2 [a, b]) := by
  refine ⟨fun pins s σ H R I hh => ?_⟩
  refine Call_ (ld_blt I (g.glo hg).1 (g.st.bi _ (by decide)) PyProof.Rows.boot_zip (PyProof.Rows.callWith_type1 (thn (ha.run pos pins s σ H _ I (ti_step hh)) fun us s1 ⟨vs, H1, I1, r1, ds, xs, As, B, sd, e, q⟩ => ?_) (star_plain hp) (by rw [star_plain hp2]; rfl)))
  obtain ⟨d1, d2, ys, zs, rfl, hi, hi2, rfl⟩ := it_zip2 e
  cases sd with
  | cons s1' sr =>
    cases sr with
    | cons s2' sr =>
      cases sr with
      | nil =>
            obtain ⟨b1, a1, ws1, rfl, hq1, rl1, hn1⟩ := s1'.2 ys hi
            obtain ⟨b2, a2, ws2, rfl, hq2, rl2, hn2⟩ := s2'.2 zs hi2
            cases r1 with
            | cons r rr =>
              cases rr with
              | cons r' rr =>
                cases rr
                cases r
                cases r'
                obtain ⟨its1, rv1, p1, hl1, hz1⟩ := src_inv I1 hq1
                obtain ⟨its2, rv2, p2, hl2, hz2⟩ := src_inv I1 hq2
                refine zip_begins2 (src_begins b1 a1 its1.toArray) (src_begins b2 a2 its2.toArray) p1 p2 fun h' hz hTI hTO h1 h2 hsz hk => wpAny_pyIter_zip hz ?_
                have I2 : Inv X pins σ H1 { s1 with heap := h' } := I1.kept (t' := s1.toks) hk
                refine ⟨s1.heap.objs.size + 4, [s1.heap.objs.size + 4, s1.heap.objs.size + 2, s1.heap.objs.size + 3, s1.heap.objs.size, s1.heap.objs.size + 1], _, _, H1, rfl, I2, turn_Z b1 b2 a1 a2 s1.heap.objs.size p1.lt p2.lt, ⟨hz, hTI, ⟨_, _, hTO⟩, srcIt.of h1, srcIt.of h2⟩, fun c hc => ?_, q _ ⟨_, _, itd_zip hq1 hq2, fun c hc => ?_, rpis_zip rl1 rl2, by
                  have := rl1.len
                  simp only [zipD, List.length_map, List.length_zip]; omega⟩⟩
                · have hle : s1.heap.objs.size ≤ c := by
                    have e' : c = s1.heap.objs.size + 4 ∨ c = s1.heap.objs.size + 2 ∨ c = s1.heap.objs.size + 3 ∨ c = s1.heap.objs.size ∨ c = s1.heap.objs.size + 1 := by simpa using hc
                    rcases e' with z | z | z | z | z <;> (rw [z]; first | exact Nat.le_add_right _ _ | exact Nat.le_refl _)
                  exact I1.fpOk hle (I1.hok.fresh hle)
                · rcases List.mem_append.mp hc with hc | hc
                  · obtain ⟨hb1, rfl⟩ := ifL hc
                    exact hn1 hb1
                  · obtain ⟨hb1, rfl⟩ := ifL hc
                    exact hn2 hb1
theorem si_zip3 {m : Bool} {elts : List Expr} {kk : Nat} {tpos : Pos} (g : Gd X T S k C Wx) (hg : gloB S "zip" = true) (ha : PA X [ea, eb, ec] (tL (gx X T) Wx C [a, b, c])) (hp : plainX ea = true) (hp2 : plainX eb = true) (hp3 : plainX ec = true) : PI X (.Tuple elts kk tpos) (.Call (.Name "zip" p) [ea, eb, ec] [] pos) (tI (gx X T) Wx C m .zip3 [a, b, c]) := by
  refine ⟨fun pins s σ H R I hh => ?_⟩
  refine Call_ (ld_blt I (g.glo hg).1 (g.st.bi _ (by decide)) PyProof.Rows.boot_zip (PyProof.Rows.callWith_type1 (thn (ha.run pos pins s σ H _ I (ti_step hh)) fun us s1 ⟨vs, H1, I1, r1, ds, xs, As, B, sd, e, q⟩ => ?_) (star_plain hp) (by rw [star_plain hp2, star_plain hp3]; rfl)))
  obtain ⟨d1, d2, d3, ys, zs, us3, rfl, hi, hi2, hi3, rfl⟩ := it_zip3 e
  cases sd with
  | cons s1' sr =>
    cases sr with
    | cons s2' sr =>
      cases sr with
      | cons s3' sr =>
        cases sr with
        | nil =>
                obtain ⟨b1, a1, ws1, rfl, hq1, rl1, hn1⟩ := s1'.2 ys hi
                obtain ⟨b2, a2, ws2, rfl, hq2, rl2, hn2⟩ := s2'.2 zs hi2
                obtain ⟨b3, a3, ws3, rfl, hq3, rl3, hn3⟩ := s3'.2 us3 hi3
                cases r1 with
                | cons r rr =>
                  cases rr with
                  | cons r' rr =>
                    cases rr with
                    | cons r'' rr =>
                      cases rr
                      cases r
                      cases r'
                      cases r''
                      obtain ⟨its1, rv1, p1, hl1, hz1⟩ := src_inv I1 hq1
                      obtain ⟨its2, rv2, p2, hl2, hz2⟩ := src_inv I1 hq2
                      obtain ⟨its3, rv3, p3, hl3, hz3⟩ := src_inv I1 hq3
                      refine zip_begins3 (src_begins b1 a1 its1.toArray) (src_begins b2 a2 its2.toArray) (src_begins b3 a3 its3.toArray) p1 p2 p3 fun h' hz hTI hTO h1 h2 h3 hsz hk => wpAny_pyIter_zip hz ?_
                      have I2 : Inv X pins σ H1 { s1 with heap := h' } := I1.kept (t' := s1.toks) hk
                      refine ⟨s1.heap.objs.size + 5, [s1.heap.objs.size + 5, s1.heap.objs.size + 3, s1.heap.objs.size + 4, s1.heap.objs.size, s1.heap.objs.size + 1, s1.heap.objs.size + 2], _, _, H1, rfl, I2, turn_Z3 b1 b2 b3 a1 a2 a3 s1.heap.objs.size p1.lt p2.lt p3.lt, ⟨hz, hTI, ⟨_, _, _, hTO⟩, srcIt.of h1, srcIt.of h2, srcIt.of h3⟩, fun c hc => ?_, q _ ⟨_, _, itd_zip3 hq1 hq2 hq3, fun c hc => ?_, rpis_zip3 rl1 rl2 rl3, by
                        have := rl1.len
                        simp only [zipD3, List.length_map, List.length_zip]; omega⟩⟩
                      · have hle : s1.heap.objs.size ≤ c := by
                          have e' : c = s1.heap.objs.size + 5 ∨ c = s1.heap.objs.size + 3 ∨ c = s1.heap.objs.size + 4 ∨ c = s1.heap.objs.size ∨ c = s1.heap.objs.size + 1 ∨ c = s1.heap.objs.size + 2 := by simpa using hc
                          rcases e' with z | z | z | z | z | z <;> (rw [z]; first | exact Nat.le_add_right _ _ | exact Nat.le_refl _)
                        exact I1.fpOk hle (I1.hok.fresh hle)
                      · rcases List.mem_append.mp hc with hc | hc
                        · rcases List.mem_append.mp hc with hc | hc
                          · obtain ⟨hb1, rfl⟩ := ifL hc
                            exact hn1 hb1
                          · obtain ⟨hb1, rfl⟩ := ifL hc
                            exact hn2 hb1
                        · obtain ⟨hb1, rfl⟩ := ifL hc
                          exact hn3 hb1
end
end Lw

set_option Elab.async false
set_option linter.all false
set_option maxRecDepth 100000
set_option maxHeartbeats 2000000
/-! F13: targets; own slots forgotten; tests of a comprehension. -/
namespace Lw
open PySem PySem.Spec PyProof.Rows L2

section
variable {K : PySem.W.Frag} {G : Gc} {As As' B : List Addr} {O : Nat → Option Addr} {H H' : Hp} {σ σ' : L2.St} {env env' : Env} {S : Cells} {v : V} {d : PD}
theorem set_getElem? {α : Type} {l : List α} {i j : Nat} {x : α} : (l.set i x)[j]? = if i = j then (if i < l.length then some x else none) else l[j]? := by
  by_cases h : i = j
  · subst h
    rw [if_pos rfl]
    split
    · rename_i h; exact List.getElem?_set_self h
    · rename_i h; exact List.getElem?_eq_none (by simpa using h)
  · rw [if_neg h]; exact List.getElem?_set_ne h
/-- a slot is set -/
theorem Slots.set {i : Nat} {w : W} (k : Slots G As B O H σ env) (r : RpW G As B H v w) (hw : ∀ x, w ≠ .own x) (hi : i < env.length) : Slots G As B O H (σ.set i (some v)) (env.set i (some w)) := by
  refine ⟨by simp [k.len], fun j w' e n => ?_, fun j x e => ?_, k.inj, k.mem⟩
  · rw [set_getElem?] at e ⊢
    by_cases h : i = j
    · rw [if_pos h, if_pos hi] at e
      rw [if_pos h, if_pos (by rw [← k.len]; exact hi)]
      cases e
      exact ⟨v, rfl, r⟩
    · rw [if_neg h] at e ⊢
      exact k.at_ j w' e n
  · rw [set_getElem?] at e
    by_cases h : i = j
    · rw [if_pos h, if_pos hi] at e
      cases e
      exact absurd rfl (hw x)
    · rw [if_neg h] at e
      obtain ⟨a, xs, ds, h1, h2, h3⟩ := k.own j x e
      refine ⟨a, xs, ds, h1, ?_, h3⟩
      rw [set_getElem?, if_neg h]; exact h2
theorem Slots.unset {i : Nat} (k : Slots G As B O H σ env) : Slots G As B O H (σ.set i none) (env.set i none) := by
  refine ⟨by simp [k.len], fun j w' e n => ?_, fun j x e => ?_, k.inj, k.mem⟩
  · rw [set_getElem?] at e ⊢
    by_cases h : i = j
    · rw [if_pos h] at e
      split at e <;> cases e
    · rw [if_neg h] at e ⊢
      exact k.at_ j w' e n
  · rw [set_getElem?] at e
    by_cases h : i = j
    · rw [if_pos h] at e
      split at e <;> cases e
    · rw [if_neg h] at e
      obtain ⟨a, xs, ds, h1, h2, h3⟩ := k.own j x e
      refine ⟨a, xs, ds, h1, ?_, h3⟩
      rw [set_getElem?, if_neg h]; exact h2
theorem Slots.wipe (k : Slots G As B O H σ env) : ∀ vs : List Nat, Slots G As B O H (wipe σ vs) (wipeE env vs)
  | [] => k
  | v :: vs => (Slots.wipe k vs).unset
theorem wipe_set_in {i : Nat} {x : Option V} : ∀ {vs : List Nat} (σ : L2.St), i ∈ vs → wipe (σ.set i x) vs = wipe σ vs
  | [], _, h => by simp at h
  | v :: vs, σ, h => by
    unfold wipe
    by_cases hv : v = i
    · subst hv
      by_cases hm : v ∈ vs
      · rw [wipe_set_in σ hm]
      · have : ∀ (us : List Nat), v ∉ us → wipe (σ.set v x) us = (wipe σ us).set v x := by
          intro us
          induction us with
          | nil => intro _; rfl
          | cons u us ih =>
            intro hu
            simp only [List.mem_cons, not_or] at hu
            unfold wipe
            rw [ih hu.2, List.set_comm _ _ hu.1]
        rw [this vs hm, List.set_set]
    · have hm : i ∈ vs := by
        rcases List.mem_cons.mp h with e | h
        · exact absurd e.symm hv
        · exact h
      rw [wipe_set_in σ hm]
theorem wipe_wipe (σ : L2.St) : ∀ vs us : List Nat, (∀ u ∈ us, u ∈ vs) → wipe (wipe σ us) vs = wipe σ vs
  | vs, [], _ => rfl
  | vs, u :: us, h => by
    show wipe ((wipe σ us).set u none) vs = _
    rw [wipe_set_in _ (h u List.mem_cons_self), wipe_wipe σ vs us fun x hx => h x (List.mem_cons_of_mem _ hx)]
end

/-- what the callers own stays where it was -/
def Keepb (env : Env) (σ : L2.St) (env' : Env) (σ' : L2.St) : Prop := ∀ (j : Nat) x, env'[j]? = some (some (.bor x)) → env[j]? = some (some (.bor x)) ∧ σ'[j]? = σ[j]?
theorem Keepb.trans {env env1 env2 : Env} {σ σ1 σ2 : L2.St} (a : Keepb env σ env1 σ1) (b : Keepb env1 σ1 env2 σ2) : Keepb env σ env2 σ2 := fun j x e =>
  let ⟨h1, h2⟩ := b j x e; let ⟨h3, h4⟩ := a j x h1; ⟨h3, h2.trans h4⟩
theorem Keepb.set {env : Env} {σ : L2.St} {i : Nat} {v : V} {x : PD} : Keepb env σ (env.set i (some (.d x))) (σ.set i (some v)) := fun j y e => by
  rw [set_getElem?] at e
  by_cases h : i = j
  · rw [if_pos h] at e
    split at e <;> cases e
  · rw [if_neg h] at e
    exact ⟨e, by rw [set_getElem?, if_neg h]⟩
/-- targets -/
def tG (G : Gc) (own : List Nat) (t : Tg) : TG := fun v σ H Q => ∃ As B O env env' S d, Rst G As B O H σ env S ∧ Rp G.K (As ++ B) H v d ∧ asgT t d env = some env' ∧
  ∀ σ', Rst G As B O H σ' env' S → ((∀ i ∈ tgSlots t, i ∈ own) → wipe σ' own = wipe σ own) → Keepb env σ env' σ' → Q σ' H
def tGs (G : Gc) (own : List Nat) (ts : List Tg) : TGs := fun vs σ H Q => ∃ As B O env env' S ds, Rst G As B O H σ env S ∧ RpL G.K (As ++ B) H vs ds ∧ asgTs ts ds env = some env' ∧
  ∀ σ', Rst G As B O H σ' env' S → ((∀ i ∈ tgsSlots ts, i ∈ own) → wipe σ' own = wipe σ own) → Keepb env σ env' σ' → Q σ' H
theorem assign_plain {e : Expr} {r : List Expr} {env : PySem.Env} (h : plainX e = true) : assignEach (e :: r) env = (false, assign e env) :: assignEach r env := by
  cases e <;> first | rfl | (simp [plainX] at h)
section
variable {X : Cx} {T : TabX} {S : Sco} {k : Nat} {C : Callee} {Wx : WX} {own : List Nat}
theorem chkGs_len {N : List Str} : ∀ {ts : List Tg} {es : List Expr}, chkGs N S ts es = true → es.length = ts.length
  | [], [], _ => rfl
  | t :: ts, e :: es, h => by
    simp only [chkGs, Bool.and_eq_true] at h
    simp [chkGs_len h.2]
  | [], _ :: _, h => by simp [chkGs] at h
  | _ :: _, [], h => by simp [chkGs] at h
theorem chkGs_plain {N : List Str} {env : PySem.Env} : ∀ {ts : List Tg} {es : List Expr}, chkGs N S ts es = true → (assignEach es env).length = es.length ∧ (assignEach es env).findIdx? (·.1) = none
  | [], [], _ => ⟨rfl, rfl⟩
  | t :: ts, e :: es, h => by
    simp only [chkGs, Bool.and_eq_true] at h
    obtain ⟨h1, h2⟩ := chkGs_plain (env := env) h.2
    rw [assign_plain h.1.1]
    refine ⟨by simp [h1], ?_⟩
    rw [List.findIdx?_cons, h2]
    simp
  | [], _ :: _, h => by simp [chkGs] at h
  | _ :: _, [], h => by simp [chkGs] at h
theorem asgTs_len : ∀ {ts : List Tg} {ds : List PD} {env env' : Env}, asgTs ts ds env = some env' → ds.length = ts.length
  | [], [], _, _, _ => rfl
  | t :: ts, d :: ds, env, env', h => by
    unfold asgTs at h
    split at h
    · simp [asgTs_len h]
    · cases h
  | [], _ :: _, _, _, h => by simp [asgTs] at h
  | _ :: _, [], _, _, h => by simp [asgTs] at h
mutual
theorem sd_tg (own : List Nat) (g : Gd X T S k C Wx) : ∀ (t : Tg) (e : Expr), chkG X.N S t e = true → PG X e (tG (gx X T) own t)
  | .nm i, e, h => by
    unfold chkG at h
    split at h
    · rename_i i' x p h1
      cases h1
      simp only [Bool.and_eq_true, decide_eq_true_eq] at h
      obtain ⟨hl, hf⟩ := g.loc h.2
      refine ⟨fun pins s σ H v u Q I r ⟨As, B, O, env, env', S', d, rst, rp, e, q⟩ => (pg_name (pos := p) g.nd h.1 hl hf).run pins s σ H v u Q I r ?_⟩
      simp only [asgT] at e
      split at e
      · rename_i hi
        cases e
        refine q _ ⟨rst.cells, rst.slots.set (.d rp) (fun x z => nomatch z) hi⟩ (fun hin => wipe_set_in σ (hin i (by simp [tgSlots]))) Keepb.set
      · cases e
    · rename_i h1; cases h1
    · rename_i h1; cases h1
    · cases h
  | .tt ts, e, h => by
    unfold chkG at h
    split at h
    · rename_i h1; cases h1
    · rename_i h1; cases h1
    · rename_i ts' es j p h1
      cases h1
      obtain ⟨h2, h3⟩ := chkGs_plain (env := X.env) h
      have h4 := chkGs_len h
      have ih := sd_tgs own g ts es h
      refine ⟨fun pins s σ H v u Q I r ⟨As, B, O, env, env', S', d, rst, rp, e, q⟩ => ?_⟩
      cases d with
      | tuple ds =>
        cases rp with
        | tup hq rl =>
          simp only [asgT] at e
          by_cases h0 : S.hot = 0
          · refine (pg_tup (pos := p) (k := j) (g.calm h0) ih h2 h3).run pins s σ H _ u Q I r ⟨_, _, rfl, hq, ?_, As, B, O, env, env', S', ds, rst, rl, e, q⟩
            rw [rl.len, asgTs_len e, h4]
          · refine (pg_tupH (pos := p) (k := j) (g.hoth h0) ih h2 h3).run pins s σ H _ u Q I r ⟨_, _, rfl, hq, ?_, As, B, O, env, env', S', ds, rst, rl, e, q⟩
            rw [rl.len, asgTs_len e, h4]
      | _ => simp [asgT] at e
    · cases h
  | .tu ts, e, h => by
    unfold chkG at h
    split at h
    · rename_i h1; cases h1
    · rename_i ts' es j p h1
      cases h1
      obtain ⟨h0, h⟩ := Bool.and_eq_true_iff.mp h
      have h0 : S.hot = 0 := of_decide_eq_true h0
      obtain ⟨h2, h3⟩ := chkGs_plain (env := X.env) h
      have h4 := chkGs_len h
      have ih := sd_tgs own g ts es h
      refine ⟨fun pins s σ H v u Q I r ⟨As, B, O, env, env', S', d, rst, rp, e, q⟩ => ?_⟩
      cases d with
      | tuple ds =>
        cases rp with
        | tup hq rl =>
          simp only [asgT] at e
          refine (pg_tup (pos := p) (k := j) (g.calm h0) ih h2 h3).run pins s σ H _ u Q I r ⟨_, _, rfl, hq, ?_, As, B, O, env, env', S', ds, rst, rl, e, q⟩
          rw [rl.len, asgTs_len e, h4]
      | list ds =>
        cases rp with
        | lst hn hq rl =>
          simp only [asgT] at e
          refine (pg_unl (pos := p) (k := j) (g.calm h0) ih h2 h3).run pins s σ H _ u Q I r ⟨_, _, rfl, .inl (.inl hq), ?_, As, B, O, env, env', S', ds, rst, rl, e, q⟩
          rw [rl.len, asgTs_len e, h4]
      | _ => simp [asgT] at e
    · rename_i h1; cases h1
    · cases h
theorem sd_tgs (own : List Nat) (g : Gd X T S k C Wx) : ∀ (ts : List Tg) (es : List Expr), chkGs X.N S ts es = true → PGs X es (tGs (gx X T) own ts)
  | [], es, h => by
    cases es with
    | cons e es => simp [chkGs] at h
    | nil =>
      refine ⟨fun pins s σ H vs us Q I r ⟨As, B, O, env, env', S', ds, rst, rl, e, q⟩ => pgs_nil.run pins s σ H vs us Q I r ?_⟩
      cases ds with
      | cons d ds => simp [asgTs] at e
      | nil =>
        cases rl
        simp [asgTs] at e
        subst e
        exact ⟨rfl, q σ rst (fun _ => rfl) fun j x e => ⟨e, rfl⟩⟩
  | t :: ts, es, h => by
    cases es with
    | nil => simp [chkGs] at h
    | cons e es =>
      simp only [chkGs, Bool.and_eq_true] at h
      have ih1 := sd_tg own g t e h.1.2
      have ih2 := sd_tgs own g ts es h.2
      refine ⟨fun pins s σ H vs us Q I r ⟨As, B, O, env, env', S', ds, rst, rl, e, q⟩ => (pgs_cons ih1 ih2 (by rw [assign_plain h.1.1]; rfl)).run pins s σ H vs us Q I r ?_⟩
      cases ds with
      | nil => simp [asgTs] at e
      | cons d ds =>
        cases rl with
        | cons rp rl =>
          unfold asgTs at e
          split at e
          · rename_i env1 e1
            refine ⟨_, _, rfl, As, B, O, env, env1, S', d, rst, rp, e1, fun σ1 r1 w1 k1 => ?_⟩
            refine ⟨As, B, O, env1, env', S', ds, r1, rl, e, fun σ2 r2 w2 k2 => q σ2 r2 (fun hin => ?_) (k1.trans k2)⟩
            rw [w2 fun i hi => hin i (by simp [tgsSlots, hi]), w1 fun i hi => hin i (by simp [tgsSlots, hi])]
          · cases e
end
/-! tests of a comprehension -/
def tCs (G : Gc) (Wx : WX) (C : Callee) (es : List E) : TT := fun σ H Q => ∃ As B O env S, Rst G As B O H σ env S ∧ Fin G Wx B O σ env (fun _ _ (i : Bool) b => i = b) Q As H (evC C es env S)
theorem sc_nil : PTs X [] (tCs (gx X T) Wx C []) :=
  ⟨fun pins s σ H Q I ⟨As, B, O, env, S', rst, fin⟩ => pts_nil.run pins s σ H Q I (fin true H As Gr.refl rst rfl)⟩
theorem sc_one {e : E} {x : Expr} (h : PT X x (tT (gx X T) Wx C e)) : PTs X [x] (tCs (gx X T) Wx C [e]) := by
  refine ⟨fun pins s σ H Q I ⟨As, B, O, env, S', rst, fin⟩ => (pts_one h).run pins s σ H Q I ⟨As, B, O, env, S', rst, ?_⟩⟩
  unfold evT
  simp only [evC] at fin
  revert fin
  cases evE C e env S' with
  | ok w s1 =>
    simp only [R.calm, R.bind]
    cases boolR w s1 with
    | ok b s2 =>
      simp only
      cases b
      · exact id
      · exact id
    | exc x s2 => exact False.elim
    | bad => exact id
  | exc x s1 => exact False.elim
  | bad => exact id
end
end Lw

set_option Elab.async false
set_option linter.all false
set_option maxRecDepth 100000
set_option maxHeartbeats 2000000
/-! F14: list comprehensions. -/
namespace Lw
open PySem PySem.Spec PyProof.Rows L2

section
variable {K : PySem.W.Frag} {G : Gc} {A As As' B : List Addr} {O : Nat → Option Addr} {H H' : Hp} {σ σ' : L2.St} {env env' : Env} {S : Cells} {v : V} {d : PD} {vs : List V} {ds : List PD} {w : W} {D : Addr}
/-! one more address that is written -/
theorem Rp.more (h : H D = none) (r : Rp K (As ++ B) H v d) : Rp K (As ++ D :: B) H v d := r.imp (fun a xs n e => ⟨fun q => by
  rcases List.mem_append.mp q with q | q
  · exact n (List.mem_append_left _ q)
  · rcases List.mem_cons.mp q with q | q
    · rw [q, h] at e; cases e
    · exact n (List.mem_append_right _ q), e⟩) fun _ _ q => q
theorem RpL.more (h : H D = none) (r : RpL K (As ++ B) H vs ds) : RpL K (As ++ D :: B) H vs ds := r.imp (fun a xs n e => ⟨fun q => by
  rcases List.mem_append.mp q with q | q
  · exact n (List.mem_append_left _ q)
  · rcases List.mem_cons.mp q with q | q
    · rw [q, h] at e; cases e
    · exact n (List.mem_append_right _ q), e⟩) fun _ _ q => q
theorem mem_less {a : Addr} (h : a ∈ As ++ B) : a ∈ As ++ D :: B := by
  rcases List.mem_append.mp h with h | h
  · exact List.mem_append_left _ h
  · exact List.mem_append_right _ (List.mem_cons_of_mem _ h)
theorem ScrOk.more {a : Addr} {xs : List V} (e : ScrOk K As B H a xs) (h : H D = none) : ScrOk K As (D :: B) H a xs := by
  rcases e with ⟨e, n⟩ | e | e
  · refine .inl ⟨e, fun q => ?_⟩
    rcases List.mem_append.mp q with q | q
    · exact n (List.mem_append_left _ q)
    · rcases List.mem_cons.mp q with q | q
      · rw [q, h] at e; cases e
      · exact n (List.mem_append_right _ q)
  · exact .inr (.inl e)
  · exact .inr (.inr e)
theorem ScrOk.put {a : Addr} {xs ys zs : List V} (e : ScrOk K As B H a xs) (hA : D ∈ As ++ B) (hD : H D = some (.lst ys)) : ScrOk K As B (upd H D (.lst zs)) a xs := by
  rcases e with ⟨e, n⟩ | ⟨o, e, n⟩ | e
  · exact .inl ⟨by rw [upd_ne (fun q => n (by rw [q]; exact hA))]; exact e, n⟩
  · exact .inr (.inl ⟨o, by rw [upd_ne (fun q => by rw [q, hD] at e; cases e)]; exact e, n⟩)
  · exact .inr (.inr e)
theorem RpW.more (h : H D = none) (r : RpW G As B H v w) : RpW G As (D :: B) H v w := by
  cases r with
  | d r => exact .d (r.more h)
  | bor m n e r => exact .bor (List.mem_cons_of_mem _ m) n e (r.more h)
  | loc e => exact .loc e
  | scr e r => exact .scr (e.more h) (r.more h)
  | fn m e => exact .fn m e
  | exc m => exact .exc m
/-- a list that is written -/
theorem sqT_put {xs ys zs : List V} {a : Addr} (hD : H D = some (.lst ys)) (h : SqT K H a xs) : SqT K (upd H D (.lst zs)) a xs := by
  rcases h with (h | ⟨o, h⟩) | h
  · exact .inl (.inl (by rw [upd_ne (fun e => by rw [e, hD] at h; cases h)]; exact h))
  · exact .inl (.inr ⟨o, by rw [upd_ne (fun e => by rw [e, hD] at h; cases h)]; exact h⟩)
  · exact .inr h
theorem Rp.put {ys zs : List V} (hA : D ∈ A) (hD : H D = some (.lst ys)) (r : Rp K A H v d) : Rp K A (upd H D (.lst zs)) v d :=
  r.imp (fun a xs n e => ⟨n, by rw [upd_ne (fun q => n (by rw [q]; exact hA))]; exact e⟩) fun _ _ h => sqT_put hD h
theorem RpL.put {ys zs : List V} (hA : D ∈ A) (hD : H D = some (.lst ys)) (r : RpL K A H vs ds) : RpL K A (upd H D (.lst zs)) vs ds :=
  r.imp (fun a xs n e => ⟨n, by rw [upd_ne (fun q => n (by rw [q]; exact hA))]; exact e⟩) fun _ _ h => sqT_put hD h
theorem tbs_put {t : List (Addr × Str)} {ys zs : List V} (hD : H D = some (.lst ys)) (h : LamX.Tabs t H) : LamX.Tabs t (upd H D (.lst zs)) := fun p hp => by
  obtain ⟨ps, h1, h2, h3⟩ := h p hp
  refine ⟨ps, by rw [upd_ne (fun e => by rw [e, hD] at h1; cases h1)]; exact h1, h2, fun pos cv hc => ?_⟩
  obtain ⟨c, e1, e2⟩ := h3 pos cv hc
  exact ⟨c, e1, by rw [upd_ne (fun e => by rw [e, hD] at e2; unfold LamX.CodeO at e2; cases e2)]; exact e2⟩
theorem Cells.Ok.more {o : HO} (k : Cells.Ok G As B H S) (h : H D = none) : Cells.Ok G As (D :: B) (upd H D o) S := by
  have nA : ∀ a ∈ As, a ≠ D := fun a ha e => by
    obtain ⟨o, q, _⟩ := k.cel a ha
    rw [e, h] at q; cases q
  refine ⟨k.len, k.nd, fun a ha hb => ?_, fun a ha => ?_, fun a ha => ?_, fun i a x e1 e2 => ?_, k.tbs.ext (Same.upd h)⟩
  · rcases List.mem_cons.mp hb with e | hb
    · exact nA a ha e
    · exact k.dis a ha hb
  · obtain ⟨o, q, z⟩ := k.cel a ha
    exact ⟨o, by rw [upd_ne (nA a ha)]; exact q, z⟩
  · by_cases e : a = D
    · rw [e, upd_same]; simp
    · rw [upd_ne e]
      rcases List.mem_cons.mp ha with q | q
      · exact absurd q e
      · exact k.own a q
  · obtain ⟨xs, ds, h1, h2, h3⟩ := k.at_ i a x e1 e2
    refine ⟨xs, ds, ?_, h2, (h3.more h).same (Same.upd h)⟩
    rw [upd_ne (nA a (List.mem_of_getElem? e1))]; exact h1
theorem Cells.Ok.less (k : Cells.Ok G As (D :: B) H S) : Cells.Ok G As B H S :=
  ⟨k.len, k.nd, fun a ha hb => k.dis a ha (List.mem_cons_of_mem _ hb), k.cel, fun a ha => k.own a (List.mem_cons_of_mem _ ha), fun i a x e1 e2 =>
    let ⟨xs, ds, h1, h2, h3⟩ := k.at_ i a x e1 e2; ⟨xs, ds, h1, h2, h3.weak fun b hb => mem_less hb⟩, k.tbs⟩
theorem Cells.Ok.put {ys zs : List V} (k : Cells.Ok G As (D :: B) H S) (hD : H D = some (.lst ys)) : Cells.Ok G As (D :: B) (upd H D (.lst zs)) S := by
  have nA : ∀ a ∈ As, a ≠ D := fun a ha e => k.dis a ha (by rw [e]; exact List.mem_cons_self)
  refine ⟨k.len, k.nd, k.dis, fun a ha => ?_, fun a ha => ?_, fun i a x e1 e2 => ?_, tbs_put hD k.tbs⟩
  · obtain ⟨o, q, z⟩ := k.cel a ha
    exact ⟨o, by rw [upd_ne (nA a ha)]; exact q, z⟩
  · by_cases e : a = D
    · rw [e, upd_same]; simp
    · rw [upd_ne e]; exact k.own a ha
  · obtain ⟨xs, ds, h1, h2, h3⟩ := k.at_ i a x e1 e2
    exact ⟨xs, ds, by rw [upd_ne (nA a (List.mem_of_getElem? e1))]; exact h1, h2, h3.put (List.mem_append_right _ List.mem_cons_self) hD⟩
theorem Slots.more (k : Slots G As B O H σ env) (h : H D = none) : Slots G As (D :: B) O H σ env :=
  ⟨k.len, fun i w e n => let ⟨v, h1, h2⟩ := k.at_ i w e n; ⟨v, h1, h2.more h⟩,
   fun i x e => let ⟨a, xs, ds, h1, h2, h3, h4, h5⟩ := k.own i x e; ⟨a, xs, ds, h1, h2, h3, h4, h5.more h⟩, k.inj, fun i a e => List.mem_cons_of_mem _ (k.mem i a e)⟩
theorem Slots.grow' (k : Slots G As B O H σ env) (c : Cel As H) (ds : ∀ a ∈ As, a ∉ B) (g : Gr As As' H H') : Slots G As' B O H' σ env :=
  ⟨k.len, fun i w e n => let ⟨v, h1, h2⟩ := k.at_ i w e n; ⟨v, h1, h2.grow c g⟩,
   fun i x e => let ⟨a, xs, ds', h1, h2, h3, h4, h5⟩ := k.own i x e; ⟨a, xs, ds', h1, h2, g.kp _ _ h3 (fun q => ds a q (k.mem i a h1)) (fun _ z => nomatch z), h4, h5.grow c g⟩, k.inj, k.mem⟩
theorem Gr.put {o : HO} (g : Gr As As' H H') (h : H D = none) : Gr As As' H (upd H' D o) := by
  refine ⟨g.ex, fun b u e n nt => ?_, fun b xs e => ?_, fun b e => ?_⟩
  · rw [upd_ne (fun q => by rw [q, h] at e; cases e)]; exact g.kp b u e n nt
  · rw [upd_ne (fun q => by rw [q, h] at e; cases e)]; exact g.tp b xs e
  · rw [upd_ne (fun q => e (by rw [q]; exact h))]; exact g.tr b e
theorem RpI.more {it : Itm} (h : H D = none) (r : RpI K (As ++ B) H it d) : RpI K (As ++ D :: B) H it d := by
  cases r with
  | one r => exact .one (r.more h)
  | tup r => exact .tup (r.more h)
end
theorem tL_yi {K : PySem.W.Frag} {A : List Addr} {H : Hp} {it : Itm} {x : V} {H' : Hp} : YI H it x H' → Same H H' := by
  intro y
  cases it with
  | one v => obtain ⟨_, rfl⟩ := y; exact Same.refl _
  | tup vs => obtain ⟨T, _, hT, rfl⟩ := y; exact Same.upd hT

theorem calm_ok {α β : Type} {a : α} {s : Cells} {f : α → Cells → R β} : (R.ok a s).calm f = f a s := rfl
/-- the state of a comprehension between turns -/
structure LcI (G : Gc) (As1 B : List Addr) (H1 : Hp) (D : Addr) (As' : List Addr) (H' : Hp) (S' : Cells) (acc : List V) (accd : List PD) : Prop where
  gr : Gr As1 As' H1 H'
  cells : Cells.Ok G As' (D :: B) H' S'
  hD : H' D = some (.lst acc)
  rl : RpL G.K (As' ++ D :: B) H' acc accd

/-! ### a new list, of which nothing else knows -/
def FinF (G : Gc) (Wx : WX) (B : List Addr) (O : Nat → Option Addr) (σ : L2.St) (env : Env) (Q : VK) (As : List Addr) (H : Hp) : R W → Prop
  | .ok w S' => ∃ ds, w = .d (.list ds) ∧ ∀ D H' As' vs, Gr As As' H H' → H D = none → Rst G As' (D :: B) O H' σ env S' → H' D = some (.lst vs) → RpL G.K (As' ++ D :: B) H' vs ds → Q (.ref D) H'
  | .exc x S' => ∀ cls dd H' As', Gr As As' H H' → Rst G As' B O H' σ env S' → RpX G H' x cls dd → Wx cls dd σ H'
  | .bad => False
def tEF (G : Gc) (Wx : WX) (C : Callee) (e : E) : TE := fun σ H Q => ∃ As B O env S, Rst G As B O H σ env S ∧ FinF G Wx B O σ env Q As H (evE C e env S)
section
variable {G : Gc} {Wx : WX} {As As1 As' B : List Addr} {O : Nat → Option Addr} {H H1 H' : Hp} {σ : L2.St} {env : Env} {S S' : Cells} {D : Addr} {Q : VK}
theorem FinF.grow {r : R W} (h : FinF G Wx B O σ env Q As H r) (g : Gr As As1 H H1) : FinF G Wx B O σ env Q As1 H1 r := by
  cases r with
  | ok a S' =>
    obtain ⟨ds, e, k⟩ := h
    exact ⟨ds, e, fun D H' As' vs g' n => k D H' As' vs (g.trans g') (by
      cases q : H D with
      | none => rfl
      | some o => exact absurd n (g.tr D (by rw [q]; simp)))⟩
  | exc x S' => exact fun cls dd H' As' g' k rx => h cls dd H' As' (g.trans g') k rx
  | bad => exact h
theorem FinF.bind {α ι : Type} {Rx : List Addr → Hp → ι → α → Prop} {r : R α} {f : α → Cells → R W} (h : FinF G Wx B O σ env Q As H (r.bind f)) :
    Fin G Wx B O σ env Rx (fun i H1 => ∃ a S1 As1, Gr As As1 H H1 ∧ Rst G As1 B O H1 σ env S1 ∧ Rx As1 H1 i a ∧ FinF G Wx B O σ env Q As1 H1 (f a S1)) As H r := by
  cases r with
  | ok a S' => exact fun i H' As' g k rx => ⟨a, S', As', g, k, rx, FinF.grow (r := f a S') h g⟩
  | exc x S' => exact h
  | bad => exact h
/-- what holds of any answer holds of a new list -/
theorem tE_tEF {C : Callee} {e : E} (h : tE G Wx C e σ H Q) (hl : ∀ env S w S', evE C e env S = .ok w S' → ∃ ds, w = .d (.list ds)) : tEF G Wx C e σ H Q := by
  obtain ⟨As, B, O, env, S, rst, fin⟩ := h
  refine ⟨As, B, O, env, S, rst, ?_⟩
  cases e1 : evE C e env S with
  | ok w S' =>
    obtain ⟨ds, rfl⟩ := hl _ _ _ _ e1
    rw [e1] at fin
    refine ⟨ds, rfl, fun D H' As' vs g n r hD rl => fin (.ref D) H' As' g ⟨r.cells.less, rst.slots.grow rst.cells g⟩ (.d (.lst (fun q => ?_) hD (rl.weak fun b hb => mem_less hb)))⟩
    rcases List.mem_append.mp q with q | q
    · exact r.cells.dis D q List.mem_cons_self
    · exact rst.cells.own D q n
  | exc x S' => rw [e1] at fin; exact fin
  | bad => rw [e1] at fin; exact fin
end
section
variable {X : Cx} {T : TabX} {S : Sco} {k : Nat} {C : Callee} {Wx : WX} {pos : Pos}
theorem Gd.blk (g : Gd X T S k C Wx) {scope : Scope} (s : Shared) (H : Hp) (C' : Addr) (cl : List (Str × Addr)) (fp : List Addr) (hh : S.hot ≠ 0 → HotH (X.blk s H scope (compEnvC scope cl C' X.env) fp)) :
    Gd (X.blk s H scope (compEnvC scope cl C' X.env) fp) T (blkS S scope) k C (fun _ _ _ _ => False) := by
  have z : (blkS S scope).hot = 0 → S.hot = 0 := fun h => by
    by_cases q : S.hot = 0
    · exact q
    · have h : (if S.hot = 0 then 0 else 2) = 0 := h
      rw [if_neg q] at h; cases h
  have z1 : (blkS S scope).hot ≠ 1 := fun h => by
    have h : (if S.hot = 0 then 0 else 2) = 1 := h
    split at h <;> cases h
  exact
  ⟨by show relS scope X.env.scope = _; rw [g.hs]; rfl, fun x h => h, g.nd, g.un, fun h => ⟨g.calm (z h), g.room (z h), fun u s' ⟨a, B, sI, pins, σ, H, cls, d, e, I, nb, up, sky, na, os, ag, w⟩ => w.elim, (g.cool (z h)).2.2.2⟩,
    fun h => absurd h z1, fun h => hh fun q => h (if_pos q), g.eqC, g.st, g.lam, fun a x _ h => absurd h z1⟩
theorem lc_imp {elt : E} {tg : Tg} {kk : ItK} {srcs conds : List E} {own : List Nat} (hgo : ∀ i ∈ tgSlots tg, i ∈ own) {σ : L2.St} {H : Hp} {Q : VK}
    (h : tEF (gx X T) Wx C (.lc elt tg kk srcs conds own) σ H Q) : tLc (tI (gx X T) Wx C true kk srcs) (tG (gx X T) own tg) (tCs (gx X T) (fun _ _ _ _ => False) C conds) (tE (gx X T) (fun _ _ _ _ => False) C elt) own σ H Q := by
  obtain ⟨As, B, O, env, S', rst, fin⟩ := h
  simp only [evE] at fin
  refine ⟨As, B, O, env, S', rst, (FinF.bind fin).mono fun J H1 ⟨xs, S1, As1, g1, r1, ⟨L, its, itd, hL, ri1, hz⟩, f1⟩ D hD => ?_⟩
  cases hgo' : lcGo tg (fun env1 s2 => evC C conds env1 s2) (fun env1 s2 => (evE C elt env1 s2).calm eltR) (wipeE env own) xs S1 with
  | bad => rw [hgo'] at f1; exact f1.elim
  | exc x s => rw [hgo'] at f1; exact f1.elim
  | ok ys S2 =>
    rw [hgo'] at f1
    simp only [R.calm] at f1
    have nA : ∀ a ∈ As1, a ≠ D := fun a ha e => by
      obtain ⟨o, q, _⟩ := r1.cells.cel a ha
      rw [e, hD] at q; cases q
    have dis1 : ∀ a ∈ As1, a ∉ D :: B := fun a ha hb => by
      rcases List.mem_cons.mp hb with e | hb
      · exact nA a ha e
      · exact r1.cells.dis a ha hb
    have slots : ∀ {As' : List Addr} {H' : Hp}, Gr As1 As' H1 H' → Slots (gx X T) As' (D :: B) O H' (wipe σ own) (wipeE env own) := fun {As' H'} gr =>
      (((r1.slots.more hD).wipe own).grow' r1.cells.cel dis1 gr)
    have lat : ∀ {As' : List Addr} {H' : Hp}, Gr As1 As' H1 H' → Later L H1 H' := fun {As' H'} gr => Later.of r1.cells.cel gr fun a ha => (hL a ha).1
    have hlen := ri1.1
    refine ⟨fun i m H' => m = xs.length - i ∧ i ≤ xs.length ∧ ∃ As' S' acc accd zs, LcI (gx X T) As1 B H1 D As' H' S' acc accd ∧ acc.length ≤ i ∧ ys = accd ++ zs ∧
      lcGo tg (fun env1 s2 => evC C conds env1 s2) (fun env1 s2 => (evE C elt env1 s2).calm eltR) (wipeE env own) (xs.drop i) S' = .ok zs S2, ⟨xs.length, by simp, Nat.zero_le _, As1, S1, [], [], ys, ⟨Gr.put Gr.refl hD, r1.cells.more hD, upd_same, .nil⟩, Nat.le_refl _, rfl, hgo'⟩, ?_⟩
    rintro i m H' ⟨rfl, hi', As', S', acc, accd, zs, lc, hacc, hys, hrun⟩
    have DinA : D ∈ As' ++ D :: B := List.mem_append_right _ List.mem_cons_self
    by_cases hlt : i < xs.length
    · -- a turn
      obtain ⟨x, hx⟩ : ∃ x, xs[i]? = some x := ⟨xs[i], by simp [hlt]⟩
      have hdrop : xs.drop i = x :: xs.drop (i + 1) := by
        rw [List.drop_eq_getElem_cons hlt]
        have : xs[i] = x := by simpa [hlt] using hx
        rw [this]
      obtain ⟨it, hit⟩ : ∃ it, its[i]? = some it := ⟨its[i]'(by omega), by simp⟩
      rw [hdrop] at hrun
      unfold lcGo at hrun
      cases ha : asgT tg x (wipeE env own) with
      | none => rw [ha] at hrun; cases hrun
      | some env1 =>
        rw [ha] at hrun
        simp only at hrun
        obtain ⟨hgo1, hyl⟩ := itd.go H' i it (lat lc.gr) hit
        refine .inr ⟨hgo1, fun H'' => ∃ As' S' acc accd zs, LcI (gx X T) As1 B H1 D As' H'' S' acc accd ∧ acc.length ≤ i + 1 ∧ ys = accd ++ zs ∧
          lcGo tg (fun env1 s2 => evC C conds env1 s2) (fun env1 s2 => (evE C elt env1 s2).calm eltR) (wipeE env own) (xs.drop (i + 1)) S' = .ok zs S2, fun H'' w => ⟨xs.length - (i + 1), by omega, rfl, by omega, w⟩, fun x' H2 y => ?_⟩
        have yi := hyl x' H2 y
        have rI : RpI (gx X T).K (As' ++ D :: B) H' it x := ((ri1.2 i it x hit hx).more hD).grow r1.cells.cel lc.gr
        obtain ⟨sm, rx⟩ := rI.yi yi
        have gr2 : Gr As1 As' H1 H2 := lc.gr.trans (Gr.same sm)
        have cells2 := lc.cells.grow sm
        have hD2 : H2 D = some (.lst acc) := sm _ _ lc.hD
        have rl2 := lc.rl.same sm
        refine ⟨As', D :: B, O, wipeE env own, env1, S', x, ⟨cells2, slots gr2⟩, rx, ha, fun σ2 r2 w2 _ => ⟨by rw [w2 hgo, wipe_wipe σ own own fun _ h => h], ?_⟩⟩
        refine ⟨As', D :: B, O, env1, S', r2, ?_⟩
        cases hc : evC C conds env1 S' with
        | bad => rw [hc] at hrun; cases hrun
        | exc x s => rw [hc] at hrun; cases hrun
        | ok b S3 =>
          rw [hc] at hrun
          simp only [calm_ok] at hrun
          intro b' H3 As3 gr3 r3 eb
          subst eb
          have DA : D ∉ As' := fun q => lc.cells.dis D q List.mem_cons_self
          have hD3 : H3 D = some (.lst acc) := gr3.kp _ _ hD2 DA (fun _ z => nomatch z)
          have rl3 := rl2.grow cells2.cel gr3
          cases b' with
          | false =>
            simp only [Bool.false_eq_true, if_false] at hrun ⊢
            exact ⟨As3, S3, acc, accd, zs, ⟨gr2.trans gr3, r3.cells, hD3, rl3⟩, by omega, hys, hrun⟩
          | true =>
            simp only [if_true] at hrun ⊢
            refine ⟨As3, D :: B, O, env1, S3, r3, ?_⟩
            cases he' : evE C elt env1 S3 with
            | bad => rw [he'] at hrun; cases hrun
            | exc x s => rw [he'] at hrun; cases hrun
            | ok w S4 =>
              rw [he'] at hrun
              simp only [calm_ok] at hrun
              intro y' H4 As4 gr4 r4 ry
              have DA3 : D ∉ As3 := fun q => r3.cells.dis D q List.mem_cons_self
              have hD4 : H4 D = some (.lst acc) := gr4.kp _ _ hD3 DA3 (fun _ z => nomatch z)
              have rl4 := rl3.grow r3.cells.cel gr4
              refine ⟨acc, hD4, by omega, ?_⟩
              cases ry with
              | d ry =>
                rename_i yd
                simp only [eltR, calm_ok] at hrun
                cases hr : lcGo tg (fun env1 s2 => evC C conds env1 s2) (fun env1 s2 => (evE C elt env1 s2).calm eltR) (wipeE env own) (xs.drop (i + 1)) S4 with
                | bad => rw [hr] at hrun; cases hrun
                | exc x s => rw [hr] at hrun; cases hrun
                | ok zs' S5 =>
                  rw [hr] at hrun
                  simp only [calm_ok, R.ok.injEq] at hrun
                  obtain ⟨e1, e2⟩ := hrun
                  subst e2
                  refine ⟨As4, S4, acc ++ [y'], accd ++ [yd], zs', ⟨((gr2.trans gr3).trans gr4).put hD, r4.cells.put hD4, upd_same, ?_⟩, by simp; omega, by rw [hys, ← e1]; simp, hr⟩
                  exact (rl4.app (.cons ry .nil)).put (List.mem_append_right _ List.mem_cons_self) hD4
              | _ => cases hrun
    · have e : i = xs.length := by omega
      subst e
      rw [List.drop_length] at hrun
      simp only [lcGo, R.ok.injEq] at hrun
      obtain ⟨e1, e2⟩ := hrun
      subst e1 e2
      refine .inl ⟨by rw [← hlen]; exact itd.stop H' (lat lc.gr), ?_⟩
      obtain ⟨ds, e3, k3⟩ := f1
      cases e3
      refine k3 D H' As' acc lc.gr hD ⟨lc.cells, (r1.slots.more hD).grow' r1.cells.cel dis1 lc.gr⟩ lc.hD ?_
      rw [hys, List.append_nil]
      exact lc.rl
theorem ev_lc_list {elt : E} {tg : Tg} {kk : ItK} {srcs conds : List E} {own : List Nat} (env : Env) (S : Cells) (w : W) (S' : Cells) (h : evE C (.lc elt tg kk srcs conds own) env S = .ok w S') : ∃ ds, w = .d (.list ds) := by
  simp only [evE] at h
  revert h
  cases (evL C srcs env S).bind (itR true kk) with
  | ok xs s1 =>
    simp only [R.bind]
    cases lcGo tg (fun env1 s2 => evC C conds env1 s2) (fun env1 s2 => (evE C elt env1 s2).calm eltR) (wipeE env own) xs s1 with
    | ok ys s2 =>
      simp only [R.calm]
      intro h
      cases h
      exact ⟨ys, rfl⟩
    | exc x s => intro h; cases h
    | bad => intro h; cases h
  | exc x s => intro h; cases h
  | bad => intro h; cases h
theorem sd_lc {elt : E} {tg : Tg} {kk : ItK} {srcs conds : List E} {own : List Nat} {ee et ei : Expr} {ifs : List Expr} {scope : Scope} (g : Gd X T S k C Wx) (h0 : S.hot = 0)
    (hb : blkC X.N X.env.scope scope (ownL X.N own) = true) (hi : PI X et ei (tI (gx X T) Wx C true kk srcs)) (hfo : ∀ x, foldedSetIterable ei X.env x = pure x)
    (hg : ∀ (s : Shared) (H : Hp) (C' : Addr) (cl : List (Str × Addr)) (fp : List Addr), PG (X.blk s H scope (compEnvC scope cl C' X.env) fp) et (tG (gx X T) own tg)) (hgo : ∀ i ∈ tgSlots tg, i ∈ own)
    (ht : ∀ (s : Shared) (H : Hp) (C' : Addr) (cl : List (Str × Addr)) (fp : List Addr), PTs (X.blk s H scope (compEnvC scope cl C' X.env) fp) ifs (tCs (gx X T) (fun _ _ _ _ => False) C conds))
    (he : ∀ (s : Shared) (H : Hp) (C' : Addr) (cl : List (Str × Addr)) (fp : List Addr), PE (X.blk s H scope (compEnvC scope cl C' X.env) fp) ee (tE (gx X T) (fun _ _ _ _ => False) C elt)) :
    PE X (.ListComp ee [⟨et, ei, ifs, 0⟩] scope pos) (tEF (gx X T) Wx C (.lc elt tg kk srcs conds own)) := by
  have hown : (ownL X.N own).map (·.2) = own := by simp [ownL, Function.comp_def]
  have h := pe_lc (pos := pos) (g.calm h0) g.nd hi (blkOk_by hb) hg ht he hfo
  rw [hown] at h
  exact h.impL fun σ H Q q => lc_imp hgo q
/-- .. within an except suite -/
theorem sd_lcX {elt : E} {tg : Tg} {kk : ItK} {srcs conds : List E} {own : List Nat} {ee et ei : Expr} {ifs : List Expr} {scope : Scope} (g : Gd X T S k C Wx) (h1 : S.hot = 1)
    (hb : blkC X.N X.env.scope scope (ownL X.N own) = true) (hi : PIX X et ei (tI (gx X T) Wx C true kk srcs)) (hfo : ∀ x, foldedSetIterable ei X.env x = pure x)
    (hg : ∀ (s : Shared) (H : Hp) (C' : Addr) (cl : List (Str × Addr)) (fp : List Addr), HotH (X.blk s H scope (compEnvC scope cl C' X.env) fp) → PG (X.blk s H scope (compEnvC scope cl C' X.env) fp) et (tG (gx X T) own tg)) (hgo : ∀ i ∈ tgSlots tg, i ∈ own)
    (ht : ∀ (s : Shared) (H : Hp) (C' : Addr) (cl : List (Str × Addr)) (fp : List Addr), HotH (X.blk s H scope (compEnvC scope cl C' X.env) fp) → PTs (X.blk s H scope (compEnvC scope cl C' X.env) fp) ifs (tCs (gx X T) (fun _ _ _ _ => False) C conds))
    (he : ∀ (s : Shared) (H : Hp) (C' : Addr) (cl : List (Str × Addr)) (fp : List Addr), HotH (X.blk s H scope (compEnvC scope cl C' X.env) fp) → PE (X.blk s H scope (compEnvC scope cl C' X.env) fp) ee (tE (gx X T) (fun _ _ _ _ => False) C elt)) :
    PE X (.ListComp ee [⟨et, ei, ifs, 0⟩] scope pos) (tEF (gx X T) Wx C (.lc elt tg kk srcs conds own)) := by
  have hown : (ownL X.N own).map (·.2) = own := by simp [ownL, Function.comp_def]
  have h := pe_lcX (pos := pos) (g.hotc h1) g.nd hi (blkOk_by hb) hg ht he hfo
  rw [hown] at h
  exact h.impL fun σ H Q q => lc_imp hgo q
end
end Lw

set_option Elab.async false
set_option linter.all false
set_option maxRecDepth 100000
set_option maxHeartbeats 2000000
/-! F15: calls: own defs, built-ins, isinstance. -/
namespace Lw
open PySem PySem.Spec PyProof.Rows L2

/-! ### max, min of data -/
section
variable {X : Cx}
theorem bestOk_alike {ds : List PD} (h : bestOk ds = true) : PySem.W.AlikeAll ds ∧ okD (.list ds) = true := by
  unfold bestOk at h
  simp only [Bool.and_eq_true, Bool.not_eq_true'] at h
  obtain ⟨⟨h1, h2⟩, h3⟩ := h
  unfold allAlike at h1
  rw [List.all_eq_true] at h1
  refine ⟨⟨fun x hx y hy => ?_, fun x hx e => ?_⟩, h2⟩
  · have := h1 x hx
    rw [List.all_eq_true] at this
    exact this y hy
  · have : ds.any isNone = true := List.any_eq_true.mpr ⟨x, hx, by rw [e]; rfl⟩
    rw [h3] at this; cases this
theorem depth_room {ds : List PD} (h : okD (.list ds) = true) (hu : X.A.units + 65 < cLine) : X.A.units + 1 + PyData.depthAll ds < cLine := by
  have := SeqAt.depth_of_shaped h
  simp only [PyData.depth] at this
  omega
theorem best_of {pins : List (Addr × Obj)} {σ : L2.St} {H : Hp} {s : Shared} {A : List Addr} {vs : List V} {its : List Value} {x : PD} {xs : List PD} {i : Nat} {v : Value} {h' : Heap} {bs : List Addr} {d : PD}
    (I : Inv X pins σ H s) (rl : RpL X.K A H vs (x :: xs)) (rv : Vals vs its) (ok : okD (.list (x :: xs)) = true) (hv : its.toArray[i]? = some v) (hr : Reads h' v d bs) (hk : ∀ b o, s.heap.get? b = some o → h'.get? b = some o) : ∃ w, RelV w v ∧ Rp X.K A H w d := by
  have hv : its[i]? = some v := by simpa using hv
  obtain ⟨w, hw, rw'⟩ : ∃ w, vs[i]? = some w ∧ RelV w v := by
    have hl : i < vs.length := by rw [rv.length]; exact (List.getElem?_eq_some_iff.mp hv).1
    obtain ⟨u, hu, ru⟩ := rv.get (show vs[i]? = some vs[i] by simp [hl])
    rw [hv] at hu; cases hu
    exact ⟨_, by simp [hl], ru⟩
  obtain ⟨e, he, re⟩ := rl.get' hw
  refine ⟨w, rw', ?_⟩
  obtain ⟨as', r2⟩ := Dp.reads I e w v re.dp rw'
  have : e = d := ((PyProof.Rows.Reads.keeps hk r2).unique d bs hr).1
  rw [← this]; exact re
theorem cb_max (hc : X.calm = true) (hu : X.A.units + 65 < cLine) : CallR X (.builtin "max") (rB X.K bMax) := by
  intro pins s σ H xs us Q I rv ⟨A, ps, r, hp, tr, e, k⟩
  unfold bMax at e
  split at e
  · obtain ⟨x, rfl, h⟩ := pr1 hp
    split at e
    · rename_i hb
      cases e
      obtain ⟨ha, ok⟩ := bestOk_alike hb
      obtain ⟨a, vs, rfl, h1, h2⟩ := h.list
      cases rv with
      | cons r1 rr =>
        cases rr; cases r1
        obtain ⟨its, rv, p, hz⟩ := I.list (SqL.of h1)
        obtain ⟨as, hr⟩ := Dp.readsAll I _ _ _ h2.dp rv
        refine PySem.W.max_list_data (I.ok.hd hc) p.isList (by simpa using hr) ha (depth_room ok hu) fun i v h' tk bs hv hr' hk => ?_
        obtain ⟨w, rw', rp⟩ := best_of I h2 rv ok hv hr' hk
        exact ⟨w, H, I.kept (t' := tk) hk, rw', k w H (Same.refl H) rp⟩
    · cases e
  · obtain ⟨x, rfl, h⟩ := pr1 hp
    split at e
    · rename_i hb
      cases e
      obtain ⟨ha, ok⟩ := bestOk_alike hb
      obtain ⟨a, vs, rfl, h1, h2⟩ := h.tup
      cases rv with
      | cons r1 rr =>
        cases rr; cases r1
        obtain ⟨its, rv, p, hz⟩ := I.tuple h1
        obtain ⟨as, hr⟩ := Dp.readsAll I _ _ _ h2.dp rv
        refine PySem.W.max_tuple_data (I.ok.hd hc) (show s.heap.IsTuple a its.toArray from p) (by simpa using hr) ha (depth_room ok hu) fun i v h' tk bs hv hr' hk => ?_
        obtain ⟨w, rw', rp⟩ := best_of I h2 rv ok hv hr' hk
        exact ⟨w, H, I.kept (t' := tk) hk, rw', k w H (Same.refl H) rp⟩
    · cases e
  · cases e
theorem cb_min (hc : X.calm = true) (hu : X.A.units + 65 < cLine) : CallR X (.builtin "min") (rB X.K bMin) := by
  intro pins s σ H xs us Q I rv ⟨A, ps, r, hp, tr, e, k⟩
  unfold bMin at e
  split at e
  · obtain ⟨x, rfl, h⟩ := pr1 hp
    split at e
    · rename_i hb
      cases e
      obtain ⟨ha, ok⟩ := bestOk_alike hb
      obtain ⟨a, vs, rfl, h1, h2⟩ := h.list
      cases rv with
      | cons r1 rr =>
        cases rr; cases r1
        obtain ⟨its, rv, p, hz⟩ := I.list (SqL.of h1)
        obtain ⟨as, hr⟩ := Dp.readsAll I _ _ _ h2.dp rv
        refine PySem.W.min_list_data (I.ok.hd hc) p.isList (by simpa using hr) ha (depth_room ok hu) fun i v h' tk bs hv hr' hk => ?_
        obtain ⟨w, rw', rp⟩ := best_of I h2 rv ok hv hr' hk
        exact ⟨w, H, I.kept (t' := tk) hk, rw', k w H (Same.refl H) rp⟩
    · cases e
  · obtain ⟨x, rfl, h⟩ := pr1 hp
    split at e
    · rename_i hb
      cases e
      obtain ⟨ha, ok⟩ := bestOk_alike hb
      obtain ⟨a, vs, rfl, h1, h2⟩ := h.tup
      cases rv with
      | cons r1 rr =>
        cases rr; cases r1
        obtain ⟨its, rv, p, hz⟩ := I.tuple h1
        obtain ⟨as, hr⟩ := Dp.readsAll I _ _ _ h2.dp rv
        refine PySem.W.min_tuple_data (I.ok.hd hc) (show s.heap.IsTuple a its.toArray from p) (by simpa using hr) ha (depth_room ok hu) fun i v h' tk bs hv hr' hk => ?_
        obtain ⟨w, rw', rp⟩ := best_of I h2 rv ok hv hr' hk
        exact ⟨w, H, I.kept (t' := tk) hk, rw', k w H (Same.refl H) rp⟩
    · cases e
  · cases e
end

/-! ### a call of an own def -/
section
variable {X : Cx} {T : TabX} {S : Sco} {k : Nat} {C : Callee} {Wx : WX} {pos p : Pos} {ea : Expr} {a : E} {es : List E} {xs : List Expr}
theorem fnB_mem {f : Nat} {x : Str} (h : fnB T f x = true) : (f, x) ∈ T.fnm := by
  unfold fnB at h
  obtain ⟨⟨y, d'⟩, hp, he⟩ := List.any_eq_true.mp h
  simp only [Bool.and_eq_true, decide_eq_true_eq] at he
  obtain ⟨rfl, rfl⟩ := he
  exact hp
theorem star_any {env : PySem.Env} : ∀ {xs : List Expr}, (∀ x ∈ xs, plainX x = true) → (starEach xs env).any (·.1) = false
  | [], _ => rfl
  | x :: xs, h => by
    rw [star_plain (h x List.mem_cons_self), List.any_cons, star_any fun y hy => h y (List.mem_cons_of_mem _ hy)]
    rfl
theorem backTo_any {pos : Pos} : ∀ {l : List (Bool × Sem Value)}, l.any (·.1) = false → (backTo pos l).any (·.1) = false
  | [], _ => rfl
  | x :: l, h => by
    rw [List.any_cons, Bool.or_eq_false_iff] at h
    unfold backTo
    rw [List.map_cons, List.any_cons]
    have := backTo_any (pos := pos) h.2
    unfold backTo at this
    rw [this, Bool.or_false]
    exact h.1
theorem chkL_plain {N : List Str} : ∀ {xs : List Expr} {es : List E}, chkL T N S xs es = true → ∀ x ∈ xs, plainX x = true
  | [], _, _, x, h => by cases h
  | y :: xs, [], h, _, _ => by simp [chkL] at h
  | y :: xs, e :: es, h, x, hx => by
    simp only [chkL, Bool.and_eq_true] at h
    rcases List.mem_cons.mp hx with rfl | hx
    · exact h.1.1
    · exact chkL_plain h.2 x hx
theorem fn_step {G : Gc} {f : Nat} {np : Nat} {B : List Addr} {O : Nat → Option Addr} {σ : L2.St} {env : Env} {Q : VK} {As : List Addr} {H : Hp} {vs : List V} {ws : List W} {S1 : Cells}
    (hl : ∀ ws S, ws.length ≠ np → C (.fn f) ws S = .bad) (r1 : Rst G As B O H σ env S1) (q1 : RpWs G As B H vs ws) (f1 : Fin G Wx B O σ env (fun As' H' => RpW G As' B H') Q As H (C (.fn f) ws S1)) :
    spC G C f np vs H Q (WE Wx σ) := by
  refine ⟨?_, As, B, ws, S1, r1.cells, q1, ?_⟩
  · rw [q1.len]
    by_cases h : ws.length = np
    · exact h
    · rw [hl ws S1 h] at f1; exact f1.elim
  · revert f1
    cases C (.fn f) ws S1 with
    | ok w S' => exact fun f1 v H' As' g c r => f1 v H' As' g ⟨c, r1.slots.grow r1.cells g⟩ r
    | exc x S' => exact fun f1 cls dd H' As' g c r => f1 cls dd H' As' g ⟨c, r1.slots.grow r1.cells g⟩ r
    | bad => exact id
theorem sd_call {f : Nat} {x : Str} (g : Gd X T S k C Wx) (h0 : S.hot = 0) (hf : fnB T f x = true) (hg : gloB S x = true) (ha : PA X xs (tL (gx X T) Wx C es)) (hp : ∀ x ∈ xs, plainX x = true) (hn : xs = [] → es = []) : PE X (.Call (.Name x p) xs [] pos) (tE (gx X T) Wx C (.call f es)) := by
  obtain ⟨a, fd, ps, h1, h2, h3, h4, h5⟩ := (g.tab h0).fn f x (fnB_mem hf)
  obtain ⟨g1, g2, g3⟩ := g.glo hg
  cases xs with
  | nil =>
    refine ⟨fun pins s σ H Q I ⟨As, B, O, env, S', rst, fin⟩ => wpAny_Call_Name_kw (ld_glob I g1 h1 ?_ g2)⟩
    simp only [evE] at fin
    rw [hn rfl] at fin
    simp only [evL, R.bind] at fin
    have q := fn_step (vs := []) h4 rst .nil fin
    exact PySem.W.callWith_K0 I.kIn h2 (run_fnSD (dvs := []) (vs := []) (us := []) (E := WE Wx) h5 (g.room h0) h3 .nil (L2N.passAt (g.tk h0) σ) I .nil q)
  | cons ea xs =>
    refine (pe_callSD (p := p) (pos := pos) (dvs := []) (E := WE Wx) h5 (g.room h0) g1 h1 h2 h3 .nil (fun σ => L2N.passAt (g.tk h0) σ) ha g2 (star_plain (hp _ List.mem_cons_self)) (backTo_any (star_any fun y hy => hp y (List.mem_cons_of_mem _ hy)))).impL fun σ H Q ⟨As, B, O, env, S', rst, fin⟩ => ?_
    simp only [evE] at fin
    refine ⟨As, B, O, env, S', rst, (Fin.bind fin).mono fun vs H1 ⟨ws, S1, As1, gr1, r1, q1, f1⟩ => ?_⟩
    rw [List.append_nil]
    exact fn_step h4 r1 q1 f1
end
end Lw

set_option Elab.async false
set_option linter.all false
set_option maxRecDepth 100000
set_option maxHeartbeats 2000000
/-! F16: built-ins by name, isinstance. -/
namespace Lw
open PySem PySem.Spec PyProof.Rows L2

def biV : Bi → Value
  | .len => .builtin "len"
  | .tuple => .type "tuple"
  | .list => .type "list"
  | .sum => .builtin "sum"
  | .max => .builtin "max"
  | .min => .builtin "min"
  | .max2 => .builtin "max"
  | .min2 => .builtin "min"
  | .all => .builtin "all"
  | .any => .builtin "any"
  | .abs => .builtin "abs"
  | .int => .type "int"
  | .str => .type "str"
  | _ => .none
theorem boot_bi : ∀ {b : Bi} {x : Str}, biNm b = some x → bootBuiltins x = some (biV b) := by
  intro b x h
  cases b <;> first | (cases h; decide +kernel) | (cases h)
theorem bis_bi : ∀ {b : Bi} {x : Str}, biNm b = some x → x ∈ BIS := by
  intro b x h
  cases b <;> first | (cases h; decide) | (cases h)
/-- .. or list of what is locked -/
def rBi (K : PySem.W.Frag) (b : Bi) : List V → Hp → VK → Prop := fun xs H Q => rB K (biD b) xs H Q ∨
  (b = .list ∧ ∃ A a vs ds, xs = [.ref a] ∧ SqL K H a vs ∧ Trk A H ∧ RpL K A H vs ds ∧ ∀ v H', Same H H' → Rp K A H' v (.list ds) → Q v H')
section
variable {X : Cx} {T : TabX} {S : Sco} {k : Nat} {C : Callee} {Wx : WX} {pos p : Pos} {ea : Expr} {a : E} {es : List E} {xs : List Expr}
theorem cb_bi (hc : X.calm = true) (hu : X.A.units + 65 < cLine) {b : Bi} {x : Str} (h : biNm b = some x) : CallR X (biV b) (rBi X.K b) := by
  intro pins s σ H vs us Q I rv h'
  rcases h' with h' | ⟨rfl, A, a, vs', ds, rfl, hf, tr, rl, q⟩
  · cases b <;> first
      | (cases h; done)
      | exact cb_len pins s σ H vs us Q I rv h'
      | exact cb_tuple pins s σ H vs us Q I rv h'
      | exact cb_list pins s σ H vs us Q I rv h'
      | exact cb_sum hc pins s σ H vs us Q I rv h'
      | exact cb_max hc hu pins s σ H vs us Q I rv h'
      | exact cb_min hc hu pins s σ H vs us Q I rv h'
      | exact cb_max2 hc pins s σ H vs us Q I rv h'
      | exact cb_min2 hc pins s σ H vs us Q I rv h'
      | exact cb_all hc pins s σ H vs us Q I rv h'
      | exact cb_any hc pins s σ H vs us Q I rv h'
      | exact cb_abs pins s σ H vs us Q I rv h'
      | exact cb_int pins s σ H vs us Q I rv h'
      | exact cb_str pins s σ H vs us Q I rv h'
  · exact call_list_of pins s σ H _ us Q I rv ⟨a, vs', rfl, .inl hf, fun l hn => q _ _ (Same.upd hn) (Rp.newL tr hn rl)⟩
theorem paired_views {G : Gc} {As B : List Addr} {H : Hp} {s : Cells} (c : Cells.Ok G As B H s) : ∀ {vs : List V} {ws : List W} {ds : List PD}, RpWs G As B H vs ws → views s ws = some ds → Paired (RpT G.K (As ++ B) H) vs ds
  | _, _, _, .nil, e => by
    simp [views] at e; subst e; exact .nil
  | _, _, _, .cons h r, e => by
    unfold views at e
    split at e
    · rename_i x xs e1 e2
      cases e
      exact .cons (h.view c e1) (paired_views c r e2)
    · cases e
theorem bi_step {b : Bi} {σ : L2.St} {env : Env} {B : List Addr} {O : Nat → Option Addr} {Q : VK} {As : List Addr} {H : Hp} {vs : List V} {ws : List W} {S1 : Cells} (r1 : Rst (gx X T) As B O H σ env S1) (q1 : RpWs (gx X T) As B H vs ws)
    (f1 : Fin (gx X T) Wx B O σ env (fun As' H' => RpW (gx X T) As' B H') Q As H (biR b ws S1)) : rBi X.K b vs H Q := by
  unfold biR at f1
  split at f1
  · rename_i xs
    cases q1 with
    | cons q qs =>
      cases qs
      cases q with
      | scr hf rl =>
        exact .inr ⟨rfl, As ++ B, _, _, xs, rfl, hf.sqL, r1.cells.trk, rl, fun v H' s r => f1 v H' As (Gr.same s) (r1.same s) (.d r)⟩
  · split at f1
    · rename_i ds e
      obtain ⟨d, e1, k⟩ := dR_fin f1
      exact .inl ⟨As ++ B, ds, d, paired_views r1.cells q1 e, r1.cells.trk, e1, fun v H' s r => k v H' As (Gr.same s) (r1.same s) r⟩
    · exact f1.elim
theorem sd_bi {b : Bi} {x : Str} (g : Gd X T S k C Wx) (h0 : S.hot = 0) (hb : biNm b = some x) (hg : gloB S x = true) (ha : PA X (ea :: xs) (tL (gx X T) Wx C es)) (hp : ∀ x ∈ ea :: xs, plainX x = true) : PE X (.Call (.Name x p) (ea :: xs) [] pos) (tE (gx X T) Wx C (.bi b es)) := by
  obtain ⟨g1, g2, g3⟩ := g.glo hg
  have st := star_plain (env := X.env) (r := xs) (hp _ List.mem_cons_self)
  have bt := backTo_any (pos := pos) (star_any (env := X.env) fun y hy => hp y (List.mem_cons_of_mem _ hy))
  have cr := cb_bi (g.calm h0) g.un hb
  have bo := boot_bi hb
  have main : PE X (.Call (.Name x p) (ea :: xs) [] pos) (tCB (rBi X.K b) (tL (gx X T) Wx C es)) := by
    cases b <;> first
      | (cases hb; done)
      | exact pe_callB (p := p) (pos := pos) cr g1 (g.st.bi _ (bis_bi hb)) bo ha g3 g2 st bt
      | exact pe_callTy (p := p) (pos := pos) cr g1 (g.st.bi _ (bis_bi hb)) bo ha g3 g2 st bt
  refine main.impL fun σ H Q ⟨As, B, O, env, S', rst, fin⟩ => ?_
  simp only [evE] at fin
  exact ⟨As, B, O, env, S', rst, (Fin.bind fin).mono fun vs H1 ⟨ws, S1, As1, gr1, r1, q1, f1⟩ => bi_step r1 q1 f1⟩
/-! a cell -/
theorem Gr.cell {As : List Addr} {H : Hp} {p : Addr} {o : HO} (h : H p = none) : Gr As (As ++ [p]) H (upd H p o) :=
  ⟨⟨[p], rfl, fun z hz => by rw [List.mem_singleton.mp hz]; exact h⟩, fun b u e _ _ => by rw [upd_ne (fun q => by rw [q, h] at e; cases e)]; exact e, fun b xs e => by rw [upd_ne (fun q => by rw [q, h] at e; cases e)]; exact e, fun b e => by rw [upd_ne (fun q => e (by rw [q]; exact h))]; exact e⟩
theorem RpL.moreC {K : PySem.W.Frag} {As B : List Addr} {H : Hp} {vs : List V} {ds : List PD} {p : Addr} (h : H p = none) (r : RpL K (As ++ B) H vs ds) : RpL K ((As ++ [p]) ++ B) H vs ds := r.imp (fun a xs n e => ⟨fun q => by
  rcases List.mem_append.mp q with q | q
  · rcases List.mem_append.mp q with q | q
    · exact n (List.mem_append_left _ q)
    · rw [List.mem_singleton.mp q, h] at e; cases e
  · exact n (List.mem_append_right _ q), e⟩) fun _ _ q => q
theorem Cells.Ok.cell {G : Gc} {As B : List Addr} {H : Hp} {S1 : Cells} {p : Addr} {vs : List V} {ds : List PD} (c : Cells.Ok G As B H S1) (h : H p = none) (rl : RpL G.K (As ++ B) H vs ds) : Cells.Ok G (As ++ [p]) B (upd H p (.lst vs)) (S1 ++ [.list ds]) := by
  have nA : ∀ a ∈ As, a ≠ p := fun a ha e => by
    obtain ⟨o, q, _⟩ := c.cel a ha
    rw [e, h] at q; cases q
  have nB : ∀ a ∈ B, a ≠ p := fun a ha e => c.own a ha (by rw [e]; exact h)
  have sm : Same H (upd H p (.lst vs)) := Same.upd h
  refine ⟨by simp [c.len], ?_, fun a ha hb => ?_, fun a ha => ?_, fun a ha => same_there sm (c.own a ha), fun i a x e1 e2 => ?_, c.tbs.ext sm⟩
  · refine List.nodup_append.mpr ⟨c.nd, by simp, fun a ha b hb => ?_⟩
    rw [List.mem_singleton.mp hb]
    exact nA a ha
  · rcases List.mem_append.mp ha with ha | ha
    · exact c.dis a ha hb
    · exact nB a hb (List.mem_singleton.mp ha)
  · rcases List.mem_append.mp ha with ha | ha
    · obtain ⟨o, q, z⟩ := c.cel a ha
      exact ⟨o, sm _ _ q, z⟩
    · rw [List.mem_singleton.mp ha]
      exact ⟨_, upd_same, rfl⟩
  · by_cases hi : i < As.length
    · rw [List.getElem?_append_left hi] at e1
      rw [List.getElem?_append_left (by rw [← c.len]; exact hi)] at e2
      obtain ⟨xs, ds', h1, h2, h3⟩ := c.at_ i a x e1 e2
      exact ⟨xs, ds', sm _ _ h1, h2, (h3.moreC h).same sm⟩
    · rw [List.getElem?_append_right (by omega)] at e1
      rw [List.getElem?_append_right (by rw [← c.len]; omega)] at e2
      rw [← c.len] at e2
      obtain ⟨m, hm⟩ : ∃ m, i - As.length = m := ⟨_, rfl⟩
      rw [hm] at e1 e2
      cases m with
      | zero =>
        simp at e1 e2
        subst e1 e2
        exact ⟨vs, ds, upd_same, rfl, (rl.moreC h).same sm⟩
      | succ m => simp at e1
theorem sd_cell (h : PA X xs (tL (gx X T) Wx C es)) (hl : es.length ≤ 1000) : PE X (.List xs pos) (tE (gx X T) Wx C (.cell es)) := by
  refine (pe_lst (pos := pos) h).impL fun σ H Q ⟨As, B, O, env, S', rst, fin⟩ => ?_
  simp only [evE] at fin
  have hlen : ∀ ws s', evL C es env S' = .ok ws s' → ws.length ≤ 1000 := fun ws s' e => by rw [evL_len e]; exact hl
  refine ⟨As, B, O, env, S', rst, ?_⟩
  cases he : evL C es env S' with
  | ok ws S1 =>
    rw [he] at fin
    simp only [R.bind] at fin
    have hw := hlen ws S1 he
    intro vs H1 As1 gr rst1 rws
    cases hp : pures ws with
    | none => rw [hp] at fin; exact fin.elim
    | some ds =>
      rw [hp] at fin
      refine ⟨by rw [rws.len, sizeLine_eq]; omega, fun p hn => ?_⟩
      have g2 : Gr As1 (As1 ++ [p]) H1 (upd H1 p (.lst vs)) := Gr.cell hn
      exact fin (.ref p) _ (As1 ++ [p]) (gr.trans g2) ⟨rst1.cells.cell hn (rws.pures hp), rst1.slots.grow rst1.cells g2⟩ (.loc (by rw [← rst1.cells.len]; simp))
  | exc x S1 => rw [he] at fin; exact fin
  | bad => rw [he] at fin; exact fin
/-! isinstance -/
def tyV : Ty → String
  | .int => "int"
  | .bool => "bool"
  | .tuple => "tuple"
  | .str => "str"
  | .list => "list"
  | .cls _ _ => ""
theorem boot_ty : ∀ {t : Ty} {x : Str}, tyNm t = some x → bootBuiltins x = some (.type (tyV t)) := by
  intro t x h
  cases t <;> first | (cases h; decide +kernel) | (cases h)
theorem bis_ty : ∀ {t : Ty} {x : Str}, tyNm t = some x → x ∈ BIS := by
  intro t x h
  cases t <;> first | (cases h; decide) | (cases h)
def kindOf : PD → String
  | .none => "NoneType"
  | .bool _ => "bool"
  | .int _ => "int"
  | .str _ => "str"
  | .list _ => "list"
  | .tuple _ => "tuple"
  | .dict _ => "dict"
theorem tyX_of {K : PySem.W.Frag} {A : List Addr} {H : Hp} {v : V} {d : PD} (r : RpT K A H v d) : TyX K H v (.type (kindOf d)) := by
  cases r with
  | of r =>
    cases r with
    | non => exact .base .non
    | bl b => exact .base (.bl b)
    | int i => exact .base (.int i)
    | str x => exact .base (.str x)
    | lst n h r => exact .base (.lst h)
    | tup h r =>
      rcases h with (h | ⟨o, h⟩) | h
      · exact .base (.tup h)
      · exact .fTuple h
      · obtain ⟨o, its, n, h1, h2, _⟩ := h
        exact .kTuple h1 h2
  | lst h r => exact .base (.lst h)
theorem isi_kit {K : PySem.W.Frag} : ∀ {t : Ty} {x : Str} {d : PD} {b : Bool}, tyNm t = some x → isiD d t = some b → PySem.W.kitOne K (.type (kindOf d)) (.type (tyV t)) = some b := by
  intro t x d b h1 h2
  refine kit_ty ?_
  cases t with
  | cls c s => cases h1
  | _ => cases d <;> (simp only [isiD, Option.some.injEq] at h2; subst h2; simp only [kindOf, tyV]; decide +kernel)
theorem sd_isi {ty : Ty} {x y : Str} {q : Pos} (g : Gd X T S k C Wx) (hx : x = ("isinstance" : Str)) (hgx : gloB S x = true) (hy : tyNm ty = some y) (hgy : gloB S y = true) (ha : PE X ea (tE (gx X T) Wx C a)) (hp : plainX ea = true) :
    PE X (.Call (.Name x p) [ea, .Name y q] [] pos) (tE (gx X T) Wx C (.isi a ty)) := by
  subst hx
  obtain ⟨g1, g2, g3⟩ := g.glo hgx
  obtain ⟨k1, k2, k3⟩ := g.glo hgy
  have hT : PE X (.Name y q) (tC (.ty (tyV ty))) := pe_bltn (v := .ty (tyV ty)) (pos := q) k1 (g.st.bi _ (bis_ty hy)) (boot_ty hy) rfl k3 k2
  have st := star_plain (env := X.env) (r := [.Name y q]) hp
  refine (pe_callB (p := p) (pos := pos) call_isi g1 (g.st.bi _ (by decide)) boot_isinstance (pa_cons ha (pa_cons hT pa_nil rfl) st) g3 g2 st rfl).impL fun σ H Q ⟨As, B, O, env, S', rst, fin⟩ => ?_
  simp only [evE] at fin
  refine ⟨As, B, O, env, S', rst, (Fin.bind fin).mono fun v H1 ⟨w, S1, As1, gr1, r1, q1, f1⟩ => ?_⟩
  have key : ∃ d b, view S1 w = some d ∧ isiD d ty = some b ∧ Fin (gx X T) Wx B O σ env (fun As' H' => RpW (gx X T) As' B H') Q As1 H1 (.ok (.d (.bool b)) S1) := by
    unfold isiR at f1
    split at f1
    · cases hy
    · exact f1.elim
    · split at f1
      · rename_i d e
        obtain ⟨o, e1, _⟩ := dR_fin f1
        obtain ⟨b, e2, rfl⟩ := Option.map_eq_some_iff.mp e1
        rw [e2] at f1
        exact ⟨d, b, e, e2, f1⟩
      · exact f1.elim
  obtain ⟨d, b, e1, e2, f2⟩ := key
  have r := q1.view r1.cells e1
  exact ⟨v, .ty (tyV ty), .type (kindOf d), .type (tyV ty), b, rfl, .ty _, tyX_of r, isi_kit hy e2, f2 _ H1 As1 Gr.refl r1 (.d (.bl _))⟩
end
end Lw

set_option Elab.async false
set_option linter.all false
set_option maxRecDepth 100000
set_option maxHeartbeats 2000000
/-! F16X: what stands in an except suite; lambdas. -/
namespace Lw
open PySem PySem.Spec PyProof.Rows L2 L2H
section
variable {X : Cx} {T : TabX} {S : Sco} {k : Nat} {C : Callee} {Wx : WX} {pos p q r : Pos} {a b c i : E} {ea eb ec tg : Expr} {es : List E} {xs : List Expr}
theorem pe_never {e : Expr} {t : TE} (h : ∀ σ H Q, ¬ t σ H Q) : PE X e t := ⟨fun pins s σ H Q I hw => (h σ H Q hw).elim⟩
theorem sd_bad {e : Expr} : PE X e (tE (gx X T) Wx C .bad) := pe_never fun σ H Q ⟨As, B, O, env, S', rst, fin⟩ => by
  simp only [evE] at fin
  exact fin
theorem st_bad {e : Expr} : PT X e (tT (gx X T) Wx C .bad) := ⟨fun pins s σ H Q I ⟨As, B, O, env, S', rst, fin⟩ => by
  unfold evT at fin
  simp only [evE] at fin
  exact (show False from fin).elim⟩
theorem isiR_cls {cc : Nat} {subs : List Nat} {x : W} {s : Cells} : (∃ c0, x = .exc ⟨c0, none⟩ ∧ isiR (.cls cc subs) x s = .ok (.d (.bool (subs.contains c0))) s) ∨ isiR (.cls cc subs) x s = .bad := by
  cases x with
  | exc e =>
    obtain ⟨c0, l⟩ := e
    cases l with
    | none => exact .inl ⟨c0, rfl, rfl⟩
    | some l => exact .inr rfl
  | d p => exact .inr (by cases p <;> rfl)
  | bor p => exact .inr (by cases p <;> rfl)
  | loc n =>
    refine .inr ?_
    simp only [isiR, view]
    cases s[n]? with
    | none => rfl
    | some p => cases p <;> rfl
  | _ => exact .inr rfl
/-- isinstance(e, C), e the exception that the suite holds -/
theorem sd_isx {i : Nat} {n x y : Str} {cc : Nat} {subs : List Nat} (g : Gd X T S k C Wx) (h1 : S.hot = 1) (hv : varB X.N S i n = true) (hx : x = ("isinstance" : Str)) (hgx : gloB S x = true) (hc : (cc, subs, y) ∈ T.hcl) (hgy : gloB S y = true) :
    PE X (.Call (.Name x p) [.Name n q, .Name y r] [] pos) (tE (gx X T) Wx C (.isi (.var i) (.cls cc subs))) := by
  subst hx
  obtain ⟨g1, g2, g3⟩ := g.glo hgx
  obtain ⟨k1, k2, k3⟩ := g.glo hgy
  unfold varB at hv
  simp only [Bool.and_eq_true, decide_eq_true_eq, Bool.not_eq_true'] at hv
  obtain ⟨⟨⟨v1, v2⟩, v3⟩, v4⟩ := hv
  refine ⟨fun pins s σ H Q I ⟨As, B, O, env, S', rst, fin⟩ => ?_⟩
  simp only [evE] at fin
  -- what the slot holds
  have key : ∃ c0, env[i]? = some (some (.exc ⟨c0, none⟩)) ∧ Fin (gx X T) Wx B O σ env (fun As' H' => RpW (gx X T) As' B H') Q As H (.ok (.d (.bool (subs.contains c0))) S') := by
    split at fin
    · simp only [R.bind] at fin
      rcases isiR_cls (cc := cc) (subs := subs) (x := .bor _) (s := S') with ⟨c0, h, _⟩ | h
      · cases h
      · rw [h] at fin; exact fin.elim
    · rename_i w hw hw'
      simp only [R.bind] at fin
      rcases isiR_cls (cc := cc) (subs := subs) (x := w) (s := S') with ⟨c0, rfl, h⟩ | h
      · rw [h] at fin
        exact ⟨c0, hw', fin⟩
      · rw [h] at fin; exact fin.elim
    · exact fin.elim
  obtain ⟨c0, he, f2⟩ := key
  obtain ⟨v, e1, e2⟩ := rst.slots.at_ i _ he (fun x z => nomatch z)
  cases e2 with
  | exc hex =>
    rename_i a
    obtain ⟨X0, oe, pn, cls, dd, H0, rfl, hz, hf, rx⟩ := g.exo _ _ hex h1
    cases rx with
    | plain hcl hm =>
      rename_i x' Cb
      obtain ⟨Ca, m1, m2⟩ := g.st.hc _ _ _ hc
      obtain ⟨_, m3⟩ := m2 _ _ (List.mem_append_left _ hcl) _ hm
      have xc := g.st.xc _ _ (List.mem_append_left _ hcl) _ hm
      have hT : PE (X0.suite a ((a, oe) :: pn)) (.Name y r) (tC (.ref Ca)) := pe_glob (v := .ref Ca) (pos := r) k1 m1 rfl k2
      have hn : PE (X0.suite a ((a, oe) :: pn)) (.Name n q) (tVar i) := pe_var (pos := q) v1 (g.vis v2) v3 v4
      refine (pe_callB (p := p) (pos := pos) (call_isE xc hz.zc hf) g1 (g.st.bi _ (by decide)) boot_isinstance (pa_cons hn (pa_cons hT pa_nil rfl) rfl) g3 g2 rfl rfl).run pins s σ H Q I ?_
      exact ⟨.ref a, e1, .ref Ca, .ref Ca, subs.contains c0, rfl, fun u hu => hu, m3, f2 _ H As Gr.refl rst (.d (.bl _))⟩
theorem rpl_strs {K : PySem.W.Frag} {A : List Addr} {H : Hp} : ∀ {vs : List V} {ds : List PD} {ss : List Str}, RpL K A H vs ds → strs? ds = some ss → vs = ss.map V.str
  | _, _, _, .nil, e => by simp [strs?] at e; subst e; rfl
  | _, d :: ds, _, .cons h r, e => by
    cases d <;> simp [strs?] at e
    split at e
    · rename_i is e1
      cases e
      cases h
      rw [rpl_strs r e1]
      rfl
    · cases e
/-- sep.join(e) -/
theorem sd_join {cs : Str} {j : Nat} {p1 p2 : Pos} (he : PE X ea (tE (gx X T) Wx C a)) (hp : plainX ea = true) (hl : (p1.endLine == p2.line) = true) :
    PE X (.Call (.Attribute (.Constant (.str cs) j q) "join" p1) [ea] [] p2) (tE (gx X T) Wx C (.bi .join [.cst (.str cs), a])) := by
  have st := star_plain (env := X.env) (r := []) hp
  have few : ((backTo p2 (starEach [ea] X.env)).all (fun x => !x.1) && (backToKw p2 (keywordEach [] X.env)).all (fun x => x.1.isSome)
      && decide (([ea] : List Expr).length + ([] : List Keyword).length + (if ([] : List Keyword).isEmpty then 0 else 1) < 30)) = true := by
    rw [st]; rfl
  refine (pe_bm (apos := p1) (cpos := p2) F.plainAttrs_str F.slot_str_join F.type_str_join mt_join pe_str (pa_cons he pa_nil st) rfl few hl st rfl).impL
    fun σ H Q ⟨As, B, O, env, S', rst, fin⟩ => ?_
  simp only [evE, evL, R.bind] at fin
  refine ⟨rfl, As, B, O, env, S', rst, ?_⟩
  revert fin
  cases evE C a env S' with
  | bad => exact id
  | exc x s => exact id
  | ok w s1 =>
    intro fin v H' As' gr r1 rw1
    simp only [biR] at fin
    split at fin
    · rename_i ds e
      simp only [views, view] at e
      split at e
      · rename_i x xs e1 e2
        cases e1
        cases e
        split at e2
        · rename_i y ys e3 e4
          cases e2
          cases e4
          obtain ⟨d, e5, kk⟩ := dR_fin (h := (Fin.grow (r := dR (biD .join [PyData.str cs, y]) s1) fin gr))
          unfold biD bJoin at e5
          cases y with
          | list items =>
            simp only at e5
            split at e5
            · rename_i ss hs
              split at e5
              · rename_i hz
                cases e5
                obtain ⟨p, vs, rfl, hq, rl⟩ : ∃ p vs, v = .ref p ∧ SqL X.K H' p vs ∧ ∃ A, RpL X.K A H' vs items := by
                  cases rw1.view r1.cells e3 with
                  | of r => cases r with
                    | lst n h r => exact ⟨_, _, rfl, .inl (.inl h), _, r⟩
                  | lst h r => exact ⟨_, _, rfl, .inl (.inl h), _, r⟩
                obtain ⟨A, rl⟩ := rl
                have hvs : vs = ss.map V.str := rpl_strs rl hs
                subst hvs
                exact ⟨cs, p, ss, rfl, rfl, .inl hq, hz, kk (.str _) H' As' Gr.refl r1 (.str _)⟩
              · cases e5
            · cases e5
          | _ => cases e5
        · cases e2
      · cases e
    · exact fin.elim
/-- what is walked within an except suite -/
theorem pi_oneX {pins : List (Addr × Obj)} {σ : L2.St} {H : Hp} {s : Shared} {R : It → Hp → Prop} {tk : Nat} {o : Obj} {tn : Nat → Heap → Prop} {J : It} (I : Inv X pins σ H s) (T : TurnX X.prog X.w X.K tg J [s.heap.objs.size] s.heap.objs.size tn) (st : tn 0 (s.heap.push o)) (q : R J H) :
    PIEX X pins σ tg R (.ref s.heap.objs.size) { s with heap := s.heap.push o, toks := tk } := by
  refine ⟨s.heap.objs.size, [s.heap.objs.size], tn, J, H, rfl, I.kept (t' := tk) fun b o e => Heap.get?_push_of_some _ e, T, st, fun b hb => ?_, q⟩
  have e : b = s.heap.objs.size := by simpa using hb
  subst e
  exact I.fpOk (Nat.le_refl _) (I.hok.fresh (Nat.le_refl _))
theorem si_seqX {m : Bool} (ha : PA X [ea] (tL (gx X T) Wx C [a])) (h1 : PE X ea (tE (gx X T) Wx C a)) : PIX X tg ea (tI (gx X T) Wx C m .seq [a]) := by
  refine ⟨fun pins s σ H R I h => ?_⟩
  have h' : tE (gx X T) Wx C a σ H fun v H1 => ∃ ds xs Ax A, SrcDs X.K Ax A H1 [v] ds ∧ itItems .seq ds = some xs ∧ ∀ J, rxI (gx X T) Ax A H1 J xs → R J H1 := by
    obtain ⟨As, B, O, env, S', rst, fin⟩ := ti_step h
    refine ⟨As, B, O, env, S', rst, ?_⟩
    revert fin
    simp only [evL]
    cases evE C a env S' with
    | ok w s1 => exact fun f v H' As' g r q => f [v] H' As' g r (.cons q .nil)
    | exc x s1 => exact id
    | bad => exact id
  refine thn (h1.run pins s σ H _ I h') fun v s1 ⟨x, H1, I1, r1, ds, xs, As, B, sd, e, q⟩ => ?_
  cases sd with
  | cons sd sn =>
    cases sn
    rename_i d
    have e : items? d = some xs := e
    obtain ⟨b, a, vs, rfl, hq, rl, hn⟩ := sd.2 xs e
    cases r1
    cases b
    · obtain ⟨its, rv, p, hz⟩ := I1.tuple (show SqT X.K H1 a vs from hq)
      refine wpAny_pyIter_tuple (show s1.heap.IsTuple a its.toArray from p) ?_
      exact pi_oneX (tk := s1.toks) I1 (turn_tupleX a _) ⟨_, Heap.get?_push_size _ rfl, rfl, rfl⟩ (q _ ⟨[], _, itd_tup hq, ⟨fun _ h => by simp at h, rpis_one rl, by rw [← rl.len]; exact hz⟩⟩)
    · obtain ⟨its, rv, p, hz⟩ := I1.list (show SqL X.K H1 a vs from hq)
      refine wpAny_pyIter_list p.isList ?_
      refine pi_oneX (tk := s1.toks) I1 (turn_listX a _) ⟨_, Heap.get?_push_size _ rfl, rfl, rfl⟩ (q _ ⟨[a], _, itd_list hq, fun b hb => ?_, rpis_one rl, by rw [← rl.len]; exact hz⟩)
      have : b = a := by simpa using hb
      subst this
      exact hn rfl
/-! from the end -/
theorem sd_rev {k1 : Nat} {p1 p2 p3 : Pos} (ha : PE X ea (tE (gx X T) Wx C a)) : PE X (.Subscript ea (.Slice none none (some (.UnaryOp .USub (.Constant (.int 1) k1 p1) p2)) p3) pos) (tE (gx X T) Wx C (.rev a)) := by
  refine (pe_rev ha).impL fun σ H Q ⟨As, B, O, env, S', rst, fin⟩ => ?_
  simp only [evE] at fin
  refine ⟨As, B, O, env, S', rst, (Fin.bind fin).mono fun x H1 ⟨w, S1, As1, g1, r1, q1, f1⟩ => ?_⟩
  split at f1
  · rename_i xs e
    obtain ⟨p, vs, rfl, hq, A⟩ : ∃ p vs, x = .ref p ∧ SqL X.K H1 p vs ∧ RpL X.K (As1 ++ B) H1 vs xs := by
      cases q1.view r1.cells e with
      | of r => cases r with
        | lst n h r => exact ⟨_, _, rfl, .inl (.inl h), r⟩
      | lst h r => exact ⟨_, _, rfl, .inl (.inl h), r⟩
    refine .inl ⟨p, vs, rfl, hq, fun q hn => f1 (.ref q) _ As1 (Gr.same (Same.upd hn)) (r1.same (Same.upd hn)) (.d (Rp.newL r1.cells.trk hn (RpL.rev A)))⟩
  · rename_i xs e
    obtain ⟨p, vs, rfl, hq, A⟩ : ∃ p vs, x = .ref p ∧ SqT X.K H1 p vs ∧ RpL X.K (As1 ++ B) H1 vs xs := by
      cases q1.view r1.cells e with
      | of r => cases r with
        | tup h r => exact ⟨_, _, rfl, h, r⟩
    refine .inr ⟨p, vs, rfl, hq, fun q hn => f1 (.ref q) _ As1 (Gr.same (Same.upd hn)) (r1.same (Same.upd hn)) (.d (Rp.newT hn (RpL.rev A)))⟩
  · exact f1.elim
/-! a lambda -/
theorem Gd.lamCx (g : Gd X T S k C Wx) (h0 : S.hot = 0) {A : Around} {outer : List PySem.Env} {s : Shared} {H : Hp} {E : XK} {scope : Scope} {f c' : Addr} {j : Nat} (hj : j ≤ k) (hr : Room j (A.deeper (LamX.lamEnv X scope s.heap.objs.size f c'))) :
    Gd (LamX.lamCxN X A outer s H E scope f c') T (lamSc scope) j (evF T.P j) (fun cls d _ H => E cls d H) :=
  ⟨rfl, fun x h => (by cases h), g.nd, (by have := hr.un; show (A.deeper (LamX.lamEnv X scope s.heap.objs.size f c')).units + 65 < cLine; omega),
    fun _ => ⟨rfl, hr, L2N.takes_of rfl rfl rfl rfl, fun i hi => (g.cool h0).2.2.2 i (Nat.le_trans hi hj)⟩,
    fun h => (by cases h), fun h => absurd rfl h, rfl, g.st, fun h => (by cases h), fun a x _ h => (by cases h)⟩
theorem lfnB_mem {T : Tab} {f : Nat} {x : Str} (h : lfnB T f x = true) : (f, x) ∈ T.lfn := by
  unfold lfnB at h
  obtain ⟨⟨f', x'⟩, hm, he⟩ := List.any_eq_true.mp h
  simp only [Bool.and_eq_true, decide_eq_true_eq] at he
  obtain ⟨rfl, rfl⟩ := he
  exact hm
theorem hclB_mem {T : Tab} {c : Nat} {subs : List Nat} {x : Str} (h : hclB T c subs x = true) : (c, subs, x) ∈ T.hcl := by
  unfold hclB at h
  obtain ⟨⟨c', s', x'⟩, hm, he⟩ := List.any_eq_true.mp h
  simp only [Bool.and_eq_true, decide_eq_true_eq] at he
  obtain ⟨⟨rfl, rfl⟩, rfl⟩ := he
  exact hm
end
end Lw

set_option Elab.async false
set_option linter.all false
set_option maxRecDepth 100000
set_option maxHeartbeats 2000000
/-! S1: what a set asks of its elements, for nested tuples of whole numbers. -/
namespace Lw
open PySem PySem.Spec PyProof.Rows L2

mutual
/-- no text within -/
def noText : NestedKey → Bool
  | .none => true
  | .num _ => true
  | .text _ => false
  | .tup ks => noTexts ks
def noTexts : List NestedKey → Bool
  | [] => true
  | k :: ks => noText k && noTexts ks
end
/-- the tuple at b is the key k -/
def NKey (h : Heap) (k : NestedKey) (b : Addr) : Prop := NestedIs h k (.ref b) ∧ k.depth ≤ 8 ∧ noText k = true
section
variable {P : Program} {w : World} {A : Around} {E : Value → Shared → Prop} {s : Shared} {h h' : Heap} {k k' : NestedKey} {b : Addr}
theorem NKey.keep (x : NKey h k b) (hk : ∀ c o, h.get? c = some o → h'.get? c = some o) : NKey h' k b := ⟨NestedIs.at (fun a o vs n e _ => hk a o e) _ _ x.1, x.2⟩
theorem NKey.same {a : Addr} {o : Obj} {es : Array (Int × Value)} {ep : Nat} {t : SetTable} (x : NKey h k b) (ho : h.get? a = some o) (hd : o.data = .set es ep t) (hs : Heap.SameBut a h h') : NKey h' k b :=
  ⟨NestedIs.at (fun c oc vs n e d => by
    refine (hs.2 c fun z => ?_).trans e
    rw [z, ho] at e
    cases e
    rw [hd] at d
    cases d) _ _ x.1, x.2⟩
theorem NKey.inj (x : NKey h k b) (y : NKey h k' b) : k = k' := NestedIs.inj _ _ _ x.1 y.1
theorem NKey.typ (x : NKey s.heap k b) : s.TypeIs (.ref b) "tuple" := by
  cases x.1 with
  | tup h1 h2 h3 h4 => exact ⟨_, h1, h2⟩
mutual
/-- hashed by value -/
theorem byv_key : ∀ (k : NestedKey) (v : Value) (n : Nat) (s : Shared), NestedIs s.heap k v → k.depth ≤ n → noText k = true → ∀ {A : Around} {E : Value → Shared → Prop} {Q : Bool → Shared → Prop}, Q true s → wpAny (model P w) A (hashByValue n v) Q E s
  | .none, _, n, s, x, _, _, A, E, Q, q => by
    cases x
    cases n <;> exact wpAny_pure q
  | .num i, _, n, s, x, _, _, A, E, Q, q => by
    cases x <;> cases n <;> exact wpAny_pure q
  | .text y, _, n, s, x, _, z, A, E, Q, q => by cases z
  | .tup ks, _, n, s, x, hn, z, A, E, Q, q => by
    cases x with
    | @tup a o vs m _ hg hc hd hk =>
      cases n with
      | zero => simp [NestedKey.depth] at hn
      | succ n =>
        have hT : s.TypeIs (.ref a) "tuple" := ⟨o, hg, hc⟩
        unfold hashByValue
        refine wpAny_bind (wpAny_specialOf hT F.slot_tuple_hash.lookup ?_)
        show wpAny _ _ (seqItems? (.ref a) >>= _) _ _ s
        refine wpAny_bind (wpAny_seqItems hg hd ?_)
        refine wpAny_bind ?_
        show wpAny _ _ (forIn vs _ _) _ _ s
        rw [← Array.forIn_toList]
        have all := byv_keys ks vs.toList n s hk (by simp only [NestedKey.depth] at hn; omega) z
        refine wpAny_forIn_list _ (fun rest r s' => r.1 = none ∧ s' = s ∧ ∀ v ∈ rest, v ∈ vs.toList) _ ?_ ?_ _ _ ⟨rfl, rfl, fun v hv => hv⟩
        · rintro v rest r s' ⟨hr, rfl, hm⟩
          refine wpAny_bind (all v (hm v List.mem_cons_self) ?_)
          simp only [Bool.not_true, Bool.false_eq_true, if_false]
          exact wpAny_pure ⟨rfl, rfl, fun u hu => hm u (List.mem_cons_of_mem _ hu)⟩
        · rintro ⟨r1, r2⟩ s' ⟨hr, rfl, _⟩
          simp only at hr
          subst hr
          exact wpAny_pure q
theorem byv_keys : ∀ (ks : List NestedKey) (vs : List Value) (n : Nat) (s : Shared), NestedAll s.heap ks vs → NestedKey.depthAll ks ≤ n → noTexts ks = true → ∀ v ∈ vs, ∀ {A : Around} {E : Value → Shared → Prop} {Q : Bool → Shared → Prop}, Q true s → wpAny (model P w) A (hashByValue n v) Q E s
  | [], _, n, s, x, _, _, v, hv => by cases x; cases hv
  | k :: ks, _, n, s, x, hn, z, v, hv => by
    cases x with
    | cons x1 x2 =>
      simp only [NestedKey.depthAll] at hn
      simp only [noTexts, Bool.and_eq_true] at z
      rcases List.mem_cons.mp hv with e | hv
      · rw [e]; exact fun q => byv_key k _ n s x1 (by omega) z.1 q
      · exact byv_keys ks _ n s x2 (by omega) z.2 v hv
end
mutual
/-- of no class statement -/
theorem cls_key : ∀ (k : NestedKey) (v : Value) (n : Nat) (s : Shared), NestedIs s.heap k v → k.depth ≤ n → ∀ {A : Around} {E : Value → Shared → Prop} {Q : Bool → Shared → Prop}, Q false s → wpAny (model P w) A (ofAClassStatement n v) Q E s
  | .none, _, n, s, x, _, A, E, Q, q => by
    cases x
    cases n <;> exact wpAny_pure q
  | .num i, _, n, s, x, _, A, E, Q, q => by
    cases x <;> cases n <;> exact wpAny_pure q
  | .text y, _, n, s, x, _, A, E, Q, q => by
    cases x
    cases n <;> exact wpAny_pure q
  | .tup ks, _, n, s, x, hn, A, E, Q, q => by
    cases x with
    | @tup a o vs m _ hg hc hd hk =>
      cases n with
      | zero => simp [NestedKey.depth] at hn
      | succ n =>
        have hT : s.TypeIs (.ref a) "tuple" := ⟨o, hg, hc⟩
        unfold ofAClassStatement
        refine wpAny_bind (wpAny_typeOf hT ?_)
        dsimp only
        have e : (("tuple" : String) == "tuple") = true := by decide
        simp only [e, if_true, Bool.not_true, Bool.false_eq_true, if_false]
        try refine wpAny_bind (wpAny_pure ?_)
        try simp only [Bool.not_true, Bool.false_eq_true, if_false]
        show wpAny _ _ (seqItems? (.ref a) >>= _) _ _ s
        refine wpAny_bind (wpAny_seqItems hg hd ?_)
        dsimp only
        refine wpAny_bind ?_
        show wpAny _ _ (forIn vs _ _) _ _ s
        rw [← Array.forIn_toList]
        have all := cls_keys ks vs.toList n s hk (by simp only [NestedKey.depth] at hn; omega)
        refine wpAny_forIn_list _ (fun rest r s' => r.1 = none ∧ s' = s ∧ ∀ v ∈ rest, v ∈ vs.toList) _ ?_ ?_ _ _ ⟨rfl, rfl, fun v hv => hv⟩
        · rintro v rest r s' ⟨hr, rfl, hm⟩
          refine wpAny_bind (all v (hm v List.mem_cons_self) ?_)
          simp only [Bool.false_eq_true, if_false]
          exact wpAny_pure ⟨rfl, rfl, fun u hu => hm u (List.mem_cons_of_mem _ hu)⟩
        · rintro ⟨r1, r2⟩ s' ⟨hr, rfl, _⟩
          simp only at hr
          subst hr
          exact wpAny_pure q
theorem cls_keys : ∀ (ks : List NestedKey) (vs : List Value) (n : Nat) (s : Shared), NestedAll s.heap ks vs → NestedKey.depthAll ks ≤ n → ∀ v ∈ vs, ∀ {A : Around} {E : Value → Shared → Prop} {Q : Bool → Shared → Prop}, Q false s → wpAny (model P w) A (ofAClassStatement n v) Q E s
  | [], _, n, s, x, _, v, hv => by cases x; cases hv
  | k :: ks, _, n, s, x, hn, v, hv => by
    cases x with
    | cons x1 x2 =>
      simp only [NestedKey.depthAll] at hn
      rcases List.mem_cons.mp hv with e | hv
      · rw [e]; exact fun q => cls_key k _ n s x1 (by omega) q
      · exact cls_keys ks _ n s x2 (by omega) v hv
end
/-- a search among such tuples is not seen -/
theorem unseen {Q : Bool → Shared → Prop} (hk : NKey s.heap k b) {ys : List Value} (hy : ∀ y ∈ ys, ∃ k' c, y = Value.ref c ∧ NKey s.heap k' c) (q : Q false s) : wpAny (model P w) A (searchCouldBeSeen (.ref b) ys) Q E s := by
  unfold searchCouldBeSeen
  refine wpAny_bind ?_
  refine wpAny_forIn_list _ (fun rest r s' => r.1 = none ∧ s' = s ∧ ∀ y ∈ rest, y ∈ ys) _ ?_ ?_ _ _ ⟨rfl, rfl, fun y h => h⟩
  · rintro v rest r s' ⟨hr, rfl, hm⟩
    obtain ⟨k', c, rfl, hc⟩ := hy v (hm v List.mem_cons_self)
    have on : ∀ y ∈ rest, y ∈ ys := fun u hu => hm u (List.mem_cons_of_mem _ hu)
    dsimp only
    by_cases hv : (b == c || (carriedByValue (.ref b) && carriedByValue (.ref c))) = true
    · exact wp_if_pos hv (wpAny_pure ⟨rfl, rfl, on⟩)
    · refine wp_if_neg hv ?_
      refine wpAny_bind (quiet_key k _ 8 s' hk.1 hk.2.1 A E _ ?_)
      simp only [Bool.not_true, Bool.false_eq_true, if_false]
      refine wpAny_bind (quiet_key k' _ 8 s' hc.1 hc.2.1 A E _ ?_)
      simp only [Bool.not_true, Bool.false_eq_true, if_false]
      refine wpAny_bind (cls_key k _ 8 s' hk.1 hk.2.1 ?_)
      simp only [Bool.false_eq_true, if_false]
      refine wpAny_bind (cls_key k' _ 8 s' hc.1 hc.2.1 ?_)
      simp only [Bool.false_eq_true, if_false]
      exact wpAny_pure ⟨rfl, rfl, on⟩
  · rintro ⟨r1, r2⟩ s' ⟨hr, rfl, _⟩
    simp only at hr
    subst hr
    exact wpAny_pure q
end
end Lw

set_option Elab.async false
set_option linter.all false
set_option maxRecDepth 100000
set_option maxHeartbeats 4000000
/-! S2: a set of nested tuples: what stands at its address; the search. -/
namespace Lw
open PySem PySem.Spec PyProof.Rows L2

/-- an element: its address, its key -/
abbrev El := Addr × NestedKey
def rowN (w : World) (p : El) : Int × Value := (p.2.hash w, .ref p.1)
structure NSet (w : World) (h : Heap) (a : Addr) (L : List El) (es : Array (Int × Value)) (ep : Nat) (t : SetTable) : Prop where
  at_ : ∃ o, h.get? a = some o ∧ o.ExactSet ∧ o.data = .set es ep t
  rows : es.toList = L.map (rowN w)
  tab : TabOk t (L.map fun p => p.2.hash w)
  nd : (L.map (·.2)).Nodup
  keys : ∀ p ∈ L, NKey h p.2 p.1
  plain : t.plain = true
  led : w.params.followText "set-order" = true ∨ t.led = true
  room : L.length * 5 < t.mask * 3
  few : L.length < 64
/-- the c-th step of a search for a hash -/
def stepN (t : SetTable) (x : Int) (c : Nat) : SetTable.Probe := nth t.mask (runAt t.mask (SetTable.bits x % (t.mask + 1)) (SetTable.bits x)) c
theorem stepN_j (t : SetTable) (x : Int) (c : Nat) : (stepN t x c).j = way t.mask x c := rfl
theorem stepN_more (t : SetTable) (x : Int) (c q : Nat) : nth t.mask (stepN t x c) q = stepN t x (c + q) := (nth_add t.mask c _ q).symm
theorem nth_dummy (m : Nat) : ∀ (n : Nat) (p : SetTable.Probe), p.dummy = none → (nth m p n).dummy = none
  | 0, _, h => h
  | n + 1, p, h => nth_dummy m n (adv m p) (by
    unfold adv
    split <;> exact h)
theorem stepN_dummy (t : SetTable) (x : Int) (c : Nat) : (stepN t x c).dummy = none := nth_dummy _ _ _ rfl
section
variable {P : Program} {w : World} {A : Around} {E : Value → Shared → Prop} {s : Shared} {a : Addr} {L : List El} {es : Array (Int × Value)} {ep : Nat} {t : SetTable}
theorem NSet.size (R : NSet w s.heap a L es ep t) : es.size = L.length := by
  rw [← Array.length_toList, R.rows, List.length_map]
theorem NSet.places (R : NSet w s.heap a L es ep t) : t.place.size = L.length := by
  have := R.tab.sz
  rwa [List.length_map] at this
theorem NSet.fits (R : NSet w s.heap a L es ep t) : t.fits es.size = true := by
  have h1 := R.places
  have h2 := R.size
  have h3 := R.room
  unfold SetTable.fits SetTable.fill
  rw [R.tab.dm, Bool.and_eq_true, beq_iff_eq, decide_eq_true_eq]
  show t.place.size = es.size ∧ t.place.size + 0 ≤ t.mask
  omega
theorem NSet.row (R : NSet w s.heap a L es ep t) {i : Nat} {p : El} (h : L[i]? = some p) : es[i]? = some (p.2.hash w, Value.ref p.1) := by
  rw [← Array.getElem?_toList, R.rows, List.getElem?_map, h]
  rfl
theorem NSet.hashRow (R : NSet w s.heap a L es ep t) {i : Nat} {p : El} (h : L[i]? = some p) : (es[i]?.map (·.1)).getD 0 = p.2.hash w := by
  rw [R.row h]
  rfl
theorem NSet.odd (R : NSet w s.heap a L es ep t) : ¬ t.gaveWay = true := by
  unfold SetTable.gaveWay
  rw [mask_odd R.tab.mok]
  decide
/-- what stands at the i-th place -/
theorem NSet.el (R : NSet w s.heap a L es ep t) {i j : Nat} (h : t.place.toList[i]? = some j) : ∃ p, L[i]? = some p ∧ p ∈ L := by
  have h1 : i < t.place.toList.length := (List.getElem?_eq_some_iff.mp h).1
  rw [Array.length_toList, R.places] at h1
  exact ⟨L[i], List.getElem?_eq_getElem h1, List.getElem_mem h1⟩
theorem same_mem (t : SetTable) : t.sameMemory t.moves t.mask = some true := by
  unfold SetTable.sameMemory
  rw [if_pos (beq_self_eq_true _)]
/-- what is left to look at: every row of the key k stands at a later step -/
def Ahead (w : World) (L : List El) (t : SetTable) (k : NestedKey) (K c : Nat) : Prop := ∀ (i : Nat) p, L[i]? = some p → p.2 = k → ∃ c', c ≤ c' ∧ c' < K ∧ t.place.toList[i]? = some (way t.mask (k.hash w) c')
/-- THE SEARCH, from the c-th step on; K: the first empty place -/
theorem seek (R : NSet w s.heap a L es ep t) {x : Addr} {k : NestedKey} (hx : NKey s.heap k x) (hu : A.units + 8 < cLine) {K : Nat} (hKf : K < 10 * SetTable.turns t.mask) (hK : way t.mask (k.hash w) K ∉ t.place.toList) (hKb : ∀ c, c < K → way t.mask (k.hash w) c ∈ t.place.toList)
    {Q : SetFound → Shared → Prop} (hin : k ∈ L.map (·.2) → Q (.there none) s) (hout : k ∉ L.map (·.2) → Q (.free (way t.mask (k.hash w) K) false) s) :
    ∀ (f c : Nat) (stand : Option SetTable.Probe), stand.getD (t.probeStart (k.hash w)) = stepN t (k.hash w) c → c ≤ K → K - c < f → Ahead w L t k K c → wpAny (model P w) A (setSearchFrom a (.ref x) (k.hash w) true f stand) Q E s
  | 0, c, stand, _, _, hf, _ => absurd hf (Nat.not_lt_zero _)
  | f + 1, c, stand, hst, hc, hf, hre => by
    obtain ⟨o, ho, hex, hd⟩ := R.at_
    rw [setSearchFrom_succ]
    refine wpAny_bind (wpAny_setState_of ho hd R.fits ?_)
    dsimp only
    refine wp_if_neg R.odd ?_
    try refine wpAny_bind (wpAny_pure ?_)
    have at_ : ∀ q, (nth t.mask (stepN t (k.hash w) c) q).j = way t.mask (k.hash w) (c + q) := fun q => by rw [stepN_more, stepN_j]
    have spec := go_spec t R.tab.ris R.tab.dm (fun i => (es[i]?.map (·.1)).getD 0) (k.hash w) (10 * SetTable.turns t.mask) (K - c) (stepN t (k.hash w) c) (stepN_dummy _ _ _) (by omega)
      (fun q hq => by rw [at_]; exact hKb (c + q) (by omega)) (by rw [at_, show c + (K - c) = K by omega]; exact hK)
    have pr : t.probe (fun i => (es[i]?.map (·.1)).getD 0) (k.hash w) (stand.getD (t.probeStart (k.hash w))) = SetTable.probe.go t (fun i => (es[i]?.map (·.1)).getD 0) (k.hash w) (10 * SetTable.turns t.mask) (stepN t (k.hash w) c) := by
      rw [hst]; rfl
    rw [pr]
    rcases spec with ⟨q, i, hq, hi, hh, hno, hgo⟩ | ⟨hno, hgo⟩
    · rw [hgo]
      dsimp only
      rw [at_] at hi
      obtain ⟨p, hp, hm⟩ := R.el hi
      have hpt := R.keys p hm
      have rest : wpAny (model P w) A (searchRest a (.ref x) (k.hash w) true f es t (way t.mask (k.hash w) (c + q)) i (stepN t (k.hash w) (c + (q + 1)))) Q E s := by
        unfold searchRest
        rw [R.row hp]
        dsimp only
        refine wpAny_bind (wpAny_holding (eqAt_key p.2 k A s _ _ hpt.1 hx.1 (by have := Nat.min_le_left p.2.depth k.depth; have := hpt.2.1; omega) P w _ _ ?_))
        refine wpAny_bind (wpAny_setState_of ho hd R.fits ?_)
        dsimp only
        by_cases hkk : p.2 = k
        · have hb : NestedKey.beq p.2 k = true := by rw [hkk]; exact NestedKey.beq_self k
          refine wp_if_pos (by rw [hb]; rfl) ?_
          exact wpAny_pure (hin (List.mem_map.mpr ⟨p, hm, hkk⟩))
        · have hb : NestedKey.beq p.2 k = false := by
            cases z : NestedKey.beq p.2 k with
            | false => rfl
            | true => exact absurd (NestedKey.eq_of_beq _ _ z) hkk
          refine wp_if_neg (by rw [hb]; decide) ?_
          try refine wpAny_bind (wpAny_pure ?_)
          rw [same_mem]
          dsimp only
          have hsl : t.slot (way t.mask (k.hash w) (c + q)) = .live i := slot_live R.tab.ris hi
          simp only [if_true, hsl, R.row hp]
          refine wpAny_bind (wpAny_isSame_ref_self (wpAny_bind (wpAny_pure ?_)))
          simp only [if_true]
          refine wp_if_neg (by rw [hb]; decide) ?_
          refine seek R hx hu hKf hK hKb hin hout f (c + (q + 1)) _ rfl (by omega) (by omega) fun i0 p0 h0 hk0 => ?_
          obtain ⟨c', a1, a2, a3⟩ := hre i0 p0 h0 hk0
          refine ⟨c', ?_, a2, a3⟩
          rcases Nat.lt_trichotomy c' (c + q) with z | z | z
          · exfalso
            refine hno (c' - c) i0 (by omega) (by rw [at_, show c + (c' - c) = c' by omega]; exact a3) ?_
            rw [R.hashRow h0, hk0]
          · exfalso
            rw [z] at a3
            have s0 := slot_live R.tab.ris a3
            rw [hsl] at s0
            injection s0 with s0
            rw [← s0, hp] at h0
            exact hkk ((congrArg Prod.snd (Option.some.inj h0)).trans hk0)
          · omega
      have e9 : nth t.mask (stepN t (k.hash w) c) (q + 1) = stepN t (k.hash w) (c + (q + 1)) := stepN_more _ _ _ _
      rw [at_, e9]
      by_cases hl : t.led = true
      · refine wp_if_neg (by simp [hl]) ?_
        try refine wpAny_bind (wpAny_pure ?_)
        exact rest
      · refine wp_if_pos (by simp [hl]) ?_
        refine wpAny_bind (unseen hx (fun y hy => ?_) ?_)
        · obtain ⟨r, hr, er⟩ := List.mem_map.mp hy
          have hr1 : r ∈ es ∧ r.1 = k.hash w := by simpa using hr
          have hr2 : r ∈ es.toList := by simpa using hr1.1
          rw [R.rows] at hr2
          obtain ⟨p2, hp2, e2⟩ := List.mem_map.mp hr2
          exact ⟨p2.2, p2.1, by rw [← er, ← e2]; rfl, R.keys p2 hp2⟩
        · refine wp_if_neg (by decide) ?_
          try refine wpAny_bind (wpAny_pure ?_)
          exact rest
    · rw [hgo]
      dsimp only
      rw [at_, show c + (K - c) = K by omega]
      refine wpAny_pure (hout fun hm => ?_)
      obtain ⟨p0, h0, hk0⟩ := List.mem_map.mp hm
      obtain ⟨i0, hi0, e0⟩ := List.getElem_of_mem h0
      have h00 : L[i0]? = some p0 := by rw [List.getElem?_eq_getElem hi0, e0]
      obtain ⟨c', a1, a2, a3⟩ := hre i0 p0 h00 hk0
      refine hno (c' - c) i0 (by omega) (by rw [at_, show c + (c' - c) = c' by omega]; exact a3) ?_
      rw [R.hashRow h00, hk0]
/-- as adding asks for it -/
theorem seek_at (R : NSet w s.heap a L es ep t) {x : Addr} {k : NestedKey} (hx : NKey s.heap k x) (hu : A.units + 8 < cLine) {Q : SetFound → Shared → Prop} (hin : k ∈ L.map (·.2) → Q (.there none) s)
    (hout : ∀ K, k ∉ L.map (·.2) → way t.mask (k.hash w) K ∉ t.place.toList → (∀ c, c < K → way t.mask (k.hash w) c ∈ t.place.toList) → Q (.free (way t.mask (k.hash w) K) false) s) :
    wpAny (model P w) A (setSearch a (.ref x) (k.hash w) true) Q E s := by
  have hroom := R.room
  obtain ⟨K, hKf, hK, hKb⟩ := R.tab.first (by rw [List.length_map]; omega) (k.hash w)
  have hbig : K < 100000 := by
    have : 10 * SetTable.turns t.mask ≤ 1420 := by
      unfold SetTable.turns
      rcases R.tab.mok with e | e | e <;> omega
    omega
  unfold setSearch
  refine seek R hx hu hKf hK hKb hin (fun hn => hout K hn hK hKb) 100000 0 none rfl (Nat.zero_le _) (by omega) fun i p hp hk => ?_
  have hi : (L.map fun p => p.2.hash w)[i]? = some (k.hash w) := by rw [List.getElem?_map, hp, ← hk]; rfl
  have hil : i < t.place.toList.length := by
    have h1 : i < L.length := (List.getElem?_eq_some_iff.mp hp).1
    rw [Array.length_toList, R.places]
    exact h1
  have hj := List.getElem?_eq_getElem hil
  obtain ⟨c, hc, e⟩ := R.tab.before hK hi hj
  exact ⟨c, Nat.zero_le _, hc, by rw [hj, e]⟩
end
end Lw

set_option Elab.async false
set_option linter.all false
set_option maxRecDepth 100000
set_option maxHeartbeats 4000000
/-! S3: an element is added. -/
namespace Lw
open PySem PySem.Spec PyProof.Rows L2

theorem range_get {α : Type} : ∀ (L : List α), (List.range L.length).filterMap (fun i => L[i]?) = L
  | [] => rfl
  | x :: L => by
    rw [List.length_cons, List.range_succ_eq_map, List.filterMap_cons_some (b := x) (by rfl), List.filterMap_map]
    congr 1
    exact range_get L
theorem ins_perm {α : Type} (L : List α) (p : Nat) (x : α) : (L.take p ++ x :: L.drop p).Perm (x :: L) := by
  have h : (L.take p ++ x :: L.drop p).Perm (x :: (L.take p ++ L.drop p)) := List.perm_middle
  rwa [List.take_append_drop] at h
section
variable {P : Program} {w : World} {A : Around} {E : Value → Shared → Prop} {s : Shared} {a : Addr} {L : List El} {es : Array (Int × Value)} {ep : Nat} {t : SetTable}
theorem row_get (hr : es.toList = L.map (rowN w)) (i : Nat) : es[i]? = (L[i]?).map (rowN w) := by
  rw [← Array.getElem?_toList, hr, List.getElem?_map]
/-- the rows in another order -/
theorem order_rows' (hr : es.toList = L.map (rowN w)) {order : Array Nat} (hp : order.toList.Perm (List.range L.length)) :
    ∃ L2 : List El, (order.filterMap (es[·]?)).toList = L2.map (rowN w) ∧ L2.Perm L ∧ (L2.map fun p => p.2.hash w) = order.toList.map fun i => (es.map (·.1)).getD i 0 := by
  refine ⟨order.toList.filterMap fun i => L[i]?, ?_, ?_, ?_⟩
  · rw [Array.toList_filterMap, List.map_filterMap]
    congr 1
    funext i
    exact row_get hr i
  · have := hp.filterMap fun i => L[i]?
    rwa [range_get] at this
  · have key : ∀ l : List Nat, (∀ i ∈ l, i < L.length) → ((l.filterMap fun i => L[i]?).map fun p => p.2.hash w) = l.map fun i => (es.map (·.1)).getD i 0 := by
      intro l
      induction l with
      | nil => intro _; rfl
      | cons i l ih =>
        intro h
        have hi := h i List.mem_cons_self
        rw [List.filterMap_cons_some (List.getElem?_eq_getElem hi), List.map_cons, List.map_cons, ih fun j hj => h j (List.mem_cons_of_mem _ hj)]
        congr 1
        have e5 : (es.map (·.1))[i]? = some ((L[i]).2.hash w) := by
          rw [Array.getElem?_map, row_get hr, List.getElem?_eq_getElem hi]
          rfl
        simp [Array.getD_eq_getD_getElem?, e5]
    exact key _ fun i hi => List.mem_range.mp (hp.mem_iff.mp hi)
/-- the table laid anew, larger -/
theorem relayN {o : Obj} (ho : s.heap.get? a = some o) (hex : o.ExactSet) (hd : o.data = .set es ep t) (hr : es.toList = L.map (rowN w)) (hsz : t.place.size = es.size) (hdm : t.dummies = #[]) (hfl : es.size ≤ t.mask)
    (nd : (L.map (·.2)).Nodup) (ks : ∀ p ∈ L, NKey s.heap p.2 p.1) (pl : t.plain = true) (ld : w.params.followText "set-order" = true ∨ t.led = true) (few : L.length < 64) {wanted M : Nat}
    (hw : SetTable.sizeAbove wanted - 1 = M) (hM : MaskOk M) (hw2 : SetTable.sizeAbove wanted ≤ 128) (hn : L.length * 5 < M * 3) {Q : Unit → Shared → Prop}
    (hQ : ∀ h' L' es' ep' t', Heap.SameBut a s.heap h' → NSet w h' a L' es' ep' t' → L'.Perm L → Q () { s with heap := h' }) : wpAny (model P w) A (setRelay a wanted) Q E s := by
  have hsl : es.size = L.length := by rw [← Array.length_toList, hr, List.length_map]
  have hfits : t.fits es.size = true := by
    unfold SetTable.fits SetTable.fill
    rw [hdm, Bool.and_eq_true, beq_iff_eq, decide_eq_true_eq]
    show t.place.size = es.size ∧ t.place.size + 0 ≤ t.mask
    omega
  obtain ⟨t', order, e, hp, T, em, el, ep', ed⟩ := relaid_ok t (hs := es.map (·.1)) (wanted := wanted) hw hM (by rw [Array.size_map, hsl]; omega)
  rw [Array.size_map, hsl] at hp
  obtain ⟨L2, r1, r2, r3⟩ := order_rows' hr hp
  rw [← r3] at T
  have hs2 : (order.filterMap (es[·]?)).size = es.size := by rw [← Array.length_toList, r1, List.length_map, r2.length_eq, hsl]
  rw [setRelay_eq]
  refine wpAny_bind (wpAny_setState_of ho hd hfits ?_)
  dsimp only
  refine wp_if_neg (by rw [sizeLine_eq]; omega) ?_
  try refine wpAny_bind (wpAny_pure ?_)
  rw [e]
  dsimp only
  refine wpAny_bind ?_
  refine wp_if_neg (by rw [hs2]; simp) ?_
  try refine wpAny_bind (wpAny_pure ?_)
  refine wpAny_pure ?_
  dsimp only
  refine wpAny_storeSet_of ho hd ?_ (by rw [hs2, hsl, sizeLine_eq]; omega)
  have sb : Heap.SameBut a s.heap (s.heap.update a (Obj.putSet (order.filterMap (es[·]?)) t')) := Heap.SameBut.update ..
  refine hQ _ L2 (order.filterMap (es[·]?)) (ep + 1) t' sb ⟨⟨_, store_at ho hd, ⟨hex.1, hex.2.1, hex.2.2⟩, rfl⟩, r1, T, (r2.map (·.2)).nodup_iff.mpr nd, fun p hp => (ks p (r2.mem_iff.mp hp)).same ho hd sb, by rw [ep']; exact pl, by rw [el]; exact ld, ?_, by rw [r2.length_eq]; exact few⟩ r2
  rw [r2.length_eq, em]
  exact hn
/-- adding -/
theorem addN (R : NSet w s.heap a L es ep t) {x : Addr} {k : NestedKey} (hx : NKey s.heap k x) (hu : A.units + 8 < cLine) (hfew : L.length + 1 < 64) {Q : Bool → Shared → Prop}
    (hQ : ∀ b h' L' es' ep' t', Heap.SameBut a s.heap h' → NSet w h' a L' es' ep' t' → (k ∈ L.map (·.2) → L' = L) → (k ∉ L.map (·.2) → L'.Perm ((x, k) :: L)) → Q b { s with heap := h' }) :
    wpAny (model P w) A (setAddHashed a (.ref x) (k.hash w)) Q E s := by
  obtain ⟨o, ho, hex, hd⟩ := R.at_
  have hsl := R.size
  have hroom := R.room
  unfold setAddHashed
  refine wpAny_holding ?_
  rw [show (100000 : Nat) = 99999 + 1 from rfl, setAddHashedIn_succ]
  refine wpAny_bind (wpAny_setState_of ho hd R.fits ?_)
  dsimp only
  refine wp_if_neg (by simp [byScan, Value.scannable]) ?_
  try refine wpAny_bind (wpAny_pure ?_)
  refine wpAny_bind (seek_at R hx hu (fun hm => ?_) fun K hm hK hb => ?_)
  · dsimp only
    exact wpAny_pure (hQ false s.heap L es ep t (Heap.SameBut.refl a s.heap) R (fun _ => rfl) fun z => absurd hm z)
  · dsimp only
    refine wpAny_bind (wpAny_setState_of ho hd R.fits ?_)
    dsimp only
    obtain ⟨q1, q2, q3, q4, q5, q6, q7, q8, q9⟩ := R.tab.put hK hb
    have hp1 : (t.put (way t.mask (k.hash w) K)).1.plain = true := by rw [q6]; exact R.plain
    generalize hpt : t.put (way t.mask (k.hash w) K) = pt at q1 q3 q4 q5 q6 q7 q8 q9 hp1 ⊢
    obtain ⟨t1, p⟩ := pt
    dsimp only at q1 q3 q4 q5 q6 q7 q8 q9 hp1 ⊢
    subst q1
    first
      | (refine wpAny_bind ?_; refine wp_if_pos hp1 ?_; refine byv_key k _ 8 s hx.1 hx.2.1 hx.2.2 ?_)
      | refine wp_if_pos hp1 (wpAny_bind (byv_key k _ 8 s hx.1 hx.2.1 hx.2.2 ?_))
    simp only [if_true]
    generalize hpp : SetTable.below t.place (way t.mask (k.hash w) K) = p at q2 q3 ⊢
    have hin : (SetTable.insertAt es p (k.hash w, Value.ref x)).toList = (L.take p ++ (x, k) :: L.drop p).map (rowN w) := by
      rw [SetTable.toList_insertAt, R.rows, List.map_append, List.map_cons, List.map_take, List.map_drop]
      rfl
    have pm := ins_perm L p (x, k)
    have hhs : (L.take p ++ (x, k) :: L.drop p).map (fun p => p.2.hash w) = (L.map fun p => p.2.hash w).take p ++ k.hash w :: (L.map fun p => p.2.hash w).drop p := by
      rw [List.map_append, List.map_cons, List.map_take, List.map_drop]
    rw [← hhs] at q3
    generalize L.take p ++ (x, k) :: L.drop p = L1 at pm q3 hin
    have hlen : L1.length = L.length + 1 := pm.length_eq
    have nd1 : (L1.map (·.2)).Nodup := (pm.map (·.2)).nodup_iff.mpr (List.nodup_cons.mpr ⟨hm, R.nd⟩)
    generalize SetTable.insertAt es p (k.hash w, Value.ref x) = es1 at hin ⊢
    have hes : es1.size = L.length + 1 := by rw [← Array.length_toList, hin, List.length_map, hlen]
    refine wpAny_bind (wpAny_storeSet_of ho hd ?_ (by rw [hes, sizeLine_eq]; omega))
    have sb : Heap.SameBut a s.heap (s.heap.update a (Obj.putSet es1 t1)) := Heap.SameBut.update ..
    have ho1 := store_at (es' := es1) (t' := t1) ho hd
    generalize s.heap.update a (Obj.putSet es1 t1) = h1 at sb ho1 ⊢
    have ks1 : ∀ p ∈ L1, NKey h1 p.2 p.1 := fun p hp => by
      rcases List.mem_cons.mp (pm.mem_iff.mp hp) with e | hp
      · rw [e]; exact hx.same ho hd sb
      · exact (R.keys p hp).same ho hd sb
    have ld1 : w.params.followText "set-order" = true ∨ t1.led = true := by rw [q5]; exact R.led
    have full : t1.tooFull = decide ((L.length + 1) * 5 ≥ t1.mask * 3) := by
      unfold SetTable.tooFull
      rw [q9, List.length_map]
    by_cases hf : t1.tooFull = true
    · first
        | (refine wpAny_bind ?_; refine wp_if_pos (by simp [hf]) ?_)
        | (refine wp_if_pos (by simp [hf]) ?_; refine wpAny_bind ?_)
      have hfull : (L.length + 1) * 5 ≥ t1.mask * 3 := by
        rw [full] at hf
        exact of_decide_eq_true hf
      have hsz1 : t1.place.size = es1.size := by
        have h := q3.sz
        rw [List.length_map, hlen] at h
        rw [h, hes]
      have two : (t.mask = 7 ∧ L.length = 4) ∨ (t.mask = 31 ∧ L.length = 18) := by
        rcases R.tab.mok with e | e | e
        · left; rw [q4, e] at hfull; rw [e] at hroom; exact ⟨e, by omega⟩
        · right; rw [q4, e] at hfull; rw [e] at hroom; exact ⟨e, by omega⟩
        · exfalso; rw [q4, e] at hfull; omega
      have go : ∀ M, SetTable.sizeAbove (SetTable.grown (es.size + 1)) - 1 = M → MaskOk M → SetTable.sizeAbove (SetTable.grown (es.size + 1)) ≤ 128 → (L.length + 1) * 5 < M * 3 →
          wpAny (model P w) A (setRelay a (SetTable.grown (es.size + 1))) (fun _ s' => wpAny (model P w) A (pure true) Q E s') E { s with heap := h1 } := fun M h1' h2' h3' h4' => by
        refine relayN (s := { s with heap := h1 }) ho1 ⟨hex.1, hex.2.1, hex.2.2⟩ rfl hin hsz1 q3.dm (by rw [hes, q4]; rcases two with ⟨e, e2⟩ | ⟨e, e2⟩ <;> omega) nd1 ks1 hp1 ld1 (by rw [hlen]; exact hfew) h1' h2' h3' (by rw [hlen]; exact h4') ?_
        intro h2 L2 es2 ep2 t2 sb2 R2 pm2
        exact wpAny_pure (hQ true h2 L2 es2 ep2 t2 (sb.trans sb2) R2 (fun z => absurd z hm) fun _ => pm2.trans pm)
      rcases two with ⟨_, e2⟩ | ⟨_, e2⟩
      · exact go 31 (by rw [hsl, e2, size_20]) (.inr (.inl rfl)) (by rw [hsl, e2, size_20]; decide) (by omega)
      · exact go 127 (by rw [hsl, e2, size_76]) (.inr (.inr rfl)) (by rw [hsl, e2, size_76]; decide) (by omega)
    · first
        | refine wp_if_neg (by simp [hf]) ?_
        | (refine wpAny_bind ?_; refine wp_if_neg (by simp [hf]) ?_; refine wpAny_pure ?_)
      refine wpAny_pure (hQ true h1 L1 es1 (ep + 1) t1 sb ⟨⟨_, ho1, ⟨hex.1, hex.2.1, hex.2.2⟩, rfl⟩, hin, q3, nd1, ks1, hp1, ld1, ?_, by rw [hlen]; exact hfew⟩ (fun z => absurd z hm) fun _ => pm)
      rw [full] at hf
      have := of_decide_eq_false (Bool.eq_false_iff.mpr hf)
      rw [hlen]
      omega
end
end Lw

set_option Elab.async false
set_option linter.all false
set_option maxRecDepth 100000
set_option maxHeartbeats 4000000
/-! S4: set(xs), xs a list of nested tuples. -/
namespace Lw
open PySem PySem.Spec PyProof.Rows L2

/-- what the set has taken of the first i -/
structure Took (ks : List El) (i : Nat) (L : List El) : Prop where
  sub : ∀ p ∈ L, p ∈ ks.take i
  all : ∀ p ∈ ks.take i, p.2 ∈ L.map (·.2)
  len : L.length ≤ i
theorem Took.next {ks L L' : List El} {i : Nat} {x : El} (g : Took ks i L) (h : ks[i]? = some x) (c1 : x.2 ∈ L.map (·.2) → L' = L) (c2 : x.2 ∉ L.map (·.2) → L'.Perm (x :: L)) : Took ks (i + 1) L' := by
  have e : ks.take (i + 1) = ks.take i ++ [x] := by rw [List.take_succ, h]; rfl
  by_cases c : x.2 ∈ L.map (·.2)
  · rw [c1 c]
    refine ⟨fun p hp => by rw [e]; exact List.mem_append_left _ (g.sub p hp), fun p hp => ?_, Nat.le_succ_of_le g.len⟩
    rw [e] at hp
    rcases List.mem_append.mp hp with z | z
    · exact g.all p z
    · rw [List.mem_singleton.mp z]; exact c
  · have pm := c2 c
    refine ⟨fun p hp => ?_, fun p hp => ?_, by rw [pm.length_eq, List.length_cons]; exact Nat.succ_le_succ g.len⟩
    · rw [e]
      rcases List.mem_cons.mp (pm.mem_iff.mp hp) with z | z
      · rw [z]; exact List.mem_append_right _ (List.mem_singleton.mpr rfl)
      · exact List.mem_append_left _ (g.sub p z)
    · rw [(pm.map (·.2)).mem_iff, List.map_cons]
      rw [e] at hp
      rcases List.mem_append.mp hp with z | z
      · exact List.mem_cons_of_mem _ (g.all p z)
      · rw [List.mem_singleton.mp z]; exact List.mem_cons_self
section
variable {P : Program} {w : World} {A : Around} {E : Value → Shared → Prop} {s : Shared}
theorem NSet.keep {h h' : Heap} {a : Addr} {L : List El} {es : Array (Int × Value)} {ep : Nat} {t : SetTable} (R : NSet w h a L es ep t) (ha : ∀ o, h.get? a = some o → h'.get? a = some o) (hk : ∀ p ∈ L, NKey h' p.2 p.1) : NSet w h' a L es ep t := by
  obtain ⟨o, ho, r⟩ := R.at_
  exact ⟨⟨o, ha o ho, r⟩, R.rows, R.tab, R.nd, hk, R.plain, R.led, R.room, R.few⟩
abbrev newSet (w : World) : Obj := { cls := .type "set", dict := none, data := .set #[] 0 (.fresh 0 0 (!w.params.followText "set-order")) }
theorem nset_new {h : Heap} {a : Addr} (ho : h.get? a = some (newSet w)) : NSet w h a [] #[] 0 (.fresh 0 0 (!w.params.followText "set-order")) where
  at_ := ⟨_, ho, ⟨rfl, rfl, rfl⟩, rfl⟩
  rows := rfl
  tab := ⟨List.Pairwise.nil, rfl, rfl, .inl rfl, fun x hx => (by cases hx), fun i h j hi => (by simp at hi)⟩
  nd := List.nodup_nil
  keys := fun p hp => (by cases hp)
  plain := rfl
  led := by
    show _ ∨ (!w.params.followText "set-order") = true
    cases w.params.followText "set-order"
    · exact .inr rfl
    · exact .inl rfl
  room := (by decide : 0 * 5 < 7 * 3)
  few := (by decide : 0 < 64)
/-- set.update's loop -/
theorem updateN {I : Addr} {fp wr : List Addr} {Gt : Array GenState → Array GenState → Prop} {n : Nat} {Pv : Nat → Value → Prop} {Stt : Nat → Shared → Prop} {R : Result → Shared → Prop}
    (W : WalksS P w A.in1 I fp wr Gt n Pv Stt) (T : Addr) (hT : T ∉ fp) (ks : List El) (hn : n = ks.length) (hfew : ks.length < 64) (hval : ∀ i v, Pv i v → ∃ p, ks[i]? = some p ∧ v = .ref p.1)
    (h0 : Heap) (hk : ∀ p ∈ ks, NKey h0 p.2 p.1) (hT0 : h0.get? T = none) (hw0 : ∀ b ∈ wr, h0.get? b = none) (hu : A.in1.units + 8 < cLine) :
    ∀ (k i : Nat) (s : Shared), n - i = k → i ≤ n → Stt i s → (∀ b o, h0.get? b = some o → s.heap.get? b = some o) → (∃ L es ep t, NSet w s.heap T L es ep t ∧ Took ks i L) →
      (∀ s' L es ep t, Moved (T :: wr) Gt s s' → NSet w s'.heap T L es ep t → Took ks n L → (∀ b o, h0.get? b = some o → s'.heap.get? b = some o) → R (.ok (.ret .none)) s') →
      codeAny (model P w) A (.builtin "set.update.loop" ⟨[.ref T, .ref I], []⟩) R s := by
  have hTw : T ∉ wr := fun h => hT (W.sub _ h)
  have hsub : ∀ b ∈ wr, b ∈ T :: wr := fun b hb => List.mem_cons_of_mem _ hb
  have still : ∀ {s s' : Shared}, Moved wr Gt s s' → (∀ b o, h0.get? b = some o → s.heap.get? b = some o) → ∀ b o, h0.get? b = some o → s'.heap.get? b = some o := fun hm hkp b o e =>
    hm.heap b o (fun hb => by rw [hw0 b hb] at e; cases e) (hkp b o e)
  have moved : ∀ {s s' : Shared} {i : Nat} {L : List El} {es : Array (Int × Value)} {ep : Nat} {t : SetTable}, Moved wr Gt s s' → (∀ b o, h0.get? b = some o → s.heap.get? b = some o) → NSet w s.heap T L es ep t → Took ks i L → NSet w s'.heap T L es ep t :=
    fun hm hkp hS g => hS.keep (fun o e => hm.heap T o hTw e) fun p hp => (hk p (List.mem_of_mem_take (g.sub p hp))).keep (still hm hkp)
  intro k
  induction k with
  | zero =>
    intro i s hk' hi hst hkp ⟨L, es, ep, t, hS, g⟩ hR
    have hin : i = n := by omega
    subst hin
    refine codeAny_builtin F.entry_set_update_loop ?_
    rw [Around.under_plainId F.plain_set_update_loop _]
    show wpAny _ A.in1 (pyNext (.ref I) >>= _) _ _ s
    refine wpAny_bind (W.done s _ _ hst fun s' hm => ?_)
    show wpAny _ A.in1 (ret Value.none) _ _ s'
    exact wpAny_pure (hR s' L es ep t (hm.mono hsub) (moved hm hkp hS g) g (still hm hkp))
  | succ k ih =>
    intro i s hk' hi hst hkp ⟨L, es, ep, t, hS, g⟩ hR
    have hlt : i < n := by omega
    refine codeAny_builtin F.entry_set_update_loop ?_
    rw [Around.under_plainId F.plain_set_update_loop _]
    show wpAny _ A.in1 (pyNext (.ref I) >>= _) _ _ s
    refine wpAny_bind (W.item i s _ _ hlt hst fun v s' hP hst' hm => ?_)
    obtain ⟨p, hp, rfl⟩ := hval i v hP
    have hkp' := still hm hkp
    have hS' := moved hm hkp hS g
    have hx : NKey s'.heap p.2 p.1 := (hk p (List.mem_of_getElem? hp)).keep hkp'
    show wpAny _ A.in1 (holding [Value.ref p.1] (setAdd T (.ref p.1)) >>= _) _ _ s'
    refine wpAny_bind (wpAny_holding ?_)
    unfold setAdd
    refine wpAny_holding ?_
    refine wpAny_bind (pyHash_key p.2 _ _ s' _ hx.1 (by have := hx.2.1; omega) ?_)
    refine addN (s := { s' with toks := s'.toks + p.2.draws }) hS' hx hu (by have := g.len; omega) fun b h' L' es' ep' t' hsb hS2 c1 c2 => ?_
    have g' : Took ks (i + 1) L' := g.next hp c1 c2
    have hkp2 : ∀ b o, h0.get? b = some o → h'.get? b = some o := fun b o e => (hsb.2 b (fun z => by rw [z, hT0] at e; cases e)).trans (hkp' b o e)
    refine wpAny_pure ⟨plainId_quiet F.plain_set_update_loop _, ih (i + 1) _ (by omega) hlt (W.frame _ s' _ _ hst' (Nat.le_add_right _ _) fun b hb o e => ?_) hkp2 ⟨L', es', ep', t', hS2, g'⟩ fun s'' L2 es2 ep2 t2 hm'' hS'' g'' hkp'' => ?_⟩
    · rw [hsb.2 b (fun h : b = T => hT (by rw [← h]; exact hb))]; exact e
    · refine hR s'' L2 es2 ep2 t2 (Moved.trans W.gtrans ((hm.mono hsub).then_heap (Nat.le_add_right _ _) fun b o hb e => ?_) hm'') hS'' g'' hkp''
      rw [hsb.2 b (fun h : b = T => hb (by rw [h]; exact List.mem_cons_self))]; exact e
end
end Lw

set_option Elab.async false
set_option linter.all false
set_option maxRecDepth 100000
set_option maxHeartbeats 6400000
/-! S5: set(xs) of a list or a tuple, by what its loop leaves. -/
namespace Lw
open PySem PySem.Spec PyProof.Rows L2

section
variable {P : Program} {w : World} {A : Around} {E : Value → Shared → Prop} {s : Shared}
/-- how the loop of set(xs) must end -/
def LoopEnd (s : Shared) (Post : Heap → Prop) : Result → Shared → Prop := fun r s' => r = .ok (.ret .none) ∧ ∃ h' tk, s' = { s with heap := h', toks := tk } ∧ Post h'
theorem set_call (b : Bool) {l : Addr} {items : Array Value} {Q : Value → Shared → Prop} (Post : Heap → Prop) (hl : srcIs b s.heap l items)
    (hloop : codeAny (model P w) A.in1.in1 (.builtin "set.update.loop" ⟨[.ref s.heap.objs.size, .ref (s.heap.push (newSet w)).objs.size], []⟩) (LoopEnd s Post) { s with heap := (s.heap.push (newSet w)).push (srcO b l) })
    (h : ∀ h' tk, Post h' → Q (.ref s.heap.objs.size) { s with heap := h', toks := tk }) :
    wpAny (model P w) A (call (.type "set") [.ref l]) Q E s := by
  obtain ⟨c, tl, hmro⟩ := F.called_set.mro
  have hmade := F.called_set.made
  have hsub := F.called_set.sub
  refine wpAny_call (codeAny_of_tree ?_)
  show wpAny _ _ (callAny (.type "set") _) _ _ _
  refine wpAny_pure ⟨Code.quiet_builtin _ (by decide +kernel), codeAny_builtin F.entry_type_call ?_⟩
  rw [Around.under_plain (weight_type_call_type "set" [.ref l] []) rfl]
  have h1 := F.called_set.notType
  have h2 := F.called_set.canCreate
  have hct := F.typeCall_set_1 (.ref l)
  repeat (any_goals (first | assumption | wp_step))
  refine codeAny_mono (code_set_led1 (.ref l) (E := E) (Q₁ := fun obj s₁ => obj = .ref s.heap.objs.size ∧ s₁ = { s with heap := s.heap.push (newSet w) }) ⟨rfl, rfl⟩) fun r s₁ hr => ?_
  cases r with
  | error e => exact hr
  | ok fl =>
    cases fl with
    | ret obj =>
      obtain ⟨rfl, rfl⟩ := hr
      have hS : (s.heap.push (newSet w)).get? s.heap.objs.size = some (newSet w) := Heap.get?_push_size _ rfl
      have hT : Shared.TypeIs { s with heap := s.heap.push (newSet w) } (.ref s.heap.objs.size) "set" := ⟨_, hS, rfl⟩
      have hli := F.called_set.init.lookup
      have hbi := F.called_set.init.bind (.ref s.heap.objs.size)
      repeat (any_goals (first | assumption | wp_step))
      refine codeAny_mono (codeAny_call_builtin (R := wants (fun r s₂ => r = .none ∧ ∃ h' tk, s₂ = { s with heap := h', toks := tk } ∧ Post h') E) F.called_set.init.plain F.entry_set_init (check_set_init_1 hT ?_)) fun r₂ s₂ hr₂ => ?_
      · have walk : ∀ {A' : Around} {Q' : Value → Shared → Prop} {E' : Value → Shared → Prop}, codeAny (model P w) A'.in1 (.builtin "set.update.loop" ⟨[.ref s.heap.objs.size, .ref (s.heap.push (newSet w)).objs.size], []⟩) (LoopEnd s Post) { s with heap := (s.heap.push (newSet w)).push (srcO b l) } → True := fun _ => trivial
        cases b
        · obtain ⟨ol, hol, hcl, nl, hdl⟩ := (show s.heap.IsTuple l items from hl)
          obtain ⟨ocls, odict, odata, oslots⟩ := ol
          simp only at hcl hdl
          subst hcl; subst hdl
          have hol' : (s.heap.push (newSet w)).get? l = some { cls := .type "tuple", dict := odict, data := .seq items nl, slots := oslots } := Heap.get?_push_of_some _ hol
          have hsls := F.sub_tuple_set
          have hslf := F.sub_tuple_frozenset
          have hne : (Value.type "tuple" == Value.type "dict") = false := by decide
          have hl1 : (s.heap.push (newSet w)).IsTuple l items := ⟨_, hol', rfl, nl, rfl⟩
          unfold Builtin.«set.__init__» noKeywords Builtin.Frozenset.updateFrom
          generalize hPI : pyIter = PI
          wp_walk
          subst hPI
          refine wpAny_pyIter_tuple hl1 ?_
          refine wpAny_bind (wpAny_runValue ?_)
          refine codeAny_mono hloop fun r s' hr => ?_
          obtain ⟨rfl, h', tk, rfl, hp⟩ := hr
          show wpAny _ _ _ _ _ _
          refine wpAny_pure ?_
          show wpAny _ _ (ret Value.none) _ _ _
          exact wpAny_pure ⟨rfl, h', tk, rfl, hp⟩
        · obtain ⟨ol, hol, hcl, nl, hdl⟩ := (show s.heap.IsList l items from hl)
          obtain ⟨ocls, odict, odata, oslots⟩ := ol
          simp only at hcl hdl
          subst hcl; subst hdl
          have hol' : (s.heap.push (newSet w)).get? l = some { cls := .type "list", dict := odict, data := .seq items nl, slots := oslots } := Heap.get?_push_of_some _ hol
          have hsls := F.sub_list_set
          have hslf := F.sub_list_frozenset
          have hne : (Value.type "list" == Value.type "dict") = false := by decide
          have hl1 : (s.heap.push (newSet w)).IsList l items := ⟨_, hol', rfl, nl, rfl⟩
          unfold Builtin.«set.__init__» noKeywords Builtin.Frozenset.updateFrom
          generalize hPI : pyIter = PI
          wp_walk
          subst hPI
          refine wpAny_pyIter_list hl1 ?_
          refine wpAny_bind (wpAny_runValue ?_)
          refine codeAny_mono hloop fun r s' hr => ?_
          obtain ⟨rfl, h', tk, rfl, hp⟩ := hr
          show wpAny _ _ _ _ _ _
          refine wpAny_pure ?_
          show wpAny _ _ (ret Value.none) _ _ _
          exact wpAny_pure ⟨rfl, h', tk, rfl, hp⟩
      · cases r₂ with
        | error e => exact hr₂
        | ok fl₂ =>
          cases fl₂ with
          | ret r =>
            obtain ⟨rfl, h', tk, rfl, hp⟩ := hr₂
            repeat (any_goals (first | assumption | wp_step))
            exact h _ _ hp
          | _ => exact hr₂.elim
    | _ => exact hr.elim
end
end Lw

set_option Elab.async false
set_option linter.all false
set_option maxRecDepth 100000
set_option maxHeartbeats 6400000
/-! S6: sorted(a set of nested tuples). -/
namespace Lw
open PySem PySem.Spec PyProof.Rows L2

mutual
/-- no list, no dict within -/
def flatD : PyData → Bool
  | .list _ => false
  | .dict _ => false
  | .tuple xs => flatDs xs
  | _ => true
def flatDs : List PyData → Bool
  | [] => true
  | x :: xs => flatD x && flatDs xs
end
mutual
theorem reads_flat {h : Heap} : ∀ (d : PyData) (v : Value) (as : List Addr), flatD d = true → Reads h v d as → as = []
  | .none, _, _, _, r => by cases r; rfl
  | .bool _, _, _, _, r => by cases r; rfl
  | .int _, _, _, _, r => by cases r; rfl
  | .str _, _, _, _, r => by cases r; rfl
  | .list _, _, _, z, _ => by cases z
  | .dict _, _, _, z, _ => by cases z
  | .tuple xs, _, _, z, r => by
    cases r with
    | tuple h1 h2 h3 h4 => exact readsAll_flat xs _ _ z h4
theorem readsAll_flat {h : Heap} : ∀ (ds : List PyData) (vs : List Value) (as : List Addr), flatDs ds = true → ReadsAll h vs ds as → as = []
  | [], _, _, _, r => by cases r; rfl
  | d :: ds, _, _, z, r => by
    simp only [flatDs, Bool.and_eq_true] at z
    cases r with
    | cons r1 r2 => rw [reads_flat d _ _ z.1 r1, readsAll_flat ds _ _ z.2 r2]; rfl
end
def refOf (p : El) : Value := .ref p.1
theorem pairwise_of_map {α β : Type} {f : α → β} {l : List α} (h : (l.map f).Nodup) : l.Nodup := List.Pairwise.of_map f (fun _ _ hne e => hne (congrArg f e)) h
section
variable {P : Program} {w : World} {A : Around} {E : Value → Shared → Prop} {s : Shared} {a : Addr} {L : List El} {es : Array (Int × Value)} {ep : Nat} {t : SetTable}
/-- an address has one key -/
theorem NSet.one (R : NSet w s.heap a L es ep t) {p q : El} (hp : p ∈ L) (hq : q ∈ L) (e : p.1 = q.1) : p = q := by
  have a1 := R.keys p hp
  have a2 := R.keys q hq
  rw [e] at a1
  exact Prod.ext e (a1.inj a2)
theorem refs_of : ∀ {vs : List Value}, (∀ v ∈ vs, ∃ q ∈ L, v = refOf q) → ∃ L1 : List El, vs = L1.map refOf ∧ ∀ q ∈ L1, q ∈ L
  | [], _ => ⟨[], rfl, fun q h => nomatch h⟩
  | v :: vs, h => by
    obtain ⟨q, hq, e⟩ := h v List.mem_cons_self
    obtain ⟨L1, e1, h1⟩ := refs_of fun u hu => h u (List.mem_cons_of_mem _ hu)
    exact ⟨q :: L1, by rw [List.map_cons, e, e1], fun r hr => (List.mem_cons.mp hr).elim (fun z => by rw [z]; exact hq) (h1 r)⟩
theorem NSet.perm (R : NSet w s.heap a L es ep t) {L1 : List El} (hs : ∀ q ∈ L1, q ∈ L) (pm : (L1.map refOf).Perm (L.map refOf)) : L1.Perm L := by
  have nL : L.Nodup := pairwise_of_map R.nd
  have nref : (L.map refOf).Nodup := List.pairwise_map.mpr (List.Pairwise.imp_of_mem (fun {q r} hq hr hne e => by
    unfold refOf at e
    injection e with e
    exact hne (R.one hq hr e)) nL)
  have n1 : L1.Nodup := pairwise_of_map (pm.nodup_iff.mpr nref)
  refine (List.perm_ext_iff_of_nodup n1 nL).mpr fun q => ⟨hs q, fun hq => ?_⟩
  obtain ⟨r, hr, e⟩ := List.mem_map.mp (pm.mem_iff.mpr (List.mem_map.mpr ⟨q, hq, rfl⟩))
  unfold refOf at e
  injection e with e
  rw [← R.one (hs r hr) hq e]
  exact hr
theorem each_self (L' : List El) : PySem.W.EachIs (fun v (p : El) => v = refOf p) (L'.map refOf) L' := by
  induction L' with
  | nil => exact .nil
  | cons p L' ih => exact .cons rfl ih
theorem each_refs : ∀ {out : List Value} {bs : List El}, PySem.W.EachIs (fun v (p : El) => v = refOf p) out bs → out = bs.map refOf
  | _, _, .nil => rfl
  | _, _, .cons r h => by rw [List.map_cons, r, each_refs h]
theorem each_all {Rr : Value → El → Prop} : ∀ {L' : List El}, (∀ p ∈ L', Rr (refOf p) p) → PySem.W.EachIs Rr (L'.map refOf) L'
  | [], _ => .nil
  | p :: L', h => .cons (h p List.mem_cons_self) (each_all fun q hq => h q (List.mem_cons_of_mem _ hq))
theorem sorted_nset {Dt : El → PD} {Q : Value → Shared → Prop} (R : NSet w s.heap a L es ep t) (hh : A.handled = none) (hr : ∀ p ∈ L, Reads s.heap (refOf p) (Dt p) []) (hal : PySem.W.AllAlike (L.map Dt)) (hk : PySem.W.Sortable (L.map Dt)) (hu : ∀ p ∈ L, A.units + 2 + (Dt p).depth < cLine)
    (hQ : ∀ s' p (out : Array Value) (c : Nat) (L' : List El), (∀ b o, s.heap.get? b = some o → s'.heap.get? b = some o) → s'.gens = s.gens → s'.os = s.os → s.heap.objs.size ≤ p → s'.heap.get? p = some (seqObj "list" out c) →
      out.toList = (L'.mergeSort (PySem.W.dataLe false Dt)).map refOf → L'.Perm L → Q (.ref p) s') :
    wpAny (model P w) A (call (.builtin "sorted") [.ref a]) Q E s := by
  obtain ⟨o, ho, hex, hd⟩ := R.at_
  have hsz := R.size
  have hfew := R.few
  refine Calls.call_function_entry kind_sorted plain_sorted entry_sorted (args_sorted1 _) ?_
  unfold Builtin.«sorted»
  refine wpAny_bind (m := checkCount "sorted" 1 1 _) (wpAny_pure ?_)
  refine wpAny_bind (collect_set (A := A.in1) hh ⟨o, ho, hex.1, hd⟩ R.fits (by unfold scanBound; omega) R.tab.ris R.led fun s1 vs k1 hz g1 o1 pm => ?_)
  have hes : es.toList.map (·.2) = L.map refOf := by
    rw [R.rows, List.map_map]
    rfl
  rw [hes] at pm
  obtain ⟨L1, e1, hs1⟩ := refs_of (L := L) (vs := vs) fun v hv => by
    obtain ⟨q, hq, e⟩ := List.mem_map.mp (pm.mem_iff.mp hv)
    exact ⟨q, hq, e.symm⟩
  subst e1
  have pL := R.perm hs1 pm
  have hvl : (L1.map refOf).length < 64 := by rw [List.length_map, pL.length_eq]; exact hfew
  refine wpAny_bind (wpAny_newList ?_ (by rw [sizeLine_eq]; omega))
  have hoL : (s1.heap.push (seqObj "list" (L1.map refOf).toArray 0)).get? s1.heap.objs.size = some (seqObj "list" (L1.map refOf).toArray 0) := Heap.get?_push_size _ rfl
  refine wpAny_bind (wpAny_holding (PySem.W.list_sort_data (s := { s1 with heap := s1.heap.push (seqObj "list" (L1.map refOf).toArray 0) }) (enc := Dt) (bs := L1) (R := fun v p => v = refOf p) hoL (each_self L1) (each_all fun p hp => ?_) (fun d hd d' hd' => ?_) ?_ ?_ ?_ fun out a1 a2 => ?_))
  · exact ⟨[], Reads.keeps (fun b u e => Heap.get?_push_of_some _ (k1 b u e)) (hr p (hs1 p hp)), by simp⟩
  · exact hal d ((pL.map Dt).mem_iff.mp hd) d' ((pL.map Dt).mem_iff.mp hd')
  · rcases hk with h | h
    · exact .inl fun d hd => h d ((pL.map Dt).mem_iff.mp hd)
    · exact .inr fun d hd => h d ((pL.map Dt).mem_iff.mp hd)
  · rw [sizeLine_eq, pL.length_eq]; omega
  · intro p hp
    have := hu p (hs1 p hp)
    show A.in1.units + 1 + _ < _
    rw [Around.in1_units]
    omega
  · have e2 := each_refs a2
    obtain ⟨c, hc⟩ := sortedHeap_at (vs := L1.map refOf) (out := out.toArray) hoL
    refine wpAny_pure ⟨_, rfl, hQ _ s1.heap.objs.size out.toArray c L1 (fun b u e => ?_) g1 o1 hz hc (by simpa using e2) pL⟩
    have q := k1 b u e
    have hlt := Heap.lt_size q
    show (sortedHeap (s1.heap.push (seqObj "list" (L1.map refOf).toArray 0)) s1.heap.objs.size (L1.map refOf) out.toArray).get? b = some u
    rw [sortedHeap_old (Nat.ne_of_lt hlt) (by rw [size_push']; exact Nat.lt_succ_of_lt hlt)]
    exact Heap.get?_push_of_some _ q
end
end Lw

set_option Elab.async false
set_option linter.all false
set_option maxRecDepth 100000
set_option maxHeartbeats 2000000
/-! S7: sorting and leaving doubles out, as data. -/
namespace Lw
open PySem PySem.Spec PyProof.Rows

def leD (x y : PD) : Bool := PySem.W.dataLe false (fun d : PD => d) x y
theorem leD_eq (x y : PD) : leD x y = !W.dataLt y x := rfl
theorem insD_perm (x : PD) : ∀ l : List PD, (insD x l).Perm (x :: l)
  | [] => .refl _
  | y :: r => by
    unfold insD
    split
    · exact ((insD_perm x r).cons y).trans (List.Perm.swap x y r)
    · exact .refl _
theorem sortD_perm : ∀ l : List PD, (sortD l).Perm l
  | [] => .refl _
  | x :: r => (insD_perm x (sortD r)).trans ((sortD_perm r).cons x)
theorem leD_total (x y : PD) : leD x y = true ∨ leD y x = true := (PySem.W.sortLe_total (listOrd itemOrd) false fun d : PD => W.keyToks d).total x y
theorem leD_trans {x y z : PD} (h1 : leD x y = true) (h2 : leD y z = true) : leD x z = true := (PySem.W.sortLe_total (listOrd itemOrd) false fun d : PD => W.keyToks d).trans x y z h1 h2
theorem insD_sorted (x : PD) : ∀ l : List PD, l.Pairwise (fun a b => leD a b = true) → (insD x l).Pairwise (fun a b => leD a b = true)
  | [], _ => List.pairwise_singleton _ _
  | y :: r, h => by
    unfold insD
    obtain ⟨h1, h2⟩ := List.pairwise_cons.mp h
    split
    · rename_i c
      refine List.pairwise_cons.mpr ⟨fun z hz => ?_, insD_sorted x r h2⟩
      rcases List.mem_cons.mp ((insD_perm x r).mem_iff.mp hz) with e | hz
      · rw [e]
        rcases leD_total y x with q | q
        · exact q
        · rw [leD_eq, c] at q; cases q
      · exact h1 z hz
    · rename_i c
      have hx : leD x y = true := by
        rw [leD_eq]
        simpa using c
      refine List.pairwise_cons.mpr ⟨fun z hz => ?_, h⟩
      rcases List.mem_cons.mp hz with e | hz
      · rw [e]; exact hx
      · exact leD_trans hx (h1 z hz)
theorem sortD_sorted : ∀ l : List PD, (sortD l).Pairwise (fun a b => leD a b = true)
  | [] => .nil
  | x :: r => insD_sorted x (sortD r) (sortD_sorted r)
mutual
theorem eqv_keyI : ∀ (x y : PD), keyI x = true → keyI y = true → PyData.eqv x y = true → x = y
  | .int i, y, _, hy, h => by
    cases y <;> first | (cases hy; done) | skip
    · simp only [PyData.eqv, beq_iff_eq] at h; rw [h]
    · cases h
  | .tuple xs, y, hx, hy, h => by
    cases y <;> first | (cases hy; done) | skip
    · cases h
    · simp only [PyData.eqv] at h
      rw [eqvAll_keyI xs _ hx hy h]
  | .none, _, hx, _, _ => by cases hx
  | .bool _, _, hx, _, _ => by cases hx
  | .str _, _, hx, _, _ => by cases hx
  | .list _, _, hx, _, _ => by cases hx
  | .dict _, _, hx, _, _ => by cases hx
theorem eqvAll_keyI : ∀ (xs ys : List PD), keyIs xs = true → keyIs ys = true → PyData.eqvAll xs ys = true → xs = ys
  | [], [], _, _, _ => rfl
  | x :: xs, y :: ys, hx, hy, h => by
    simp only [keyIs, Bool.and_eq_true] at hx hy
    simp only [PyData.eqvAll, Bool.and_eq_true] at h
    rw [eqv_keyI x y hx.1 hy.1 h.1, eqvAll_keyI xs ys hx.2 hy.2 h.2]
  | [], _ :: _, _, _, h => by simp [PyData.eqvAll] at h
  | _ :: _, [], _, _, h => by simp [PyData.eqvAll] at h
end
mutual
theorem eqv_self : ∀ (x : PD), keyI x = true → PyData.eqv x x = true
  | .int i, _ => by simp [PyData.eqv]
  | .tuple xs, h => by simp only [PyData.eqv]; exact eqvAll_self xs h
  | .none, h => by cases h
  | .bool _, h => by cases h
  | .str _, h => by cases h
  | .list _, h => by cases h
  | .dict _, h => by cases h
theorem eqvAll_self : ∀ (xs : List PD), keyIs xs = true → PyData.eqvAll xs xs = true
  | [], _ => rfl
  | x :: xs, h => by
    simp only [keyIs, Bool.and_eq_true] at h
    simp only [PyData.eqvAll, eqv_self x h.1, eqvAll_self xs h.2, Bool.and_self]
end
theorem isIn_mem {x : PD} {l : List PD} (hx : keyI x = true) (hl : ∀ y ∈ l, keyI y = true) : isIn x l = true ↔ x ∈ l := by
  unfold isIn
  rw [List.any_eq_true]
  constructor
  · rintro ⟨y, hy, e⟩
    rw [← eqv_keyI y x (hl y hy) hx e]
    exact hy
  · intro h
    exact ⟨x, h, eqv_self x hx⟩
theorem dedD_spec : ∀ (l : List PD), (∀ y ∈ l, keyI y = true) → (dedD l).Nodup ∧ ∀ x, x ∈ dedD l ↔ x ∈ l
  | [], _ => ⟨List.nodup_nil, fun x => Iff.rfl⟩
  | x :: r, h => by
    obtain ⟨h1, h2⟩ := dedD_spec r fun y hy => h y (List.mem_cons_of_mem _ hy)
    have hk : ∀ y ∈ dedD r, keyI y = true := fun y hy => h y (List.mem_cons_of_mem _ ((h2 y).mp hy))
    have hi := isIn_mem (h x List.mem_cons_self) hk
    have e : dedD (x :: r) = if isIn x (dedD r) = true then dedD r else x :: dedD r := rfl
    rw [e]
    by_cases c : isIn x (dedD r) = true
    · rw [if_pos c]
      refine ⟨h1, fun z => ?_⟩
      rw [h2 z, List.mem_cons]
      constructor
      · exact .inr
      · rintro (e | e)
        · rw [e]; exact (h2 x).mp (hi.mp c)
        · exact e
    · rw [if_neg c]
      refine ⟨List.nodup_cons.mpr ⟨fun m => c (hi.mpr m), h1⟩, fun z => ?_⟩
      rw [List.mem_cons, List.mem_cons, h2 z]
mutual
/-- the keys of alike data tell them apart -/
theorem toks_inj : ∀ (x y : PD) (r r' : List (Int ⊕ List Nat)), keyI x = true → keyI y = true → W.alike x y = true → W.keyToks x ++ r = W.keyToks y ++ r' → x = y ∧ r = r'
  | .int i, y, r, r', _, hy, ha, h => by
    cases y <;> first | (cases hy; done) | skip
    · simp only [W.keyToks, List.cons_append, List.nil_append, List.cons.injEq, Sum.inl.injEq] at h
      exact ⟨by rw [h.1], h.2⟩
    · simp [W.alike] at ha
  | .tuple xs, y, r, r', hx, hy, ha, h => by
    cases y <;> first | (cases hy; done) | skip
    · simp [W.alike] at ha
    · simp only [W.keyToks] at h
      simp only [W.alike] at ha
      obtain ⟨e, e2⟩ := toksAll_inj xs _ r r' hx hy ha h
      exact ⟨by rw [e], e2⟩
  | .none, _, _, _, hx, _, _, _ => by cases hx
  | .bool _, _, _, _, hx, _, _, _ => by cases hx
  | .str _, _, _, _, hx, _, _, _ => by cases hx
  | .list _, _, _, _, hx, _, _, _ => by cases hx
  | .dict _, _, _, _, hx, _, _, _ => by cases hx
theorem toksAll_inj : ∀ (xs ys : List PD) (r r' : List (Int ⊕ List Nat)), keyIs xs = true → keyIs ys = true → W.alikeAll xs ys = true → W.keyToksAll xs ++ r = W.keyToksAll ys ++ r' → xs = ys ∧ r = r'
  | [], [], r, r', _, _, _, h => by
    simp only [W.keyToksAll, List.cons_append, List.nil_append, List.cons.injEq, true_and] at h
    exact ⟨rfl, h⟩
  | x :: xs, y :: ys, r, r', hx, hy, ha, h => by
    simp only [keyIs, Bool.and_eq_true] at hx hy
    simp only [W.alikeAll, Bool.and_eq_true] at ha
    simp only [W.keyToksAll, List.cons_append, List.cons.injEq, true_and, List.append_assoc] at h
    obtain ⟨e1, h2⟩ := toks_inj x y _ _ hx.1 hy.1 ha.1 h
    obtain ⟨e2, h3⟩ := toksAll_inj xs ys r r' hx.2 hy.2 ha.2 h2
    exact ⟨by rw [e1, e2], h3⟩
  | [], _ :: _, _, _, _, _, _, h => by simp [W.keyToksAll] at h
  | _ :: _, [], _, _, _, _, _, h => by simp [W.keyToksAll] at h
end
theorem leD_antisymm {x y : PD} (hx : keyI x = true) (hy : keyI y = true) (ha : W.alike x y = true) (h1 : leD x y = true) (h2 : leD y x = true) : x = y := by
  rw [leD_eq, Bool.not_eq_true'] at h1 h2
  have e : W.keyToks x = W.keyToks y := (listOrd itemOrd).total _ _ h2 h1
  exact (toks_inj x y [] [] hx hy ha (by rw [List.append_nil, List.append_nil, e])).1
/-- sorted, without doubles: whatever order they came in -/
theorem sorted_ded {l xs : List PD} (hn : l.Nodup) (hm : ∀ x, x ∈ l ↔ x ∈ xs) (hk : ∀ x ∈ xs, keyI x = true) (ha : allAlike xs = true) : l.mergeSort leD = sortD (dedD xs) := by
  obtain ⟨d1, d2⟩ := dedD_spec xs hk
  have p : l.Perm (dedD xs) := (List.perm_ext_iff_of_nodup hn d1).mpr fun x => (hm x).trans (d2 x).symm
  have mem : ∀ x, x ∈ l.mergeSort leD → x ∈ xs := fun x h => (hm x).mp ((List.mergeSort_perm l leD).mem_iff.mp h)
  refine List.Perm.eq_of_pairwise (le := fun a b => leD a b = true) (fun x y hx hy h1 h2 => ?_) ?_ (sortD_sorted _) (((List.mergeSort_perm l leD).trans p).trans (sortD_perm _).symm)
  · have hy' : y ∈ xs := (d2 y).mp ((sortD_perm _).mem_iff.mp hy)
    unfold allAlike at ha
    exact leD_antisymm (hk x (mem x hx)) (hk y hy') (List.all_eq_true.mp (List.all_eq_true.mp ha x (mem x hx)) y hy') h1 h2
  · exact List.pairwise_mergeSort (le := leD) (fun a b c => leD_trans) (fun a b => by
      rw [Bool.or_eq_true]
      exact leD_total a b) l
end Lw

set_option Elab.async false
set_option linter.all false
set_option maxRecDepth 100000
set_option maxHeartbeats 4000000
/-! S8: sorted(set(xs)), by values. -/
namespace Lw
open PySem PySem.Spec PyProof.Rows L2

mutual
theorem data_key : ∀ (d : PD), keyI d = true → (toKey d).data = d
  | .int i, _ => rfl
  | .tuple xs, h => by
    show PyData.tuple (NestedKey.datas (toKeys xs)) = _
    rw [datas_keys xs h]
  | .none, h => by cases h
  | .bool _, h => by cases h
  | .str _, h => by cases h
  | .list _, h => by cases h
  | .dict _, h => by cases h
theorem datas_keys : ∀ (ds : List PD), keyIs ds = true → NestedKey.datas (toKeys ds) = ds
  | [], _ => rfl
  | d :: ds, h => by
    simp only [keyIs, Bool.and_eq_true] at h
    show (toKey d).data :: NestedKey.datas (toKeys ds) = _
    rw [data_key d h.1, datas_keys ds h.2]
end
mutual
theorem key_noText : ∀ (d : PD), noText (toKey d) = true
  | .int i => rfl
  | .tuple xs => keys_noText xs
  | .none => rfl
  | .bool _ => rfl
  | .str _ => rfl
  | .list _ => rfl
  | .dict _ => rfl
theorem keys_noText : ∀ (ds : List PD), noTexts (toKeys ds) = true
  | [] => rfl
  | d :: ds => by
    show (noText (toKey d) && noTexts (toKeys ds)) = true
    rw [key_noText d, keys_noText ds]; rfl
end
mutual
theorem key_flat : ∀ (d : PD), keyI d = true → flatD d = true
  | .int i, _ => rfl
  | .tuple xs, h => keys_flat xs h
  | .none, h => rfl
  | .bool _, h => rfl
  | .str _, h => rfl
  | .list _, h => by cases h
  | .dict _, h => by cases h
theorem keys_flat : ∀ (ds : List PD), keyIs ds = true → flatDs ds = true
  | [], _ => rfl
  | d :: ds, h => by
    simp only [keyIs, Bool.and_eq_true] at h
    simp only [flatDs, key_flat d h.1, keys_flat ds h.2, Bool.and_self]
end
mutual
theorem nested_of {h : Heap} : ∀ (d : PD) (v : Value) (as : List Addr), keyI d = true → Reads h v d as → NestedIs h (toKey d) v
  | .int i, _, _, _, r => by cases r; exact .int _ _
  | .tuple xs, _, _, z, r => by
    cases r with
    | tuple h1 h2 h3 h4 => exact .tup h1 h2 h3 (nesteds_of xs _ _ z h4)
  | .none, _, _, z, _ => by cases z
  | .bool _, _, _, z, _ => by cases z
  | .str _, _, _, z, _ => by cases z
  | .list _, _, _, z, _ => by cases z
  | .dict _, _, _, z, _ => by cases z
theorem nesteds_of {h : Heap} : ∀ (ds : List PD) (vs : List Value) (as : List Addr), keyIs ds = true → ReadsAll h vs ds as → NestedAll h (toKeys ds) vs
  | [], _, _, _, r => by cases r; exact .nil
  | d :: ds, _, _, z, r => by
    simp only [keyIs, Bool.and_eq_true] at z
    cases r with
    | cons r1 r2 => exact .cons (nested_of d _ _ z.1 r1) (nesteds_of ds _ _ z.2 r2)
end
theorem setEl_tup {d : PD} (h : setEl d = true) : (∃ x r, d = .tuple (x :: r)) ∧ keyI d = true ∧ (toKey d).depth ≤ 8 ∧ d.depth ≤ 60 := by
  unfold setEl at h
  simp only [Bool.and_eq_true, decide_eq_true_eq] at h
  obtain ⟨⟨⟨h1, h2⟩, h3⟩, h4⟩ := h
  refine ⟨?_, h2, h3, h4⟩
  unfold nonemptyTup at h1
  split at h1
  · exact ⟨_, _, rfl⟩
  · cases h1
section
variable {X : Cx} {pins : List (Addr × Obj)} {σ : L2.St} {H : Hp} {s : Shared} {A : List Addr}
/-- the elements, as a set knows them -/
theorem els_of (I : Inv X pins σ H s) : ∀ {vs : List V} {its : List Value} {ds : List PD}, RpL X.K A H vs ds → Vals vs its → (∀ d ∈ ds, setEl d = true) →
    ∃ ks : List El, its = ks.map refOf ∧ (∀ p ∈ ks, NKey s.heap p.2 p.1 ∧ Reads s.heap (refOf p) p.2.data [] ∧ Rp X.K A H (.ref p.1) p.2.data ∧ p.2.data ∈ ds) ∧ ks.map (fun p => p.2.data) = ds
  | _, _, _, .nil, .nil, _ => ⟨[], rfl, (fun p h => nomatch h), rfl⟩
  | _, _, _, .cons (d := d) (ds := ds) rp rl, .cons rv rvs, hd => by
    obtain ⟨ks, e1, e2, e3⟩ := els_of I rl rvs fun d h => hd d (List.mem_cons_of_mem _ h)
    obtain ⟨⟨x, r, ed⟩, hk, h8, _⟩ := setEl_tup (hd d List.mem_cons_self)
    obtain ⟨as, rd⟩ := Dp.reads I d _ _ rp.dp rv
    have ha := reads_flat d _ as (key_flat d hk) rd
    subst ha
    have ni := nested_of d _ _ hk rd
    subst ed
    cases rp with
    | tup hq hr =>
      rename_i a xs
      cases rv
      refine ⟨(a, toKey (.tuple (x :: r))) :: ks, by rw [List.map_cons, e1]; rfl, fun p hp => ?_, by rw [List.map_cons, e3, data_key _ hk]⟩
      rcases List.mem_cons.mp hp with e | hp
      · subst e
        refine ⟨⟨ni, h8, key_noText _⟩, ?_, ?_, ?_⟩
        · rw [data_key _ hk]; exact rd
        · rw [data_key _ hk]; exact .tup hq hr
        · rw [data_key _ hk]; exact List.mem_cons_self
      · obtain ⟨k1, k2, k3, k4⟩ := e2 p hp
        exact ⟨k1, k2, k3, List.mem_cons_of_mem _ k4⟩
end
end Lw

set_option Elab.async false
set_option linter.all false
set_option maxRecDepth 100000
set_option maxHeartbeats 4000000
/-! S9: sorted(set(xs)), by values. -/
namespace Lw
open PySem PySem.Spec PyProof.Rows L2

section
variable {X : Cx} {pins : List (Addr × Obj)} {σ : L2.St} {H : Hp} {s : Shared} {A : List Addr}
/-- what set(xs) leaves -/
def SetPost (w : World) (h0 : Heap) (S : Addr) (ks : List El) (h' : Heap) : Prop := (∃ L es ep t, NSet w h' S L es ep t ∧ Took ks ks.length L) ∧ ∀ b o, h0.get? b = some o → h'.get? b = some o
theorem set_els {P : Program} {w : World} {Ar : Around} {E : Value → Shared → Prop} {b : Bool} {l : Addr} {items : Array Value} {ks : List El} {Q : Value → Shared → Prop} (hh : Ar.handled = none) (hl : srcIs b s.heap l items) (hi : items.toList = ks.map refOf) (hk : ∀ p ∈ ks, NKey s.heap p.2 p.1)
    (hf : ks.length < 64) (hu : Ar.units + 20 < cLine) (h : ∀ h' tk, SetPost w s.heap s.heap.objs.size ks h' → Q (.ref s.heap.objs.size) { s with heap := h', toks := tk }) :
    wpAny (model P w) Ar (call (.type "set") [.ref l]) Q E s := by
  have hsz : items.size = ks.length := by rw [← Array.length_toList, hi, List.length_map]
  have hlS : l < s.heap.objs.size := hl.lt
  have hz1 : (s.heap.push (newSet w)).objs.size = s.heap.objs.size + 1 := Heap.size_push ..
  have hne : l ≠ (s.heap.push (newSet w)).objs.size := by rw [hz1]; exact Nat.ne_of_lt (Nat.lt_succ_of_lt hlS)
  have hS : s.heap.objs.size ∉ [(s.heap.push (newSet w)).objs.size, l] := by
    rw [hz1]
    simp only [List.mem_cons, List.not_mem_nil, or_false, not_or]
    exact ⟨Nat.ne_of_lt (Nat.lt_succ_self _), Nat.ne_of_gt hlS⟩
  have none_of : ∀ c, s.heap.objs.size ≤ c → s.heap.get? c = none := fun c hc => by
    cases q : s.heap.get? c with
    | none => rfl
    | some o => exact absurd (Nat.lt_of_lt_of_le (Heap.lt_size q) hc) (Nat.lt_irrefl _)
  have hval : ∀ (i : Nat) (v : Value), items[i]? = some v → ∃ p, ks[i]? = some p ∧ v = .ref p.1 := fun i v hv => by
    have q : items.toList[i]? = some v := by rw [Array.getElem?_toList]; exact hv
    rw [hi, List.getElem?_map] at q
    cases hq : ks[i]? with
    | none => rw [hq] at q; cases q
    | some p =>
      rw [hq] at q
      exact ⟨p, rfl, (Option.some.inj q).symm⟩
  have hget : ((s.heap.push (newSet w)).push (srcO b l)).get? s.heap.objs.size = some (newSet w) := Heap.get?_push_of_some _ (Heap.get?_push_size _ rfl)
  have hh3 : Ar.in1.in1.in1.handled = none := by simp [hh]
  have old : ∀ c o, s.heap.get? c = some o → ((s.heap.push (newSet w)).push (srcO b l)).get? c = some o := fun c o e => Heap.get?_push_of_some _ (Heap.get?_push_of_some _ e)
  have fin : ∀ (s' : Shared) (L : List El) (es : Array (Int × Value)) (ep : Nat) (t : SetTable), s'.gens = s.gens → s'.drawn = s.drawn → s'.os = s.os → NSet w s'.heap s.heap.objs.size L es ep t → Took ks items.size L → (∀ b o, s.heap.get? b = some o → s'.heap.get? b = some o) → LoopEnd s (SetPost w s.heap s.heap.objs.size ks) (.ok (.ret .none)) s' := by
    intro s' L es ep t eg ed eo hN hT hkp
    obtain ⟨h', g2, d', tk', os'⟩ := s'
    simp only at eg ed eo
    subst eg ed eo
    rw [hsz] at hT
    exact ⟨rfl, h', tk', rfl, ⟨L, es, ep, t, hN, hT⟩, hkp⟩
  refine set_call b (SetPost w s.heap s.heap.objs.size ks) hl ?_ h
  cases b
  · have hl1 : (s.heap.push (newSet w)).IsTuple l items := (show s.heap.IsTuple l items from hl).push _
    exact updateN ((Walks.tuple hh3 _ l hne items).toS) s.heap.objs.size hS ks hsz hf hval s.heap hk (none_of _ (Nat.le_refl _)) (fun c hc => none_of c (by rw [List.mem_singleton.mp hc, hz1]; exact Nat.le_succ _))
      (by simp only [Around.in1_units]; omega) (items.size - 0) 0 _ (by omega) (Nat.zero_le _) ⟨⟨_, Heap.get?_push_size _ rfl, rfl, rfl⟩, hl1.push _⟩ old ⟨[], #[], 0, _, nset_new hget, ⟨(fun p h => nomatch h), (fun p h => by simp at h), Nat.le_refl _⟩⟩
      fun s' L es ep t hm hN hT hkp => fin s' L es ep t hm.gens hm.drawn hm.os hN hT hkp
  · have hl1 : (s.heap.push (newSet w)).IsList l items := (show s.heap.IsList l items from hl).push _
    exact updateN ((Walks.list hh3 _ l hne items).toS) s.heap.objs.size hS ks hsz hf hval s.heap hk (none_of _ (Nat.le_refl _)) (fun c hc => none_of c (by rw [List.mem_singleton.mp hc, hz1]; exact Nat.le_succ _))
      (by simp only [Around.in1_units]; omega) (items.size - 0) 0 _ (by omega) (Nat.zero_le _) ⟨⟨_, Heap.get?_push_size _ rfl, rfl, rfl⟩, hl1.push _⟩ old ⟨[], #[], 0, _, nset_new hget, ⟨(fun p h => nomatch h), (fun p h => by simp at h), Nat.le_refl _⟩⟩
      fun s' L es ep t hm hN hT hkp => fin s' L es ep t hm.gens hm.drawn hm.os hN hT hkp
end
end Lw

set_option Elab.async false
set_option linter.all false
set_option maxRecDepth 100000
set_option maxHeartbeats 4000000
/-! S10: sorted(set(xs)) as data. -/
namespace Lw
open PySem PySem.Spec PyProof.Rows L2

theorem rpl_of_map {K : PySem.W.Frag} {A : List Addr} {H : Hp} : ∀ {L : List El}, (∀ p ∈ L, Rp K A H (.ref p.1) p.2.data) → RpL K A H (L.map fun p => V.ref p.1) (L.map fun p => p.2.data)
  | [], _ => .nil
  | p :: L, h => .cons (h p List.mem_cons_self) (rpl_of_map fun q hq => h q (List.mem_cons_of_mem _ hq))
theorem vals_refs : ∀ (L : List El), Vals (L.map fun p => V.ref p.1) (L.map refOf)
  | [] => .nil
  | p :: L => .cons rfl (vals_refs L)
section
variable {X : Cx} {pins : List (Addr × Obj)} {σ : L2.St} {H : Hp} {s : Shared} {A : List Addr}
theorem sorted_set_val {b : Bool} {a : Addr} {vs : List V} {ds : List PD} {Q : VK} (I : Inv X pins σ H s) (hc : X.calm = true) (hu : X.A.units + 65 < cLine) (hq : srcSq X.K b H a vs) (rl : RpL X.K A H vs ds) (ok : setOk ds = true)
    (q : ∀ p us, H p = none → RpL X.K A H us (sortD (dedD ds)) → Q (.ref p) (upd H p (.lst us))) :
    wpAny (model X.prog X.w) X.A (call (.type "set") [.ref a]) (fun S s1 => wpAny (model X.prog X.w) X.A (call (.builtin "sorted") [S]) (EP X pins σ Q) X.xe s1) X.xe s := by
  unfold setOk at ok
  simp only [Bool.and_eq_true, decide_eq_true_eq] at ok
  obtain ⟨⟨o1, o2⟩, o3⟩ := ok
  have hel : ∀ d ∈ ds, setEl d = true := fun d hd => List.all_eq_true.mp o1 d hd
  obtain ⟨its, rv, p0, hl0, hz⟩ := src_inv I hq
  obtain ⟨ks, e1, e2, e3⟩ := els_of I rl rv hel
  have hlen : ks.length = ds.length := by rw [← e3, List.length_map]
  refine set_els (ks := ks) (I.ok.hd hc) p0 (by simpa using e1) (fun p hp => (e2 p hp).1) (by omega) (by omega) fun h' tk ⟨⟨L, es, ep, t, R, T⟩, kp⟩ => ?_
  have sub : ∀ p ∈ L, p ∈ ks := fun p hp => List.mem_of_mem_take (T.sub p hp)
  have kd : ∀ p ∈ ks, keyI p.2.data = true := fun p hp => (setEl_tup (hel _ (e2 p hp).2.2.2)).2.1
  have al : ∀ p ∈ ks, ∀ r ∈ ks, PySem.W.alike p.2.data r.2.data = true := fun p hp r hr => by
    unfold allAlike at o2
    exact List.all_eq_true.mp (List.all_eq_true.mp o2 _ (e2 p hp).2.2.2) _ (e2 r hr).2.2.2
  refine sorted_nset (s := { s with heap := h', toks := tk }) (Dt := fun p => p.2.data) R (I.ok.hd hc) (fun p hp => Reads.keeps kp (e2 p (sub p hp)).2.1) (fun d hd d' hd' => ?_) (.inl fun d hd => ?_) (fun p hp => ?_) fun s' p out c L' k g o hp hg hout pm => ?_
  · obtain ⟨x, hx, rfl⟩ := List.mem_map.mp hd
    obtain ⟨y, hy, rfl⟩ := List.mem_map.mp hd'
    exact al x (sub x hx) y (sub y hy)
  · obtain ⟨x, hx, rfl⟩ := List.mem_map.mp hd
    exact (setEl_tup (hel _ (e2 x (sub x hx)).2.2.2)).1
  · have := (setEl_tup (hel _ (e2 p (sub p hp)).2.2.2)).2.2.2
    omega
  · -- the data
    have subL' : ∀ p ∈ L', p ∈ ks := fun p hp => sub p (pm.mem_iff.mp hp)
    have dat : (L'.mergeSort (PySem.W.dataLe false fun p : El => p.2.data)).map (fun p => p.2.data) = sortD (dedD ds) := by
      have hm := List.map_mergeSort (r := PySem.W.dataLe false fun p : El => p.2.data) (s := leD) (f := fun p : El => p.2.data) (l := L') fun a _ b _ => rfl
      rw [hm]
      refine sorted_ded ?_ (fun x => ?_) (fun x hx => (setEl_tup (hel x hx)).2.1) o2
      · have nd : (L'.map (·.2)).Nodup := (pm.map (·.2)).nodup_iff.mpr R.nd
        have e4 : L'.map (fun p => p.2.data) = (L'.map (·.2)).map NestedKey.data := by rw [List.map_map]; rfl
        rw [e4]
        refine List.pairwise_map.mpr (List.Pairwise.imp_of_mem (fun {x y} hx hy hne e => hne ?_) nd)
        obtain ⟨px, hpx, rfl⟩ := List.mem_map.mp hx
        obtain ⟨py, hpy, rfl⟩ := List.mem_map.mp hy
        have n1 := (e2 px (subL' px hpx)).1
        have n2 := (e2 py (subL' py hpy)).1
        have r1 := (e2 px (subL' px hpx)).2.1
        have r2 := (e2 py (subL' py hpy)).2.1
        have m1 := nested_of _ _ _ (kd px (subL' px hpx)) r1
        have m2 := nested_of _ _ _ (kd py (subL' py hpy)) r2
        have f1 := NestedIs.inj _ _ _ n1.1 m1
        have f2 := NestedIs.inj _ _ _ n2.1 m2
        rw [f1, f2]
        have e' : px.2.data = py.2.data := e
        rw [e']
      · constructor
        · intro hx
          obtain ⟨px, hpx, rfl⟩ := List.mem_map.mp hx
          exact (e2 px (subL' px hpx)).2.2.2
        · intro hx
          rw [← e3] at hx
          obtain ⟨pk, hpk, rfl⟩ := List.mem_map.mp hx
          have hin := T.all pk (by rw [List.take_length]; exact hpk)
          obtain ⟨pl, hpl, el⟩ := List.mem_map.mp hin
          exact List.mem_map.mpr ⟨pl, pm.mem_iff.mpr hpl, by rw [el]⟩
    -- the list
    have hfew : L'.length < 64 := by rw [pm.length_eq]; exact R.few
    have hp' : s.heap.objs.size ≤ p := by
      refine Nat.le_trans ?_ hp
      have kk : ∀ b o, s.heap.get? b = some o → h'.get? b = some o := kp
      rcases Nat.lt_or_ge h'.objs.size s.heap.objs.size with z | z
      · exfalso
        obtain ⟨o, ho, _⟩ := R.at_
        have := Heap.lt_size ho
        exact absurd (Nat.lt_trans this z) (Nat.lt_irrefl _)
      · exact z
    have kall : ∀ b o, s.heap.get? b = some o → s'.heap.get? b = some o := fun b o e => k b o (kp b o e)
    have hn : H p = none := I.hok.fresh hp'
    have hv : Vals ((L'.mergeSort (PySem.W.dataLe false fun p : El => p.2.data)).map fun q => V.ref q.1) out.toList := by rw [hout]; exact vals_refs _
    have hlen2 : ((L'.mergeSort (PySem.W.dataLe false fun p : El => p.2.data)).map fun q => V.ref q.1).length ≤ sizeLine := by rw [List.length_map, List.length_mergeSort, sizeLine_eq]; omega
    have J : Inv X pins σ (upd H p (.lst ((L'.mergeSort (PySem.W.dataLe false fun p : El => p.2.data)).map fun q => V.ref q.1))) { s with heap := s'.heap, gens := s'.gens, drawn := s'.drawn, toks := s'.toks } :=
      I.call (ch := []) (Un.laid kall hp' hn) (I.hok.laid kall hp' ⟨hlen2, out.toList, c, hv, hg⟩) (by rw [g]; exact I.bare) (fun _ z => nomatch z)
    have e5 : s' = { s with heap := s'.heap, gens := s'.gens, drawn := s'.drawn, toks := s'.toks } := by
      cases s'
      cases s
      simp only at o
      cases o
      rfl
    rw [e5]
    refine ⟨.ref p, _, J, rfl, q p _ hn ?_⟩
    rw [← dat]
    exact rpl_of_map fun r hr => (e2 r (subL' r ((List.mergeSort_perm _ _).mem_iff.mp hr))).2.2.1
end
end Lw

set_option Elab.async false
set_option linter.all false
set_option maxRecDepth 100000
set_option maxHeartbeats 4000000
/-! S11: sorted(set(e)), the expression. -/
namespace Lw
open PySem PySem.Spec PyProof.Rows L2

section
variable {X : Cx} {T : TabX} {S : Sco} {k : Nat} {C : Callee} {Wx : WX} {pos pos2 p p2 : Pos} {ea : Expr} {es : List E}
theorem sd_sortedset (g : Gd X T S k C Wx) (h0 : S.hot = 0) (h1 : gloB S "sorted" = true) (h2 : gloB S "set" = true) (pa : PA X [ea] (tL (gx X T) Wx C es)) (hp : plainX ea = true) :
    PE X (.Call (.Name "sorted" p) [.Call (.Name "set" p2) [ea] [] pos2] [] pos) (tE (gx X T) Wx C (.bi .sortedset es)) := by
  refine ⟨fun pins s σ H Q I ⟨As, B, O, env, S', rst, fin⟩ => ?_⟩
  simp only [evE] at fin
  refine wpAny_Call_Name_kw (ld_blt I (g.glo h1).1 (g.st.bi _ (by decide)) boot_sorted ?_)
  refine PyProof.Rows.callWith_builtin1 (Calls.spliced_cons ?_) rfl rfl
  refine wpAny_Call_Name_kw (ld_blt I (g.glo h2).1 (g.st.bi _ (by decide)) PyProof.Rows.boot_set ?_)
  refine PyProof.Rows.callWith_type1 (thn (pa.run pos2 pins s σ H (fun vs H1 => ∃ ws S1 As1, Rst (gx X T) As1 B O H1 σ env S1 ∧ RpWs (gx X T) As1 B H1 vs ws ∧ Fin (gx X T) Wx B O σ env (fun As' H' => RpW (gx X T) As' B H') Q As1 H1 (biR .sortedset ws S1)) I ⟨As, B, O, env, S', rst, (Fin.bind fin).mono fun vs H1 ⟨ws, S1, As1, gr, r, q, f⟩ => ⟨ws, S1, As1, r, q, f⟩⟩) fun us s1 ⟨vs, H1, I1, r1, ws, S1, As1, r, q, f⟩ => ?_) (star_plain hp) rfl
  unfold biR at f
  simp only at f
  split at f
  · rename_i ds e
    have pv := paired_views r.cells q e
    cases ds with
    | nil => exact (show False from f).elim
    | cons d rr =>
      cases rr with
      | cons d2 rr => exact (show False from f).elim
      | nil =>
        obtain ⟨v, rfl, hv⟩ := pr1 pv
        have f2 : Fin (gx X T) Wx B O σ env (fun As' H' => RpW (gx X T) As' B H') Q As1 H1 (dR (bSortedset [d]) S1) := f
        have f2 : Fin (gx X T) Wx B O σ env (fun As' H' => RpW (gx X T) As' B H') Q As1 H1 (dR (match items? d with | some xs => if setOk xs then some (.list (sortD (dedD xs))) else none | none => none) S1) := f2
        cases hi : items? d with
        | none => rw [hi] at f2; exact f2.elim
        | some xs =>
          rw [hi] at f2
          simp only at f2
          split at f2
          · rename_i ok
            obtain ⟨a, us, rfl, h1, h2⟩ := hv.items hi
            cases r1 with
            | cons ru rn =>
              cases rn
              cases ru
              have src : ∃ b, srcSq X.K b H1 a us := by
                rcases h1 with ⟨h1, _⟩ | ⟨h1, _⟩
                · exact ⟨true, SqL.of h1⟩
                · exact ⟨false, h1⟩
              obtain ⟨b, hq⟩ := src
              refine thn (sorted_set_val I1 (g.calm h0) g.un hq h2 ok fun l us hn rl => f2 (.ref l) _ As1 (Gr.same (Same.upd hn)) (r.same (Same.upd hn)) (.d (Rp.newL r.cells.trk hn rl))) fun S s2 hS => ?_
              exact Calls.spliced_nil hS
          · exact f2.elim
  · exact f.elim
end
end Lw

set_option Elab.async false
set_option linter.all false
set_option maxRecDepth 100000
set_option maxHeartbeats 4000000
/-! F17: every expression that the check passes. -/
namespace Lw
open PySem PySem.Spec PyProof.Rows L2

theorem and3 {a b c : Bool} (h : (a && b && c) = true) : a = true ∧ b = true ∧ c = true := by
  simp only [Bool.and_eq_true] at h; exact ⟨h.1.1, h.1.2, h.2⟩
theorem and2 {a b : Bool} (h : (a && b) = true) : a = true ∧ b = true := by
  simp only [Bool.and_eq_true] at h; exact h
theorem ntt {t : Bool} {p : Prop} (h : (!t) = true) : t = true → p := by
  intro e; subst e; cases h
theorem const_rp {K : PySem.W.Frag} {x : Expr} {d : PD} {X : Cx} (h : vConst x = some d) : ∃ v, PE X x (tC v) ∧ ∀ A H, Rp K A H v d := by
  unfold vConst at h
  split at h <;> cases h
  · exact ⟨.non, pe_non, fun _ _ => .non⟩
  · exact ⟨.bl _, pe_bl, fun _ _ => .bl _⟩
  · exact ⟨.int _, pe_int, fun _ _ => .int _⟩
  · exact ⟨.str _, pe_str, fun _ _ => .str _⟩
section
variable {T : TabX} {k : Nat} {C : Callee}
theorem lc_iter_ok {N : List Str} {S : Sco} {kk : ItK} {x : Expr} {es : List E} {env : PySem.Env} (h : chkI T N S kk x es = true) : ∀ v, foldedSetIterable x env v = pure v := by
  have call : ∀ {f : Str} {ys : List Expr}, vCall x = some (f, ys) → ∀ v, foldedSetIterable x env v = pure v := fun e v => by
    obtain ⟨p, q, rfl⟩ := vCall_eq e
    rfl
  unfold chkI at h
  split at h
  · split at h
    · exact fold_plain (and2 h).1
    · split at h
      · exact call (by assumption)
      · cases h
    · split at h
      · exact call (by assumption)
      · cases h
    · cases h
  · split at h
    · exact call (by assumption)
    · cases h
  · split at h
    · exact call (by assumption)
    · cases h
  · cases h
mutual
theorem sdE : ∀ (e : E) (k : Nat) (C : Callee) (X : Cx) (S : Sco) (Wx : WX) (t : Bool) (x : Expr), Gd X T S k C Wx → chkE T X.N t S x e = true → PE X x (tE (gx X T) Wx C e) ∧ (t = true → PT X x (tT (gx X T) Wx C e))
  | .var i, k, C, X, S, Wx, t, x, g, h => by
    simp only [chkE] at h
    split at h
    · rename_i y e
      obtain ⟨p, rfl⟩ := vName_eq e
      have q := sd_var (pos := p) g h
      exact ⟨q, fun _ => st_of q fun _ => rfl⟩
    · cases h
  | .cst d, k, C, X, S, Wx, t, x, g, h => by
    simp only [chkE] at h
    obtain ⟨h1, h2⟩ := and2 h
    unfold conB at h2
    split at h2
    · rename_i c e
      obtain rfl := pdEq_eq _ _ h2
      obtain ⟨v, a, b⟩ := const_rp (K := X.K) (X := X) e
      exact ⟨sd_const a b, ntt h1⟩
    · cases h2
  | .gfn f, k, C, X, S, Wx, t, x, g, h => by
    simp only [chkE] at h
    split at h
    · rename_i y e
      obtain ⟨p, rfl⟩ := vName_eq e
      obtain ⟨h0, h⟩ := and2 h
      obtain ⟨h1, h2, h3⟩ := and3 h
      exact ⟨sd_gfn (pos := p) g (of_decide_eq_true h0) h2 h3, ntt h1⟩
    · cases h
  | .gcn d, k, C, X, S, Wx, t, x, g, h => by
    simp only [chkE] at h
    split at h
    · rename_i y e
      obtain ⟨p, rfl⟩ := vName_eq e
      obtain ⟨h1, h2, h3⟩ := and3 h
      exact ⟨sd_gcn (pos := p) g h2 h3, ntt h1⟩
    · cases h
  | .tup es, k, C, X, S, Wx, t, x, g, h => by
    simp only [chkE] at h
    split at h
    · rename_i xs e
      obtain ⟨j, p, rfl⟩ := vTup_eq e
      obtain ⟨h1, h2, h3⟩ := and3 h
      exact ⟨sd_tup (sdL es k C X S Wx xs g h3) (by simpa using h2), ntt h1⟩
    · cases h
  | .lst es, k, C, X, S, Wx, t, x, g, h => by
    simp only [chkE] at h
    split at h
    · rename_i xs e
      obtain ⟨p, rfl⟩ := vLst_eq e
      obtain ⟨h1, h2, h3⟩ := and3 h
      exact ⟨sd_lst (sdL es k C X S Wx xs g h3) (by simpa using h2), ntt h1⟩
    · cases h
  | .bin o a b, k, C, X, S, Wx, t, x, g, h => by
    simp only [chkE] at h
    split at h
    · rename_i y op z e
      obtain ⟨p, rfl⟩ := vBin_eq e
      obtain ⟨h1, h4⟩ := and2 h
      obtain ⟨h1, h3⟩ := and2 h1
      obtain ⟨h1, h2⟩ := and2 h1
      exact ⟨sd_bin (sdE a k C X S Wx false y g h3).1 (sdE b k C X S Wx false z g h4).1 (by simpa using h2), ntt h1⟩
    · cases h
  | .neg a, k, C, X, S, Wx, t, x, g, h => by
    simp only [chkE] at h
    split at h
    · rename_i y e
      obtain ⟨p, rfl⟩ := vNeg_eq e
      obtain ⟨h1, h2⟩ := and2 h
      exact ⟨sd_neg (sdE a k C X S Wx false y g h2).1, ntt h1⟩
    · cases h
  | .not a, k, C, X, S, Wx, t, x, g, h => by
    simp only [chkE] at h
    split at h
    · rename_i y e
      obtain ⟨p, rfl⟩ := vNot_eq e
      have ih := sdE a k C X S Wx t y g h
      exact ⟨sd_not ih.1, fun ht => st_not (ih.2 ht)⟩
    · cases h
  | .and es, k, C, X, S, Wx, t, x, g, h => by
    simp only [chkE] at h
    split at h
    · rename_i xs e
      obtain ⟨p, rfl⟩ := vAnd_eq e
      obtain ⟨h1, h2, h3⟩ := sdB es k C X S Wx t xs p g h
      exact ⟨h1, fun ht => (h3 ht).1.pt⟩
    · cases h
  | .or es, k, C, X, S, Wx, t, x, g, h => by
    simp only [chkE] at h
    split at h
    · rename_i xs e
      obtain ⟨p, rfl⟩ := vOr_eq e
      obtain ⟨h1, h2, h3⟩ := sdB es k C X S Wx t xs p g h
      exact ⟨h2, fun ht => (h3 ht).2.pt⟩
    · cases h
  | .cmp o a b, k, C, X, S, Wx, t, x, g, h => by
    simp only [chkE] at h
    split at h
    · rename_i y op z e
      obtain ⟨p, rfl⟩ := vCmp_eq e
      obtain ⟨h1, h4⟩ := and2 h
      obtain ⟨h1, h3⟩ := and2 h1
      obtain ⟨h1, h2⟩ := and2 h1
      have i1 := (sdE a k C X S Wx false y g h3).1
      have i2 := (sdE b k C X S Wx false z g h4).1
      have m : behindInMarks op z = false := by simpa using h2
      exact ⟨sd_cmp g i1 i2 (by simpa using h1) m, fun _ => st_cmp g i1 i2 (by simpa using h1) m⟩
    · cases h
  | .chain o1 o2 a b c, k, C, X, S, Wx, t, x, g, h => by
    simp only [chkE] at h
    split at h
    · rename_i y op z oq u e
      obtain ⟨p, rfl⟩ := vChain_eq e
      obtain ⟨h1, h6⟩ := and2 h
      obtain ⟨h1, h5⟩ := and2 h1
      obtain ⟨h1, h4⟩ := and2 h1
      obtain ⟨h1, h3⟩ := and2 h1
      obtain ⟨h1, h2⟩ := and2 h1
      have i1 := (sdE a k C X S Wx false y g h4).1
      have i2 := (sdE b k C X S Wx false z g h5).1
      have i3 := (sdE c k C X S Wx false u g h6).1
      have m : lastMarks [op, oq] [z, u] = false := by simpa using h3
      exact ⟨sd_chain g i1 i2 i3 (by simpa using h1) (by simpa using h2) m, fun _ => st_chain g i1 i2 i3 (by simpa using h1) (by simpa using h2) m⟩
    · cases h
  | .ite c a b, k, C, X, S, Wx, t, x, g, h => by
    simp only [chkE] at h
    split at h
    · rename_i y z u e
      obtain ⟨p, rfl⟩ := vIf_eq e
      obtain ⟨h1, h4⟩ := and2 h
      obtain ⟨h1, h3⟩ := and2 h1
      obtain ⟨h1, h2⟩ := and2 h1
      exact ⟨sd_ite ((sdE c k C X S Wx true y g h2).2 rfl) (sdE a k C X S Wx false z g h3).1 (sdE b k C X S Wx false u g h4).1, ntt h1⟩
    · cases h
  | .sub a i, k, C, X, S, Wx, t, x, g, h => by
    simp only [chkE] at h
    split at h
    · rename_i y z e
      obtain ⟨p, rfl⟩ := vSub_eq e
      obtain ⟨h1, h2, h3⟩ := and3 h
      have q := sd_sub (pos := p) (sdE a k C X S Wx false y g h2).1 (sdE i k C X S Wx false z g h3).1 h1
      exact ⟨q, fun _ => st_of q fun _ => rfl⟩
    · cases h
  | .slc a lo hi, k, C, X, S, Wx, t, x, g, h => by
    simp only [chkE] at h
    split at h
    · rename_i y l r e
      obtain ⟨p, q, rfl⟩ := vSlc_eq e
      obtain ⟨h1, h4⟩ := and2 h
      obtain ⟨h1, h3⟩ := and2 h1
      obtain ⟨h1, h2⟩ := and2 h1
      exact ⟨sd_slc (sdE a k C X S Wx false y g h2).1 (sdO lo k C X S Wx l g h3) (sdO hi k C X S Wx r g h4), ntt h1⟩
    · cases h
  | .call f args, k, C, X, S, Wx, t, x, g, h => by
    simp only [chkE] at h
    split at h
    · rename_i y xs e
      obtain ⟨p, q, rfl⟩ := vCall_eq e
      obtain ⟨h0, h⟩ := and2 h
      obtain ⟨h1, h2, h3⟩ := and3 h
      have r := sd_call (p := p) (pos := q) g (of_decide_eq_true h0) h1 h2 (sdL args k C X S Wx xs g h3) (chkL_plain h3) (fun e => by
        subst e
        cases args with
        | nil => rfl
        | cons a as => simp [chkL] at h3)
      exact ⟨r, fun _ => st_of r fun _ => rfl⟩
    · cases h
  | .bi b args, k, C, X, S, Wx, t, x, g, h => by
    simp only [chkE] at h
    replace h := Bool.or_eq_true_iff.mp h
    rcases h with h | h
    replace h := Bool.or_eq_true_iff.mp h
    rcases h with h | h
    split at h
    · rename_i y xs e
      obtain ⟨p, q, rfl⟩ := vCall_eq e
      obtain ⟨h1, h4⟩ := and2 h
      obtain ⟨h1, h3⟩ := and2 h1
      obtain ⟨h1, h2⟩ := and2 h1
      obtain ⟨h0, h1⟩ := and2 h1
      have h0 : S.hot = 0 := of_decide_eq_true h0
      have hbn : biNm b = some y := by simpa using h1
      cases xs with
      | nil => simp at h3
      | cons z zs =>
        have r := sd_bi (p := p) (pos := q) g h0 hbn h2 (sdL args k C X S Wx (z :: zs) g h4) (chkL_plain h4)
        exact ⟨r, fun _ => st_of r fun _ => rfl⟩
    · cases h
    split at h
    · rename_i f z y e
      obtain ⟨p, q, r, u, rfl⟩ := vSS_eq e
      obtain ⟨h, h7⟩ := and2 h
      obtain ⟨h, h6⟩ := and2 h
      obtain ⟨h, h5⟩ := and2 h
      obtain ⟨h, h4⟩ := and2 h
      obtain ⟨h, h3⟩ := and2 h
      obtain ⟨h, h2⟩ := and2 h
      obtain ⟨h0, h1⟩ := and2 h
      have h1 : b = .sortedset := by simpa using h1
      have h2 : f = "sorted" := by simpa using h2
      have h3 : z = "set" := by simpa using h3
      subst h1 h2 h3
      exact ⟨sd_sortedset g (of_decide_eq_true h0) h4 h5 (sdL args k C X S Wx [y] g h7) (chkL_plain h7 y List.mem_cons_self), ntt h6⟩
    · cases h
    split at h
    · rename_i c y e
      obtain ⟨j, q, p1, p2, rfl, hl⟩ := vJoin_eq e
      obtain ⟨h, h3⟩ := and2 h
      obtain ⟨h1, h2⟩ := and2 h
      have h1 : b = .join := by simpa using h1
      subst h1
      exact ⟨sdJ args k C X S Wx c y j q p1 p2 g hl h3, ntt h2⟩
    · cases h
  | .isi a ty, k, C, X, S, Wx, t, x, g, h => by
    simp only [chkE] at h
    split at h
    · rename_i y z u e
      obtain ⟨p, q, rfl⟩ := vCall_eq e
      split at h
      · rename_i v e2
        obtain ⟨r, rfl⟩ := vName_eq e2
        replace h := Bool.or_eq_true_iff.mp h
        rcases h with h | h
        · split at h
          · rename_i cc subs i n e3
            obtain ⟨q2, rfl⟩ := vName_eq e3
            obtain ⟨h0, h⟩ := and2 h
            obtain ⟨h, k5⟩ := and2 h
            obtain ⟨h, k4⟩ := and2 h
            obtain ⟨h, k3⟩ := and2 h
            obtain ⟨k1, k2⟩ := and2 h
            have r := sd_isx (p := p) (pos := q) (q := q2) (r := r) g (of_decide_eq_true h0) k1 (of_decide_eq_true k3) k4 (hclB_mem k2) k5
            exact ⟨r, fun _ => st_of r fun _ => rfl⟩
          · cases h
        obtain ⟨h1, h6⟩ := and2 h
        obtain ⟨h1, h5⟩ := and2 h1
        obtain ⟨h1, h4⟩ := and2 h1
        obtain ⟨h1, h3⟩ := and2 h1
        obtain ⟨h1, h2⟩ := and2 h1
        have r := sd_isi (p := p) (pos := q) (q := r) g (by simpa using h1) h2 (by simpa using h3) h4 (sdE a k C X S Wx false z g h6).1 h5
        exact ⟨r, fun _ => st_of r fun _ => rfl⟩
      · cases h
    · cases h
  | .lc elt tg kk srcs conds own, k, C, X, S, Wx, t, x, g, h => by
    simp only [chkE] at h
    split at h
    · rename_i ee et ei ifs scope e
      obtain ⟨p, rfl⟩ := vLc_eq e
      obtain ⟨h1, h8⟩ := and2 h
      obtain ⟨h1, h7⟩ := and2 h1
      obtain ⟨h1, h6⟩ := and2 h1
      obtain ⟨h1, h5⟩ := and2 h1
      obtain ⟨h1, h4⟩ := and2 h1
      obtain ⟨h1, h3⟩ := and2 h1
      obtain ⟨h0, h2⟩ := and2 h1
      obtain ⟨h0, hnt⟩ := and2 h0
      have hgo : ∀ i ∈ tgSlots tg, i ∈ own := fun i hi => by
        have := List.all_eq_true.mp h6 i hi
        simpa using this
      by_cases hS : S.hot = 0
      rotate_left
      · rw [decide_eq_false hS, Bool.false_or] at h0
        obtain ⟨hS1, hk⟩ := and2 h0
        have hS1 : S.hot = 1 := of_decide_eq_true hS1
        cases kk with
        | seq =>
          have hx := sdX srcs k C X S Wx ei g h3
          obtain ⟨a, rfl, ha, h1', hpl⟩ := hx
          refine ⟨(sd_lcX g hS1 (by rw [g.hs]; exact h2) (si_seqX (sl_cons ha sl_nil hpl) ha) (lc_iter_ok h3) (fun s H C' cl fp hh => ?_) hgo (fun s H C' cl fp hh => ?_) (fun s H C' cl fp hh => ?_)).impL (fun σ H Q q => tE_tEF q ev_lc_list), ntt hnt⟩
          · exact sd_tg own (g.blk s H C' cl fp (fun _ => hh)) tg et h5
          · exact sdC conds k C (X.blk s H scope (compEnvC scope cl C' X.env) fp) (blkS S scope) (fun _ _ _ _ => False) ifs (g.blk s H C' cl fp (fun _ => hh)) h7
          · exact (sdE elt k C (X.blk s H scope (compEnvC scope cl C' X.env) fp) (blkS S scope) (fun _ _ _ _ => False) false ee (g.blk s H C' cl fp (fun _ => hh)) h8).1
        | _ => cases hk
      refine ⟨(sd_lc g hS (by rw [g.hs]; exact h2) (sdI srcs k C true X S Wx kk et ei g h3 h4) (lc_iter_ok h3) (fun s H C' cl fp => ?_) (fun i hi => ?_) (fun s H C' cl fp => ?_) (fun s H C' cl fp => ?_)).impL (fun σ H Q q => tE_tEF q ev_lc_list), ntt hnt⟩
      · exact sd_tg own (g.blk s H C' cl fp (fun z => absurd hS z)) tg et h5
      · have := List.all_eq_true.mp h6 i hi
        simpa using this
      · exact sdC conds k C (X.blk s H scope (compEnvC scope cl C' X.env) fp) (blkS S scope) (fun _ _ _ _ => False) ifs (g.blk s H C' cl fp (fun z => absurd hS z)) h7
      · exact (sdE elt k C (X.blk s H scope (compEnvC scope cl C' X.env) fp) (blkS S scope) (fun _ _ _ _ => False) false ee (g.blk s H C' cl fp (fun z => absurd hS z)) h8).1
    · cases h
  | .cell es, k, C, X, S, Wx, t, x, g, h => by
    simp only [chkE] at h
    split at h
    · rename_i xs e
      obtain ⟨p, rfl⟩ := vLst_eq e
      obtain ⟨h1, h2, h3⟩ := and3 h
      exact ⟨sd_cell (sdL es k C X S Wx xs g h3) (by simpa using h2), ntt h1⟩
    · cases h
  | .bad, k, C, X, S, Wx, t, x, g, h => ⟨sd_bad, fun _ => st_bad⟩
  | .lcall f b, k, C, X, S, Wx, t, x, g, h => by
    simp only [chkE] at h
    split at h
    · rename_i y xb scope e
      obtain ⟨p, q, r, rfl⟩ := vLam_eq e
      obtain ⟨h0, h⟩ := and2 h
      obtain ⟨hl, h⟩ := and2 h
      obtain ⟨h, h4⟩ := and2 h
      obtain ⟨h, h3⟩ := and2 h
      obtain ⟨h1, h2⟩ := and2 h
      have h0 : S.hot = 0 := of_decide_eq_true h0
      obtain ⟨g1, g2, g3⟩ := g.glo h2
      have R := (g.tab h0).lm f y (lfnB_mem h1) X T b Wx xb scope p q r rfl rfl rfl rfl (g.calm h0) (g.room h0) (g.lam hl) g1 (by rw [g.hs]; exact LamX.lamS_by h3) g2
        (fun j hj A outer s H E f c' hr => (sdE b j (evF T.P j) (LamX.lamCxN X A outer s H E scope f c') (lamSc scope) (fun cls d _ H => E cls d H) false xb (g.lamCx h0 (by omega) hr) h4).1)
      exact ⟨R, fun _ => st_of R fun _ => rfl⟩
    · cases h
  | .rev a, k, C, X, S, Wx, t, x, g, h => by
    simp only [chkE] at h
    split at h
    · rename_i y e
      obtain ⟨k1, p1, p2, p3, pos, rfl⟩ := vRev_eq e
      obtain ⟨h1, h2⟩ := and2 h
      exact ⟨sd_rev (sdE a k C X S Wx false y g h2).1, ntt h1⟩
    · cases h
  | .callv _ _, _, _, _, _, _, _, _, _, h => by simp [chkE] at h
  | .lc2 _ _ _ _ _ _ _ _ _ _, _, _, _, _, _, _, _, _, h => by simp [chkE] at h
  | .lam _ _, _, _, _, _, _, _, _, _, h => by simp [chkE] at h
  | .lim _, _, _, _, _, _, _, _, _, h => by simp [chkE] at h
  | .dct _, _, _, _, _, _, _, _, _, h => by simp [chkE] at h
  | .kv _ _, _, _, _, _, _, _, _, _, h => by simp [chkE] at h
  | .star _, _, _, _, _, _, _, _, _, h => by simp [chkE] at h
theorem sdX : ∀ (es : List E) (k : Nat) (C : Callee) (X : Cx) (S : Sco) (Wx : WX) (x : Expr), Gd X T S k C Wx → chkI T X.N S .seq x es = true → ∃ a, es = [a] ∧ PE X x (tE (gx X T) Wx C a) ∧ chkI T X.N S .seq x [a] = true ∧ plainX x = true
  | [], k, C, X, S, Wx, x, g, h => by simp [chkI] at h
  | [a], k, C, X, S, Wx, x, g, h => by
    have h' := h
    simp only [chkI] at h
    obtain ⟨h1, h2⟩ := and2 h
    exact ⟨a, rfl, (sdE a k C X S Wx false x g h2).1, h', h1⟩
  | a :: b :: es, k, C, X, S, Wx, x, g, h => by
    cases es with
    | nil =>
      simp only [chkI] at h
      split at h
      · simp at h
      · cases h
    | cons c es =>
      cases es with
      | nil =>
        simp only [chkI] at h
        split at h
        · simp at h
        · cases h
      | cons d es => simp [chkI] at h
theorem sdJ : ∀ (es : List E) (k : Nat) (C : Callee) (X : Cx) (S : Sco) (Wx : WX) (c : Str) (y : Expr) (j : Nat) (q p1 p2 : Pos), Gd X T S k C Wx → (p1.endLine == p2.line) = true → chkJ T X.N S c y es = true → PE X (.Call (.Attribute (.Constant (.str c) j q) "join" p1) [y] [] p2) (tE (gx X T) Wx C (.bi .join es))
  | [], k, C, X, S, Wx, c, y, j, q, p1, p2, g, hl, h => by simp [chkJ] at h
  | [a], k, C, X, S, Wx, c, y, j, q, p1, p2, g, hl, h => by simp [chkJ] at h
  | [a, e], k, C, X, S, Wx, c, y, j, q, p1, p2, g, hl, h => by
    simp only [chkJ] at h
    obtain ⟨h1, h2, h3⟩ := and3 h
    unfold isStrC at h1
    split at h1
    · have h1 := of_decide_eq_true h1
      subst h1
      exact sd_join (sdE e k C X S Wx false y g h3).1 h2 hl
    · cases h1
  | a :: b :: c' :: es, k, C, X, S, Wx, c, y, j, q, p1, p2, g, hl, h => by simp [chkJ] at h
theorem sdL : ∀ (es : List E) (k : Nat) (C : Callee) (X : Cx) (S : Sco) (Wx : WX) (xs : List Expr), Gd X T S k C Wx → chkL T X.N S xs es = true → PA X xs (tL (gx X T) Wx C es)
  | [], k, C, X, S, Wx, xs, g, h => by
    cases xs with
    | nil => exact sl_nil
    | cons x xs => simp [chkL] at h
  | e :: es, k, C, X, S, Wx, xs, g, h => by
    cases xs with
    | nil => simp [chkL] at h
    | cons x xs =>
      simp only [chkL] at h
      obtain ⟨h1, h2, h3⟩ := and3 h
      exact sl_cons (sdE e k C X S Wx false x g h2).1 (sdL es k C X S Wx xs g h3) h1
theorem sdB : ∀ (es : List E) (k : Nat) (C : Callee) (X : Cx) (S : Sco) (Wx : WX) (t : Bool) (xs : List Expr) (pos : Pos), Gd X T S k C Wx → chkB T X.N t S xs es = true →
    PE X (.BoolOp .And xs pos) (tE (gx X T) Wx C (.and es)) ∧ PE X (.BoolOp .Or xs pos) (tE (gx X T) Wx C (.or es)) ∧ (t = true → PW X (.BoolOp .And xs pos) (tT (gx X T) Wx C (.and es)) ∧ PW X (.BoolOp .Or xs pos) (tT (gx X T) Wx C (.or es)))
  | [], k, C, X, S, Wx, t, xs, pos, g, h => by
    cases xs with
    | nil => simp [chkB] at h
    | cons x xs => cases xs <;> simp [chkB] at h
  | e :: es, k, C, X, S, Wx, t, xs, pos, g, h => by
    cases xs with
    | nil => cases es <;> simp [chkB] at h
    | cons x xs =>
      cases es with
      | nil =>
        cases xs with
        | nil =>
          simp only [chkB] at h
          have ih := sdE e k C X S Wx t x g h
          exact ⟨sd_and1 ih.1, sd_or1 ih.1, fun ht => ⟨sw_and1 (ih.2 ht), sw_or1 (ih.2 ht)⟩⟩
        | cons y ys =>
          simp [chkB] at h
      | cons e2 es =>
        cases xs with
        | nil => simp [chkB] at h
        | cons y ys =>
          have h : (chkE T X.N t S x e && chkB T X.N t S (y :: ys) (e2 :: es)) = true := by simpa [chkB] using h
          obtain ⟨h1, h2⟩ := and2 h
          have ih := sdE e k C X S Wx t x g h1
          obtain ⟨a, b, c⟩ := sdB (e2 :: es) k C X S Wx t (y :: ys) pos g h2
          exact ⟨sd_and ih.1 a, sd_or ih.1 b, fun ht => ⟨sw_and (ih.2 ht) (c ht).1, sw_or (ih.2 ht) (c ht).2⟩⟩
theorem sdO : ∀ (es : List E) (k : Nat) (C : Callee) (X : Cx) (S : Sco) (Wx : WX) (o : Option Expr), Gd X T S k C Wx → chkO T X.N S o es = true → PO X o (tO (gx X T) Wx C es)
  | [], k, C, X, S, Wx, o, g, h => by
    cases o with
    | none => exact so_none
    | some x => simp [chkO] at h
  | e :: es, k, C, X, S, Wx, o, g, h => by
    cases o with
    | none => simp [chkO] at h
    | some x =>
      cases es with
      | cons e2 es => simp [chkO] at h
      | nil =>
        simp only [chkO] at h
        exact so_some (sdE e k C X S Wx false x g h).1
theorem sdC : ∀ (es : List E) (k : Nat) (C : Callee) (X : Cx) (S : Sco) (Wx : WX) (xs : List Expr), Gd X T S k C Wx → chkC T X.N S xs es = true → PTs X xs (tCs (gx X T) Wx C es)
  | [], k, C, X, S, Wx, xs, g, h => by
    cases xs with
    | nil => exact sc_nil
    | cons x xs => cases xs <;> simp [chkC] at h
  | e :: es, k, C, X, S, Wx, xs, g, h => by
    cases xs with
    | nil => cases es <;> simp [chkC] at h
    | cons x xs =>
      cases xs with
      | cons y ys => cases es <;> simp [chkC] at h
      | nil =>
        cases es with
        | cons e2 es => simp [chkC] at h
        | nil =>
          simp only [chkC] at h
          exact sc_one ((sdE e k C X S Wx true x g h).2 rfl)
theorem sdI : ∀ (es : List E) (k : Nat) (C : Callee) (m : Bool) (X : Cx) (S : Sco) (Wx : WX) (kk : ItK) (tg x : Expr), Gd X T S k C Wx → chkI T X.N S kk x es = true → (match kk with | .zip2 | .zip3 | .enum => isTup tg | _ => true) = true → PI X tg x (tI (gx X T) Wx C m kk es)
  | [], k, C, m, X, S, Wx, kk, tg, x, g, h, ht => by simp [chkI] at h
  | [a], k, C, m, X, S, Wx, kk, tg, x, g, h, ht => by
    simp only [chkI] at h
    split at h
    · obtain ⟨h1, h2⟩ := and2 h
      have ih := (sdE a k C X S Wx false x g h2).1
      exact si_seq (sl_cons ih sl_nil h1) ih
    · split at h
      · rename_i f y e
        obtain ⟨p, q, rfl⟩ := vCall_eq e
        obtain ⟨h1, h4⟩ := and2 h
        obtain ⟨h1, h3⟩ := and2 h1
        obtain ⟨h1, h2⟩ := and2 h1
        have hf : f = "range" := by simpa using h1
        subst hf
        exact si_rng1 g h2 (sl_cons (sdE a k C X S Wx false y g h4).1 sl_nil h3) h3
      · cases h
    · split at h
      · rename_i f y e
        obtain ⟨p, q, rfl⟩ := vCall_eq e
        obtain ⟨h1, h4⟩ := and2 h
        obtain ⟨h1, h3⟩ := and2 h1
        obtain ⟨h1, h2⟩ := and2 h1
        have hf : f = "enumerate" := by simpa using h1
        subst hf
        cases tg with
        | Tuple es kk2 p2 => exact si_enum g h2 (sl_cons (sdE a k C X S Wx false y g h4).1 sl_nil h3) h3
        | _ => simp [isTup] at ht
      · cases h
    · cases h
  | [a, b], k, C, m, X, S, Wx, kk, tg, x, g, h, ht => by
    simp only [chkI] at h
    split at h
    · rename_i f y z e
      obtain ⟨p, q, rfl⟩ := vCall_eq e
      obtain ⟨h1, h6⟩ := and2 h
      obtain ⟨h1, h5⟩ := and2 h1
      obtain ⟨h1, h4⟩ := and2 h1
      obtain ⟨h1, h3⟩ := and2 h1
      obtain ⟨h1, h2⟩ := and2 h1
      have pa := sl_cons (sdE a k C X S Wx false y g h5).1 (sl_cons (sdE b k C X S Wx false z g h6).1 sl_nil h4) h3
      split at h1
      · have hf : f = "range" := by simpa using h1
        subst hf
        exact si_rng2 g h2 pa h3 h4
      · have hf : f = "zip" := by simpa using h1
        subst hf
        cases tg with
        | Tuple es kk2 p2 => exact si_zip2 g h2 pa h3 h4
        | _ => simp [isTup] at ht
      · cases h1
    · cases h
  | [a, b, c], k, C, m, X, S, Wx, kk, tg, x, g, h, ht => by
    simp only [chkI] at h
    split at h
    · rename_i f y z u e
      obtain ⟨p, q, rfl⟩ := vCall_eq e
      obtain ⟨h1, h8⟩ := and2 h
      obtain ⟨h1, h7⟩ := and2 h1
      obtain ⟨h1, h6⟩ := and2 h1
      obtain ⟨h1, h5⟩ := and2 h1
      obtain ⟨h1, h4⟩ := and2 h1
      obtain ⟨h1, h3⟩ := and2 h1
      obtain ⟨h1, h2⟩ := and2 h1
      have pa := sl_cons (sdE a k C X S Wx false y g h6).1 (sl_cons (sdE b k C X S Wx false z g h7).1 (sl_cons (sdE c k C X S Wx false u g h8).1 sl_nil h5) h4) h3
      split at h1
      · have hf : f = "zip" := by simpa using h1
        subst hf
        cases tg with
        | Tuple es kk2 p2 => exact si_zip3 g h2 pa h3 h4 h5
        | _ => simp [isTup] at ht
      · cases h1
    · cases h
  | a :: b :: c :: d :: es, k, C, m, X, S, Wx, kk, tg, x, g, h, ht => by simp [chkI] at h
end
end
end Lw

set_option Elab.async false
set_option linter.all false
set_option maxRecDepth 100000
set_option maxHeartbeats 4000000
/-! F18: the state of a def's body; what its statements owe. -/
namespace Lw
open PySem PySem.Spec PyProof.Rows L2

/-- the frame, entered at H0 (the cells As0, what the callers own B0), now at H -/
structure Fr (G : Gc) (As0 B0 : List Addr) (H0 : Hp) (As B : List Addr) (O : Nat → Option Addr) (H : Hp) (σ : L2.St) (env : Env) (S : Cells) : Prop where
  gr : Gr As0 As H0 H
  rst : Rst G As B O H σ env S
  sub : ∀ a ∈ B0, a ∈ B
  old : ∀ a ∈ B0, H0 a ≠ none
  oo : ∀ i a, O i = some a → H0 a = none
  bo : ∀ (i : Nat) x, env[i]? = some (some (.bor x)) → ∃ a, σ[i]? = some (some (.ref a)) ∧ H0 a ≠ none
/-- from a state to a later one of the same frame: the cells and what is owned may have changed -/
structure Evo (As B : List Addr) (H : Hp) (As' B' : List Addr) (H' : Hp) : Prop where
  ex : ∃ zs, As' = As ++ zs ∧ ∀ z ∈ zs, H z = none
  sub : ∀ b ∈ B, b ∈ B'
  new : ∀ b ∈ B', b ∈ B ∨ H b = none
  kp : ∀ b o, H b = some o → b ∉ As → b ∉ B → NT o → H' b = some o
  tp : ∀ b xs, H b = some (.tup xs) → H' b = some (.tup xs)
  fz : ∀ b o u, H b = some (.frz o u) → H' b = some (.frz o u)
  tr : ∀ b, H b ≠ none → H' b ≠ none
def FinS (G : Gc) (Wx : WX) (As0 B0 : List Addr) (H0 : Hp) (As B : List Addr) (H : Hp) (D : Ends) : R Fl → Prop
  | .ok f S' => (match f with
    | .nx env' => ∀ σ' H' As' B' O', Fr G As0 B0 H0 As' B' O' H' σ' env' S' → Evo As B H As' B' H' → D.nx σ' H'
    | .brk env' => ∀ σ' H' As' B' O', Fr G As0 B0 H0 As' B' O' H' σ' env' S' → Evo As B H As' B' H' → D.bk σ' H'
    | .cont env' => ∀ σ' H' As' B' O', Fr G As0 B0 H0 As' B' O' H' σ' env' S' → Evo As B H As' B' H' → D.ct σ' H'
    | .ret w => ∀ v H' As', Gr As0 As' H0 H' → Cells.Ok G As' B0 H' S' → RpW G As' B0 H' v w → (∀ x, w ≠ .exc x) → D.rt v H')
  | .exc x S' => ∀ cls dd σ' H' As', Gr As0 As' H0 H' → Cells.Ok G As' B0 H' S' → RpX G H' x cls dd → Wx cls dd σ' H'
  | .bad => False
def tS (G : Gc) (Wx : WX) (C : Callee) (st : St) : TS := fun D σ H => ∃ As0 B0 H0 As B O env S, Fr G As0 B0 H0 As B O H σ env S ∧ FinS G Wx As0 B0 H0 As B H D (evS C st env S)
def tSs (G : Gc) (Wx : WX) (C : Callee) (sts : List St) : TS := fun D σ H => ∃ As0 B0 H0 As B O env S, Fr G As0 B0 H0 As B O H σ env S ∧ FinS G Wx As0 B0 H0 As B H D (evSs C sts env S)

section
variable {K : PySem.W.Frag} {G : Gc} {Wx : WX} {As0 B0 As As' B B' : List Addr} {H0 : Hp} {O : Nat → Option Addr} {H H' : Hp} {σ σ' : L2.St} {env env' : Env} {S S' : Cells} {v : V} {d : PD} {w : W} {D : Ends}
theorem Cells.Ok.sub (k : Cells.Ok G As B H S) (h : ∀ a ∈ B0, a ∈ B) : Cells.Ok G As B0 H S :=
  ⟨k.len, k.nd, fun a ha hb => k.dis a ha (h a hb), k.cel, fun a ha => k.own a (h a ha), fun i a x e1 e2 =>
    let ⟨xs, ds, h1, h2, h3⟩ := k.at_ i a x e1 e2; ⟨xs, ds, h1, h2, h3.weak fun b hb => (List.mem_append.mp hb).elim (List.mem_append_left _) fun q => List.mem_append_right _ (h b q)⟩, k.tbs⟩
theorem app_sub (h : ∀ a ∈ B0, a ∈ B) : ∀ b ∈ As ++ B0, b ∈ As ++ B := fun b hb => (List.mem_append.mp hb).elim (List.mem_append_left _) fun q => List.mem_append_right _ (h b q)
/-- an expression has run -/
theorem Fr.step (f : Fr G As0 B0 H0 As B O H σ env S) (g : Gr As As' H H') (r : Rst G As' B O H' σ env S') : Fr G As0 B0 H0 As' B O H' σ env S' :=
  ⟨f.gr.trans g, r, f.sub, f.old, f.oo, f.bo⟩
theorem Evo.refl : Evo As B H As B H := ⟨⟨[], by simp, fun _ h => nomatch h⟩, fun _ h => h, fun _ h => .inl h, fun _ _ h _ _ _ => h, fun _ _ h => h, fun _ _ _ h => h, fun _ h => h⟩
theorem Evo.of (c : Cel As H) (g : Gr As As' H H') : Evo As B H As' B H' := ⟨g.ex, fun _ h => h, fun _ h => .inl h, fun b o h n _ nt => g.kp b o h n nt, g.tp, fun b o u h => g.kp b _ h (fun q => c.nofrz q h) (fun _ z => nomatch z), g.tr⟩
theorem Evo.trans {As2 B2 : List Addr} {H2 : Hp} (a : Evo As B H As' B' H') (b : Evo As' B' H' As2 B2 H2) : Evo As B H As2 B2 H2 := by
  obtain ⟨zs, e1, n1⟩ := a.ex
  obtain ⟨ys, e2, n2⟩ := b.ex
  have back : ∀ c, H' c = none → H c = none := fun c h => by
    cases q : H c with
    | none => rfl
    | some o => exact absurd h (a.tr c (by rw [q]; simp))
  refine ⟨⟨zs ++ ys, by rw [e2, e1, List.append_assoc], fun z hz => ?_⟩, fun c h => b.sub c (a.sub c h), fun c h => ?_, fun c o h nA nB nt => ?_, fun c xs h => b.tp c xs (a.tp c xs h), fun c o u h => b.fz c o u (a.fz c o u h), fun c h => b.tr c (a.tr c h)⟩
  · rcases List.mem_append.mp hz with h | h
    · exact n1 z h
    · exact back z (n2 z h)
  · rcases b.new c h with q | q
    · exact a.new c q
    · exact .inr (back c q)
  · refine b.kp c o (a.kp c o h nA nB nt) (fun q => ?_) (fun q => ?_) nt
    · rw [e1] at q
      rcases List.mem_append.mp q with q | q
      · exact nA q
      · rw [n1 c q] at h; cases h
    · rcases a.new c q with q | q
      · exact nB q
      · rw [q] at h; cases h
theorem Evo.more {D : Addr} (c : Cel As H) (g : Gr As As' H H') (h : H D = none) : Evo As B H As' (D :: B) H' := ⟨g.ex, fun _ h => List.mem_cons_of_mem _ h, fun b hb => (List.mem_cons.mp hb).elim (fun e => .inr (by rw [e]; exact h)) .inl, fun b o h n _ nt => g.kp b o h n nt, g.tp, fun b o u h => g.kp b _ h (fun q => c.nofrz q h) (fun _ z => nomatch z), g.tr⟩
theorem Evo.write {a : Addr} {xs ys : List V} (hB : a ∈ B) (ha : H a = some (.lst xs)) : Evo As B H As B (upd H a (.lst ys)) := by
  refine ⟨⟨[], by simp, fun _ h => nomatch h⟩, fun _ h => h, fun _ h => .inl h, fun b o h _ n _ => ?_, fun b zs h => ?_, fun b o u h => ?_, fun b h => ?_⟩
  · rw [upd_ne (fun q => n (by rw [q]; exact hB))]; exact h
  · rw [upd_ne (fun q => by rw [q, ha] at h; cases h)]; exact h
  · rw [upd_ne (fun q => by rw [q, ha] at h; cases h)]; exact h
  · by_cases e : b = a
    · rw [e, upd_same]; simp
    · rw [upd_ne e]; exact h
theorem Rp.evo (e : Evo As B H As' B' H') (r : Rp G.K (As ++ B) H v d) : Rp G.K (As' ++ B') H' v d := by
  obtain ⟨zs, e1, n1⟩ := e.ex
  refine r.imp (fun a xs n h => ⟨fun q => ?_, e.kp a _ h (fun q => n (List.mem_append_left _ q)) (fun q => n (List.mem_append_right _ q)) (fun _ z => nomatch z)⟩) fun a xs h => ?_
  · rcases List.mem_append.mp q with q | q
    · rw [e1] at q
      rcases List.mem_append.mp q with q | q
      · exact n (List.mem_append_left _ q)
      · rw [n1 a q] at h; cases h
    · rcases e.new a q with q | q
      · exact n (List.mem_append_right _ q)
      · rw [q] at h; cases h
  · rcases h with (h | ⟨o, h⟩) | h
    · exact .inl (.inl (e.tp _ _ h))
    · exact .inl (.inr ⟨o, e.fz _ _ _ h⟩)
    · exact .inr h
theorem RpL.evo {vs : List V} {ds : List PD} (e : Evo As B H As' B' H') (r : RpL G.K (As ++ B) H vs ds) : RpL G.K (As' ++ B') H' vs ds := by
  induction vs generalizing ds with
  | nil => cases r; exact .nil
  | cons v vs ih => cases r with
    | cons h t => exact .cons (h.evo e) (ih t)
theorem RpI.evo {it : Itm} (e : Evo As B H As' B' H') (r : RpI G.K (As ++ B) H it d) : RpI G.K (As' ++ B') H' it d := by
  cases r with
  | one r => exact .one (r.evo e)
  | tup r => exact .tup (r.evo e)
theorem Later.evo {L : List Addr} (e : Evo As B H As' B' H') (h : ∀ a ∈ L, a ∉ As ++ B) : Later L H H' :=
  ⟨fun a ha o q nt => e.kp a o q (fun z => h a ha (List.mem_append_left _ z)) (fun z => h a ha (List.mem_append_right _ z)) nt, e.tp, fun b o xs q => e.fz b o _ q⟩
theorem FinS.grow {As1 B1 : List Addr} {H1 : Hp} {r : R Fl} (h : FinS G Wx As0 B0 H0 As B H D r) (e : Evo As B H As1 B1 H1) : FinS G Wx As0 B0 H0 As1 B1 H1 D r := by
  cases r with
  | ok f S' =>
    cases f with
    | nx env' => exact fun σ' H' As' B' O' fr ev => h σ' H' As' B' O' fr (e.trans ev)
    | brk env' => exact fun σ' H' As' B' O' fr ev => h σ' H' As' B' O' fr (e.trans ev)
    | cont env' => exact fun σ' H' As' B' O' fr ev => h σ' H' As' B' O' fr (e.trans ev)
    | ret w => exact h
  | exc x S' => exact h
  | bad => exact h
theorem FinS.bind {α ι : Type} {Rx : List Addr → Hp → ι → α → Prop} {r : R α} {f : α → Cells → R Fl} (fr : Fr G As0 B0 H0 As B O H σ env S) (h : FinS G Wx As0 B0 H0 As B H D (r.bind f)) :
    Fin G Wx B O σ env Rx (fun i H1 => ∃ a S1 As1, Gr As As1 H H1 ∧ Rst G As1 B O H1 σ env S1 ∧ Rx As1 H1 i a ∧ FinS G Wx As0 B0 H0 As1 B H1 D (f a S1)) As H r := by
  cases r with
  | ok a S' => exact fun i H' As' g k rx => ⟨a, S', As', g, k, rx, FinS.grow h (Evo.of fr.rst.cells.cel g)⟩
  | exc x S' => exact fun cls dd H' As' g k rx => h cls dd σ H' As' (fr.gr.trans g) (k.cells.sub fr.sub) rx
  | bad => exact h
/-- a slot is set to what isn't owned -/
theorem Fr.set (f : Fr G As0 B0 H0 As B O H σ env S) {i : Nat} (r : RpW G As B H v w) (h1 : ∀ x, w ≠ .own x) (h2 : ∀ x, w ≠ .bor x) (hi : i < env.length) : Fr G As0 B0 H0 As B O H (σ.set i (some v)) (env.set i (some w)) S := by
  refine ⟨f.gr, ⟨f.rst.cells, f.rst.slots.set r h1 hi⟩, f.sub, f.old, f.oo, fun j x e => ?_⟩
  rw [set_getElem?] at e
  by_cases h : i = j
  · rw [if_pos h, if_pos hi] at e
    cases e
    exact absurd rfl (h2 x)
  · rw [if_neg h] at e
    obtain ⟨a, h3, h4⟩ := f.bo j x e
    exact ⟨a, by rw [set_getElem?, if_neg h]; exact h3, h4⟩
theorem Fr.ret (f : Fr G As0 B0 H0 As B O H σ env S) (r : RpW G As B H v w) (h2 : ∀ x, w ≠ .bor x) : RpW G As B0 H v w := by
  cases r with
  | d r => exact .d (r.weak (app_sub f.sub))
  | bor m n e r => exact absurd rfl (h2 _)
  | loc e => exact .loc e
  | scr e r =>
    refine .scr ?_ (r.weak (app_sub f.sub))
    rcases e with ⟨e, n⟩ | e | e
    · exact .inl ⟨e, fun q => n (app_sub f.sub _ q)⟩
    · exact .inr (.inl e)
    · exact .inr (.inr e)
  | fn m e => exact .fn m e
  | exc m => exact .exc m
theorem Fr.freshOld (f : Fr G As0 B0 H0 As B O H σ env S) {D : Addr} (h : H D = none) : H0 D = none := by
  cases q : H0 D with
  | none => rfl
  | some o => exact absurd h (f.gr.tr D (by rw [q]; simp))
/-- a slot gets a new list of its own -/
theorem Fr.setOwn (f : Fr G As0 B0 H0 As B O H σ env S) {i : Nat} {D : Addr} {vs : List V} {ds : List PD} (g : Gr As As' H H') (hn : H D = none) (r : Rst G As' (D :: B) O H' σ env S') (hD : H' D = some (.lst vs)) (rl : RpL G.K (As' ++ D :: B) H' vs ds)
    (hi : i < env.length) : Fr G As0 B0 H0 As' (D :: B) (fun j => if j = i then some D else O j) H' (σ.set i (some (.ref D))) (env.set i (some (.own (.list ds)))) S' := by
  have nB : D ∉ B := fun q => f.rst.cells.own D q hn
  refine ⟨f.gr.trans g, ⟨r.cells, ?_⟩, fun a ha => List.mem_cons_of_mem _ (f.sub a ha), f.old, fun j a e => ?_, fun j x e => ?_⟩
  · refine ⟨by simp [r.slots.len], fun j w' e n => ?_, fun j x e => ?_, fun j1 j2 a e1 e2 => ?_, fun j a e => ?_⟩
    · rw [set_getElem?] at e ⊢
      by_cases h : i = j
      · rw [if_pos h, if_pos hi] at e
        cases e
        exact absurd rfl (n _)
      · rw [if_neg h] at e ⊢
        exact r.slots.at_ j w' e n
    · rw [set_getElem?] at e
      by_cases h : i = j
      · rw [if_pos h, if_pos hi] at e
        cases e
        exact ⟨D, vs, ds, by rw [if_pos h.symm], by rw [set_getElem?, if_pos h, if_pos (by rw [← r.slots.len]; exact hi)], hD, rfl, rl⟩
      · rw [if_neg h] at e
        obtain ⟨a, xs, ds', h1, h2, h3⟩ := r.slots.own j x e
        exact ⟨a, xs, ds', by rw [if_neg (Ne.symm h)]; exact h1, by rw [set_getElem?, if_neg h]; exact h2, h3⟩
    · by_cases c1 : j1 = i
      · by_cases c2 : j2 = i
        · rw [c1, c2]
        · rw [if_pos c1] at e1
          rw [if_neg c2] at e2
          cases e1
          exact absurd (f.rst.slots.mem j2 D e2) nB
      · by_cases c2 : j2 = i
        · rw [if_neg c1] at e1
          rw [if_pos c2] at e2
          cases e2
          exact absurd (f.rst.slots.mem j1 D e1) nB
        · rw [if_neg c1] at e1
          rw [if_neg c2] at e2
          exact f.rst.slots.inj j1 j2 a e1 e2
    · by_cases c : j = i
      · rw [if_pos c] at e
        cases e
        exact List.mem_cons_self
      · rw [if_neg c] at e
        exact List.mem_cons_of_mem _ (f.rst.slots.mem j a e)
  · by_cases c : j = i
    · rw [if_pos c] at e
      cases e
      exact f.freshOld hn
    · rw [if_neg c] at e
      exact f.oo j a e
  · rw [set_getElem?] at e
    by_cases h : i = j
    · rw [if_pos h, if_pos hi] at e
      cases e
    · rw [if_neg h] at e
      obtain ⟨a, h3, h4⟩ := f.bo j x e
      exact ⟨a, by rw [set_getElem?, if_neg h]; exact h3, h4⟩
/-- an own list is written -/
theorem Fr.write (f : Fr G As0 B0 H0 As B O H σ env S) {i : Nat} {a : Addr} {xs ys : List V} {ds : List PD} {d0 : PD} (ho : O i = some a) (he : env[i]? = some (some (.own d0))) (ha : H a = some (.lst xs)) (rl : RpL G.K (As ++ B) H ys ds) :
    Fr G As0 B0 H0 As B O (upd H a (.lst ys)) σ (env.set i (some (.own (.list ds)))) S := by
  have hi : i < env.length := (List.getElem?_eq_some_iff.mp he).1
  have aB := f.rst.slots.mem i a ho
  have aA : a ∈ As ++ B := List.mem_append_right _ aB
  have nA : ∀ c ∈ As, c ≠ a := fun c hc e => f.rst.cells.dis c hc (by rw [e]; exact aB)
  have h0 := f.oo i a ho
  refine ⟨f.gr.put h0, ⟨⟨f.rst.cells.len, f.rst.cells.nd, f.rst.cells.dis, fun c hc => ?_, fun c hc => ?_, fun j c x e1 e2 => ?_, tbs_put ha f.rst.cells.tbs⟩, ?_⟩, f.sub, f.old, f.oo, fun j x e => ?_⟩
  · obtain ⟨o, q, z⟩ := f.rst.cells.cel c hc
    exact ⟨o, by rw [upd_ne (nA c hc)]; exact q, z⟩
  · by_cases e : c = a
    · rw [e, upd_same]; simp
    · rw [upd_ne e]; exact f.rst.cells.own c hc
  · obtain ⟨xs', ds', h1, h2, h3⟩ := f.rst.cells.at_ j c x e1 e2
    exact ⟨xs', ds', by rw [upd_ne (nA c (List.mem_of_getElem? e1))]; exact h1, h2, h3.put aA ha⟩
  · have σi : σ[i]? = some (some (.ref a)) := by
      obtain ⟨a', _, _, h1, h2, _⟩ := f.rst.slots.own i d0 he
      rw [ho] at h1
      cases h1
      exact h2
    refine ⟨by simp [f.rst.slots.len], fun j w' e n => ?_, fun j x e => ?_, f.rst.slots.inj, f.rst.slots.mem⟩
    · rw [set_getElem?] at e
      by_cases h : i = j
      · rw [if_pos h, if_pos hi] at e
        cases e
        exact absurd rfl (n _)
      · rw [if_neg h] at e
        obtain ⟨v, h1, h2⟩ := f.rst.slots.at_ j w' e n
        refine ⟨v, h1, ?_⟩
        cases h2 with
        | d r => exact .d (r.put aA ha)
        | bor m nn e3 r =>
          obtain ⟨c, h3, h4⟩ := f.bo j _ e
          rw [h1] at h3
          cases h3
          exact .bor m nn (by rw [upd_ne (fun q => h4 (by rw [q]; exact h0))]; exact e3) (r.put aA ha)
        | loc e3 => exact .loc e3
        | scr e3 r => exact .scr (e3.put aA ha) (r.put aA ha)
        | fn m e3 => exact .fn m e3
        | exc m => exact .exc m
    · rw [set_getElem?] at e
      by_cases h : i = j
      · rw [if_pos h, if_pos hi] at e
        cases e
        exact ⟨a, ys, ds, by rw [← h]; exact ho, by rw [← h]; exact σi, upd_same, rfl, rl.put aA ha⟩
      · rw [if_neg h] at e
        obtain ⟨c, xs', ds', h1, h2, h3, h4, h5⟩ := f.rst.slots.own j x e
        exact ⟨c, xs', ds', h1, h2, by rw [upd_ne (fun q => h (f.rst.slots.inj i j a ho (by rw [← q]; exact h1)))]; exact h3, h4, h5.put aA ha⟩
  · rw [set_getElem?] at e
    by_cases h : i = j
    · rw [if_pos h, if_pos hi] at e
      cases e
    · rw [if_neg h] at e
      exact f.bo j x e
theorem Evo.writeC {a : Addr} {xs ys : List V} (hA : a ∈ As) (ha : H a = some (.lst xs)) : Evo As B H As B (upd H a (.lst ys)) := by
  refine ⟨⟨[], by simp, fun _ h => nomatch h⟩, fun _ h => h, fun _ h => .inl h, fun b o h n _ _ => ?_, fun b zs h => ?_, fun b o u h => ?_, fun b h => ?_⟩
  · rw [upd_ne (fun q => n (by rw [q]; exact hA))]; exact h
  · rw [upd_ne (fun q => by rw [q, ha] at h; cases h)]; exact h
  · rw [upd_ne (fun q => by rw [q, ha] at h; cases h)]; exact h
  · by_cases e : b = a
    · rw [e, upd_same]; simp
    · rw [upd_ne e]; exact h
/-- a cell is written -/
theorem Fr.writeC (f : Fr G As0 B0 H0 As B O H σ env S) {n : Nat} {a : Addr} {xs ys : List V} {ds : List PD} (hn : As[n]? = some a) (ha : H a = some (.lst xs)) (rl : RpL G.K (As ++ B) H ys ds) :
    Fr G As0 B0 H0 As B O (upd H a (.lst ys)) σ env (S.set n (.list ds)) := by
  have aAs : a ∈ As := List.mem_of_getElem? hn
  have aA : a ∈ As ++ B := List.mem_append_left _ aAs
  have nB : ∀ c ∈ B, c ≠ a := fun c hc e => f.rst.cells.dis a aAs (by rw [← e]; exact hc)
  have nlt : n < S.length := by rw [← f.rst.cells.len]; exact (List.getElem?_eq_some_iff.mp hn).1
  obtain ⟨zs, ez, nz⟩ := f.gr.ex
  refine ⟨⟨⟨zs, ez, nz⟩, fun b o e nb nt => ?_, fun b xs' e => ?_, fun b e => ?_⟩, ⟨⟨by simp [f.rst.cells.len], f.rst.cells.nd, f.rst.cells.dis, fun c hc => ?_, fun c hc => ?_, fun j c x e1 e2 => ?_, tbs_put ha f.rst.cells.tbs⟩, ?_⟩, f.sub, f.old, f.oo, f.bo⟩
  · rw [upd_ne (fun q => ?_)]
    · exact f.gr.kp b o e nb nt
    · rw [q] at e nb
      rw [ez] at aAs
      rcases List.mem_append.mp aAs with h | h
      · exact nb h
      · rw [nz a h] at e; cases e
  · have := f.gr.tp b xs' e
    rw [upd_ne (fun q => by rw [q, ha] at this; cases this)]; exact this
  · have := f.gr.tr b e
    by_cases q : b = a
    · rw [q, upd_same]; simp
    · rw [upd_ne q]; exact this
  · by_cases q : c = a
    · rw [q]; exact ⟨_, upd_same, rfl⟩
    · obtain ⟨o, h, z⟩ := f.rst.cells.cel c hc
      exact ⟨o, by rw [upd_ne q]; exact h, z⟩
  · rw [upd_ne (nB c hc)]; exact f.rst.cells.own c hc
  · by_cases q : n = j
    · subst q
      rw [hn] at e1; cases e1
      rw [List.getElem?_set_self nlt] at e2; cases e2
      exact ⟨ys, ds, upd_same, rfl, rl.put aA ha⟩
    · rw [List.getElem?_set_ne q] at e2
      obtain ⟨xs', ds', h1, h2, h3⟩ := f.rst.cells.at_ j c x e1 e2
      have : c ≠ a := fun e => q (by
        exact (List.getElem?_inj (List.getElem?_eq_some_iff.mp hn).1 f.rst.cells.nd).mp (by rw [hn, e1, e]))
      exact ⟨xs', ds', by rw [upd_ne this]; exact h1, h2, h3.put aA ha⟩
  · refine ⟨f.rst.slots.len, fun j w' e nn => ?_, fun j x e => ?_, f.rst.slots.inj, f.rst.slots.mem⟩
    · obtain ⟨v, h1, h2⟩ := f.rst.slots.at_ j w' e nn
      refine ⟨v, h1, ?_⟩
      cases h2 with
      | d r => exact .d (r.put aA ha)
      | bor m nm e3 r => exact .bor m nm (by rw [upd_ne (nB _ m)]; exact e3) (r.put aA ha)
      | loc e3 => exact .loc e3
      | scr e3 r => exact .scr (e3.put aA ha) (r.put aA ha)
      | fn m e3 => exact .fn m e3
      | exc m => exact .exc m
    · obtain ⟨c, xs', ds', h1, h2, h3, h4, h5⟩ := f.rst.slots.own j x e
      exact ⟨c, xs', ds', h1, h2, by rw [upd_ne (nB c (f.rst.slots.mem j c h1))]; exact h3, h4, h5.put aA ha⟩
end
end Lw

set_option Elab.async false
set_option linter.all false
set_option maxRecDepth 100000
set_option maxHeartbeats 4000000
/-! F19: the rules of statements. -/
namespace Lw
open PySem PySem.Spec PyProof.Rows L2

section
variable {X : Cx} {T : TabX} {S : Sco} {k : Nat} {C : Callee} {Wx : WX} {pos p q : Pos} {x : Expr} {e : E} {st : St} {sts as bs : List St} {s : Stmt} {ss as' bs' : List Stmt}
theorem sq_nil : PSs X [] (tSs (gx X T) Wx C []) := pss_nil.impL fun D σ H ⟨As0, B0, H0, As, B, O, env, S', fr, fin⟩ => fin σ H As B O fr Evo.refl
theorem sq_cons (h1 : PS X s (tS (gx X T) Wx C st)) (h2 : PSs X ss (tSs (gx X T) Wx C sts)) : PSs X (s :: ss) (tSs (gx X T) Wx C (st :: sts)) := by
  refine (pss_cons h1 h2).impL fun D σ H ⟨As0, B0, H0, As, B, O, env, S', fr, fin⟩ => ?_
  simp only [evSs] at fin
  refine ⟨As0, B0, H0, As, B, O, env, S', fr, ?_⟩
  revert fin
  cases evS C st env S' with
  | ok f s1 =>
    cases f with
    | nx env1 => exact fun fin σ' H' As' B' O' fr' ev => ⟨As0, B0, H0, As', B', O', env1, s1, fr', FinS.grow fin ev⟩
    | ret w => exact id
    | brk env1 => exact id
    | cont env1 => exact id
  | exc x s1 => exact id
  | bad => exact id
theorem ss_expr (h : PE X x (tE (gx X T) Wx C e)) (hs : swapsWith x none pos.line X.env = pure false) : PS X (.Expr x pos) (tS (gx X T) Wx C (.expr e)) := by
  refine (ps_expr h hs).impL fun D σ H ⟨As0, B0, H0, As, B, O, env, S', fr, fin⟩ => ?_
  simp only [evS] at fin
  exact ⟨As, B, O, env, S', fr.rst, (FinS.bind fr fin).mono fun v H1 ⟨w, S1, As1, g, r, q, f1⟩ => f1 σ H1 As1 B O (fr.step g r) Evo.refl⟩
theorem ret_done {As0 B0 : List Addr} {H0 : Hp} {D : Ends} {As B : List Addr} {O : Nat → Option Addr} {H : Hp} {σ : L2.St} {env : Env} {S' : Cells} {v : V} {w : W} {G : Gc} (fr : Fr G As0 B0 H0 As B O H σ env S') (r : RpW G As B H v w) (h : FinS G Wx As0 B0 H0 As B H D (retW w S')) : D.rt v H := by
  unfold retW at h
  split at h
  · exact h.elim
  · exact h.elim
  · exact h.elim
  · rename_i n n2 n3
    exact h v H As fr.gr (fr.rst.cells.sub fr.sub) (fr.ret r n) n2
theorem ss_ret (h : PE X x (tE (gx X T) Wx C e)) : PS X (.Return (some x) pos) (tS (gx X T) Wx C (.ret e)) := by
  refine (ps_ret h).impL fun D σ H ⟨As0, B0, H0, As, B, O, env, S', fr, fin⟩ => ?_
  simp only [evS] at fin
  exact ⟨As, B, O, env, S', fr.rst, (FinS.bind fr fin).mono fun v H1 ⟨w, S1, As1, g, r, q, f1⟩ => ret_done (fr.step g r) q f1⟩
theorem ss_rown {i : Nat} {y : Str} (g : Gd X T S k C Wx) (h : varB X.N S i y = true) : PS X (.Return (some (.Name y p)) pos) (tS (gx X T) Wx C (.rown i)) := by
  unfold varB at h
  simp only [Bool.and_eq_true, decide_eq_true_eq, Bool.not_eq_true'] at h
  obtain ⟨⟨⟨h1, h2⟩, h3⟩, h4⟩ := h
  refine (ps_ret (pe_var (pos := p) h1 (g.vis h2) h3 h4)).impL fun D σ H ⟨As0, B0, H0, As, B, O, env, S', fr, fin⟩ => ?_
  simp only [evS] at fin
  split at fin
  · rename_i z e
    obtain ⟨a, xs, ds, e1, e2, e3, e4, e5⟩ := fr.rst.slots.own i z e
    subst e4
    refine ⟨.ref a, e2, fin _ H As fr.gr (fr.rst.cells.sub fr.sub) (.d (.lst (fun q => ?_) e3 (e5.weak (app_sub fr.sub)))) (fun _ z => nomatch z)⟩
    rcases List.mem_append.mp q with q | q
    · exact fr.rst.cells.dis a q (fr.rst.slots.mem i a e1)
    · exact fr.old a q (fr.oo i a e1)
  · exact fin.elim
theorem ss_if {c : E} (hc : PT X x (tT (gx X T) Wx C c)) (ha : PSs X as' (tSs (gx X T) Wx C as)) (hb : PSs X bs' (tSs (gx X T) Wx C bs)) : PS X (.If x as' bs' pos) (tS (gx X T) Wx C (.ifs c as bs)) := by
  refine (ps_if hc ha hb).impL fun D σ H ⟨As0, B0, H0, As, B, O, env, S', fr, fin⟩ => ?_
  simp only [evS] at fin
  refine ⟨As, B, O, env, S', fr.rst, (FinS.bind fr fin).mono fun t H1 ⟨w, S1, As1, g, r, q, f1⟩ => ?_⟩
  subst q
  cases t
  · exact ⟨As0, B0, H0, As1, B, O, env, S1, fr.step g r, f1⟩
  · exact ⟨As0, B0, H0, As1, B, O, env, S1, fr.step g r, f1⟩
theorem ss_pass : PS X (.Pass pos) (tS (gx X T) Wx C .pass) := ps_pass.impL fun D σ H ⟨As0, B0, H0, As, B, O, env, S', fr, fin⟩ => fin σ H As B O fr Evo.refl
theorem ss_brk : PS X (.Break pos) (tS (gx X T) Wx C .brk) := ps_break.impL fun D σ H ⟨As0, B0, H0, As, B, O, env, S', fr, fin⟩ => fin σ H As B O fr Evo.refl
theorem ss_cont : PS X (.Continue pos) (tS (gx X T) Wx C .cont) := ps_continue.impL fun D σ H ⟨As0, B0, H0, As, B, O, env, S', fr, fin⟩ => fin σ H As B O fr Evo.refl
/-! name = value -/
theorem name_done {As0 B0 : List Addr} {H0 : Hp} {D : Ends} {As B : List Addr} {O : Nat → Option Addr} {H : Hp} {σ : L2.St} {env : Env} {S' : Cells} {v : V} {w : W} {G : Gc} {i : Nat} (fr : Fr G As0 B0 H0 As B O H σ env S') (r : RpW G As B H v w) (h : FinS G Wx As0 B0 H0 As B H D (nameW i w env S')) : D.nx (σ.set i (some v)) H := by
  unfold nameW at h
  split at h
  · exact h.elim
  · exact h.elim
  · exact h.elim
  · exact h.elim
  · rename_i n1 n2 _ _
    split at h
    · rename_i hi
      exact h _ H As B O (fr.set r n2 n1 hi) Evo.refl
    · exact h.elim
/-- PS of name = x, whatever the reading of x -/
def AsgOk (X : Cx) (i : Nat) (y : Str) (p : Pos) (x : Expr) (pos : Pos) (t : TE) : Prop := PS X (.Assign [.Name y p] x pos) (tAsg t (gName i))
theorem ss_asgN {i : Nat} {y : Str} {t : TE} (h : AsgOk X i y p x pos t) (ht : ∀ σ H Q, tE (gx X T) Wx C e σ H Q → t σ H Q) : PS X (.Assign [.Name y p] x pos) (tS (gx X T) Wx C (.asg (.nm i) e)) := by
  refine h.impL fun D σ H ⟨As0, B0, H0, As, B, O, env, S', fr, fin⟩ => ?_
  simp only [evS] at fin
  exact ht _ _ _ ⟨As, B, O, env, S', fr.rst, (FinS.bind fr fin).mono fun v H1 ⟨w, S1, As1, g, r, q, f1⟩ => name_done (fr.step g r) q f1⟩
theorem ss_own {i : Nat} {y : Str} {t : TE} (h : AsgOk X i y p x pos t) (ht : ∀ σ H Q, tEF (gx X T) Wx C e σ H Q → t σ H Q) : PS X (.Assign [.Name y p] x pos) (tS (gx X T) Wx C (.own i e)) := by
  refine h.impL fun D σ H ⟨As0, B0, H0, As, B, O, env, S', fr, fin⟩ => ?_
  simp only [evS] at fin
  refine ht _ _ _ ⟨As, B, O, env, S', fr.rst, ?_⟩
  revert fin
  cases evE C e env S' with
  | ok w s1 =>
    intro fin
    simp only [R.bind] at fin
    split at fin
    · rename_i ds
      split at fin
      · rename_i hi
        exact ⟨ds, rfl, fun D' H' As' vs g n r hD rl => fin _ H' As' (D' :: B) _ (fr.setOwn g n r hD rl hi) (Evo.more fr.rst.cells.cel g n)⟩
      · exact fin.elim
    · exact fin.elim
  | exc x s1 => exact fun fin cls dd H' As' g r rx => fin cls dd σ H' As' (fr.gr.trans g) (r.cells.sub fr.sub) rx
  | bad => exact id
/-- targets in a tuple -/
theorem ss_asgT {ts : List Tg} {tg : Expr} (h : PE X x (tE (gx X T) Wx C e)) (hg : PG X tg (tG (gx X T) [] (.tu ts))) (hs : swapsWithSole [tg] x pos.line X.env = pure false) (hw : swappedStores [tg] x X.env = pure none) (h1 : (assignEach [tg] X.env).map (·.2) = [assign tg X.env]) : PS X (.Assign [tg] x pos) (tS (gx X T) Wx C (.asg (.tu ts) e)) := by
  refine (ps_asg h hg hs hw h1).impL fun D σ H ⟨As0, B0, H0, As, B, O, env, S', fr, fin⟩ => ?_
  simp only [evS, asgW] at fin
  refine ⟨As, B, O, env, S', fr.rst, (FinS.bind fr fin).mono fun v H1 ⟨w, S1, As1, g, r, q, f1⟩ => ?_⟩
  split at f1
  · rename_i d
    split at f1
    · rename_i env1 ea
      cases q with
      | d q =>
        refine ⟨As1, B, O, env, env1, S1, d, r, q, ea, fun σ' r' _ kb => f1 σ' H1 As1 B O ⟨fr.gr.trans g, r', fr.sub, fr.old, fr.oo, fun j y hj => ?_⟩ Evo.refl⟩
        obtain ⟨h3, h4⟩ := kb j y hj
        obtain ⟨a, h5, h6⟩ := fr.bo j y h3
        exact ⟨a, h4.trans h5, h6⟩
    · exact f1.elim
  · exact f1.elim
/-! xs.append(e) -/
theorem app_done {As0 B0 : List Addr} {H0 : Hp} {D : Ends} {As B : List Addr} {O : Nat → Option Addr} {H : Hp} {σ : L2.St} {env : Env} {S' : Cells} {v : V} {w : W} {G : Gc} {i : Nat} {a : Addr} (fr : Fr G As0 B0 H0 As B O H σ env S') (hs : σ[i]? = some (some (.ref a))) (r : RpW G As B H v w) (h : FinS G Wx As0 B0 H0 As B H D (appW i w env S')) :
    ∃ xs, H a = some (.lst xs) ∧ xs.length < sizeLine ∧ D.nx σ (upd H a (.lst (xs ++ [v]))) := by
  unfold appW at h
  split at h
  · rename_i ds x he
    split at h
    · rename_i hz
      obtain ⟨c, xs, ds', h1, h2, h3, h4, h5⟩ := fr.rst.slots.own i _ he
      cases h4
      rw [hs] at h2
      cases h2
      cases r with
      | d r => exact ⟨xs, h3, by rw [h5.len, sizeLine_eq]; exact hz, h _ _ As B O (fr.write h1 he h3 (h5.app (.cons r .nil))) (Evo.write (fr.rst.slots.mem i _ h1) h3)⟩
    · exact h.elim
  · exact h.elim
theorem ss_app {i : Nat} {y : Str} {p1 p2 p3 : Pos} (g : Gd X T S k C Wx) (h : varB X.N S i y = true) (he : PE X x (tE (gx X T) Wx C e)) (hp : plainX x = true) (hl : (p2.endLine == p3.line) = true) :
    PS X (.Expr (.Call (.Attribute (.Name y p1) "append" p2) [x] [] p3) pos) (tS (gx X T) Wx C (.app i e)) := by
  unfold varB at h
  simp only [Bool.and_eq_true, decide_eq_true_eq, Bool.not_eq_true'] at h
  obtain ⟨⟨⟨h1, h2⟩, h3⟩, h4⟩ := h
  have st := star_plain (env := X.env) (r := []) hp
  have few : ((backTo p3 (starEach [x] X.env)).all (fun x => !x.1) && (backToKw p3 (keywordEach [] X.env)).all (fun x => x.1.isSome)
      && decide (([x] : List Expr).length + ([] : List Keyword).length + (if ([] : List Keyword).isEmpty then 0 else 1) < 30)) = true := by
    rw [st]; rfl
  refine (ps_expr (pos := pos) (pe_bm (apos := p2) (cpos := p3) F.plainAttrs_list F.slot_list_append F.type_list_append mt_append (pe_var (pos := p1) h1 (g.vis h2) h3 h4) (pa_cons he pa_nil st) rfl few hl st rfl) rfl).impL
    fun D σ H ⟨As0, B0, H0, As, B, O, env, S', fr, fin⟩ => ?_
  simp only [evS] at fin
  split at fin
  · rename_i d e1
    obtain ⟨a, xs, ds', h1, hs, ha, h4, h5⟩ := fr.rst.slots.own i _ e1
    refine ⟨.ref a, hs, .inl ⟨rfl, xs, .inl (.inl ha)⟩, As, B, O, env, S', fr.rst, (FinS.bind fr fin).mono fun v H1 ⟨w, S1, As1, gr, r, q, f1⟩ => ?_⟩
    obtain ⟨xs', h5, h6, h7⟩ := app_done (fr.step gr r) hs q f1
    exact ⟨a, xs', v, rfl, rfl, h5, h6, h7⟩
  · exact fin.elim
/-! cup[i] = e, xs[i] = e -/
theorem ixN_pos {n : Nat} {i : Int} (h : 0 ≤ i ∧ i < n) : ixN n i = some i.toNat := by
  unfold ixN
  first
    | (rw [if_pos h.1]; rw [if_pos (by omega)])
    | (simp only [h.1, h.2, if_true]; rfl)
    | (split <;> (try split) <;> simp <;> omega)
theorem sw_sub {x a b : Expr} {l : Nat} {env : PySem.Env} : swapsWithSole [.Subscript a b p] x l env = pure false := by
  cases x <;> rfl
theorem swp_sub {x a b : Expr} {env : PySem.Env} : swappedStores [.Subscript a b p] x env = pure none := by
  cases x <;> rfl
theorem plain_asg {a b : Expr} {env : PySem.Env} (h : plainX b = true) : ∀ v, assign (.Subscript a b p) env v = (do
      let ov ← holding [v] (eval a env)
      let iv ← holding [v, ov] (eval b env)
      standAt p
      holding [v, ov, iv] (setItem ov iv v)
      release [v, ov, iv] []) := by
  intro v
  cases b <;> first | rfl | (simp [plainX] at h)
theorem csetW_ok {G : Gc} {As0 B0 As B : List Addr} {H0 H : Hp} {D : Ends} {aw kw w : W} {env : Env} {s : Cells} (h : FinS G Wx As0 B0 H0 As B H D (csetW aw kw w env s)) :
    ∃ n i d xs, aw = .loc n ∧ kw = .d (.int i) ∧ w = .d d ∧ s[n]? = some (.list xs) ∧ (0 ≤ i ∧ i < xs.length) ∧ FinS G Wx As0 B0 H0 As B H D (.ok (.nx env) (s.set n (.list (xs.set i.toNat d)))) := by
  unfold csetW at h
  split at h
  · split at h
    · split at h
      · exact ⟨_, _, _, _, rfl, rfl, rfl, by assumption, by assumption, h⟩
      · exact h.elim
    · exact h.elim
  · exact h.elim
theorem setkW_ok {G : Gc} {As0 B0 As B : List Addr} {H0 H : Hp} {D : Ends} {kw w : W} {j : Nat} {xs : List PD} {env : Env} {s : Cells} (h : FinS G Wx As0 B0 H0 As B H D (setkW j xs kw w env s)) :
    ∃ i d, kw = .d (.int i) ∧ w = .d d ∧ (0 ≤ i ∧ i < xs.length) ∧ FinS G Wx As0 B0 H0 As B H D (.ok (.nx (env.set j (some (.own (.list (xs.set i.toNat d)))))) s) := by
  unfold setkW at h
  split at h
  · split at h
    · exact ⟨_, _, rfl, rfl, by assumption, h⟩
    · exact h.elim
  · exact h.elim
theorem ss_cset {a i : E} {xa xi : Expr} (he : PE X x (tE (gx X T) Wx C e)) (ha : PE X xa (tE (gx X T) Wx C a)) (hi : PE X xi (tE (gx X T) Wx C i)) (hp : plainX xi = true) :
    PS X (.Assign [.Subscript xa xi p] x pos) (tS (gx X T) Wx C (.cset a i e)) := by
  refine (ps_asg he (pg_sub (pos := p) ha hi set_list (plain_asg hp)) sw_sub swp_sub rfl).impL fun D σ H ⟨As0, B0, H0, As, B, O, env, S', fr, fin⟩ => ?_
  simp only [evS] at fin
  refine ⟨As, B, O, env, S', fr.rst, (FinS.bind fr fin).mono fun v H1 ⟨w, S1, As1, g1, r1, q1, f1⟩ => ?_⟩
  have fr1 := fr.step g1 r1
  refine ⟨As1, B, O, env, S1, r1, (FinS.bind fr1 f1).mono fun o H2 ⟨aw, S2, As2, g2, r2, q2, f2⟩ => ?_⟩
  have fr2 := fr1.step g2 r2
  refine ⟨As2, B, O, env, S2, r2, (FinS.bind fr2 f2).mono fun j H3 ⟨kw, S3, As3, g3, r3, q3, f3⟩ => ?_⟩
  have fr3 := fr2.step g3 r3
  have q1' := (q1.grow r1.cells.cel g2).grow r2.cells.cel g3
  have q2' := q2.grow r2.cells.cel g3
  obtain ⟨n, ii, d, xs, rfl, rfl, rfl, e1, hlt, f4⟩ := csetW_ok f3
  cases q2' with
  | loc hn =>
    obtain ⟨ys, ds, h1, h2, h3⟩ := r3.cells.at_ n _ _ hn e1
    cases h2
    cases q3 with
    | d q3 =>
      cases q3
      cases q1' with
      | d q1' =>
        refine ⟨_, ys, ii, ii.toNat, rfl, rfl, h1, by rw [h3.len]; exact ixN_pos hlt, ?_⟩
        exact f4 σ _ As3 B O (fr3.writeC hn h1 (h3.set _ q1')) (Evo.writeC (List.mem_of_getElem? hn) h1)
theorem ss_setk {j : Nat} {y : Str} {p1 : Pos} {i : E} {xi : Expr} (g : Gd X T S k C Wx) (h : varB X.N S j y = true) (he : PE X x (tE (gx X T) Wx C e)) (hi : PE X xi (tE (gx X T) Wx C i)) (hp : plainX xi = true) :
    PS X (.Assign [.Subscript (.Name y p1) xi p] x pos) (tS (gx X T) Wx C (.setk j i e)) := by
  unfold varB at h
  simp only [Bool.and_eq_true, decide_eq_true_eq, Bool.not_eq_true'] at h
  obtain ⟨⟨⟨h1, h2⟩, h3⟩, h4⟩ := h
  refine (ps_asg he (pg_sub (pos := p) (pe_var (pos := p1) h1 (g.vis h2) h3 h4) hi set_list (plain_asg hp)) sw_sub swp_sub rfl).impL fun D σ H ⟨As0, B0, H0, As, B, O, env, S', fr, fin⟩ => ?_
  simp only [evS] at fin
  refine ⟨As, B, O, env, S', fr.rst, (FinS.bind fr fin).mono fun v H1 ⟨w, S1, As1, g1, r1, q1, f1⟩ => ?_⟩
  have fr1 := fr.step g1 r1
  split at f1
  · rename_i xs e1
    obtain ⟨a, ys, ds, k1, k2, k3, k4, k5⟩ := r1.slots.own j _ e1
    cases k4
    refine ⟨.ref a, k2, As1, B, O, env, S1, r1, (FinS.bind fr1 f1).mono fun jj H3 ⟨kw, S3, As3, g3, r3, q3, f3⟩ => ?_⟩
    have fr3 := fr1.step g3 r3
    have q1' := q1.grow r1.cells.cel g3
    have k3' := g3.kp _ _ k3 (fun z => r1.cells.dis a z (r1.slots.mem j a k1)) (fun _ z => nomatch z)
    have k5' := k5.grow r1.cells.cel g3
    obtain ⟨ii, d, rfl, rfl, hlt, f4⟩ := setkW_ok f3
    cases q3 with
    | d q3 =>
      cases q3
      cases q1' with
      | d q1' =>
        refine ⟨a, ys, ii, ii.toNat, rfl, rfl, k3', by rw [k5'.len]; exact ixN_pos hlt, ?_⟩
        exact f4 σ _ As3 B O (fr3.write k1 e1 k3' (k5'.set _ q1')) (Evo.write (r1.slots.mem j a k1) k3')
  · exact f1.elim
end
end Lw

set_option Elab.async false
set_option linter.all false
set_option maxRecDepth 100000
set_option maxHeartbeats 4000000
/-! F20: loops. -/
namespace Lw
open PySem PySem.Spec PyProof.Rows L2

section
variable {X : Cx} {T : TabX} {S : Sco} {k : Nat} {C : Callee} {Wx : WX} {pos : Pos} {tgx x : Expr} {sts : List St} {ss : List Stmt}
theorem ss_for {tg : Tg} {kk : ItK} {srcs : List E} (hp : PassesOwn (model X.prog X.w) X.A X.env X.xe) (hc : X.calm = true) (hi : PI X tgx x (tI (gx X T) Wx C false kk srcs)) (hg : PG X tgx (tG (gx X T) [] tg)) (hb : PSs X ss (tSs (gx X T) Wx C sts))
    (hfo : ∀ v, foldedSetIterable x X.env v = pure v) : PS X (.For tgx x ss [] pos) (tS (gx X T) Wx C (.forr tg kk srcs sts)) := by
  refine (ps_for hp hc hi hg hb hfo).impL fun D σ H ⟨As0, B0, H0, As, B, O, env, S', fr, fin⟩ => ?_
  simp only [evS] at fin
  refine ⟨As, B, O, env, S', fr.rst, (FinS.bind fr fin).mono fun J H1 ⟨xs, S1, As1, g1, r1, ⟨L, its, itd, hL, ri, hz⟩, f1⟩ => ?_⟩
  have fr1 := fr.step g1 r1
  have hlen := ri.1
  refine ⟨fun i m σ' H' => m = xs.length - i ∧ i ≤ xs.length ∧ ∃ As' B' O' env' S', Fr (gx X T) As0 B0 H0 As' B' O' H' σ' env' S' ∧ Evo As1 B H1 As' B' H' ∧
    FinS (gx X T) Wx As0 B0 H0 As' B' H' D (forGo (fun x env1 => asgT tg x env1) (fun env1 s2 => evSs C sts env1 s2) (xs.drop i) env' S'), ⟨xs.length, by simp, Nat.zero_le _, As1, B, O, env, S1, fr1, Evo.refl, f1⟩, ?_⟩
  rintro i m σ' H' ⟨rfl, hi', As', B', O', env', S'', fr', ev, hrun⟩
  have lat : Later L H1 H' := Later.evo ev fun a ha => (hL a ha).1
  by_cases hlt : i < xs.length
  · obtain ⟨d, hx⟩ : ∃ d, xs[i]? = some d := ⟨xs[i], by simp [hlt]⟩
    have hdrop : xs.drop i = d :: xs.drop (i + 1) := by
      rw [List.drop_eq_getElem_cons hlt]
      have : xs[i] = d := by simpa [hlt] using hx
      rw [this]
    obtain ⟨it, hit⟩ : ∃ it, its[i]? = some it := ⟨its[i]'(by omega), by simp⟩
    rw [hdrop] at hrun
    unfold forGo at hrun
    cases ha : asgT tg d env' with
    | none => rw [ha] at hrun; exact hrun.elim
    | some env1 =>
      rw [ha] at hrun
      simp only at hrun
      obtain ⟨hgo1, hyl⟩ := itd.go H' i it lat hit
      refine .inr ⟨hgo1, fun σ'' H'' => ∃ As' B' O' env' S', Fr (gx X T) As0 B0 H0 As' B' O' H'' σ'' env' S' ∧ Evo As1 B H1 As' B' H'' ∧
        FinS (gx X T) Wx As0 B0 H0 As' B' H'' D (forGo (fun x env1 => asgT tg x env1) (fun env1 s2 => evSs C sts env1 s2) (xs.drop (i + 1)) env' S'), fun σ'' H'' w => ⟨xs.length - (i + 1), by omega, rfl, by omega, w⟩, fun x' H2 y => ?_⟩
      have yi := hyl x' H2 y
      have rI : RpI (gx X T).K (As' ++ B') H' it d := (ri.2 i it d hit hx).evo ev
      obtain ⟨sm, rx⟩ := rI.yi yi
      have fr2 := fr'.step (Gr.same sm) (fr'.rst.same sm)
      have ev2 : Evo As' B' H' As' B' H2 := Evo.of fr'.rst.cells.cel (Gr.same sm)
      refine ⟨As', B', O', env', env1, S'', d, fr2.rst, rx, ha, fun σ2 r2 _ kb => ?_⟩
      have fr3 : Fr (gx X T) As0 B0 H0 As' B' O' H2 σ2 env1 S'' := ⟨fr2.gr, r2, fr2.sub, fr2.old, fr2.oo, fun j z hj => by
        obtain ⟨h3, h4⟩ := kb j z hj
        obtain ⟨a, h5, h6⟩ := fr2.bo j z h3
        exact ⟨a, h4.trans h5, h6⟩⟩
      refine ⟨As0, B0, H0, As', B', O', env1, S'', fr3, ?_⟩
      revert hrun
      cases evSs C sts env1 S'' with
      | ok f s1 =>
        intro hrun
        simp only [R.bind] at hrun
        cases f with
        | nx env2 => exact fun σ3 H3 As3 B3 O3 fr4 ev4 => ⟨As3, B3, O3, env2, s1, fr4, (ev.trans ev2).trans ev4, hrun.grow (ev2.trans ev4)⟩
        | cont env2 => exact fun σ3 H3 As3 B3 O3 fr4 ev4 => ⟨As3, B3, O3, env2, s1, fr4, (ev.trans ev2).trans ev4, hrun.grow (ev2.trans ev4)⟩
        | brk env2 => exact fun σ3 H3 As3 B3 O3 fr4 ev4 => hrun σ3 H3 As3 B3 O3 fr4 (ev2.trans ev4)
        | ret w => exact hrun
      | exc x s1 => exact id
      | bad => exact id
  · have e : i = xs.length := by omega
    subst e
    rw [List.drop_length] at hrun
    refine .inl ⟨by rw [← hlen]; exact itd.stop H' lat, hrun σ' H' As' B' O' fr' Evo.refl⟩
theorem ss_while {c : E} (hp : PassesOwn (model X.prog X.w) X.A X.env X.xe) (hc : PT X x (tT (gx X T) Wx C c)) (hb : PSs X ss (tSs (gx X T) Wx C sts)) : PS X (.While x ss [] pos) (tS (gx X T) Wx C (.whl c sts)) := by
  refine (ps_while hp hc hb).impL fun D σ H ⟨As0, B0, H0, As, B, O, env, S', fr, fin⟩ => ?_
  simp only [evS] at fin
  refine ⟨fun m σ' H' => ∃ As' B' O' env' S', Fr (gx X T) As0 B0 H0 As' B' O' H' σ' env' S' ∧
    FinS (gx X T) Wx As0 B0 H0 As' B' H' D (whlGo (fun env1 s1 => evT C c env1 s1) (fun env1 s1 => evSs C sts env1 s1) m env' S'), ⟨WF, As, B, O, env, S', fr, fin⟩, ?_⟩
  rintro m σ' H' ⟨As', B', O', env', S'', fr', hrun⟩
  cases m with
  | zero => exact hrun.elim
  | succ m =>
    unfold whlGo at hrun
    refine ⟨As', B', O', env', S'', fr'.rst, (FinS.bind fr' hrun).mono fun t H1 ⟨b, S1, As1, g, r, q, f1⟩ => ?_⟩
    subst q
    have fr1 := fr'.step g r
    cases t
    · exact f1 σ' H1 As1 B' O' fr1 Evo.refl
    · simp only [if_true] at f1 ⊢
      refine ⟨fun σ'' H'' => ∃ As' B' O' env' S', Fr (gx X T) As0 B0 H0 As' B' O' H'' σ'' env' S' ∧
        FinS (gx X T) Wx As0 B0 H0 As' B' H'' D (whlGo (fun env1 s1 => evT C c env1 s1) (fun env1 s1 => evSs C sts env1 s1) m env' S'), fun σ'' H'' w => ⟨m, Nat.lt_succ_self m, w⟩, ?_⟩
      refine ⟨As0, B0, H0, As1, B', O', env', S1, fr1, ?_⟩
      revert f1
      cases evSs C sts env' S1 with
      | ok f s1 =>
        intro f1
        simp only [R.bind] at f1
        cases f with
        | nx env2 => exact fun σ3 H3 As3 B3 O3 fr4 ev4 => ⟨As3, B3, O3, env2, s1, fr4, f1.grow ev4⟩
        | cont env2 => exact fun σ3 H3 As3 B3 O3 fr4 ev4 => ⟨As3, B3, O3, env2, s1, fr4, f1.grow ev4⟩
        | brk env2 => exact fun σ3 H3 As3 B3 O3 fr4 ev4 => f1 σ3 H3 As3 B3 O3 fr4 ev4
        | ret w => exact f1
      | exc x s1 => exact id
      | bad => exact id
end
end Lw

set_option Elab.async false
set_option linter.all false
set_option maxRecDepth 100000
set_option maxHeartbeats 4000000
/-! F21: assignments, raise. -/
namespace Lw
open PySem PySem.Spec PyProof.Rows L2

/-! which assignment the compiler makes -/
theorem swp2 {a b : Expr} {k k2 : Nat} {pt pt2 px py : Pos} {x y : Str} {env : PySem.Env} (hb : env.blockKind = .function) (kx : env.kindOf x = some .local) (ky : env.kindOf y = some .local) (hl : (py.line == px.line) = true) (ne : x ≠ y)
    (sa : plainX a = true) (sb : plainX b = true) (nf : (foldedForSure 8 a && foldedForSure 8 b) = false) (nc : (constantsAlone 8 a && constantsAlone 8 b) = false) :
    swappedStores [.Tuple [.Name x px, .Name y py] k pt] (.Tuple [a, b] k2 pt2) env = pure (some [x, y]) := by
  have h1 : ([a, b].any fun | .Starred .. => true | _ => false) = false := by
    have e : ∀ {z : Expr}, plainX z = true → (match z with | .Starred .. => true | _ => false) = false := fun {z} h => by cases z <;> first | rfl | cases h
    simp only [List.any_cons, List.any_nil, Bool.or_false, e sa, e sb]
  have ne' : (y == x) = false := by simpa using fun e => ne e.symm
  unfold swappedStores
  simp only [hb]
  rw [if_neg (by simp)]
  split
  · rename_i q; exact absurd (show _ = true from q) (Bool.eq_false_iff.mp h1)
  rename_i q0
  clear q0
  simp only [Expr.pos, List.filterMap_cons, List.filterMap_nil, List.head?_cons, Option.map_some, Option.getD_some, kx, ky, hl, beq_self_eq_true, Bool.and_self, if_true]
  rw [if_neg (by simp [List.eraseDups_cons, ne']), if_neg (by simpa using nf), if_neg (by simpa using nc)]
theorem swp3 {a b c : Expr} {k k2 : Nat} {pt pt2 px py pz : Pos} {x y z : Str} {env : PySem.Env} (hb : env.blockKind = .function) (kx : env.kindOf x = some .local) (ky : env.kindOf y = some .local) (kz : env.kindOf z = some .local) (hl : (py.line == px.line) = true) (hl2 : (pz.line == px.line) = true) (ne : x ≠ y) (ne2 : x ≠ z) (ne3 : y ≠ z)
    (sa : plainX a = true) (sb : plainX b = true) (sc : plainX c = true) (nf : (foldedForSure 8 a && foldedForSure 8 b && foldedForSure 8 c) = false) (nc : (constantsAlone 8 a && constantsAlone 8 b && constantsAlone 8 c) = false) :
    swappedStores [.Tuple [.Name x px, .Name y py, .Name z pz] k pt] (.Tuple [a, b, c] k2 pt2) env = pure (some [x, y, z]) := by
  have h1 : ([a, b, c].any fun | .Starred .. => true | _ => false) = false := by
    have e : ∀ {z : Expr}, plainX z = true → (match z with | .Starred .. => true | _ => false) = false := fun {z} h => by cases z <;> first | rfl | cases h
    simp only [List.any_cons, List.any_nil, Bool.or_false, e sa, e sb, e sc]
  have ne' : (y == x) = false := by simpa using fun e => ne e.symm
  have ne2' : (z == x) = false := by simpa using fun e => ne2 e.symm
  have ne3' : (z == y) = false := by simpa using fun e => ne3 e.symm
  unfold swappedStores
  simp only [hb]
  rw [if_neg (by simp)]
  split
  · rename_i q; exact absurd (show _ = true from q) (Bool.eq_false_iff.mp h1)
  rename_i q0
  clear q0
  simp only [Expr.pos, List.filterMap_cons, List.filterMap_nil, List.head?_cons, Option.map_some, Option.getD_some, kx, ky, kz, hl, hl2, beq_self_eq_true, Bool.and_self, if_true]
  rw [if_neg (by simp [List.eraseDups_cons, ne', ne2', ne3']), if_neg (by simpa [Bool.and_assoc] using nf), if_neg (by simpa [Bool.and_assoc] using nc)]
theorem swpF {ts vs : List Expr} {k k2 : Nat} {pt pt2 : Pos} {env : PySem.Env} (h : vs.all (foldedForSure 8) = true ∨ 4 ≤ ts.length) : swappedStores [.Tuple ts k pt] (.Tuple vs k2 pt2) env = pure none := by
  unfold swappedStores
  simp only
  rcases h with h | h
  · split
    · rfl
    · split
      · rfl
      · split
        · rfl
        · first | rfl | (rw [if_pos h])
  · rw [if_pos (by
      have h1 : (ts.length == 2) = false := by simp; omega
      have h2 : (ts.length == 3) = false := by simp; omega
      rw [h1, h2]; rfl)]
theorem swpN {tg x : Expr} {env : PySem.Env} (h : isTup x = false) : swappedStores [tg] x env = pure none := by
  cases x <;> first | (cases tg <;> rfl) | (simp [isTup] at h)

def swB (env : PySem.Env) (y : Str) (p pp : Pos) (scope : Scope) : Bool := env.blockKind == .function && env.kindOf y == some .local && p.line == pp.line && !(scope.names.any fun (n, k) => n == y && (k == .local || k == .cell))
theorem sw_lc {ee : Expr} {gs : List Comprehension} {scope : Scope} {pp p : Pos} {y : Str} {l : Nat} {env : PySem.Env} : swapsWith (.ListComp ee gs scope pp) (some (.Name y p)) l env = pure (swB env y p pp scope) := rfl
def isComp : Expr → Bool
  | .ListComp _ _ _ _ => true
  | .SetComp _ _ _ _ => true
  | .DictComp _ _ _ _ _ => true
  | _ => false
theorem sw_plain {x : Expr} {o : Option Expr} {l : Nat} {env : PySem.Env} (h : isComp x = false) : swapsWith x o l env = pure false := by
  cases x <;> first | rfl | (simp [isComp] at h)
theorem sw_tup {x : Expr} {es : List Expr} {kk : Nat} {p : Pos} {l : Nat} {env : PySem.Env} : swapsWithSole [.Tuple es kk p] x l env = pure false := by
  cases x <;> rfl
section
variable {X : Cx} {T : TabX} {S : Sco} {k : Nat} {C : Callee} {Wx : WX} {pos p q : Pos} {x : Expr} {e : E}
theorem asg_plain {i : Nat} {y : Str} {t : TE} (g : Gd X T S k C Wx) (h1 : X.N[i]? = some y) (h2 : locB S y = true) (h : PE X x t) (hc : isComp x = false) : AsgOk X i y p x pos t := by
  obtain ⟨hl, hf⟩ := g.loc h2
  exact ps_set g.nd h1 hl h (sw_plain hc) hf
theorem asg_lc {i : Nat} {y : Str} {elt : E} {tg : Tg} {kk : ItK} {srcs conds : List E} {own : List Nat} (g : Gd X T S k C Wx) (h0 : S.hot = 0) (h1 : X.N[i]? = some y) (h2 : locB S y = true) (h : chkE T X.N false S x (.lc elt tg kk srcs conds own) = true) :
    AsgOk X i y p x pos (tLc (tI (gx X T) Wx C true kk srcs) (tG (gx X T) own tg) (tCs (gx X T) (fun _ _ _ _ => False) C conds) (tE (gx X T) (fun _ _ _ _ => False) C elt) own) ∧ ∀ i ∈ tgSlots tg, i ∈ own := by
  obtain ⟨hl, hf⟩ := g.loc h2
  simp only [chkE] at h
  split at h
  · rename_i ee et ei ifs scope e
    obtain ⟨pp, rfl⟩ := vLc_eq e
    obtain ⟨h, h8⟩ := and2 h
    obtain ⟨h, h7⟩ := and2 h
    obtain ⟨h, h6⟩ := and2 h
    obtain ⟨h, h5⟩ := and2 h
    obtain ⟨h, h4⟩ := and2 h
    obtain ⟨h, h3⟩ := and2 h
    obtain ⟨h, hb⟩ := and2 h
    obtain ⟨_, h⟩ := and2 h
    rw [← g.hs] at hb
    have hown : (ownL X.N own).map (·.2) = own := by simp [ownL, Function.comp_def]
    have hi := sdI srcs k C true X S Wx kk et ei g h3 h4
    have hg : ∀ (s : Shared) (H : Hp) (C' : Addr) (cl : List (Str × Addr)) (fp : List Addr), PG (X.blk s H scope (compEnvC scope cl C' X.env) fp) et (tG (gx X T) own tg) := fun s H C' cl fp => sd_tg own (g.blk (scope := scope) s H C' cl fp (fun z => absurd h0 z)) tg et h5
    have ht : ∀ (s : Shared) (H : Hp) (C' : Addr) (cl : List (Str × Addr)) (fp : List Addr), PTs (X.blk s H scope (compEnvC scope cl C' X.env) fp) ifs (tCs (gx X T) (fun _ _ _ _ => False) C conds) := fun s H C' cl fp => sdC conds k C (X.blk s H scope (compEnvC scope cl C' X.env) fp) (blkS S scope) (fun _ _ _ _ => False) ifs (g.blk s H C' cl fp (fun z => absurd h0 z)) h7
    have he : ∀ (s : Shared) (H : Hp) (C' : Addr) (cl : List (Str × Addr)) (fp : List Addr), PE (X.blk s H scope (compEnvC scope cl C' X.env) fp) ee (tE (gx X T) (fun _ _ _ _ => False) C elt) := fun s H C' cl fp => (sdE elt k C (X.blk s H scope (compEnvC scope cl C' X.env) fp) (blkS S scope) (fun _ _ _ _ => False) false ee (g.blk s H C' cl fp (fun z => absurd h0 z)) h8).1
    refine ⟨?_, fun i hi => ?_⟩
    · cases hsw : swB X.env y p pp scope with
      | true =>
        have hy : X.env.scope.names.lookup y = some .local := by
          unfold swB at hsw
          simp only [Bool.and_eq_true, beq_iff_eq] at hsw
          exact hsw.1.1.2
        have r := ps_setLc (pos := pp) (spos := pos) (py := p) (g.calm h0) g.nd h1 hy (sw_lc.trans (congrArg pure hsw)) hi (blkOk_by hb) hg ht he (lc_iter_ok h3)
        rw [hown] at r
        exact r
      | false =>
        have r := pe_lc (pos := pp) (g.calm h0) g.nd hi (blkOk_by hb) hg ht he (lc_iter_ok h3)
        rw [hown] at r
        exact ps_set g.nd h1 hl r (sw_lc.trans (congrArg pure hsw)) hf
    · have := List.all_eq_true.mp h6 i hi
      simpa using this
  · cases h
/-! a, b = x, y -/
theorem par_done {As0 B0 : List Addr} {H0 : Hp} {D : Ends} {As B : List Addr} {O : Nat → Option Addr} {H : Hp} {G : Gc} : ∀ {is : List (Nat × Bool)} {vs : List V} {ws : List W} {σ : L2.St} {env : Env} {S' : Cells}, Fr G As0 B0 H0 As B O H σ env S' → RpWs G As B H vs ws → FinS G Wx As0 B0 H0 As B H D (parW is env ws S') →
    is.length = vs.length ∧ D.nx ((is.zip vs).foldl (fun s p => s.set p.1.1 (some p.2)) σ) H
  | [], _, _, σ, env, S', fr, .nil, h => ⟨rfl, h σ H As B O fr Evo.refl⟩
  | [], _, _, σ, env, S', fr, .cons _ _, h => h.elim
  | (i, o) :: is, _, _, σ, env, S', fr, .nil, h => h.elim
  | (i, o) :: is, _, _, σ, env, S', fr, .cons (v := v) (vs := vs) (w := w) (ws := ws) r rs, h => by
    unfold parW parSet at h
    cases o with
    | true => exact h.elim
    | false =>
      simp only at h
      split at h
      · rename_i env1 e1
        split at e1
        · rename_i z; cases z
        · cases e1
        · cases e1
        · cases e1
        · cases e1
        · rename_i n1 n2 n3 n4 n5
          split at e1
          · rename_i hi
            have := par_done (is := is) (vs := vs) (ws := ws) (fr.set r (fun x q => n2 x q) (fun x q => n1 x q) hi) rs (by unfold parW; rw [e1]; exact h)
            exact ⟨by simp [this.1], this.2⟩
          · cases e1
      · exact h.elim
theorem ss_par2 {i j : Nat} {y z : Str} {a b : Expr} {es : List E} {p1 p2 pt pt2 : Pos} {kt k2 : Nat} (g : Gd X T S k C Wx) (h0 : S.hot = 0) (hk : X.env.blockKind = .function) (hi : X.N[i]? = some y) (hj : X.N[j]? = some z) (hij : i ≠ j) (hne : y ≠ z)
    (ky : X.env.scope.names.lookup y = some .local) (kz : X.env.scope.names.lookup z = some .local) (hl : (p2.line == p1.line) = true) (sa : plainX a = true) (sb : plainX b = true)
    (nf : (foldedForSure 8 a && foldedForSure 8 b) = false) (nc : (constantsAlone 8 a && constantsAlone 8 b) = false) (ha : PA X [a, b] (tL (gx X T) Wx C es)) :
    PS X (.Assign [.Tuple [.Name y p1, .Name z p2] kt pt] (.Tuple [a, b] k2 pt2) pos) (tS (gx X T) Wx C (.par [(i, false), (j, false)] es)) := by
  refine (ps_par (pos := pos) (g.calm h0) g.nd hi hj hij ky kz ha (swp2 hk ky kz hl hne sa sb nf nc) rfl).impL fun D σ H ⟨As0, B0, H0, As, B, O, env, S', fr, fin⟩ => ?_
  simp only [evS] at fin
  refine ⟨As, B, O, env, S', fr.rst, (FinS.bind fr fin).mono fun vs H1 ⟨ws, S1, As1, gr, r, q, f1⟩ => ?_⟩
  obtain ⟨hlen, d⟩ := par_done (fr.step gr r) q f1
  match vs, hlen, d with
  | [v, w], _, d => exact ⟨v, w, rfl, d⟩
theorem ss_par3 {i j l : Nat} {y z u : Str} {a b c : Expr} {es : List E} {p1 p2 p3 pt pt2 : Pos} {kt k2 : Nat} (g : Gd X T S k C Wx) (h0 : S.hot = 0) (hk : X.env.blockKind = .function) (hi : X.N[i]? = some y) (hj : X.N[j]? = some z) (hl : X.N[l]? = some u) (hij : i ≠ j) (hil : i ≠ l) (hjl : j ≠ l) (hne : y ≠ z) (hne2 : y ≠ u) (hne3 : z ≠ u)
    (ky : X.env.scope.names.lookup y = some .local) (kz : X.env.scope.names.lookup z = some .local) (ku : X.env.scope.names.lookup u = some .local) (hl1 : (p2.line == p1.line) = true) (hl2 : (p3.line == p1.line) = true) (sa : plainX a = true) (sb : plainX b = true) (sc : plainX c = true)
    (nf : (foldedForSure 8 a && foldedForSure 8 b && foldedForSure 8 c) = false) (nc : (constantsAlone 8 a && constantsAlone 8 b && constantsAlone 8 c) = false) (ha : PA X [a, b, c] (tL (gx X T) Wx C es)) :
    PS X (.Assign [.Tuple [.Name y p1, .Name z p2, .Name u p3] kt pt] (.Tuple [a, b, c] k2 pt2) pos) (tS (gx X T) Wx C (.par [(i, false), (j, false), (l, false)] es)) := by
  refine (ps_par3 (pos := pos) (g.calm h0) g.nd hi hj hl hij hil hjl ky kz ku ha (swp3 hk ky kz ku hl1 hl2 hne hne2 hne3 sa sb sc nf nc) rfl).impL fun D σ H ⟨As0, B0, H0, As, B, O, env, S', fr, fin⟩ => ?_
  simp only [evS] at fin
  refine ⟨As, B, O, env, S', fr.rst, (FinS.bind fr fin).mono fun vs H1 ⟨ws, S1, As1, gr, r, q, f1⟩ => ?_⟩
  obtain ⟨hlen, d⟩ := par_done (fr.step gr r) q f1
  match vs, hlen, d with
  | [v, w, w2], _, d => exact ⟨v, w, w2, rfl, d⟩
/-! raise -/
theorem ss_raise {c : Nat} {y m : Str} {j : Nat} {p2 : Pos} (g : Gd X T S k C Wx) (h0 : S.hot = 0) (hc : (c, y) ∈ T.cls) (hg : gloB S y = true) : PS X (.Raise (some (.Call (.Name y p) [.Constant (.str m) j p2] [] q)) none pos) (tS (gx X T) Wx C (.raise c [.cst (.str m)])) := by
  obtain ⟨Ca, h1, h2, h3, h4, h5⟩ := g.st.ex c y hc
  obtain ⟨g1, g2, g3⟩ := g.glo hg
  refine (L2N.ps_raise (pos := pos) (g.calm h0) (g.tk h0) (L2N.pmk_own (p := p) (p2 := p2) (pos := q) (j := j) (m := m) F.excBase_ValueError h2 h1 h3 (raises_own h4 h5) g1 g2)).impL fun D σ H ⟨As0, B0, H0, As, B, O, env, S', fr, fin⟩ => ?_
  simp only [evS, evL, evE, R.bind, raiseW, pures, pure?] at fin
  exact fin (.ref Ca) none σ H As fr.gr (fr.rst.cells.sub fr.sub) (.plain hc h1)
end
end Lw

set_option Elab.async false
set_option linter.all false
set_option maxRecDepth 100000
set_option maxHeartbeats 4000000
/-! F22: new lists; the check of statements; every statement that it passes. -/
namespace Lw
open PySem PySem.Spec PyProof.Rows L2

section
variable {X : Cx} {T : TabX} {S : Sco} {k : Nat} {C : Callee} {Wx : WX} {pos p q : Pos} {x y : Expr} {e a b : E} {es : List E} {xs : List Expr}
theorem fresh_k {G : Gc} {As B : List Addr} {O : Nat → Option Addr} {H : Hp} {σ : L2.St} {env : Env} {S1 : Cells} {Q : VK} {vs : List V} {ds : List PD} {d : Addr} (r : Rst G As B O H σ env S1) (rl : RpL G.K (As ++ B) H vs ds) (h : FinF G Wx B O σ env Q As H (.ok (.d (.list ds)) S1)) (hn : H d = none) : Q (.ref d) (upd H d (.lst vs)) := by
  obtain ⟨ds', e, k⟩ := h
  cases e
  have sm : Same H (upd H d (.lst vs)) := Same.upd hn
  have nA : ∀ a ∈ As, a ∉ d :: B := fun a ha hb => by
    rcases List.mem_cons.mp hb with e | hb
    · obtain ⟨o, q, _⟩ := r.cells.cel a ha
      rw [e, hn] at q; cases q
    · exact r.cells.dis a ha hb
  exact k d _ As vs (Gr.same sm) hn ⟨r.cells.more hn, (r.slots.more hn).grow' r.cells.cel nA (Gr.same sm)⟩ upd_same ((rl.more hn).same sm)
theorem sf_lst (h : PA X xs (tL (gx X T) Wx C es)) (hl : es.length ≤ 1000) : PE X (.List xs pos) (tEF (gx X T) Wx C (.lst es)) := by
  refine (pe_lst (pos := pos) h).impL fun σ H Q ⟨As, B, O, env, S', rst, fin⟩ => ?_
  simp only [evE] at fin
  have hlen : ∀ ws s', evL C es env S' = .ok ws s' → ws.length ≤ 1000 := fun ws s' e => by rw [evL_len e]; exact hl
  refine ⟨As, B, O, env, S', rst, ?_⟩
  cases he : evL C es env S' with
  | ok ws S1 =>
    rw [he] at fin
    simp only [R.bind] at fin
    have hw := hlen ws S1 he
    intro vs H1 As1 gr rst1 rws
    cases hp : pures ws with
    | none => rw [hp] at fin; exact fin.elim
    | some ds =>
      rw [hp] at fin
      exact ⟨by rw [rws.len, sizeLine_eq]; omega, fun p hn => fresh_k rst1 (rws.pures hp) (FinF.grow fin gr) hn⟩
  | exc x S1 => rw [he] at fin; exact fin
  | bad => rw [he] at fin; exact fin
theorem sf_add (ha : PE X x (tE (gx X T) Wx C a)) (hb : PE X y (tE (gx X T) Wx C b)) : PE X (.BinOp x .Add y pos) (tEF (gx X T) Wx C (.bin .add a b)) := by
  refine (pe_op (pos := pos) op_cat ha hb).impL fun σ H Q ⟨As, B, O, env, S', rst, fin⟩ => ?_
  simp only [evE] at fin
  refine ⟨As, B, O, env, S', rst, (FinF.bind fin).mono fun x H1 ⟨w, S1, As1, g1, r1, q1, f1⟩ => ?_⟩
  refine ⟨As1, B, O, env, S1, r1, (FinF.bind f1).mono fun y H2 ⟨w2, S2, As2, g2, r2, q2, f2⟩ => ?_⟩
  have q1' := q1.grow r1.cells.cel g2
  split at f2
  · rename_i p q e1 e2
    have v1 := q1'.view r2.cells e1
    have v2 := q2.view r2.cells e2
    have key : ∃ xs ys, p = .list xs ∧ q = .list ys ∧ xs.length + ys.length ≤ LINE ∧ FinF (gx X T) Wx B O σ env Q As2 H2 (.ok (.d (.list (xs ++ ys))) S2) := by
      simp only [binD, addD] at f2
      split at f2
      · obtain ⟨ds, e, _⟩ := f2; cases e
      · split at f2
        · obtain ⟨ds, e, _⟩ := f2; cases e
        · exact f2.elim
      · split at f2
        · rename_i hz
          exact ⟨_, _, rfl, rfl, hz, f2⟩
        · exact f2.elim
      · split at f2
        · obtain ⟨ds, e, _⟩ := f2; cases e
        · exact f2.elim
      · exact f2.elim
    obtain ⟨xs, ys, rfl, rfl, hz, f3⟩ := key
    obtain ⟨a, vs, rfl, h1, h2⟩ := v1.list
    obtain ⟨b, us, rfl, k1, k2⟩ := v2.list
    exact ⟨a, b, vs, us, rfl, rfl, h1, k1, by rw [h2.len, k2.len, sizeLine_eq]; exact hz, fun d hn => fresh_k r2 (h2.app k2) f3 hn⟩
  · exact f2.elim
theorem sf_list {z : Str} (g : Gd X T S k C Wx) (hz : z = ("list" : Str)) (hg : gloB S z = true) (ha : PA X (x :: xs) (tL (gx X T) Wx C es)) (hp : ∀ y ∈ x :: xs, plainX y = true) : PE X (.Call (.Name z p) (x :: xs) [] pos) (tEF (gx X T) Wx C (.bi .list es)) := by
  subst hz
  obtain ⟨g1, g2, g3⟩ := g.glo hg
  have st := star_plain (env := X.env) (r := xs) (hp _ List.mem_cons_self)
  have bt := backTo_any (pos := pos) (star_any (env := X.env) fun y hy => hp y (List.mem_cons_of_mem _ hy))
  refine (pe_callTy (p := p) (pos := pos) call_list_of g1 (g.st.bi _ (by decide)) (boot_bi (b := .list) rfl) ha g3 g2 st bt).impL fun σ H Q ⟨As, B, O, env, S', rst, fin⟩ => ?_
  simp only [evE] at fin
  refine ⟨As, B, O, env, S', rst, (FinF.bind fin).mono fun vs H1 ⟨ws, S1, As1, gr1, r1, q1, f1⟩ => ?_⟩
  unfold biR at f1
  split at f1
  · rename_i xs
    cases q1 with
    | cons q qs =>
      cases qs
      cases q with
      | scr hf rl => exact ⟨_, _, rfl, .inl hf.sqL, fun l hn => fresh_k r1 rl f1 hn⟩
  · split at f1
    · rename_i ds e
      have pv := paired_views r1.cells q1 e
      cases ds with
      | nil => exact (show False from f1).elim
      | cons d r =>
        cases r with
        | cons d2 r => exact (show False from f1).elim
        | nil =>
          obtain ⟨v, rfl, h⟩ := pr1 pv
          have f2 : FinF (gx X T) Wx B O σ env Q As1 H1 (dR ((items? d).map .list) S1) := f1
          cases hi : items? d with
          | none => rw [hi] at f2; exact f2.elim
          | some ys =>
            rw [hi] at f2
            obtain ⟨a, us, rfl, h1, h2⟩ := h.items hi
            refine ⟨a, us, rfl, ?_, fun l hn => fresh_k r1 h2 f2 hn⟩
            rcases h1 with ⟨h1, _⟩ | ⟨h1, _⟩
            · exact .inl (SqL.of h1)
            · exact .inr h1
    · exact f1.elim
end
end Lw

set_option Elab.async false
set_option linter.all false
set_option maxRecDepth 100000
set_option maxHeartbeats 4000000
/-! F23: the check of statements. -/
namespace Lw
open PySem PySem.Spec PyProof.Rows L2

def sAsg : Stmt → Option (Expr × Expr)
  | .Assign [t] v _ => some (t, v)
  | _ => none
def sRet : Stmt → Option Expr
  | .Return (some e) _ => some e
  | _ => none
def sExpr : Stmt → Option Expr
  | .Expr e _ => some e
  | _ => none
def sIf : Stmt → Option (Expr × List Stmt × List Stmt)
  | .If c a b _ => some (c, a, b)
  | _ => none
def sFor : Stmt → Option (Expr × Expr × List Stmt)
  | .For t i b [] _ => some (t, i, b)
  | _ => none
def sWhile : Stmt → Option (Expr × List Stmt)
  | .While c b [] _ => some (c, b)
  | _ => none
def sRaise : Stmt → Option (Str × Str)
  | .Raise (some (.Call (.Name y _) [.Constant (.str m) _ _] [] _)) none _ => some (y, m)
  | _ => none
def sPass : Stmt → Bool
  | .Pass _ => true
  | _ => false
def sBreak : Stmt → Bool
  | .Break _ => true
  | _ => false
def sCont : Stmt → Bool
  | .Continue _ => true
  | _ => false
def sApp : Stmt → Option (Str × Expr)
  | .Expr (.Call (.Attribute (.Name y _) m p2) [x] [] p3) _ => if m = "append" && p2.endLine == p3.line then some (y, x) else none
  | _ => none
def vNameP : Expr → Option (Str × Pos)
  | .Name y p => some (y, p)
  | _ => none
section
variable {s : Stmt}
theorem sAsg_eq {t v : Expr} (h : sAsg s = some (t, v)) : ∃ p, s = .Assign [t] v p := by
  unfold sAsg at h; split at h <;> cases h; exact ⟨_, rfl⟩
theorem sRet_eq {v : Expr} (h : sRet s = some v) : ∃ p, s = .Return (some v) p := by
  unfold sRet at h; split at h <;> cases h; exact ⟨_, rfl⟩
theorem sExpr_eq {v : Expr} (h : sExpr s = some v) : ∃ p, s = .Expr v p := by
  unfold sExpr at h; split at h <;> cases h; exact ⟨_, rfl⟩
theorem sIf_eq {c : Expr} {a b : List Stmt} (h : sIf s = some (c, a, b)) : ∃ p, s = .If c a b p := by
  unfold sIf at h; split at h <;> cases h; exact ⟨_, rfl⟩
theorem sFor_eq {t i : Expr} {b : List Stmt} (h : sFor s = some (t, i, b)) : ∃ p, s = .For t i b [] p := by
  unfold sFor at h; split at h <;> cases h; exact ⟨_, rfl⟩
theorem sWhile_eq {c : Expr} {b : List Stmt} (h : sWhile s = some (c, b)) : ∃ p, s = .While c b [] p := by
  unfold sWhile at h; split at h <;> cases h; exact ⟨_, rfl⟩
theorem sRaise_eq {y m : Str} (h : sRaise s = some (y, m)) : ∃ p1 j p2 p3 p4, s = .Raise (some (.Call (.Name y p1) [.Constant (.str m) j p2] [] p3)) none p4 := by
  unfold sRaise at h; split at h <;> cases h; exact ⟨_, _, _, _, _, rfl⟩
theorem sPass_eq (h : sPass s = true) : ∃ p, s = .Pass p := by
  unfold sPass at h; split at h <;> cases h; exact ⟨_, rfl⟩
theorem sBreak_eq (h : sBreak s = true) : ∃ p, s = .Break p := by
  unfold sBreak at h; split at h <;> cases h; exact ⟨_, rfl⟩
theorem sCont_eq (h : sCont s = true) : ∃ p, s = .Continue p := by
  unfold sCont at h; split at h <;> cases h; exact ⟨_, rfl⟩
theorem sApp_eq {y : Str} {x : Expr} (h : sApp s = some (y, x)) : ∃ p1 p2 p3 p4, s = .Expr (.Call (.Attribute (.Name y p1) "append" p2) [x] [] p3) p4 ∧ (p2.endLine == p3.line) = true := by
  unfold sApp at h
  split at h
  · split at h
    · rename_i hc
      cases h
      simp only [Bool.and_eq_true, decide_eq_true_eq] at hc
      obtain ⟨h1, h2⟩ := hc
      subst h1
      exact ⟨_, _, _, _, rfl, h2⟩
    · cases h
  · cases h
theorem vNameP_eq {x : Expr} {y : Str} {p : Pos} (h : vNameP x = some (y, p)) : x = .Name y p := by
  unfold vNameP at h; split at h <;> cases h; rfl
end
def isLc : E → Bool
  | .lc _ _ _ _ _ _ => true
  | _ => false
def isLocal (S : Sco) (x : Str) : Bool := match S.sc.names.lookup x with
  | some .local => true
  | _ => false
/-- a, b = x, y -/
def parB (T : Tab) (N : List Str) (S : Sco) (ts vs : List Expr) (es : List E) : List (Nat × Bool) → Bool
  | [(i, false), (j, false)] => match ts, vs with
    | [t1, t2], [a, b] => (match vNameP t1, vNameP t2 with
      | some (y, p1), some (z, p2) => decide (N[i]? = some y) && decide (N[j]? = some z) && decide (i ≠ j) && decide (y ≠ z) && isLocal S y && isLocal S z && (p2.line == p1.line) && plainX a && plainX b && !(foldedForSure 8 a && foldedForSure 8 b) && !(constantsAlone 8 a && constantsAlone 8 b) && chkL T N S [a, b] es
      | _, _ => false)
    | _, _ => false
  | [(i, false), (j, false), (l, false)] => match ts, vs with
    | [t1, t2, t3], [a, b, c] => (match vNameP t1, vNameP t2, vNameP t3 with
      | some (y, p1), some (z, p2), some (u, p3) => decide (N[i]? = some y) && decide (N[j]? = some z) && decide (N[l]? = some u) && decide (i ≠ j) && decide (i ≠ l) && decide (j ≠ l) && decide (y ≠ z) && decide (y ≠ u) && decide (z ≠ u) && isLocal S y && isLocal S z && isLocal S u && (p2.line == p1.line) && (p3.line == p1.line) &&
          plainX a && plainX b && plainX c && !(foldedForSure 8 a && foldedForSure 8 b && foldedForSure 8 c) && !(constantsAlone 8 a && constantsAlone 8 b && constantsAlone 8 c) && chkL T N S [a, b, c] es
      | _, _, _ => false)
    | _, _ => false
  | _ => false
def asgB (T : Tab) (N : List Str) (S : Sco) (i : Nat) (e : E) (s : Stmt) : Bool := match sAsg s with
  | some (t, v) => (match vName t with
    | some y => decide (N[i]? = some y) && locB S y && (match isLc e with | true => decide (S.hot = 0) | false => !isComp v) && chkE T N false S v e
    | none => false)
  | none => false
def freshE : E → Bool
  | .lst _ => true
  | .bin .add _ _ => true
  | .bi .list _ => true
  | .lc _ _ _ _ _ _ => true
  | _ => false
def strOf : List E → Option Str
  | [.cst (.str m)] => some m
  | _ => none
mutual
def chkS (T : Tab) (N : List Str) (S : Sco) (s : Stmt) : St → Bool
  | .asg t e => (match t with
    | .nm i => asgB T N S i e s
    | .tu ts => (match sAsg s with
      | some (tg, v) => isTup tg && !isTup v && chkG N S (.tu ts) tg && chkE T N false S v e
      | none => false)
    | .tt _ => false)
  | .par is es => match sAsg s with
    | some (tg, v) => (match vTup tg, vTup v with
      | some ts, some vs => decide (S.hot = 0) && parB T N S ts vs es is
      | _, _ => false)
    | none => false
  | .own i e => decide (S.hot = 0) && freshE e && asgB T N S i e s
  | .ret e => match sRet s with
    | some v => chkE T N false S v e
    | none => false
  | .rown i => match sRet s with
    | some v => (match vName v with
      | some y => varB N S i y
      | none => false)
    | none => false
  | .ifs c a b => match sIf s with
    | some (x, as, bs) => chkE T N true S x c && chkSs T N S as a && chkSs T N S bs b
    | none => false
  | .forr t k srcs body => match sFor s with
    | some (tg, it, b) => decide (S.hot = 0) && chkI T N S k it srcs && (match k with | .zip2 | .zip3 | .enum => isTup tg | _ => true) && chkG N S t tg && chkSs T N S b body
    | none => false
  | .whl c body => match sWhile s with
    | some (x, b) => chkE T N true S x c && chkSs T N S b body
    | none => false
  | .raise c args => match sRaise s with
    | some (y, m) => decide (S.hot = 0) && decide (strOf args = some m) && T.cls.any (fun p => decide (p.1 = c) && decide (p.2 = y)) && gloB S y
    | none => false
  | .expr e => match sExpr s with
    | some v => !isComp v && chkE T N false S v e
    | none => false
  | .pass => sPass s
  | .brk => sBreak s
  | .cont => sCont s
  | .cset a i e => match sAsg s with
    | some (tg, v) => (match vSub tg with
      | some (xa, xi) => plainX xi && chkE T N false S v e && chkE T N false S xa a && chkE T N false S xi i
      | none => false)
    | none => false
  | .setk j i e => match sAsg s with
    | some (tg, v) => (match vSub tg with
      | some (xa, xi) => (match vName xa with
        | some y => varB N S j y && plainX xi && chkE T N false S v e && chkE T N false S xi i
        | none => false)
      | none => false)
    | none => false
  | .app i e => match sApp s with
    | some (y, x) => varB N S i y && plainX x && chkE T N false S x e
    | none => false
  | .bad => true
  | _ => false
def chkSs (T : Tab) (N : List Str) (S : Sco) : List Stmt → List St → Bool
  | [], [] => true
  | ss, .bad :: _ => true
  | s :: ss, st :: sts => chkS T N S s st && chkSs T N S ss sts
  | _, _ => false
end
end Lw

set_option Elab.async false
set_option linter.all false
set_option maxRecDepth 100000
set_option maxHeartbeats 4000000
/-! F24: every statement that the check passes. -/
namespace Lw
open PySem PySem.Spec PyProof.Rows L2

section
variable {T : TabX} {k : Nat} {C : Callee}
theorem isLocal_eq {S : Sco} {x : Str} (h : isLocal S x = true) : S.sc.names.lookup x = some .local := by
  unfold isLocal at h
  split at h
  · assumption
  · cases h
theorem asgB_ok {X : Cx} {S : Sco} {Wx : WX} {i : Nat} {e : E} {s : Stmt} (g : Gd X T S k C Wx) (h : asgB T X.N S i e s = true) :
    ∃ y p v pos t, s = .Assign [.Name y p] v pos ∧ AsgOk X i y p v pos t ∧ (∀ σ H Q, tE (gx X T) Wx C e σ H Q → t σ H Q) ∧ (isLc e = true → ∀ σ H Q, tEF (gx X T) Wx C e σ H Q → t σ H Q) := by
  unfold asgB at h
  split at h
  · rename_i tg v e1
    obtain ⟨pos, rfl⟩ := sAsg_eq e1
    split at h
    · rename_i y e2
      obtain ⟨p, rfl⟩ := vName_eq e2
      obtain ⟨h, h4⟩ := and2 h
      obtain ⟨h, h3⟩ := and2 h
      obtain ⟨h1, h2⟩ := and2 h
      have h1 : X.N[i]? = some y := by simpa using h1
      cases hl : isLc e with
      | true =>
        cases e with
        | lc elt tg kk srcs conds own =>
          rw [hl] at h3
          have h0 : S.hot = 0 := of_decide_eq_true h3
          obtain ⟨a, b⟩ := asg_lc (p := p) (pos := pos) g h0 h1 h2 h4
          exact ⟨y, p, v, pos, _, rfl, a, fun σ H Q q => lc_imp b (tE_tEF q ev_lc_list), fun _ σ H Q q => lc_imp b q⟩
        | _ => cases hl
      | false =>
        rw [hl] at h3
        have h3 : (!isComp v) = true := h3
        rw [Bool.not_eq_true'] at h3
        exact ⟨y, p, v, pos, _, rfl, asg_plain g h1 h2 (sdE e k C X S Wx false v g h4).1 h3, fun σ H Q q => q, fun z => nomatch z⟩
    · cases h
  · cases h
theorem fresh_ok {X : Cx} {S : Sco} {Wx : WX} {i : Nat} {e : E} {s : Stmt} (g : Gd X T S k C Wx) (hf : freshE e = true) (h : asgB T X.N S i e s = true) : PS X s (tS (gx X T) Wx C (.own i e)) := by
  cases hl : isLc e with
  | true =>
    obtain ⟨y, p, v, pos, t, rfl, a, _, b⟩ := asgB_ok g h
    exact ss_own a (b hl)
  | false =>
    unfold asgB at h
    split at h
    · rename_i tg v e1
      obtain ⟨pos, rfl⟩ := sAsg_eq e1
      split at h
      · rename_i y e2
        obtain ⟨p, rfl⟩ := vName_eq e2
        obtain ⟨h, h4⟩ := and2 h
        obtain ⟨h, h3⟩ := and2 h
        obtain ⟨h1, h2⟩ := and2 h
        have h1 : X.N[i]? = some y := by simpa using h1
        rw [hl] at h3
        have h3 : (!isComp v) = true := h3
        rw [Bool.not_eq_true'] at h3
        have fin : ∀ {t : TE}, PE X v t → (∀ σ H Q, tEF (gx X T) Wx C e σ H Q → t σ H Q) → PS X (.Assign [.Name y p] v pos) (tS (gx X T) Wx C (.own i e)) := fun {t} ht hi => ss_own (asg_plain g h1 h2 ht h3) hi
        cases e with
        | lst es =>
          simp only [chkE] at h4
          split at h4
          · rename_i xs e
            obtain ⟨q, rfl⟩ := vLst_eq e
            obtain ⟨k1, k2, k3⟩ := and3 h4
            exact fin (sf_lst (sdL es k C X S Wx xs g k3) (by simpa using k2)) fun _ _ _ q => q
          · cases h4
        | bin o a b =>
          cases o with
          | add =>
            simp only [chkE] at h4
            split at h4
            · rename_i y op z e
              obtain ⟨q, rfl⟩ := vBin_eq e
              obtain ⟨k1, k4⟩ := and2 h4
              obtain ⟨k1, k3⟩ := and2 k1
              obtain ⟨k1, k2⟩ := and2 k1
              have k2 : op = .Add := of_decide_eq_true k2
              subst k2
              exact fin (sf_add (sdE a k C X S Wx false y g k3).1 (sdE b k C X S Wx false z g k4).1) fun _ _ _ q => q
            · cases h4
          | _ => cases hf
        | bi b args =>
          cases b with
          | list =>
            simp only [chkE] at h4
            replace h4 := Bool.or_eq_true_iff.mp h4
            rcases h4 with h4 | h4
            rotate_left
            · split at h4
              · simp at h4
              · cases h4
            replace h4 := Bool.or_eq_true_iff.mp h4
            rcases h4 with h4 | h4
            rotate_left
            · split at h4
              · simp at h4
              · cases h4
            split at h4
            · rename_i z xs e
              obtain ⟨p1, q1, rfl⟩ := vCall_eq e
              obtain ⟨k1, k4⟩ := and2 h4
              obtain ⟨k1, k3⟩ := and2 k1
              obtain ⟨k1, k2⟩ := and2 k1
              obtain ⟨k0, k1⟩ := and2 k1
              have kz : z = "list" := by
                have : some ("list" : Str) = some z := by simpa [biNm] using k1
                exact (Option.some.inj this).symm
              cases xs with
              | nil => simp at k3
              | cons u us => exact fin (sf_list g kz k2 (sdL args k C X S Wx (u :: us) g k4) (chkL_plain k4)) fun _ _ _ q => q
            · cases h4
          | _ => cases hf
        | lc _ _ _ _ _ _ => cases hl
        | _ => cases hf
      · cases h
    · cases h
theorem par_ok {X : Cx} {S : Sco} {Wx : WX} {is : List (Nat × Bool)} {ts vs : List Expr} {es : List E} {kt k2 : Nat} {pt pt2 pos : Pos} (g : Gd X T S k C Wx) (h0 : S.hot = 0) (hk : X.env.blockKind = .function) (h : parB T X.N S ts vs es is = true) :
    PS X (.Assign [.Tuple ts kt pt] (.Tuple vs k2 pt2) pos) (tS (gx X T) Wx C (.par is es)) := by
  unfold parB at h
  split at h
  · rename_i i j
    split at h
    · rename_i t1 t2 a b
      split at h
      · rename_i y p1 z p2 e1 e2
        obtain rfl := vNameP_eq e1
        obtain rfl := vNameP_eq e2
        simp only [Bool.and_eq_true, decide_eq_true_eq, Bool.not_eq_true'] at h
        obtain ⟨⟨⟨⟨⟨⟨⟨⟨⟨⟨⟨h1, h2⟩, h3⟩, h4⟩, h5⟩, h6⟩, h7⟩, h8⟩, h9⟩, h10⟩, h11⟩, h12⟩ := h
        exact ss_par2 g h0 hk h1 h2 h3 h4 (by rw [g.hs]; exact isLocal_eq h5) (by rw [g.hs]; exact isLocal_eq h6) h7 h8 h9 h10 h11 (sdL es k C X S Wx [a, b] g h12)
      · cases h
    · cases h
  · rename_i i j l
    split at h
    · rename_i t1 t2 t3 a b c
      split at h
      · rename_i y p1 z p2 u p3 e1 e2 e3
        obtain rfl := vNameP_eq e1
        obtain rfl := vNameP_eq e2
        obtain rfl := vNameP_eq e3
        simp only [Bool.and_eq_true, decide_eq_true_eq, Bool.not_eq_true'] at h
        obtain ⟨⟨⟨⟨⟨⟨⟨⟨⟨⟨⟨⟨⟨⟨⟨⟨⟨⟨⟨h1, h2⟩, h3⟩, h4⟩, h5⟩, h6⟩, h7⟩, h8⟩, h9⟩, h10⟩, h11⟩, h12⟩, h13⟩, h14⟩, h15⟩, h16⟩, h17⟩, h18⟩, h19⟩, h20⟩ := h
        exact ss_par3 g h0 hk h1 h2 h3 h4 h5 h6 h7 h8 h9 (by rw [g.hs]; exact isLocal_eq h10) (by rw [g.hs]; exact isLocal_eq h11) (by rw [g.hs]; exact isLocal_eq h12) h13 h14 h15 h16 h17 h18 h19 (sdL es k C X S Wx [a, b, c] g h20)
      · cases h
    · cases h
  · cases h
theorem chkSs_cons {T : Tab} {N : List Str} {S : Sco} {ss : List Stmt} {st : St} {sts : List St} (h : chkSs T N S ss (st :: sts) = true) :
    st = .bad ∨ ∃ s ss', ss = s :: ss' ∧ chkS T N S s st = true ∧ chkSs T N S ss' sts = true := by
  cases ss with
  | nil => cases st <;> first | exact .inl rfl | (simp [chkSs] at h)
  | cons s ss =>
    cases st
    case bad => exact .inl rfl
    all_goals
      refine .inr ⟨s, ss, rfl, ?_⟩
      simpa [chkSs] using h
mutual
theorem sdS : ∀ (st : St) (X : Cx) (S : Sco) (Wx : WX) (s : Stmt), Gd X T S k C Wx → X.env.blockKind = .function → PassesOwn (model X.prog X.w) X.A X.env X.xe → chkS T X.N S s st = true → PS X s (tS (gx X T) Wx C st)
  | .asg t e, X, S, Wx, s, g, hk, hp, h => by
    simp only [chkS] at h
    split at h
    · rename_i i
      obtain ⟨y, p, v, pos, t, rfl, a, b, _⟩ := asgB_ok g h
      exact ss_asgN a b
    · rename_i ts
      split at h
      · rename_i tg v e1
        obtain ⟨pos, rfl⟩ := sAsg_eq e1
        obtain ⟨h, h4⟩ := and2 h
        obtain ⟨h, h3⟩ := and2 h
        obtain ⟨h1, h2⟩ := and2 h
        have h2 : isTup v = false := by simpa using h2
        cases tg with
        | Tuple es kk p => exact ss_asgT (sdE e k C X S Wx false v g h4).1 (sd_tg [] g (.tu ts) _ h3) sw_tup (swpN h2) rfl
        | _ => simp [isTup] at h1
      · cases h
    · cases h
  | .par is es, X, S, Wx, s, g, hk, hp, h => by
    simp only [chkS] at h
    split at h
    · rename_i tg v e1
      obtain ⟨pos, rfl⟩ := sAsg_eq e1
      split at h
      · rename_i ts vs e2 e3
        obtain ⟨a, b, rfl⟩ := vTup_eq e2
        obtain ⟨c, d, rfl⟩ := vTup_eq e3
        obtain ⟨h0, h⟩ := and2 h
        exact par_ok g (of_decide_eq_true h0) hk h
      · cases h
    · cases h
  | .own i e, X, S, Wx, s, g, hk, hp, h => by
    simp only [chkS] at h
    obtain ⟨h, h2⟩ := and2 h
    obtain ⟨h0, h1⟩ := and2 h
    exact fresh_ok g h1 h2
  | .ret e, X, S, Wx, s, g, hk, hp, h => by
    simp only [chkS] at h
    split at h
    · rename_i v e1
      obtain ⟨pos, rfl⟩ := sRet_eq e1
      exact ss_ret (sdE e k C X S Wx false v g h).1
    · cases h
  | .rown i, X, S, Wx, s, g, hk, hp, h => by
    simp only [chkS] at h
    split at h
    · rename_i v e1
      obtain ⟨pos, rfl⟩ := sRet_eq e1
      split at h
      · rename_i y e2
        obtain ⟨p, rfl⟩ := vName_eq e2
        exact ss_rown g h
      · cases h
    · cases h
  | .ifs c a b, X, S, Wx, s, g, hk, hp, h => by
    simp only [chkS] at h
    split at h
    · rename_i x as bs e1
      obtain ⟨pos, rfl⟩ := sIf_eq e1
      obtain ⟨h, h3⟩ := and2 h
      obtain ⟨h1, h2⟩ := and2 h
      exact ss_if ((sdE c k C X S Wx true x g h1).2 rfl) (sdSs a X S Wx as g hk hp h2) (sdSs b X S Wx bs g hk hp h3)
    · cases h
  | .forr t kk srcs body, X, S, Wx, s, g, hk, hp, h => by
    simp only [chkS] at h
    split at h
    · rename_i tg it b e1
      obtain ⟨pos, rfl⟩ := sFor_eq e1
      obtain ⟨h, h4⟩ := and2 h
      obtain ⟨h, h3⟩ := and2 h
      obtain ⟨h1, h2⟩ := and2 h
      obtain ⟨h0, h1⟩ := and2 h1
      exact ss_for hp (g.calm (of_decide_eq_true h0)) (sdI srcs k C false X S Wx kk tg it g h1 h2) (sd_tg [] g t tg h3) (sdSs body X S Wx b g hk hp h4) (lc_iter_ok h1)
    · cases h
  | .whl c body, X, S, Wx, s, g, hk, hp, h => by
    simp only [chkS] at h
    split at h
    · rename_i x b e1
      obtain ⟨pos, rfl⟩ := sWhile_eq e1
      obtain ⟨h1, h2⟩ := and2 h
      exact ss_while hp ((sdE c k C X S Wx true x g h1).2 rfl) (sdSs body X S Wx b g hk hp h2)
    · cases h
  | .raise c args, X, S, Wx, s, g, hk, hp, h => by
    simp only [chkS] at h
    split at h
    · rename_i y m e1
      obtain ⟨p1, j, p2, p3, p4, rfl⟩ := sRaise_eq e1
      obtain ⟨h, h3⟩ := and2 h
      obtain ⟨h1, h2⟩ := and2 h
      obtain ⟨h0, h1⟩ := and2 h1
      have h1 : strOf args = some m := by simpa using h1
      obtain ⟨⟨c', y'⟩, hm, he⟩ := List.any_eq_true.mp h2
      simp only [Bool.and_eq_true, decide_eq_true_eq] at he
      obtain ⟨rfl, rfl⟩ := he
      unfold strOf at h1
      split at h1
      · cases h1
        exact ss_raise g (of_decide_eq_true h0) hm h3
      · cases h1
    · cases h
  | .expr e, X, S, Wx, s, g, hk, hp, h => by
    simp only [chkS] at h
    split at h
    · rename_i v e1
      obtain ⟨pos, rfl⟩ := sExpr_eq e1
      obtain ⟨h1, h2⟩ := and2 h
      exact ss_expr (sdE e k C X S Wx false v g h2).1 (sw_plain (by simpa using h1))
    · cases h
  | .pass, X, S, Wx, s, g, hk, hp, h => by
    simp only [chkS] at h
    obtain ⟨p, rfl⟩ := sPass_eq h
    exact ss_pass
  | .brk, X, S, Wx, s, g, hk, hp, h => by
    simp only [chkS] at h
    obtain ⟨p, rfl⟩ := sBreak_eq h
    exact ss_brk
  | .cont, X, S, Wx, s, g, hk, hp, h => by
    simp only [chkS] at h
    obtain ⟨p, rfl⟩ := sCont_eq h
    exact ss_cont
  | .app i e, X, S, Wx, s, g, hk, hp, h => by
    simp only [chkS] at h
    split at h
    · rename_i y x e1
      obtain ⟨p1, p2, p3, p4, rfl, hl⟩ := sApp_eq e1
      obtain ⟨h, h3⟩ := and2 h
      obtain ⟨h1, h2⟩ := and2 h
      exact ss_app g h1 (sdE e k C X S Wx false x g h3).1 h2 hl
    · cases h
  | .cset a i e, X, S, Wx, s, g, hk, hp, h => by
    simp only [chkS] at h
    split at h
    · rename_i tg v e1
      obtain ⟨pos, rfl⟩ := sAsg_eq e1
      split at h
      · rename_i xa xi e2
        obtain ⟨p, rfl⟩ := vSub_eq e2
        obtain ⟨h, h4⟩ := and2 h
        obtain ⟨h, h3⟩ := and2 h
        obtain ⟨h1, h2⟩ := and2 h
        exact ss_cset (sdE e k C X S Wx false v g h2).1 (sdE a k C X S Wx false xa g h3).1 (sdE i k C X S Wx false xi g h4).1 h1
      · cases h
    · cases h
  | .setk j i e, X, S, Wx, s, g, hk, hp, h => by
    simp only [chkS] at h
    split at h
    · rename_i tg v e1
      obtain ⟨pos, rfl⟩ := sAsg_eq e1
      split at h
      · rename_i xa xi e2
        obtain ⟨p, rfl⟩ := vSub_eq e2
        split at h
        · rename_i y e3
          obtain ⟨p1, rfl⟩ := vName_eq e3
          obtain ⟨h, h4⟩ := and2 h
          obtain ⟨h, h3⟩ := and2 h
          obtain ⟨h1, h2⟩ := and2 h
          exact ss_setk g h1 (sdE e k C X S Wx false v g h3).1 (sdE i k C X S Wx false xi g h4).1 h2
        · cases h
      · cases h
    · cases h
  | .bad, X, S, Wx, s, g, hk, hp, h => ⟨fun pins s σ H D I ⟨As0, B0, H0, As, B, O, env, S', fr, fin⟩ => (show False from by simp only [evS] at fin; exact fin).elim⟩
  | .forf _ _ _, _, _, _, _, _, _, _, h => by simp [chkS] at h
  | .remv _ _, _, _, _, _, _, _, _, h => by simp [chkS] at h
  | .tryx _ _, _, _, _, _, _, _, _, h => by simp [chkS] at h
  | .swap _ _ _ _ _, _, _, _, _, _, _, _, h => by simp [chkS] at h
theorem sdSs : ∀ (sts : List St) (X : Cx) (S : Sco) (Wx : WX) (ss : List Stmt), Gd X T S k C Wx → X.env.blockKind = .function → PassesOwn (model X.prog X.w) X.A X.env X.xe → chkSs T X.N S ss sts = true → PSs X ss (tSs (gx X T) Wx C sts)
  | [], X, S, Wx, ss, g, hk, hp, h => by
    cases ss with
    | nil => exact sq_nil
    | cons s ss => simp [chkSs] at h
  | st :: sts, X, S, Wx, ss, g, hk, hp, h => by
    rcases chkSs_cons h with rfl | ⟨s, ss', rfl, h1, h2⟩
    · exact ⟨fun pins s σ H D I ⟨As0, B0, H0, As, B, O, env, S', fr, fin⟩ => (show False from by simp only [evSs, evS, R.bind] at fin; exact fin).elim⟩
    · exact sq_cons (sdS st X S Wx s g hk hp h1) (sdSs sts X S Wx ss' g hk hp h2)
end
end
end Lw

set_option Elab.async false
set_option linter.all false
set_option maxRecDepth 100000
set_option maxHeartbeats 4000000
/-! X4: a def that calls what was handed to it, in a try. -/
namespace Lw
open PySem PySem.Spec PyProof.Rows L2 L2H
abbrev exT (T : TabX) (a : Addr) (x : Exn) : TabX := { T with ex := some (a, x) }
section
variable {K : PySem.W.Frag} {mg : Str → Option Value} {T : TabX} {a0 : Addr} {x0 : Exn} {As B : List Addr} {H : Hp} {S : Cells} {v : V} {w : W}
theorem Cells.Ok.toEx (c : Cells.Ok ⟨K, mg, T⟩ As B H S) : Cells.Ok ⟨K, mg, exT T a0 x0⟩ As B H S := ⟨c.len, c.nd, c.dis, c.cel, c.own, c.at_, c.tbs⟩
theorem Cells.Ok.ofEx (c : Cells.Ok ⟨K, mg, exT T a0 x0⟩ As B H S) : Cells.Ok ⟨K, mg, T⟩ As B H S := ⟨c.len, c.nd, c.dis, c.cel, c.own, c.at_, c.tbs⟩
theorem RpW.ofEx (r : RpW ⟨K, mg, exT T a0 x0⟩ As B H v w) (n : ∀ x, w ≠ .exc x) : RpW ⟨K, mg, T⟩ As B H v w := by
  cases r with
  | d r => exact .d r
  | bor m nm e r => exact .bor m nm e r
  | loc e => exact .loc e
  | scr e r => exact .scr e r
  | fn m e => exact .fn m e
  | exc m => exact absurd rfl (n _)
theorem RpX.toEx {x : Exn} {cls : Value} {d : Option Addr} (r : RpX ⟨K, mg, T⟩ H x cls d) : RpX ⟨K, mg, exT T a0 x0⟩ H x cls d := by
  cases r with
  | plain h1 h2 => exact .plain h1 h2
  | lim h1 h2 h3 h4 => exact .lim h1 h2 h3 h4
end
/-- handlers against the text -/
def chkHds (T : Tab) (N : List Str) (S : Sco) : List ExceptHandler → List (Nat × List Nat × List Nat × List St) → Bool
  | [], [] => true
  | .ExceptHandler (some (.Name x _)) (some n) (b :: suite) _ :: hds, (c, subs, [i], sts) :: hs =>
    hclB T c subs x && (gloB S x && (decide (N[i]? = some n) && (isLocal S n && (decide (i < N.length) && (chkSs T N { S with hot := 1 } (b :: suite) sts && chkHds T N S hds hs)))))
  | _, _ => false
def chkLam (T : Tab) (N : List Str) (S : Sco) (bg : List Stmt) (body : List St) : Bool := match lamShape body, bg with
  | some (hs, rest), .Try [.Expr (.Call (.Name a _) [] [] _) _] (hd :: hds) [] [] _ :: rs => decide (N[0]? = some a) && (visB S a && (!(a == ("__debug__" : Str)) && (!(a == ("__classdict__" : Str)) && (chkHds T N S (hd :: hds) hs && chkSs T N S rs rest))))
  | _, _ => false
def tsOf (Z : Cx) (T : TabX) (C1 : Callee) (sts : List St) : Addr → Value → Option Addr → TS := fun a cls d D σ H => σ.length = Z.N.length → ∃ x, RpX (gx Z T) H x cls d ∧ tSs (gx Z (exT T a x)) (fun _ _ _ _ => False) C1 sts D σ H
section
variable {Z : Cx} {T : TabX} {S : Sco} {k : Nat} {C1 : Callee} {Wx : WX}
theorem suite_ok (g : Gd Z T S k C1 Wx) (h0 : S.hot = 0) (hk : Z.env.blockKind = .function) {sts : List St} {b₀ : Stmt} {suite : List Stmt} (hc : chkSs T Z.N { S with hot := 1 } (b₀ :: suite) sts = true)
    (a : Addr) (oe : Obj) (cls : Value) (d : Option Addr) (pn : List (Addr × Obj)) (hz : L2N.Zn cls d oe) (hf : ∃ vs, oe.data = .fields vs) : PSs (Z.suite a ((a, oe) :: pn)) (b₀ :: suite) (tsOf Z T C1 sts a cls d) := by
  refine ⟨fun pins s σ H D I h => ?_⟩
  obtain ⟨x, rx, h2⟩ := h I.len
  have hot : HotC (Z.suite a ((a, oe) :: pn)) := by
    obtain ⟨vs, hv⟩ := hf
    exact ⟨(a, oe), ⟨rfl, vs, hv, hz.2.2 vs hv⟩, List.mem_cons_self⟩
  have g' : Gd (Z.suite a ((a, oe) :: pn)) (exT T a x) { S with hot := 1 } k C1 (fun _ _ _ _ => False) :=
    ⟨g.hs, g.hf, g.nd, g.un, (fun z => by cases z), fun _ => hot, fun _ => hot.hot, g.eqC, ⟨g.st.cn, g.st.bi, g.st.ex, g.st.hc, g.st.xc⟩, g.lam, (fun a' x' e _ => by
      cases e
      exact ⟨Z, oe, pn, cls, d, H, rfl, hz, hf, rx.toEx⟩)⟩
  exact (sdSs (T := exT T a x) (k := k) (C := C1) sts (Z.suite a ((a, oe) :: pn)) { S with hot := 1 } (fun _ _ _ _ => False) (b₀ :: suite) g' hk PassesOwn.never hc).run pins s σ H D I h2
theorem ret_fin {G : Gc} {B As : List Addr} {H : Hp} {Q : VK} {E : XK} {r : R Fl} (h : FinC G B Q E As H ((calmF (retOnly r)).bind finF)) : ∃ w S', r = .ok (.ret w) S' ∧ FinC G B Q E As H (.ok w S') := by
  cases r with
  | ok f S' =>
    cases f with
    | ret w => exact ⟨w, S', rfl, h⟩
    | _ => exact h.elim
  | _ => exact h.elim
/-- the wishes of the clauses -/
theorem hds_ok (g : Gd Z T S k C1 Wx) (h0 : S.hot = 0) (hk : Z.env.blockKind = .function) : ∀ (hds : List ExceptHandler) (hs : List (Nat × List Nat × List Nat × List St)), chkHds T Z.N S hds hs = true →
    ∃ l, L2N.HdX Z hds l ∧ ∀ (As B : List Addr) (H : Hp) (S' : Cells) (x : Exn) (cls : Value) (dd : Option Addr) (σ : L2.St) (D : Ends), Cells.Ok (gx Z T) As B H S' → RpX (gx Z T) H x cls dd →
      FinC (gx Z T) B D.rt (fun _ _ _ => False) As H ((calmF (evH C1 hs x (List.replicate Z.N.length none) S')).bind finF) → L2N.wHds Z.K (fun _ _ _ _ => False) D l cls dd σ H := by
  intro hds hs
  induction hs generalizing hds with
  | nil =>
    intro h
    cases hds with
    | nil => exact ⟨[], .nil, fun As B H S' x cls dd σ D c rx fin => fin⟩
    | cons hd hds => simp [chkHds] at h
  | cons p hs ih =>
    intro h
    unfold chkHds at h
    split at h
    · rename_i h1 h2; cases h2
    · rename_i x n b suite pos hds' c subs i sts hs' h2
      cases h2
      simp only [Bool.and_eq_true, decide_eq_true_eq] at h
      obtain ⟨h1, h2, h3, h4, h5, h6, h7⟩ := h
      obtain ⟨l, hl, hw⟩ := ih hds' h7
      obtain ⟨Ca, m1, m2⟩ := g.st.hc _ _ _ (hclB_mem h1)
      obtain ⟨g1, g2, g3⟩ := g.glo h2
      have hloc : Z.env.kindOf n = some .local := by
        show Z.env.scope.names.lookup n = _
        rw [g.hs]; exact isLocal_eq h4
      refine ⟨(.ref Ca, some i, tsOf Z T C1 sts) :: l, .as_ h3 hloc ⟨g1, g2, .inl m1⟩ (suite_ok g h0 hk h6) hl, fun As B H S' x cls dd σ D cok rx fin => ?_⟩
      have hex : PySem.W.exmOne Z.K cls (.ref Ca) = some (subs.contains x.cls) := by
        cases rx with
        | plain k1 k2 => exact (m2 _ _ (List.mem_append_left _ k1) _ k2).1
        | lim k1 k2 k3 k4 => exact (m2 _ _ (List.mem_append_right _ k1) _ k2).1
      refine ⟨subs.contains x.cls, hex, fun ht a na hlen => ?_, fun hf => hw As B H S' x cls dd σ D cok rx ?_⟩
      · simp only [evH, ht, if_true, List.length_replicate, if_pos h5] at fin
        obtain ⟨w, S2, e, f2⟩ := ret_fin fin
        refine ⟨x, rx, As, B, H, As, B, fun _ => none, (List.replicate Z.N.length none).set i (some (.exc x)), S', ⟨Gr.refl, ⟨cok.toEx, ⟨?_, fun j w' e1 n1 => ?_, fun j y e1 => ?_, (fun i j a e => nomatch e), (fun i a e => nomatch e)⟩⟩, (fun _ h => h), cok.own, (fun i a e => nomatch e), fun j y e1 => ?_⟩, ?_⟩
        · simp at hlen ⊢
          exact hlen.symm
        · rw [set_getElem?] at e1 ⊢
          by_cases hj : i = j
          · rw [if_pos hj, if_pos (by simpa using h5)] at e1
            cases e1
            rw [if_pos hj, if_pos (by
              have : i < (σ.set i (some (V.ref a))).length := by rw [hlen]; exact h5
              simpa using this)]
            exact ⟨.ref a, rfl, .exc rfl⟩
          · rw [if_neg hj, List.getElem?_replicate] at e1
            split at e1 <;> cases e1
        · rw [set_getElem?] at e1
          by_cases hj : i = j
          · rw [if_pos hj, if_pos (by simpa using h5)] at e1
            cases e1
          · rw [if_neg hj, List.getElem?_replicate] at e1
            split at e1 <;> cases e1
        · rw [set_getElem?] at e1
          by_cases hj : i = j
          · rw [if_pos hj, if_pos (by simpa using h5)] at e1
            cases e1
          · rw [if_neg hj, List.getElem?_replicate] at e1
            split at e1 <;> cases e1
        · rw [e]
          exact fun v H' As' gr c r n => f2 v H' As' gr c.ofEx (r.ofEx n)
      · simp only [evH, hf, Bool.false_eq_true, if_false] at fin
        exact fin
    · cases h
end
section
variable {G : Gc} {As As1 B : List Addr} {O : Nat → Option Addr} {H H1 : Hp} {σ : L2.St} {env : Env} {S : Cells} {Q : VK} {E : XK}
theorem FinC.grow {r : R W} (h : FinC G B Q E As H r) (g : Gr As As1 H H1) : FinC G B Q E As1 H1 r := by
  cases r with
  | ok a S' => exact fun v H' As' g' k rx => h v H' As' (g.trans g') k rx
  | exc x S' => exact fun cls dd H' As' g' k rx => h cls dd H' As' (g.trans g') k rx
  | bad => exact h
/-- a lambda has been made -/
theorem gr_extN (e : LamX.ExtN H H1) (tr : ∀ b, H b ≠ none → H1 b ≠ none) : Gr As As H H1 :=
  ⟨⟨[], by simp, fun _ h => nomatch h⟩, fun b o h _ nt => e b o h nt, fun b xs h => e b _ h (fun _ z => nomatch z), tr⟩
theorem Cells.Ok.extN (c : Cells.Ok G As B H S) (e : LamX.ExtN H H1) (tr : ∀ b, H b ≠ none → H1 b ≠ none) (t : LamX.Tabs G.T.tbs H1) : Cells.Ok G As B H1 S := by
  have at1 : ∀ (i : Nat) (a : Addr) (x : PD), As[i]? = some a → S[i]? = some x → ∃ xs ds, H1 a = some (.lst xs) ∧ x = .list ds ∧ RpL G.K (As ++ B) H1 xs ds := fun i a x e1 e2 => by
    obtain ⟨xs, ds, h1, h2, h3⟩ := c.at_ i a x e1 e2
    exact ⟨xs, ds, e _ _ h1 (fun _ z => nomatch z), h2, h3.grow c.cel (gr_extN e tr)⟩
  refine ⟨c.len, c.nd, c.dis, fun a ha => ?_, fun a ha => tr a (c.own a ha), at1, t⟩
  obtain ⟨i, hi, hia⟩ := List.mem_iff_getElem.mp ha
  have hs : i < S.length := by rw [← c.len]; exact hi
  obtain ⟨xs, ds, h1, _⟩ := at1 i a S[i] (by rw [List.getElem?_eq_getElem hi, hia]) (List.getElem?_eq_getElem hs)
  exact ⟨_, h1, rfl⟩
theorem slots_none {n : Nat} {σ : L2.St} (h : σ.length = n) : Slots G As B (fun _ => none) H σ (List.replicate n none) :=
  ⟨by simp [h], (fun i w e n => by rw [List.getElem?_replicate] at e; split at e <;> cases e), (fun i x e => by rw [List.getElem?_replicate] at e; split at e <;> cases e), (fun i j a e => nomatch e), (fun i a e => nomatch e)⟩
theorem fr_none {n : Nat} {σ : L2.St} (c : Cells.Ok G As B H S) (h : σ.length = n) : Fr G As B H As B (fun _ => none) H σ (List.replicate n none) S :=
  ⟨Gr.refl, ⟨c, slots_none h⟩, fun _ h => h, c.own, (fun i a e => nomatch e), (fun i x e => by rw [List.getElem?_replicate] at e; split at e <;> cases e)⟩
theorem calm_fin {r : R Fl} (h : FinC G B Q E As H ((calmF r).bind finF)) : FinS G (fun _ _ _ _ => False) As B H As B H { nx := fun _ H' => Q .non H', rt := Q } r := by
  cases r with
  | ok f S' =>
    cases f with
    | nx env' => exact fun σ' H' As' B' O' fr ev => h .non H' As' fr.gr (fr.rst.cells.sub fr.sub) (.d .non)
    | ret w => exact fun v H' As' g c r _ => h v H' As' g c r
    | brk env' => exact h.elim
    | cont env' => exact h.elim
  | exc x S' => exact h.elim
  | bad => exact h
theorem lamEnd_calm {C : Callee} {n : Nat} {hs : List (Nat × List Nat × List Nat × List St)} {rest : List St} {r : R W} {x : Exn} {s : Cells} : (lamEnd C n hs rest r).bind finF ≠ .exc x s := by
  intro h
  have key : ∀ q : R Fl, (calmF q).bind finF ≠ .exc x s := by
    intro q h
    cases q with
    | ok f s' => cases f <;> cases h
    | exc x s => cases h
    | bad => cases h
  cases r with
  | ok w s1 => exact key _ h
  | exc x1 s1 => exact key _ h
  | bad => cases h
end
theorem takes0N {X : Cx} : L2N.Takes X (fun _ _ _ _ => False) := fun _ _ ⟨_, _, _, _, _, _, _, _, _, _, _, _, _, _, _, _, w⟩ => w.elim
theorem blk_fun {sg : Scope} {x : Str} {L g : Addr} {cd : Value} (h : sg.kind = .function) : (envOfC x sg L g cd).blockKind = .function := by
  show PySem.Env.blockKind _ = _
  unfold PySem.Env.blockKind
  have : (envOfC x sg L g cd).scope.kind = .function := h
  show (if (envOfC x sg L g cd).scope.kind.isAnnotationScope = true then _ else (envOfC x sg L g cd).scope.kind) = _
  rw [this]
  rfl
/-- a def that calls what was handed to it, as the text has it -/
structure LamOkD (K : PySem.W.Frag) (mg : Str → Option Value) (T : TabX) (f : Nat) (x : Str) : Prop where
  ex : ∃ (g : Addr) (pg : Arguments) (bg : List Stmt) (sg : Scope) (dV kV doc pm cdv ct oc : Value) (an od : Option Addr) (osl : Array (Option Value)) (Ng : List Str) (a : Str) (df : Def), mg x = some (.ref g) ∧ PySem.W.keepIn K (.ref g) = true ∧
    K.lookup g = some ⟨oc, od, .func (PySem.W.fnOf x x pg bg sg dV kV doc pm an cdv ct), osl⟩ ∧ PySem.W.codeIn K cdv x = true ∧ Binds K (PySem.W.fnOf x x pg bg sg dV kV doc pm an cdv ct) [a] [] ∧ FnScope Ng [a] sg ∧ T.P f = some df ∧ df.np = 1 ∧ df.ns = Ng.length ∧
    chkLam T Ng ⟨sg, fun _ => true, 0, false⟩ bg df.body = true
theorem lam_at {Pr : Program} {w : World} {G : Gc} {base : Heap} {k : Nat} (low : ∀ j, j ≤ k → TOk Pr w G base j (evF G.T.P j)) (st : TSt G) {f : Nat} {x : Str} (d : LamOkD G.K G.mg G.T f x) (X : Cx) (T : TabX) (e : E) (Wx : WX) (body : Expr) (scope : Scope) (p lp pos : Pos)
    (hp : X.prog = Pr) (hw : X.w = w) (hG : gx X T = G) (hb : X.base = base) (hcalm : X.calm = true) (hr : Room (k + 1) X.A) (hl : LamC X T.tbs) (hgl : Gl X x) (L : LamX.LamS X.env.scope scope) (hdb : (x == ("__debug__" : Str)) = false)
    (hbody : ∀ j, k + 1 = j + 2 → ∀ (A : Around) (outer : List PySem.Env) (s : Shared) (H : Hp) (E : XK) (f c' : Addr), Room j (A.deeper (LamX.lamEnv X scope s.heap.objs.size f c')) → PE (LamX.lamCxN X A outer s H E scope f c') body (tE (gx X T) (fun cls d _ H => E cls d H) (evF T.P j) e)) :
    PE X (.Call (.Name x p) [.Lambda ⟨[], [], none, [], [], none, []⟩ body scope lp] [] pos) (tE (gx X T) Wx (evF G.T.P (k + 1)) (.lcall f e)) := by
  subst hG
  subst hp hw hb
  obtain ⟨g, pg, bg, sg, dV, kV, doc, pm, cdv, ct, oc, an, od, osl, Ng, a, df, h1, h2, h3, h4, h5, h6, h7, h8, h9, h10⟩ := d.ex
  have h7 : T.P f = some df := h7
  unfold chkLam at h10
  split at h10
  rotate_left
  · cases h10
  rename_i hs rest a' p1 p2 p3 hd hds pt rs esh
  simp only [Bool.and_eq_true, decide_eq_true_eq, Bool.not_eq_true'] at h10
  obtain ⟨c1, c2, c3, c4, c5, c6⟩ := h10
  have ea : a' = a := by
    have hpre := h6.pre
    have : Ng[0]? = some a := by
      cases Ng with
      | nil => simp at c1
      | cons y ys =>
        have : [y] = [a] := by simpa using hpre
        cases this
        rfl
    rw [c1] at this
    cases this
    rfl
  subst ea
  have hvis : Vis sg a' := by
    unfold visB at c2
    unfold Vis
    split at c2
    · rename_i e; exact .inl e
    · rename_i e; exact .inr (.inl e)
    · rename_i e; exact .inr (.inr e)
    · cases c2
  have run : ∀ (env : Env) (S : Cells), evE (evF T.P (k + 1)) (.lcall f e) env S = (lamEnd (evF T.P k) df.ns hs rest (evF T.P k (.clo e [] env) [] S)).bind finF := fun env S => by
    simp only [evE, evF, h7]
    rw [if_pos (by rw [h8]; rfl)]
    unfold runDef
    rw [esh]
  cases k with
  | zero =>
    refine pe_never fun σ H Q ⟨As, B, O, env, S, rst, fin⟩ => ?_
    have fin : Fin (gx X T) Wx B O σ env (fun As' H' => RpW (gx X T) As' B H') Q As H (evE (evF T.P (0 + 1)) (.lcall f e) env S) := fin
    rw [run] at fin
    simp only [evF, lamEnd, R.bind] at fin
    exact fin
  | succ j =>
    obtain ⟨c, Pt, k1, k2, k3, k4⟩ := hl
    have F0 := low
    refine (LamX.pe_lamcallN (T := T.tbs) (k := j) (TT := fun tl H Q => ∃ As B S r, Cells.Ok (gx X T) As B H S ∧ (∀ E Q', FinC (gx X T) B Q' E As H r → tl E H Q') ∧ FinC (gx X T) B Q (fun _ _ _ => False) As H ((lamEnd (evF T.P (j + 1)) df.ns hs rest r).bind finF))
      (t := fun E => tE (gx X T) (fun cls d _ H => E cls d H) (evF T.P j) e) hgl h1 h2 h3 h4 h5 h6 c1 hvis ?_ k2 k1 k3 k4 hr L rfl (fun _ _ _ _ _ => rfl) (fun A outer s H E f c' hr => hbody j rfl A outer s H E f c' hr) hdb c3 c4).impL fun σ H Q ⟨As, B, O, env, S, rst, fin⟩ => ?_
    · -- the def's body
      intro fa c' s H Q tl act hco hTT
      obtain ⟨As, B, S, r, cok, htl, fin⟩ := hTT
      have gz : Gd (cxOf C8.CX0 X.prog X.w X.K X.mg X.base Ng x sg g cdv X.A X.stack s H C8.E0).nox T ⟨sg, fun _ => true, 0, false⟩ (j + 1) (evF T.P (j + 1)) (fun _ _ _ _ => False) :=
        ⟨rfl, fun _ _ => rfl, h6.nd, (by have := (hr.deeper (envOfC x sg s.heap.objs.size g cdv)).un; show (X.A.deeper (envOfC x sg s.heap.objs.size g cdv)).units + 65 < cLine; omega),
          fun _ => ⟨rfl, hr.deeper _, takes0N, fun i hi => low i hi⟩, (fun z => by cases z), fun z => absurd rfl z, rfl, st, (fun z => by cases z), (fun _ _ _ z => by cases z)⟩
      have hk : (cxOf C8.CX0 X.prog X.w X.K X.mg X.base Ng x sg g cdv X.A X.stack s H C8.E0).nox.env.blockKind = .function := blk_fun h6.kind
      obtain ⟨l, hdx, hwish⟩ := hds_ok gz rfl hk (hd :: hds) hs c5
      refine ⟨_, pss_cons (L2N.ps_try_hds (X := (cxOf C8.CX0 X.prog X.w X.K X.mg X.base Ng x sg g cdv X.A X.stack s H C8.E0).nox)
        (tb := fun W D σZ HZ => σZ[0]? = some (some (.ref fa)) ∧ HZ c' = some (LamX.CodeO c' (X.env.qual ++ "<lambda>")) ∧ tl (fun cls d H' => ∀ σ', W cls d σ' H') HZ (fun v H' => D.nx σZ H')) h6.nd rfl rfl takes0N (fun W pn xe tk _ => ?_) hdx)
        (sdSs (T := T) (k := j + 1) (C := evF T.P (j + 1)) rest _ ⟨sg, fun _ => true, 0, false⟩ (fun _ _ _ _ => False) rs gz hk PassesOwn.never c6), ?_⟩
      · have hact := act W pn xe (fun cls d H' => ∀ σ', W cls d σ' H') p1 p2 tk (fun cls d σ' H' h => h σ')
        exact pss_one (ps_expr (pos := p3) hact)
      · refine ⟨rfl, hco, htl _ _ ?_⟩
        cases r with
        | ok w S' =>
          intro v H' As' gr c r1
          refine ⟨As', B, H', As', B, fun _ => none, List.replicate df.ns none, S', fr_none c (by rw [h9]; unfold L2.start; cases Ng with | nil => simp at c1 | cons y ys => simp), ?_⟩
          exact calm_fin (FinC.grow (r := (calmF (evSs (evF T.P (j + 1)) rest (List.replicate df.ns none) S')).bind finF) fin gr)
        | exc x0 S' =>
          intro cls dd H' As' gr c rx σ'
          refine hwish As' B H' S' x0 cls dd σ' _ c rx ?_
          have f2 := FinC.grow (r := (calmF (evH (evF T.P (j + 1)) hs x0 (List.replicate df.ns none) S')).bind finF) fin gr
          rw [h9] at f2
          exact f2
        | bad => exact (show False from fin).elim
    · -- the maker's side
      have fin : Fin (gx X T) Wx B O σ env (fun As' H' => RpW (gx X T) As' B H') Q As H (evE (evF T.P (j + 1 + 1)) (.lcall f e) env S) := fin
      rw [run] at fin
      refine ⟨rst.cells.tbs, fun H1 eN tr t1 => ⟨As, B, S, evF T.P (j + 1) (.clo e [] env) [] S, rst.cells.extN eN tr t1, fun E Q' fc => ?_, ?_⟩⟩
      · refine ⟨As, B, O, env, S, ⟨rst.cells.extN eN tr t1, rst.slots.grow rst.cells (gr_extN eN tr)⟩, ?_⟩
        revert fc
        simp only [evF, List.length_nil, if_true, List.zip_nil_left, List.foldl_nil]
        cases evE (evF T.P j) e env S with
        | ok w s1 =>
          cases w with
          | bor x => exact fun fc => (show False from fc).elim
          | _ => exact fun fc i H' As' g k rx => fc i H' As' g k.cells rx
        | exc x s1 => exact fun fc cls dd H' As' g k rx => fc cls dd H' As' g k.cells rx
        | bad => exact id
      · have hne : ∀ x0 s0, (lamEnd (evF T.P (j + 1)) df.ns hs rest (evF T.P (j + 1) (.clo e [] env) [] S)).bind finF ≠ .exc x0 s0 := fun x0 s0 => lamEnd_calm
        revert fin hne
        cases (lamEnd (evF T.P (j + 1)) df.ns hs rest (evF T.P (j + 1) (.clo e [] env) [] S)).bind finF with
        | ok w S' => exact fun fin _ v H' As' g c r => fin v H' As' ((gr_extN eN tr).trans g) ⟨c, rst.slots.grow rst.cells ((gr_extN eN tr).trans g)⟩ r
        | exc x0 S' => exact fun _ hne => (hne x0 S' rfl).elim
        | bad => exact fun fin _ => fin
end Lw

set_option Elab.async false
set_option linter.all false
set_option maxRecDepth 100000
set_option maxHeartbeats 4000000
/-! F25: defs, by the level of calls. -/
namespace Lw
open PySem PySem.Spec PyProof.Rows L2

/-- what the text and the written part say of a def -/
structure DefOkP (K : PySem.W.Frag) (mg : Str → Option Value) (T : TabX) (base : Heap) (f : Nat) (x : Str) (ps : List Str) : Prop where
  ex : ∃ (a : Addr) (qual : Str) (st : Stmt) (oc kV doc pm cdv ct : Value) (an od : Option Addr) (osl : Array (Option Value)) (N : List Str) (df : Def) (lam : Bool), mg x = some (.ref a) ∧
    K.lookup a = some ⟨oc, od, .func (PySem.W.fnOf x qual (defArgs st) (defBody st) (defScope st) .none kV doc pm an cdv ct), osl⟩ ∧ PySem.W.codeIn K cdv qual = true ∧ PySem.W.keepIn K (.ref a) = true ∧
    Binds K (PySem.W.fnOf x qual (defArgs st) (defBody st) (defScope st) .none kV doc pm an cdv ct) ps [] ∧ FnScope N ps (defScope st) ∧ T.P f = some df ∧ df.np = ps.length ∧ df.ns = N.length ∧
    (lam = true → ∃ c Pt, cdv = .ref c ∧ LamX.TabB base mg c Pt ∧ (Pt, qual ++ ".<locals>." ++ "<lambda>") ∈ T.tbs ∧ ∀ p ∈ T.tbs, p.1 = Pt → p.2 = qual ++ ".<locals>." ++ "<lambda>") ∧
    chkSs T N ⟨defScope st, fun _ => true, 0, lam⟩ (defBody st) df.body = true
def DefOk (K : PySem.W.Frag) (mg : Str → Option Value) (T : TabX) (base : Heap) (f : Nat) (x : Str) : Prop := ∃ ps, DefOkP K mg T base f x ps
structure Facts (G : Gc) (base : Heap) : Prop where
  st : TSt G
  fn : ∀ f x, (f, x) ∈ G.T.fnm → DefOk G.K G.mg G.T base f x
  lm : ∀ f x, (f, x) ∈ G.T.lfn → LamOkD G.K G.mg G.T f x
  noex : G.T.ex = none

section
variable {G : Gc} {As B : List Addr} {H : Hp} {vs : List V} {ws : List W}
theorem RpWs.get : ∀ {vs : List V} {ws : List W} {i : Nat} {w : W}, RpWs G As B H vs ws → ws[i]? = some w → ∃ v, vs[i]? = some v ∧ RpW G As B H v w
  | _, _, _, _, .nil, e => by simp at e
  | _, _, 0, _, .cons h _, e => by
    simp at e; subst e; exact ⟨_, rfl, h⟩
  | _, _, i + 1, w, .cons _ r, e => by
    obtain ⟨v, h1, h2⟩ := RpWs.get (i := i) (w := w) r (by simpa using e)
    exact ⟨v, by simpa using h1, h2⟩
theorem start_get {α : Type} {l : List α} {n i : Nat} {x : α} (h : (l.map some ++ List.replicate n (none : Option α))[i]? = some (some x)) : l[i]? = some x := by
  by_cases hi : i < l.length
  · rw [List.getElem?_append_left (by simpa using hi), List.getElem?_map] at h
    cases e : l[i]? with
    | none => rw [e] at h; cases h
    | some y => rw [e] at h; cases h; rfl
  · rw [List.getElem?_append_right (by simpa using hi), List.getElem?_replicate] at h
    split at h <;> cases h
theorem start_get' {α : Type} {l : List α} {n i : Nat} {x : α} (h : l[i]? = some x) : (l.map some ++ List.replicate n (none : Option α))[i]? = some (some x) := by
  have hi : i < l.length := (List.getElem?_eq_some_iff.mp h).1
  rw [List.getElem?_append_left (by simpa using hi), List.getElem?_map, h]
  rfl
theorem RpW.notOwn {v : V} {x : PD} (r : RpW G As B H v (.own x)) : False := by cases r
theorem fr_start {S : Cells} {N : List Str} {n : Nat} (c : Cells.Ok G As B H S) (r : RpWs G As B H vs ws) (hn : n = N.length) : Fr G As B H As B (fun _ => none) H (start N vs) (startE n ws) S := by
  subst hn
  have hl := r.len
  refine ⟨Gr.refl, ⟨c, ⟨?_, fun i w e n => ?_, fun i x e => ?_, (fun i j a e => nomatch e), (fun i a e => nomatch e)⟩⟩, (fun _ h => h), c.own, (fun i a e => nomatch e), fun i x e => ?_⟩
  · unfold startE L2.start
    simp [hl]
  · have e1 := start_get e
    obtain ⟨v, h1, h2⟩ := r.get e1
    exact ⟨v, start_get' h1, h2⟩
  · have e1 := start_get e
    obtain ⟨v, h1, h2⟩ := r.get e1
    exact h2.notOwn.elim
  · have e1 := start_get e
    obtain ⟨v, h1, h2⟩ := r.get e1
    cases h2 with
    | bor m n e3 r => exact ⟨_, start_get' h1, by rw [e3]; simp⟩
end
section
variable {Pr : Program} {w : World} {G : Gc} {base : Heap}
theorem runDef_of {C : Callee} {df : Def} {As B : List Addr} {H : Hp} {vs : List V} {ws : List W} {S : Cells} (r : RpWs G As B H vs ws) : runDef C df ws S = evSs C df.body (startE df.ns ws) S := by
  unfold runDef
  split
  · rename_i h _
    cases r with
    | cons h _ => cases h
  · rfl
theorem body_fin {B : List Addr} {Q : VK} {E : XK} {As : List Addr} {H : Hp} {r : R Fl} (h : FinC G B Q E As H (r.bind finF)) : FinS G (fun cls dd _ H' => E cls dd H') As B H As B H { nx := fun _ H' => Q .non H', rt := Q } r := by
  cases r with
  | ok f S' =>
    cases f with
    | nx env' => exact fun σ' H' As' B' O' fr ev => h .non H' As' fr.gr (fr.rst.cells.sub fr.sub) (.d .non)
    | ret w => exact fun v H' As' g c r _ => h v H' As' g c r
    | brk env' => exact h.elim
    | cont env' => exact h.elim
  | exc x S' => exact fun cls dd σ' H' As' g c r => h cls dd H' As' g c r
  | bad => exact h
theorem def_ok {k : Nat} {f : Nat} {x : Str} (ih : ∀ j, j ≤ k → TOk Pr w G base j (evF G.T.P j)) (st : TSt G) (d : DefOk G.K G.mg G.T base f x) :
    ∃ (a : Addr) (fd : FuncData) (ps : List Str), G.mg x = some (.ref a) ∧ PySem.W.keepIn G.K (.ref a) = true ∧ Binds G.K fd ps [] ∧ (∀ ws S, ws.length ≠ ps.length → evF G.T.P (k + 1) (.fn f) ws S = .bad) ∧ FnOk Pr w G.K G.mg base (L2N.CX Pr w) (k + 1) a fd ps (spC G (evF G.T.P (k + 1)) f ps.length) := by
  obtain ⟨ps, d⟩ := d
  obtain ⟨a, qual, stm, oc, kV, doc, pm, cdv, ct, an, od, osl, N, df, lam, h1, lk, hcd, hkp, h3, h4, h5, h6, h7, hlam, h8⟩ := d.ex
  refine ⟨a, _, ps, h1, hkp, h3, fun ws S hl => ?_, fn_of lk hcd h4 (fun vs H Q E h => h.1) fun A outer s H vs Q E hr hsp => ?_⟩
  · simp only [evF, h5]
    rw [if_neg (by rw [h6]; exact hl)]
  · obtain ⟨hvl, As, B, ws, S, c, r, fin⟩ := hsp
    refine ⟨tSs G (fun cls dd _ H' => E cls dd H') (evF G.T.P k) df.body, ?_, ?_⟩
    · refine sdSs (T := G.T) (k := k) (C := evF G.T.P k) df.body (cxOf (L2N.CX Pr w) Pr w G.K G.mg base N qual (defScope stm) a cdv A outer s H E) ⟨defScope stm, fun _ => true, 0, lam⟩ (fun cls dd _ H' => E cls dd H') (defBody stm)
        ⟨rfl, fun _ _ => rfl, h4.nd, (by have := hr.un; show (A.deeper (envOfC qual (defScope stm) s.heap.objs.size a cdv)).units + 65 < cLine; omega), fun _ => ⟨rfl, hr, L2N.takes_of rfl rfl rfl rfl, ih⟩, (fun z => by cases z), fun z => absurd rfl z, rfl, st, hlam, (fun _ _ _ z => by cases z)⟩ (blk_fun h4.kind) (passes_of rfl) h8
    · refine ⟨As, B, H, As, B, _, _, S, fr_start c r h7, body_fin ?_⟩
      have hwl : ws.length = df.np := by rw [← r.len, hvl, h6]
      simp only [evF, h5] at fin
      rw [if_pos hwl, runDef_of r] at fin
      exact fin
/-- every level -/
theorem tok (F : Facts G base) : ∀ k j, j ≤ k → TOk Pr w G base j (evF G.T.P j)
  | 0, j, hj => by
    have : j = 0 := by omega
    subst this
    refine ⟨fun f x hx => ?_, fun f x hx X T e Wx body scope p lp pos h1 h2 h3 h4 _ _ _ _ _ _ _ => ?_⟩
    · obtain ⟨ps, d⟩ := F.fn f x hx
      obtain ⟨a, qual, stm, oc, kV, doc, pm, cdv, ct, an, od, osl, N, df, lam, h1, lk, hcd, hkp, h3, h4, h5, h6, h7, hlam, h8⟩ := d.ex
      refine ⟨a, _, ps, h1, hkp, h3, fun ws S hl => rfl, ⟨fun vs H Q E h => h.1, fun A outer s H args us vs Q E _ _ _ _ h => ?_⟩⟩
      obtain ⟨_, As, B, ws, S, _, _, fin⟩ := h
      exact (show False from fin).elim
    · refine pe_never fun σ H Q ⟨As, B, O, env, S, rst, fin⟩ => ?_
      simp only [evE, evF] at fin
      exact fin
  | k + 1, j, hj => by
    by_cases h : j ≤ k
    · exact tok F k j h
    · have : j = k + 1 := by omega
      subst this
      exact ⟨fun f x hx => def_ok (tok F k) F.st (F.fn f x hx), fun f x hx X T e Wx body scope p lp pos h1 h2 h3 h4 h5 h6 h7 h8 h9 h10 h11 => lam_at (tok F k) F.st (F.lm f x hx) X T e Wx body scope p lp pos h1 h2 h3 h4 h5 h6 h7 h8 h9 h10 h11⟩
end
end Lw

set_option Elab.async false
set_option linter.all false
set_option maxRecDepth 100000
/-! M0: the mirror's base: how the evaluator runs, in plain words. -/
namespace Lw
open PySem

/-- it ends well, and so -/
def Wp {α : Type} (r : R α) (Q : α → Cells → Prop) : Prop := match r with
  | .ok a s => Q a s
  | _ => False
section
variable {α β : Type} {r : R α} {Q Q' : α → Cells → Prop} {s : Cells}
theorem wp_ok {a : α} : Wp (.ok a s) Q = Q a s := rfl
theorem wp_bad : Wp (.bad : R α) Q = False := rfl
theorem wp_exc {x : Exn} : Wp (.exc x s : R α) Q = False := rfl
theorem Wp.mono (h : Wp r Q) (q : ∀ a s, Q a s → Q' a s) : Wp r Q' := by
  cases r with
  | ok a s => exact q a s h
  | _ => exact h
theorem wp_bind {f : α → Cells → R β} {Q : β → Cells → Prop} : Wp (r.bind f) Q ↔ Wp r (fun a s => Wp (f a s) Q) := by
  cases r <;> exact Iff.rfl
theorem wp_calm {f : α → Cells → R β} {Q : β → Cells → Prop} : Wp (r.calm f) Q ↔ Wp r (fun a s => Wp (f a s) Q) := by
  cases r <;> exact Iff.rfl
theorem Wp.bind {f : α → Cells → R β} {Q : β → Cells → Prop} (h : Wp r (fun a s => Wp (f a s) Q)) : Wp (r.bind f) Q := wp_bind.mpr h
theorem Wp.calm {f : α → Cells → R β} {Q : β → Cells → Prop} (h : Wp r (fun a s => Wp (f a s) Q)) : Wp (r.calm f) Q := wp_calm.mpr h
theorem Wp.ex (h : Wp r Q) : ∃ a s, r = .ok a s ∧ Q a s := by
  cases r with
  | ok a s => exact ⟨a, s, rfl, h⟩
  | _ => exact h.elim
theorem wp_of {a : α} (e : r = .ok a s) (q : Q a s) : Wp r Q := by rw [e]; exact q
theorem bind_ok {a : α} {f : α → Cells → R β} : (R.ok a s).bind f = f a s := rfl
theorem bind_exc {x : Exn} {f : α → Cells → R β} : (R.exc x s).bind f = .exc x s := rfl
theorem wcalm_ok {a : α} {f : α → Cells → R β} : (R.ok a s).calm f = f a s := rfl
theorem wp_ite {c : Prop} [Decidable c] {a b : R α} : Wp (if c then a else b) Q ↔ (c → Wp a Q) ∧ (¬ c → Wp b Q) := by
  by_cases h : c <;> simp [h]
end

/-! ### comprehensions -/
section
variable {tg : Tg} {cond : Env → Cells → R Bool} {elt : Env → Cells → R (List PD)} {env : Env} {s : Cells}
theorem lcGo_enc {α : Type} (enc : α → PD) (c : α → Bool) (e : α → PD) : ∀ (xs : List α), (∀ x ∈ xs, ∃ env1, asgT tg (enc x) env = some env1 ∧ cond env1 s = .ok (c x) s ∧ (c x = true → elt env1 s = .ok [e x] s)) →
    lcGo tg cond elt env (xs.map enc) s = .ok ((xs.filter c).map e) s
  | [], _ => rfl
  | x :: xs, h => by
    obtain ⟨env1, h1, h2, h3⟩ := h x List.mem_cons_self
    have ih := lcGo_enc enc c e xs (fun y hy => h y (List.mem_cons_of_mem _ hy))
    simp only [List.map_cons, lcGo, h1, h2, wcalm_ok]
    cases hc : c x with
    | true => simp [h3 hc, wcalm_ok, ih, hc]
    | false => simp [ih, hc]
theorem lcGo_all {α : Type} (enc : α → PD) (e : α → PD) (xs : List α) (h : ∀ x ∈ xs, ∃ env1, asgT tg (enc x) env = some env1 ∧ cond env1 s = .ok true s ∧ elt env1 s = .ok [e x] s) :
    lcGo tg cond elt env (xs.map enc) s = .ok (xs.map e) s := by
  rw [lcGo_enc enc (fun _ => true) e xs (fun x hx => let ⟨env1, h1, h2, h3⟩ := h x hx; ⟨env1, h1, h2, fun _ => h3⟩)]
  rw [List.filter_eq_self.mpr (fun _ _ => rfl)]
theorem lcGo_id (c : PD → Bool) (e : PD → PD) (xs : List PD) (h : ∀ x ∈ xs, ∃ env1, asgT tg x env = some env1 ∧ cond env1 s = .ok (c x) s ∧ (c x = true → elt env1 s = .ok [e x] s)) :
    lcGo tg cond elt env xs s = .ok ((xs.filter c).map e) s := by
  have := lcGo_enc (tg := tg) (cond := cond) (elt := elt) (env := env) (s := s) id c e xs (by simpa using h)
  simpa using this
/-- with draws: each item has a property, none is left out -/
theorem lcGo_inv {I : Cells → Prop} {Rel : PD → Prop} : ∀ (xs : List PD) (s : Cells), I s → (∀ x ∈ xs, ∀ s, I s → ∃ env1, asgT tg x env = some env1 ∧ cond env1 s = .ok true s ∧ Wp (elt env1 s) (fun ys s' => I s' ∧ ∃ y, ys = [y] ∧ Rel y)) →
    Wp (lcGo tg cond elt env xs s) (fun ys s' => I s' ∧ ys.length = xs.length ∧ ∀ y ∈ ys, Rel y)
  | [], s, i, _ => ⟨i, rfl, fun _ h => nomatch h⟩
  | x :: xs, s, i, h => by
    obtain ⟨env1, h1, h2, h3⟩ := h x List.mem_cons_self s i
    simp only [lcGo, h1, h2, wcalm_ok, if_pos]
    refine Wp.calm (h3.mono fun ys s' ⟨i', y, e, r⟩ => Wp.calm ?_)
    refine (lcGo_inv xs s' i' (fun z hz => h z (List.mem_cons_of_mem _ hz))).mono fun zs s2 ⟨i2, l2, r2⟩ => ?_
    subst e
    refine ⟨i2, by simp [l2], fun z hz => ?_⟩
    rcases List.mem_append.mp hz with h' | h'
    · rw [List.mem_singleton.mp h']; exact r
    · exact r2 z h'
end

/-! ### loops -/
section
variable {asg : PD → Env → Option Env} {body : Env → Cells → R Fl}
theorem forGo_nil {env : Env} {s : Cells} : forGo asg body [] env s = .ok (.nx env) s := rfl
/-- an invariant: the items gone through, the slots, the cells -/
theorem forGo_inv {xs : List PD} {Q : Fl → Cells → Prop} (J : List PD → Env → Cells → Prop)
    (h : ∀ pre x rest env s, xs = pre ++ x :: rest → J pre env s → ∃ env1, asg x env = some env1 ∧ Wp (body env1 s) (fun f s' => match f with
      | .nx env2 => J (pre ++ [x]) env2 s'
      | .cont env2 => J (pre ++ [x]) env2 s'
      | .brk env2 => Q (.nx env2) s'
      | .ret w => Q (.ret w) s'))
    (hQ : ∀ env s, J xs env s → Q (.nx env) s) : ∀ (rest : List PD) (pre : List PD) (env : Env) (s : Cells), xs = pre ++ rest → J pre env s → Wp (forGo asg body rest env s) Q
  | [], pre, env, s, e, j => by
    rw [List.append_nil] at e
    subst e
    exact hQ env s j
  | x :: rest, pre, env, s, e, j => by
    obtain ⟨env1, h1, h2⟩ := h pre x rest env s e j
    simp only [forGo, h1]
    refine Wp.bind (h2.mono fun f s' q => ?_)
    cases f with
    | nx env2 => exact forGo_inv J h hQ rest (pre ++ [x]) env2 s' (by simp [e]) q
    | cont env2 => exact forGo_inv J h hQ rest (pre ++ [x]) env2 s' (by simp [e]) q
    | brk env2 => exact q
    | ret w => exact q
/-- plainly: no state but the slots, a fold -/
theorem forGo_fold {α σ : Type} (enc : α → PD) (envOf : σ → Option PD → Env) (st : σ → α → σ) {s : Cells} : ∀ (xs : List α) (a : σ) (l : Option PD),
    (∀ a l, ∀ x ∈ xs, ∃ env1, asg (enc x) (envOf a l) = some env1 ∧ body env1 s = .ok (.nx (envOf (st a x) (some (enc x)))) s) →
    ∃ l', forGo asg body (xs.map enc) (envOf a l) s = .ok (.nx (envOf (xs.foldl st a) l')) s
  | [], a, l, _ => ⟨l, rfl⟩
  | x :: xs, a, l, h => by
    obtain ⟨env1, h1, h2⟩ := h a l x List.mem_cons_self
    obtain ⟨l', h3⟩ := forGo_fold enc envOf st xs (st a x) (some (enc x)) (fun a l y hy => h a l y (List.mem_cons_of_mem _ hy))
    refine ⟨l', ?_⟩
    simp only [List.map_cons, forGo, h1, h2, bind_ok, h3, List.foldl_cons]
end
section
variable {cond : Env → Cells → R Bool} {body : Env → Cells → R Fl} {Q : Fl → Cells → Prop}
theorem whlGo_inv (J : Nat → Env → Cells → Prop)
    (h : ∀ n env s, J n env s → Wp (cond env s) (fun b s1 => if b = true then (∃ m, n = m + 1 ∧ Wp (body env s1) (fun f s' => match f with
      | .nx env2 => J m env2 s'
      | .cont env2 => J m env2 s'
      | .brk env2 => Q (.nx env2) s'
      | .ret w => Q (.ret w) s')) else Q (.nx env) s1)) : ∀ (k n : Nat) (env : Env) (s : Cells), n < k → J n env s → Wp (whlGo cond body k env s) Q
  | 0, _, _, _, hk, _ => absurd hk (by omega)
  | k + 1, n, env, s, hk, j => by
    simp only [whlGo]
    refine Wp.bind ((h n env s j).mono fun b s1 q => ?_)
    cases b with
    | false => exact (by simpa using q : Q (.nx env) s1)
    | true =>
      rw [if_pos rfl] at q ⊢
      obtain ⟨m, e, q⟩ := q
      refine Wp.bind (q.mono fun f s' q => ?_)
      cases f with
      | nx env2 => exact whlGo_inv J h k m env2 s' (by omega) q
      | cont env2 => exact whlGo_inv J h k m env2 s' (by omega) q
      | brk env2 => exact q
      | ret w => exact q
end

/-! ### lists of data -/
section
theorem bools_map {α : Type} (f : α → Bool) : ∀ xs : List α, bools? (xs.map fun x => .bool (f x)) = some (xs.map f)
  | [] => rfl
  | x :: xs => by simp [bools?, bools_map f xs]
theorem ints_map {α : Type} (f : α → Int) : ∀ xs : List α, ints? (xs.map fun x => .int (f x)) = some (xs.map f)
  | [] => rfl
  | x :: xs => by simp [ints?, ints_map f xs]
theorem strs_map {α : Type} (f : α → Str) : ∀ xs : List α, strs? (xs.map fun x => .str (f x)) = some (xs.map f)
  | [] => rfl
  | x :: xs => by simp [strs?, strs_map f xs]
theorem zipD_map {α β : Type} (f : α → PD) (g : β → PD) (xs : List α) (ys : List β) : zipD (xs.map f) (ys.map g) = (xs.zip ys).map fun p => .tuple [f p.1, g p.2] := by
  unfold zipD
  rw [List.zip_map, List.map_map]
  rfl
theorem enumD_map {α : Type} (f : α → PD) : ∀ (xs : List α) (n : Nat), enumD n (xs.map f) = (xs.zipIdx n).map fun p => .tuple [.int (p.2 : Nat), f p.1]
  | [], _ => rfl
  | x :: xs, n => by simp [enumD, enumD_map f xs (n + 1)]
theorem range_rangeD {n : Int} (h0 : -1000000 ≤ n) (h : n ≤ 1000000) : rangeD 0 n = some ((List.range n.toNat).map fun i => .int (i : Nat)) := by
  unfold rangeD
  have h2 : (n - 0).toNat ≤ LINE := by unfold LINE; omega
  rw [if_pos ⟨by decide, by decide, by omega, by omega, h2⟩]
  simp
end
end Lw

set_option Elab.async false
set_option linter.all false
set_option maxRecDepth 100000
set_option maxHeartbeats 4000000
/-! F26: a law's end. -/
namespace Lw
open PySem PySem.Spec PyProof.Rows L2
theorem def_okL {Pr : Program} {w : World} {G : Gc} {base : Heap} {k : Nat} {f : Nat} {x : Str} (ih : ∀ j, j ≤ k → TOk Pr w G base j (evF G.T.P j)) (st : TSt G) {ps : List Str} (d : DefOkP G.K G.mg G.T base f x ps) :
    ∃ (a : Addr) (fd : FuncData), G.mg x = some (.ref a) ∧ (∃ oc od osl, G.K.lookup a = some ⟨oc, od, .func fd, osl⟩) ∧ FnOk Pr w G.K G.mg base (L2N.CX Pr w) (k + 1) a fd ps (spC G (evF G.T.P (k + 1)) f ps.length) := by
  obtain ⟨a, qual, stm, oc, kV, doc, pm, cdv, ct, an, od, osl, N, df, lam, h1, lk, hcd, hkp, h3, h4, h5, h6, h7, hlam, h8⟩ := d.ex
  refine ⟨a, _, h1, ⟨_, _, _, lk⟩, fn_of lk hcd h4 (fun vs H Q E h => h.1) fun A outer s H vs Q E hr hsp => ?_⟩
  obtain ⟨hvl, As, B, ws, S, c, r, fin⟩ := hsp
  refine ⟨tSs G (fun cls dd _ H' => E cls dd H') (evF G.T.P k) df.body, ?_, ?_⟩
  · refine sdSs (T := G.T) (k := k) (C := evF G.T.P k) df.body (cxOf (L2N.CX Pr w) Pr w G.K G.mg base N qual (defScope stm) a cdv A outer s H E) ⟨defScope stm, fun _ => true, 0, lam⟩ (fun cls dd _ H' => E cls dd H') (defBody stm)
      ⟨rfl, fun _ _ => rfl, h4.nd, (by have := hr.un; show (A.deeper (envOfC qual (defScope stm) s.heap.objs.size a cdv)).units + 65 < cLine; omega), fun _ => ⟨rfl, hr, L2N.takes_of rfl rfl rfl rfl, ih⟩, (fun z => by cases z), fun z => absurd rfl z, rfl, st, hlam, (fun _ _ _ z => by cases z)⟩ (blk_fun h4.kind) (passes_of rfl) h8
  · refine ⟨As, B, H, As, B, _, _, S, fr_start c r h7, body_fin ?_⟩
    have hwl : ws.length = df.np := by rw [← r.len, hvl, h6]
    simp only [evF, h5] at fin
    rw [if_pos hwl, runDef_of r] at fin
    exact fin
/-- data of whole numbers -/
theorem rpl_ints {K : PySem.W.Frag} {A : List Addr} {H : Hp} : ∀ ns : List Int, RpL K A H (ns.map V.int) (ns.map PyData.int)
  | [] => .nil
  | _ :: ns => .cons (.int _) (rpl_ints ns)
/-- the law, by what the evaluator says -/
theorem law_at {l : PySem.W.OpenLaw} {w : World} {K : PySem.W.Frag} {mg : Str → Option Value} {h : Heap} {fa : Addr} {n k : Nat} {T : TabX} {cs : List (Addr × Addr)} {f0 : Nat} {x0 x : Str} {fd : FuncData} {oc : Value} {od : Option Addr} {osl : Array (Option Value)}
    (hT : ∀ p ∈ cs, h.get? p.2 = some { cls := .none, data := .fields #[] }) (nT : ∀ p ∈ cs, K.lookup p.2 = none) (C : ∀ p ∈ cs, PySem.W.CodeHd h p.1 p.2)
    (hbs : ∀ p ∈ T.tbs, ∃ c, (c, p.1) ∈ cs)
    (hm : mg x0 = some (.ref fa)) (lk : K.lookup fa = some ⟨oc, od, .func fd, osl⟩) (hb : ∀ (s : Shared) (u : Value), BindsTo s fd ⟨[u], []⟩ [(x, u)]) 
    (F : ∀ base : Heap, K.In base → base.Ns mainGlobals mg → (∀ p ∈ cs, LamX.TabB base mg p.1 p.2) → Facts ⟨K, mg, T⟩ base) (D : ∀ base : Heap, K.In base → base.Ns mainGlobals mg → (∀ p ∈ cs, LamX.TabB base mg p.1 p.2) → DefOkP K mg T base f0 x0 [x])
    (M : ∀ ns : List Int, ns.length ≤ n → (∀ z ∈ ns, Builtin.Int.intBits z ≤ 1048576) → Wp (evF T.P (k + 1) (.fn f0) [.scr (ns.map .int)] []) (fun w _ => w = .d (.bool true))) :
    LamX.LawAtS l w K (L2N.CX l.prog w) (k + 1) n x mg fa h := by
  refine ⟨fd, cs, spC ⟨K, mg, T⟩ (evF T.P (k + 1)) f0 1, hT, nT, C, hb, fun H a ns hl hbits hH hS => ?_, fun base hK hN hTB => ?_⟩
  · refine ⟨rfl, [], [], [.scr (ns.map .int)], [], ⟨rfl, .nil, (fun a h => nomatch h), (fun a h => nomatch h), (fun a h => nomatch h), (fun i a x e => by simp at e), fun p hp => ?_⟩, .cons (.scr ?_ (rpl_ints ns)) .nil, ?_⟩
    · obtain ⟨c, hc⟩ := hbs p hp
      exact LamX.TabS.nil (hH _ hc)
    · rcases hS with (h | ⟨o, h⟩) | h
      · exact .inl ⟨h, fun q => nomatch q⟩
      · exact .inr (.inl ⟨o, h, fun q => nomatch q⟩)
      · exact .inr (.inr h)
    · obtain ⟨w0, s0, e, rfl⟩ := (M ns hl hbits).ex
      show FinC _ _ _ _ _ _ (evF T.P (k + 1) (.fn f0) [.scr (ns.map .int)] [])
      rw [e]
      intro v H' As' g c r
      cases r with
      | d r => cases r; rfl
  · obtain ⟨a, fd', h1, ⟨oc', od', osl', h2⟩, h3⟩ := def_okL (G := ⟨K, mg, T⟩) (Pr := l.prog) (w := w) (k := k) (tok (F base hK hN hTB) k) (F base hK hN hTB).st (D base hK hN hTB)
    have e1 : fa = a := by
      have q : some (Value.ref fa) = some (Value.ref a) := hm.symm.trans h1
      cases q; rfl
    subst e1
    have e2 := lk.symm.trans h2
    cases e2
    exact h3
end Lw

set_option Elab.async false
set_option linter.all false
set_option maxRecDepth 100000
set_option maxHeartbeats 4000000
/-! F27: what the head has to say. -/
namespace Lw
open PySem PySem.Spec PyProof.Rows L2
open PySem.W (Frag nsIn excIn keepIn subIn typeIn exmOne kitOne findIn hasDictIn specialIn takesIn mroIn)
def gaIn (K : Frag) (x : Str) : Option Addr := match nsIn K mainGlobals x with
  | some (some (.ref a)) => some a
  | _ => none
def conV : Value → PD → Bool
  | .int i _, .int j => decide (i = j)
  | .str x _, .str y => decide (x = y)
  | _, _ => false
def excCB (K : Frag) (D : Addr) : Bool := (findIn K (.ref D) "__getattribute__" == some (some (.builtin "BaseException.__getattribute__"))) && (findIn K (.ref D) "__getattr__" == some none) && (subIn K (.ref D) (.type "BaseException") == some true) && hasDictIn K D &&
  (findIn K (.ref D) "__class__" == some (some (.builtin "object.__class__"))) && (specialIn K (.builtin "object.__class__") "__get__" == some (some (.builtin "getset_descriptor.__get__"))) && (takesIn K (.builtin "object.__class__") == some true) && (mroIn K D (.type "object") == some true)
def bisB (K : Frag) : Bool := BIS.all fun x => nsIn K mainGlobals x == some none
def cnsB (K : Frag) (T : Tab) : Bool := T.cns.all fun p => match nsIn K mainGlobals p.1 with
  | some (some u) => conV u p.2
  | _ => false
def clsB (K : Frag) (T : Tab) : Bool := T.cls.all fun p => match gaIn K p.2 with
  | some Ca => excIn K Ca [.type "ValueError", .type "Exception", .type "BaseException", .type "object"] "ValueError.__new__" && keepIn K (.ref Ca) && (subIn K (.ref Ca) (.type "BaseException") == some true) && (typeIn K (.ref Ca) == some (.type "type"))
  | none => false
def hclFB (K : Frag) (T : Tab) : Bool := T.hcl.all fun q => match gaIn K q.2.2 with
  | some Ca => (T.cls ++ T.lms).all fun p => match gaIn K p.2 with
    | some Cb => (exmOne K (.ref Cb) (.ref Ca) == some (q.2.1.contains p.1)) && (kitOne K (.ref Cb) (.ref Ca) == some (q.2.1.contains p.1))
    | none => false
  | none => false
def xcB (K : Frag) (T : Tab) : Bool := (T.cls ++ T.lms).all fun p => match gaIn K p.2 with
  | some Cb => excCB K Cb
  | none => false
theorem gaIn_mg {K : Frag} {h : Heap} {mg : Str → Option Value} {x : Str} {a : Addr} (X : K.In h) (G : h.Ns mainGlobals mg) (e : gaIn K x = some a) : mg x = some (.ref a) := by
  unfold gaIn at e
  split at e
  · rename_i q; cases e; exact PySem.W.mg_of X G q
  · cases e
theorem conV_ok {u : Value} {d : PD} (h : conV u d = true) : ∃ v, RelV v u ∧ ∀ {K : Frag} (A : List Addr) (H : Hp), Rp K A H v d := by
  cases u with
  | int i t =>
    cases d with
    | int j =>
      have e : i = j := of_decide_eq_true h
      subst e
      exact ⟨.int i, ⟨_, rfl⟩, fun _ _ => .int _⟩
    | _ => cases h
  | str i t =>
    cases d with
    | str j =>
      have e : i = j := of_decide_eq_true h
      subst e
      exact ⟨.str i, ⟨_, rfl⟩, fun _ _ => .str _⟩
    | _ => cases h
  | _ => cases h
theorem tst_of {K : Frag} {h : Heap} {mg : Str → Option Value} {T : TabX} (X : K.In h) (G : h.Ns mainGlobals mg) (h1 : bisB K = true) (h2 : cnsB K T = true) (h3 : clsB K T = true) (h4 : hclFB K T = true) (h5 : xcB K T = true) : TSt ⟨K, mg, T⟩ := by
  have uniq : ∀ {x a b}, gaIn K x = some a → mg x = some (.ref b) → a = b := fun e1 e2 => by
    have := (gaIn_mg X G e1).symm.trans e2
    cases this; rfl
  refine ⟨fun x d hx => ?_, fun x hx => ?_, fun c x hx => ?_, fun c subs x hx => ?_, fun c x hx Cb hm => ?_⟩
  · have := List.all_eq_true.mp h2 (x, d) hx
    simp only at this
    split at this
    · rename_i u q
      have hu := PySem.W.mg_of X G q
      obtain ⟨v, hv, hr⟩ := conV_ok this
      exact ⟨u, v, hu, hv, hr⟩
    · cases this
  · have := List.all_eq_true.mp h1 x hx
    exact PySem.W.mg_none_of X G (beq_iff_eq.mp this)
  · have := List.all_eq_true.mp h3 (c, x) hx
    simp only at this
    split at this
    · rename_i Ca q
      simp only [Bool.and_eq_true, beq_iff_eq] at this
      obtain ⟨⟨⟨k1, k2⟩, k3⟩, k4⟩ := this
      exact ⟨Ca, gaIn_mg X G q, k1, k2, k3, k4⟩
    · cases this
  · have := List.all_eq_true.mp h4 (c, subs, x) hx
    simp only at this
    split at this
    · rename_i Ca q
      refine ⟨Ca, gaIn_mg X G q, fun c' x' hx' Cb hm => ?_⟩
      have := List.all_eq_true.mp this (c', x') hx'
      simp only at this
      split at this
      · rename_i Cb' q'
        obtain rfl := uniq q' hm
        simp only [Bool.and_eq_true, beq_iff_eq] at this
        exact this
      · cases this
    · cases this
  · have := List.all_eq_true.mp h5 (c, x) hx
    simp only at this
    split at this
    · rename_i Cb' q'
      obtain rfl := uniq q' hm
      unfold excCB at this
      simp only [Bool.and_eq_true, beq_iff_eq] at this
      obtain ⟨⟨⟨⟨⟨⟨⟨k1, k2⟩, k3⟩, k4⟩, k5⟩, k6⟩, k7⟩, k8⟩ := this
      exact ⟨k1, k2, k3, k4, k5, k6, k7, k8⟩
    · cases this
/-- a def of the text in the written part -/
structure DefK (K : Frag) (x : Str) (st : Stmt) (a : Addr) (cdv : Value) : Prop where
  ns : nsIn K mainGlobals x = some (some (.ref a))
  ex : ∃ (oc kV doc pm ct : Value) (an od : Option Addr) (osl : Array (Option Value)), K.lookup a = some ⟨oc, od, .func (PySem.W.fnOf x x (defArgs st) (defBody st) (defScope st) .none kV doc pm an cdv ct), osl⟩
  cd : PySem.W.codeIn K cdv x = true
  kp : keepIn K (.ref a) = true
theorem defK {K : Frag} {x : Str} {st : Stmt} {a : Addr} {oc kV doc pm cdv ct : Value} {an od : Option Addr} {osl : Array (Option Value)} {h : Heap} (X : K.In h) (n : nsIn K mainGlobals x = some (some (.ref a)))
    (l : K.lookup a = some ⟨oc, od, .func (PySem.W.fnOf x x (defArgs st) (defBody st) (defScope st) .none kV doc pm an cdv ct), osl⟩) (c : PySem.W.codeIn K cdv x = true) (k : keepIn K (.ref a) = true) : DefK K x st a cdv := ⟨n, ⟨_, _, _, _, _, _, _, _, l⟩, c, k⟩
theorem cx_false {P : Program} {w : World} {H : Hp} {s : Shared} {e : Value} {s' : Shared} (z : L2N.CX P w [] H s (fun _ _ _ => False) e s') : False := by
  obtain ⟨_, _, _, _, _, _, _, _, _, _, _, _, z⟩ := z
  exact z
/-- of all items of a list -/
def AllP {α : Type} (p : α → Prop) : List α → Prop
  | [] => True
  | x :: xs => p x ∧ AllP p xs
theorem AllP.mem {α : Type} {p : α → Prop} : ∀ {l : List α}, AllP p l → ∀ x ∈ l, p x
  | [], _, x, h => nomatch h
  | y :: ys, ⟨h1, h2⟩, x, h => by
    rcases List.mem_cons.mp h with e | h
    · rw [e]; exact h1
    · exact AllP.mem h2 x h
/-- how arguments bind -/
def BindSt (x : Str) (st : Stmt) (ps : List Str) : Prop := ∀ (kV doc pm : Value) (an : Option Addr) (cdv ct : Value) (us : List Value), us.length = ps.length → bindArgs (PySem.W.fnOf x x (defArgs st) (defBody st) (defScope st) .none kV doc pm an cdv ct) ⟨us, []⟩ = pure (ps.zip us)
theorem DefK.ok {K : Frag} {mg : Str → Option Value} {T : TabX} {base h : Heap} {f : Nat} {x : Str} {st : Stmt} {a : Addr} {cdv : Value} {N ps : List Str} {df : Def} (d : DefK K x st a cdv) (X : K.In h) (G : h.Ns mainGlobals mg) (hb : BindSt x st ps) (S : FnScope N ps (defScope st)) (hp : T.P f = some df) (h1 : df.np = ps.length) (h2 : df.ns = N.length)
    (hc : chkSs T N ⟨defScope st, fun _ => true, 0, false⟩ (defBody st) df.body = true) : DefOkP K mg T base f x ps := by
  obtain ⟨oc, kV, doc, pm, ct, an, od, osl, l⟩ := d.ex
  exact ⟨a, x, st, oc, kV, doc, pm, cdv, ct, an, od, osl, N, df, false, PySem.W.mg_of X G d.ns, l, d.cd, d.kp, .all (hb kV doc pm an cdv ct), S, hp, h1, h2, (fun z => nomatch z), hc⟩
/-- .. that makes lambdas -/
theorem DefK.okL {K : Frag} {mg : Str → Option Value} {T : TabX} {base h : Heap} {f : Nat} {x : Str} {st : Stmt} {a c Pt : Addr} {N ps : List Str} {df : Def} (d : DefK K x st a (.ref c)) (X : K.In h) (G : h.Ns mainGlobals mg) (hb : BindSt x st ps) (S : FnScope N ps (defScope st)) (hp : T.P f = some df) (h1 : df.np = ps.length) (h2 : df.ns = N.length)
    (tb : LamX.TabB base mg c Pt) (hm : (Pt, x ++ ".<locals>." ++ "<lambda>") ∈ T.tbs) (hu : ∀ p ∈ T.tbs, p.1 = Pt → p.2 = x ++ ".<locals>." ++ "<lambda>")
    (hc : chkSs T N ⟨defScope st, fun _ => true, 0, true⟩ (defBody st) df.body = true) : DefOkP K mg T base f x ps := by
  obtain ⟨oc, kV, doc, pm, ct, an, od, osl, l⟩ := d.ex
  exact ⟨a, x, st, oc, kV, doc, pm, .ref c, ct, an, od, osl, N, df, true, PySem.W.mg_of X G d.ns, l, d.cd, d.kp, .all (hb kV doc pm an (.ref c) ct), S, hp, h1, h2, fun _ => ⟨c, Pt, rfl, tb, hm, hu⟩, hc⟩
/-- .. that calls what was handed to it -/
theorem DefK.okC {K : Frag} {mg : Str → Option Value} {T : TabX} {h : Heap} {f : Nat} {x a0 : Str} {st : Stmt} {a : Addr} {cdv : Value} {N : List Str} {df : Def} (d : DefK K x st a cdv) (X : K.In h) (G : h.Ns mainGlobals mg) (hb : BindSt x st [a0]) (S : FnScope N [a0] (defScope st)) (hp : T.P f = some df) (h1 : df.np = 1) (h2 : df.ns = N.length)
    (hc : chkLam T N ⟨defScope st, fun _ => true, 0, false⟩ (defBody st) df.body = true) : LamOkD K mg T f x := by
  obtain ⟨oc, kV, doc, pm, ct, an, od, osl, l⟩ := d.ex
  exact ⟨a, defArgs st, defBody st, defScope st, _, _, _, _, _, _, _, _, _, _, N, a0, df, PySem.W.mg_of X G d.ns, d.kp, l, d.cd, .all (hb kV doc pm an cdv ct), S, hp, h1, h2, hc⟩
end Lw

set_option Elab.async false
set_option maxRecDepth 100000
namespace Lw
open PySem
/-- is_whole(value, low, high): slots value low high -/
def d1 : Def := ⟨3, 3, [(.ret (.and [(.isi (.var 0) .int), (.not (.isi (.var 0) .bool)), (.chain .le .le (.var 1) (.var 0) (.var 2))]))]⟩
/-- is_tuple_of(value, low, high): slots value low high -/
def d2 : Def := ⟨3, 3, [(.ret (.and [(.isi (.var 0) .tuple), (.chain .le .le (.var 1) (.bi .len [(.var 0)]) (.var 2))]))]⟩
/-- are_whole(value, low, high): slots value low high item -/
def d3 : Def := ⟨3, 4, [(.ret (.bi .all [(.lc (.call 1 [(.var 3), (.var 1), (.var 2)]) (.nm 3) .seq [(.var 0)] [] [3])]))]⟩
/-- ascends(items): slots items one other -/
def d5 : Def := ⟨1, 3, [(.ret (.bi .all [(.lc (.cmp .lt (.var 1) (.var 2)) (.tu [(.nm 1), (.nm 2)]) .zip2 [(.var 0), (.slc (.var 0) [(.cst (.int 1))] [])] [] [1, 2])]))]⟩
/-- fits_need(quantities, coordinates, value): slots quantities coordinates value -/
def d4 : Def := ⟨3, 3, [(.ifs (.or [(.not (.call 2 [(.var 2), (.cst (.int 3)), (.cst (.int 3))])), (.not (.call 3 [(.slc (.var 2) [] [(.cst (.int 2))]), (.cst (.int 0)), (.bin .sub (.var 0) (.cst (.int 1)))]))]) [(.ret (.cst (.bool false)))] []), (.ret (.and [(.call 2 [(.sub (.var 2) (.cst (.int 2))), (.var 1), (.var 1)]), (.call 3 [(.sub (.var 2) (.cst (.int 2))), (.neg (.gcn (.int 3))), (.gcn (.int 3))])]))]⟩
/-- fits_book(value): slots value need -/
def d6 : Def := ⟨1, 2, [(.ifs (.or [(.not (.call 2 [(.var 0), (.cst (.int 3)), (.cst (.int 3))])), (.not (.call 3 [(.slc (.var 0) [] [(.cst (.int 2))]), (.cst (.int 1)), (.gcn (.int 3))])), (.not (.call 2 [(.sub (.var 0) (.cst (.int 2))), (.cst (.int 0)), (.gcn (.int 12))]))]) [(.ret (.cst (.bool false)))] []), (.ret (.and [(.bi .all [(.lc (.call 4 [(.sub (.var 0) (.cst (.int 0))), (.sub (.var 0) (.cst (.int 1))), (.var 1)]) (.nm 1) .seq [(.sub (.var 0) (.cst (.int 2)))] [] [1])]), (.call 5 [(.sub (.var 0) (.cst (.int 2)))])]))]⟩
/-- need_book(value): slots value -/
def d23 : Def := ⟨1, 1, [(.ifs (.not (.call 6 [(.var 0)])) [(.raise 1 [(.cst (.str (PySem.Str.ofString "not a book")))])] [])]⟩
/-- need_quantity(book, value): slots book value -/
def d134 : Def := ⟨2, 2, [(.ifs (.not (.call 1 [(.var 1), (.cst (.int 0)), (.bin .sub (.sub (.var 0) (.cst (.int 0))) (.cst (.int 1)))])) [(.raise 11 [(.cst (.str (PySem.Str.ofString "not a quantity")))])] [])]⟩
/-- moment_of(pace, quantity, point): slots pace quantity point slope one -/
def d129 : Def := ⟨3, 5, [(.ret (.bin .add (.bi .sum [(.lc (.bin .mul (.var 3) (.var 4)) (.tu [(.nm 3), (.nm 4)]) .zip2 [(.sub (.var 0) (.cst (.int 0))), (.var 2)] [] [3, 4])]) (.sub (.sub (.var 0) (.cst (.int 1))) (.var 1))))]⟩
/-- lag_of(pace, need): slots pace need one other offset -/
def d130 : Def := ⟨2, 5, [(.asg (.tu [(.nm 2), (.nm 3), (.nm 4)]) (.var 1)), (.ret (.bin .sub (.call 129 [(.var 0), (.var 2), (.var 4)]) (.sub (.sub (.var 0) (.cst (.int 1))) (.var 3))))]⟩
/-- fits_pace(book, value): slots book value need -/
def d132 : Def := ⟨2, 3, [(.ifs (.or [(.not (.call 2 [(.var 1), (.cst (.int 2)), (.cst (.int 2))])), (.not (.call 2 [(.sub (.var 1) (.cst (.int 0))), (.sub (.var 0) (.cst (.int 1))), (.sub (.var 0) (.cst (.int 1)))]))]) [(.ret (.cst (.bool false)))] []), (.ifs (.or [(.not (.call 2 [(.sub (.var 1) (.cst (.int 1))), (.sub (.var 0) (.cst (.int 0))), (.sub (.var 0) (.cst (.int 0)))])), (.not (.call 3 [(.bin .add (.sub (.var 1) (.cst (.int 0))) (.sub (.var 1) (.cst (.int 1)))), (.neg (.gcn (.int 1000))), (.gcn (.int 1000))]))]) [(.ret (.cst (.bool false)))] []), (.ret (.bi .all [(.lc (.cmp .ge (.call 130 [(.var 1), (.var 2)]) (.cst (.int 1))) (.nm 2) .seq [(.sub (.var 0) (.cst (.int 2)))] [] [2])]))]⟩
/-- users_of(book, quantity): slots book quantity at need -/
def d131 : Def := ⟨2, 4, [(.ret (.lc (.var 2) (.tu [(.nm 2), (.nm 3)]) .enum [(.sub (.var 0) (.cst (.int 2)))] [(.cmp .eq (.sub (.var 3) (.cst (.int 1))) (.var 1))] [2, 3]))]⟩
/-- kept_by(book, pace, quantity): slots book pace quantity at -/
def d135 : Def := ⟨3, 4, [(.ret (.bi .max [(.bin .add (.lst [(.cst (.int 0))]) (.lc (.call 130 [(.var 1), (.sub (.sub (.var 0) (.cst (.int 2))) (.var 3))]) (.nm 3) .seq [(.call 131 [(.var 0), (.var 2)])] [] [3]))]))]⟩
/-- need_pace(book, value): slots book value -/
def d133 : Def := ⟨2, 2, [(.ifs (.not (.call 132 [(.var 0), (.var 1)])) [(.raise 12 [(.cst (.str (PySem.Str.ofString "not a pace for the book")))])] [])]⟩
/-- is_pace(book, value): slots book value -/
def d139 : Def := ⟨2, 2, [(.expr (.call 23 [(.var 0)])), (.ret (.call 132 [(.var 0), (.var 1)]))]⟩
/-- lags_of(book, pace): slots book pace need -/
def d140 : Def := ⟨2, 3, [(.expr (.call 23 [(.var 0)])), (.expr (.call 133 [(.var 0), (.var 1)])), (.ret (.bi .tuple [(.lc (.call 130 [(.var 1), (.var 2)]) (.nm 2) .seq [(.sub (.var 0) (.cst (.int 2)))] [] [2])]))]⟩
/-- kept_for(book, pace, quantity): slots book pace quantity -/
def d143 : Def := ⟨3, 3, [(.expr (.call 23 [(.var 0)])), (.expr (.call 133 [(.var 0), (.var 1)])), (.expr (.call 134 [(.var 0), (.var 2)])), (.ret (.call 135 [(.var 0), (.var 1), (.var 2)]))]⟩
/-- _law_cup(script): slots script cell -/
def d54 : Def := ⟨1, 2, [(.asg (.nm 1) (.bi .abs [(.sub (.bin .add (.bi .list [(.var 0)]) (.lst [(.cst (.int 0))])) (.cst (.int 0)))])), (.ret (.cell [(.ite (.cmp .ge (.var 1) (.bin .pow (.cst (.int 10)) (.cst (.int 18)))) (.bin .fdiv (.var 1) (.cst (.int 59))) (.cst (.int 0))), (.bin .add (.bin .mod (.bi .int [(.bin .add (.bin .mul (.var 1) (.cst (.int 269))) (.cst (.int 2411)))]) (.cst (.int 2077503187))) (.cst (.int 151)))]))]⟩
/-- _law_roll(cup, many): slots cup many deep found -/
def d27 : Def := ⟨2, 4, [(.ifs (.cmp .gt (.sub (.var 0) (.cst (.int 0))) (.cst (.int 0))) [(.asg (.nm 3) (.bin .mod (.bi .int [(.sub (.var 0) (.cst (.int 0)))]) (.var 1))), (.cset (.var 0) (.cst (.int 0)) (.bin .fdiv (.sub (.var 0) (.cst (.int 0))) (.var 1))), (.ret (.var 3))] []), (.cset (.var 0) (.cst (.int 1)) (.bin .mod (.bi .int [(.bin .add (.bin .mul (.sub (.var 0) (.cst (.int 1))) (.cst (.int 31019))) (.cst (.int 7951)))]) (.cst (.int 2147483563)))), (.asg (.nm 2) (.bin .mod (.bi .int [(.bin .mul (.sub (.var 0) (.cst (.int 1))) (.bin .add (.sub (.var 0) (.cst (.int 1))) (.cst (.int 223))))]) (.cst (.int 2147483587)))), (.ret (.bin .mod (.bi .int [(.bin .fdiv (.var 2) (.cst (.int 809)))]) (.var 1)))]⟩
/-- _law_some(cup, things): slots cup things -/
def d29 : Def := ⟨2, 2, [(.ret (.sub (.var 1) (.call 27 [(.var 0), (.bi .len [(.var 1)])])))]⟩
/-- _law_less(point, offset): slots point offset one other -/
def d81 : Def := ⟨2, 4, [(.ret (.bi .tuple [(.lc (.bin .sub (.var 2) (.var 3)) (.tu [(.nm 2), (.nm 3)]) .zip2 [(.var 0), (.var 1)] [] [2, 3])]))]⟩
/-- _law_is_point(point, sides): slots point sides one side -/
def d82 : Def := ⟨2, 4, [(.ifs (.cmp .ne (.lc (.var 2) (.nm 2) .seq [(.var 0)] [(.cmp .lt (.var 2) (.cst (.int 0)))] [2]) (.lst [])) [(.ret (.cst (.bool false)))] []), (.ret (.or [(.cmp .is_ (.var 1) (.cst (.none))), (.cmp .eq (.lc (.cst (.int 1)) (.tu [(.nm 2), (.nm 3)]) .zip2 [(.var 0), (.var 1)] [(.cmp .ge (.var 2) (.var 3))] [2, 3]) (.lst []))]))]⟩
/-- _law_needed(book, place, sides): slots book place sides found at need there -/
def d84 : Def := ⟨3, 7, [(.own 3 (.lst [])), (.forr (.tu [(.nm 4), (.nm 5)]) .enum [(.sub (.var 0) (.cst (.int 2)))] [(.asg (.nm 6) (.call 81 [(.sub (.var 1) (.cst (.int 1))), (.sub (.var 5) (.cst (.int 2)))])), (.ifs (.and [(.cmp .eq (.sub (.var 5) (.cst (.int 0))) (.sub (.var 1) (.cst (.int 0)))), (.call 82 [(.var 6), (.var 2)])]) [(.app 3 (.tup [(.var 4), (.tup [(.sub (.var 5) (.cst (.int 1))), (.var 6)])]))] [])]), (.rown 3)]⟩
/-- _law_places(book, sides): slots book sides points side found quantity longer point one -/
def d83 : Def := ⟨2, 9, [(.asg (.nm 2) (.lst [(.tup [])])), (.forr (.nm 3) .seq [(.var 1)] [(.asg (.nm 6) (.lst [])), (.forr (.nm 7) .seq [(.var 2)] [(.asg (.nm 6) (.bin .add (.var 6) (.lc (.bin .add (.var 7) (.tup [(.var 8)])) (.nm 8) .rng1 [(.var 3)] [] [8])))]), (.asg (.nm 2) (.var 6))]), (.asg (.nm 4) (.lst [])), (.forr (.nm 5) .rng1 [(.sub (.var 0) (.cst (.int 0)))] [(.asg (.nm 4) (.bin .add (.var 4) (.lc (.tup [(.var 5), (.var 7)]) (.nm 7) .seq [(.var 2)] [] [7])))]), (.ret (.var 4))]⟩
/-- _law_offset(cup, coordinates): slots cup coordinates at -/
def d30 : Def := ⟨2, 3, [(.ret (.bi .tuple [(.lc (.call 29 [(.var 0), (.slc (.lst [(.cst (.int 0)), (.cst (.int 0)), (.cst (.int 1)), (.cst (.int 1)), (.cst (.int 1)), (.neg (.cst (.int 1))), (.cst (.int 2)), (.neg (.cst (.int 2))), (.cst (.int 3)), (.neg (.cst (.int 3)))]) [] [(.call 29 [(.var 0), (.lst [(.cst (.int 6)), (.cst (.int 7)), (.cst (.int 10))])])])]) (.nm 2) .rng1 [(.var 1)] [] [2])]))]⟩
/-- _law_need(cup, quantities, coordinates): slots cup quantities coordinates -/
def d31 : Def := ⟨3, 3, [(.ret (.tup [(.call 27 [(.var 0), (.var 1)]), (.call 27 [(.var 0), (.var 1)]), (.call 30 [(.var 0), (.var 2)])]))]⟩
/-- _law_sides(cup, book, most): slots cup book most at -/
def d86 : Def := ⟨3, 4, [(.ret (.bi .tuple [(.lc (.bin .add (.cst (.int 1)) (.call 27 [(.var 0), (.var 2)])) (.nm 3) .rng1 [(.sub (.var 1) (.cst (.int 1)))] [] [3])]))]⟩
/-- _law_word(call): slots call e some word good -/
def d571 : Def := ⟨1, 5, [(.tryx [(.expr (.callv 0 []))] [(4, [4], [1], [.bad]), (9, [1, 3, 4, 9, 11, 12, 13, 14], [1], [(.asg (.nm 2) (.lst [(.tup [(.cst (.str (PySem.Str.ofString "book"))), (.isi (.var 1) (.cls 1 [1]))]), (.tup [(.cst (.str (PySem.Str.ofString "quantity"))), (.isi (.var 1) (.cls 11 [11]))]), (.tup [(.cst (.str (PySem.Str.ofString "box"))), (.isi (.var 1) (.cls 3 [3]))])])), (.asg (.nm 2) (.bin .add (.var 2) (.lst [(.tup [(.cst (.str (PySem.Str.ofString "pace"))), (.isi (.var 1) (.cls 12 [12]))]), (.tup [(.cst (.str (PySem.Str.ofString "step"))), (.isi (.var 1) (.cls 13 [13]))]), (.tup [(.cst (.str (PySem.Str.ofString "order"))), (.isi (.var 1) (.cls 14 [14]))])]))), (.ret (.bi .join [(.cst (.str (PySem.Str.ofString " "))), (.lc (.var 3) (.tt [(.nm 3), (.nm 4)]) .seq [(.var 2)] [(.var 4)] [3, 4])]))])]), (.ret (.cst (.str (PySem.Str.ofString ""))))]⟩
/-- _law_moment(pace, quantity, point): slots pace quantity point found slope one -/
def d136 : Def := ⟨3, 6, [(.asg (.nm 3) (.sub (.sub (.var 0) (.cst (.int 1))) (.var 1))), (.forr (.tu [(.nm 4), (.nm 5)]) .zip2 [(.sub (.var 0) (.cst (.int 0))), (.var 2)] [(.asg (.nm 3) (.bin .add (.var 3) (.bin .mul (.var 4) (.var 5))))]), (.ret (.var 3))]⟩
/-- _law_lags(book, pace): slots book pace nought one other offset -/
def d137 : Def := ⟨2, 6, [(.asg (.nm 2) (.bin .mul (.tup [(.cst (.int 0))]) (.sub (.var 0) (.cst (.int 1))))), (.ret (.lc (.bin .sub (.call 136 [(.var 1), (.var 3), (.var 2)]) (.call 136 [(.var 1), (.var 4), (.call 81 [(.var 2), (.var 5)])])) (.tu [(.nm 3), (.nm 4), (.nm 5)]) .seq [(.sub (.var 0) (.cst (.int 2)))] [] [3, 4, 5]))]⟩
/-- _law_paced(cup, quantities, coordinates, needs): slots cup quantities coordinates needs pace drawn kept turn need at -/
def d138 : Def := ⟨4, 10, [(.asg (.nm 4) (.tup [(.bi .tuple [(.lc (.call 29 [(.var 0), (.lst [(.cst (.int 0)), (.cst (.int 1)), (.cst (.int 1)), (.cst (.int 2)), (.cst (.int 3)), (.neg (.cst (.int 1)))])]) (.nm 9) .rng1 [(.var 2)] [] [9])]), (.bi .tuple [(.lc (.call 29 [(.var 0), (.lst [(.cst (.int 0)), (.cst (.int 0)), (.cst (.int 1)), (.neg (.cst (.int 2))), (.cst (.int 3))])]) (.nm 9) .rng1 [(.var 1)] [] [9])])])), (.asg (.nm 5) (.lc (.call 31 [(.var 0), (.var 1), (.var 2)]) (.nm 7) .rng1 [(.var 3)] [] [7])), (.asg (.nm 6) (.lc (.var 8) (.nm 8) .seq [(.var 5)] [(.cmp .ge (.sub (.call 137 [(.tup [(.var 1), (.var 2), (.tup [(.var 8)])]), (.var 4)]) (.cst (.int 0))) (.cst (.int 1)))] [8])), (.ret (.tup [(.tup [(.var 1), (.var 2), (.bi .tuple [(.bi .sortedset [(.var 6)])])]), (.var 4)]))]⟩
/-- _law_paced_book(cup): slots cup -/
def d145 : Def := ⟨1, 1, [(.ret (.call 138 [(.var 0), (.call 29 [(.var 0), (.lst [(.cst (.int 1)), (.cst (.int 2)), (.cst (.int 2))])]), (.call 29 [(.var 0), (.lst [(.cst (.int 1)), (.cst (.int 2)), (.cst (.int 2))])]), (.cst (.int 6))]))]⟩
/-- _law_kept(book, pace, quantity): slots book pace quantity lags at need -/
def d144 : Def := ⟨3, 6, [(.asg (.nm 3) (.call 137 [(.var 0), (.var 1)])), (.ret (.bi .max [(.bin .add (.lst [(.cst (.int 0))]) (.lc (.sub (.var 3) (.var 4)) (.tu [(.nm 4), (.nm 5)]) .enum [(.sub (.var 0) (.cst (.int 2)))] [(.cmp .eq (.sub (.var 5) (.cst (.int 1))) (.var 2))] [4, 5]))]))]⟩
/-- _law_hb(): slots  -/
def d148 : Def := ⟨0, 0, [(.ret (.tup [(.tup [(.cst (.int 1)), (.cst (.int 2)), (.tup [(.tup [(.cst (.int 0)), (.cst (.int 0)), (.tup [(.cst (.int 0)), (.cst (.int 1))])]), (.tup [(.cst (.int 0)), (.cst (.int 0)), (.tup [(.cst (.int 1)), (.cst (.int 0))])])])]), (.tup [(.tup [(.cst (.int 1)), (.cst (.int 1))]), (.tup [(.cst (.int 0))])])]))]⟩
/-- _law_b(): slots  -/
def d147 : Def := ⟨0, 0, [(.ret (.tup [(.tup [(.cst (.int 1)), (.cst (.int 2)), (.tup [(.tup [(.cst (.int 0)), (.cst (.int 0)), (.tup [(.cst (.int 0)), (.cst (.int 1))])]), (.tup [(.cst (.int 0)), (.cst (.int 0)), (.tup [(.cst (.int 1)), (.neg (.cst (.int 1)))])])])]), (.tup [(.tup [(.cst (.int 3)), (.cst (.int 1))]), (.tup [(.cst (.int 0))])])]))]⟩
/-- _law_near(cup, pace): slots cup pace some slopes constants one -/
def d141 : Def := ⟨2, 6, [(.asg (.tu [(.nm 3), (.nm 4)]) (.var 1)), (.asg (.nm 2) (.lst [(.cst (.none)), (.tup [(.var 3)]), (.lst [(.var 3), (.var 4)]), (.tup [(.bi .list [(.var 3)]), (.var 4)]), (.tup [(.slc (.var 3) [(.cst (.int 1))] []), (.var 4)]), (.tup [(.var 3), (.bin .add (.var 4) (.tup [(.cst (.int 0))]))]), (.tup [(.var 3), (.rev (.var 4))])])), (.asg (.nm 2) (.bin .add (.var 2) (.lst [(.tup [(.bi .tuple [(.lc (.bin .sub (.var 5) (.cst (.int 1))) (.nm 5) .seq [(.var 3)] [] [5])]), (.var 4)]), (.tup [(.bi .tuple [(.lc (.neg (.var 5)) (.nm 5) .seq [(.var 3)] [] [5])]), (.var 4)]), (.tup [(.var 3), (.bi .tuple [(.lc (.bin .add (.var 5) (.cst (.int 1))) (.nm 5) .seq [(.var 4)] [] [5])])])]))), (.ret (.call 29 [(.var 0), (.bin .add (.var 2) (.lst [(.tup [(.bin .mul (.tup [(.cst (.bool true))]) (.bi .len [(.var 3)])), (.var 4)]), (.tup [(.bin .mul (.tup [(.cst (.int 1001))]) (.bi .len [(.var 3)])), (.var 4)]), (.tup [(.var 3), (.bin .add (.slc (.var 4) [] [(.neg (.cst (.int 1)))]) (.tup [(.bin .sub (.sub (.var 4) (.neg (.cst (.int 1)))) (.cst (.int 2)))]))])]))]))]⟩
/-- _law_is_pace(book, value): slots book value one lag -/
def d142 : Def := ⟨2, 4, [(.ifs (.or [(.not (.isi (.var 1) .tuple)), (.cmp .ne (.bi .len [(.var 1)]) (.cst (.int 2))), (.not (.isi (.sub (.var 1) (.cst (.int 0))) .tuple)), (.not (.isi (.sub (.var 1) (.cst (.int 1))) .tuple))]) [(.ret (.cst (.bool false)))] []), (.ifs (.or [(.cmp .ne (.bi .len [(.sub (.var 1) (.cst (.int 0)))]) (.sub (.var 0) (.cst (.int 1)))), (.cmp .ne (.bi .len [(.sub (.var 1) (.cst (.int 1)))]) (.sub (.var 0) (.cst (.int 0))))]) [(.ret (.cst (.bool false)))] []), (.ifs (.cmp .ne (.lc (.var 2) (.nm 2) .seq [(.bin .add (.sub (.var 1) (.cst (.int 0))) (.sub (.var 1) (.cst (.int 1))))] [(.or [(.isi (.var 2) .bool), (.not (.chain .le .le (.neg (.cst (.int 1000))) (.var 2) (.cst (.int 1000))))])] [2]) (.lst [])) [(.ret (.cst (.bool false)))] []), (.ret (.cmp .eq (.lc (.var 3) (.nm 3) .seq [(.call 137 [(.var 0), (.var 1)])] [(.cmp .lt (.var 3) (.cst (.int 1)))] [3]) (.lst [])))]⟩
/-- _law_right(cup, book, pace): slots cup book pace odd sides place at there one -/
def d146 : Def := ⟨3, 9, [(.ifs (.or [(.cmp .isnot (.call 139 [(.var 1), (.var 2)]) (.cst (.bool true))), (.cmp .ne (.call 140 [(.var 1), (.var 2)]) (.bi .tuple [(.call 137 [(.var 1), (.var 2)])]))]) [(.ret (.cst (.bool false)))] []), (.asg (.nm 3) (.call 141 [(.var 0), (.var 2)])), (.ifs (.cmp .ne (.call 139 [(.var 1), (.var 3)]) (.call 142 [(.var 1), (.var 3)])) [(.ret (.cst (.bool false)))] []), (.asg (.nm 4) (.call 86 [(.var 0), (.var 1), (.cst (.int 4))])), (.forr (.nm 5) .seq [(.call 83 [(.var 1), (.var 4)])] [(.forr (.tu [(.nm 6), (.nm 7)]) .seq [(.call 84 [(.var 1), (.var 5), (.var 4)])] [(.ifs (.cmp .ne (.bin .sub (.call 136 [(.var 2), (.sub (.var 5) (.cst (.int 0))), (.sub (.var 5) (.cst (.int 1)))]) (.call 136 [(.var 2), (.sub (.var 7) (.cst (.int 0))), (.sub (.var 7) (.cst (.int 1)))])) (.sub (.call 137 [(.var 1), (.var 2)]) (.var 6))) [(.ret (.cst (.bool false)))] [])])]), (.ret (.cmp .eq (.lc (.var 8) (.nm 8) .rng1 [(.sub (.var 1) (.cst (.int 0)))] [(.cmp .ne (.call 143 [(.var 1), (.var 2), (.var 8)]) (.call 144 [(.var 1), (.var 2), (.var 8)]))] [8]) (.lst [])))]⟩
end Lw

set_option Elab.async false
set_option maxRecDepth 100000
namespace Lw
open PySem
/-- law(script): slots script cup turn rows two words b br hb hr book pace odd row -/
def d572 : Def := ⟨1, 14, [(.asg (.nm 1) (.call 54 [(.var 0)])), (.forr (.nm 2) .rng1 [(.cst (.int 4))] [(.asg (.tu [(.nm 10), (.nm 11)]) (.call 145 [(.var 1)])), (.ifs (.not (.call 146 [(.var 1), (.var 10), (.var 11)])) [(.ret (.cst (.bool false)))] [])]), (.asg (.tu [(.nm 6), (.nm 7)]) (.call 147 [])), (.asg (.tu [(.nm 8), (.nm 9)]) (.call 148 [])), (.asg (.nm 3) (.lst [(.tup [(.var 6), (.tup [(.tup [(.cst (.int 2)), (.cst (.int 1))]), (.tup [(.cst (.int 0))])]), (.cst (.bool true))]), (.tup [(.var 6), (.tup [(.tup [(.cst (.int 1)), (.cst (.int 1))]), (.tup [(.cst (.int 0))])]), (.cst (.bool false))]), (.tup [(.var 6), (.var 7), (.cst (.bool true))]), (.tup [(.var 8), (.var 9), (.cst (.bool true))]), (.tup [(.var 8), (.tup [(.tup [(.cst (.int 0)), (.cst (.int 1))]), (.tup [(.cst (.int 0))])]), (.cst (.bool false))])])), (.asg (.nm 3) (.bin .add (.var 3) (.lst [(.tup [(.var 8), (.tup [(.tup [(.cst (.int 1000)), (.cst (.int 1000))]), (.tup [(.neg (.cst (.int 1000)))])]), (.cst (.bool true))]), (.tup [(.var 8), (.tup [(.tup [(.cst (.int 1001)), (.cst (.int 1))]), (.tup [(.cst (.int 0))])]), (.cst (.bool false))])]))), (.asg (.nm 4) (.tup [(.cst (.int 2)), (.cst (.int 1)), (.tup [(.tup [(.cst (.int 0)), (.cst (.int 1)), (.tup [(.cst (.int 0))])]), (.tup [(.cst (.int 1)), (.cst (.int 0)), (.tup [(.cst (.int 1))])])])])), (.asg (.nm 3) (.bin .add (.var 3) (.lst [(.tup [(.var 4), (.tup [(.tup [(.cst (.int 2))]), (.tup [(.cst (.int 1)), (.cst (.int 0))])]), (.cst (.bool true))]), (.tup [(.var 4), (.tup [(.tup [(.cst (.int 1))]), (.tup [(.cst (.int 1)), (.cst (.int 0))])]), (.cst (.bool false))]), (.tup [(.var 4), (.tup [(.tup [(.cst (.int 1))]), (.tup [(.cst (.int 0)), (.cst (.int 0))])]), (.cst (.bool false))])]))), (.asg (.nm 3) (.bin .add (.var 3) (.lst [(.tup [(.tup [(.cst (.int 1)), (.cst (.int 1)), (.tup [(.tup [(.cst (.int 0)), (.cst (.int 0)), (.tup [(.cst (.int 0))])])])]), (.tup [(.tup [(.cst (.int 5))]), (.tup [(.cst (.int 0))])]), (.cst (.bool false))]), (.tup [(.tup [(.cst (.int 3)), (.cst (.int 3)), (.tup [])]), (.tup [(.bin .mul (.tup [(.cst (.int 0))]) (.cst (.int 3))), (.bin .mul (.tup [(.cst (.int 0))]) (.cst (.int 3)))]), (.cst (.bool true))])]))), (.ifs (.cmp .ne (.lc (.var 13) (.nm 13) .seq [(.var 3)] [(.or [(.cmp .ne (.call 139 [(.sub (.var 13) (.cst (.int 0))), (.sub (.var 13) (.cst (.int 1)))]) (.sub (.var 13) (.cst (.int 2)))), (.cmp .ne (.call 142 [(.sub (.var 13) (.cst (.int 0))), (.sub (.var 13) (.cst (.int 1)))]) (.sub (.var 13) (.cst (.int 2))))])] [13]) (.lst [])) [(.ret (.cst (.bool false)))] []), (.ifs (.or [(.cmp .ne (.call 140 [(.var 6), (.var 7)]) (.tup [(.cst (.int 1)), (.cst (.int 2))])), (.cmp .ne (.call 143 [(.var 6), (.var 7), (.cst (.int 0))]) (.cst (.int 2))), (.cmp .ne (.call 140 [(.var 4), (.tup [(.tup [(.cst (.int 2))]), (.tup [(.cst (.int 1)), (.cst (.int 0))])])]) (.tup [(.cst (.int 1)), (.cst (.int 1))])), (.cmp .ne (.call 143 [(.tup [(.cst (.int 2)), (.cst (.int 1)), (.tup [(.tup [(.cst (.int 0)), (.cst (.int 1)), (.tup [(.cst (.int 3))])])])]), (.tup [(.tup [(.neg (.cst (.int 1)))]), (.tup [(.cst (.int 9)), (.cst (.int 0))])]), (.cst (.int 1))]) (.cst (.int 6)))]) [(.ret (.cst (.bool false)))] []), (.ifs (.cmp .ne (.call 143 [(.tup [(.cst (.int 2)), (.cst (.int 1)), (.tup [(.tup [(.cst (.int 0)), (.cst (.int 1)), (.tup [(.cst (.int 3))])])])]), (.tup [(.tup [(.neg (.cst (.int 1)))]), (.tup [(.cst (.int 9)), (.cst (.int 0))])]), (.cst (.int 0))]) (.cst (.int 0))) [(.ret (.cst (.bool false)))] []), (.asg (.nm 5) (.lc (.lcall 571 (.call 139 [(.var 12), (.cst (.none))])) (.nm 12) .seq [(.tup [(.cst (.none)), (.tup [(.cst (.int 1)), (.cst (.int 2)), (.tup [(.tup [(.cst (.int 0)), (.cst (.int 0)), (.tup [(.cst (.int 0))])])])])])] [] [12])), (.asg (.nm 5) (.bin .add (.var 5) (.lc (.lcall 571 (.call 140 [(.var 12), (.cst (.none))])) (.nm 12) .seq [(.tup [(.cst (.none))])] [] [12]))), (.asg (.nm 5) (.bin .add (.var 5) (.lc (.lcall 571 (.call 140 [(.var 8), (.var 12)])) (.nm 12) .seq [(.tup [(.cst (.none)), (.tup [(.tup [(.cst (.int 0)), (.cst (.int 1))]), (.tup [(.cst (.int 0))])]), (.tup [(.tup [(.cst (.int 1)), (.cst (.int 1))]), (.tup [(.cst (.int 0)), (.cst (.int 0))])])])] [] [12]))), (.asg (.nm 5) (.bin .add (.var 5) (.lc (.lcall 571 (.call 143 [(.var 8), (.var 12), (.cst (.none))])) (.nm 12) .seq [(.tup [(.cst (.none)), (.tup [(.tup [(.cst (.int 0)), (.cst (.int 1))]), (.tup [(.cst (.int 0))])])])] [] [12]))), (.asg (.nm 5) (.bin .add (.var 5) (.lc (.lcall 571 (.call 143 [(.var 8), (.var 9), (.var 12)])) (.nm 12) .seq [(.tup [(.cst (.none)), (.cst (.int 1)), (.neg (.cst (.int 1))), (.cst (.bool true))])] [] [12]))), (.ret (.cmp .eq (.var 5) (.bin .add (.bin .add (.bin .mul (.lst [(.cst (.str (PySem.Str.ofString "book")))]) (.cst (.int 3))) (.bin .mul (.lst [(.cst (.str (PySem.Str.ofString "pace")))]) (.cst (.int 5)))) (.bin .mul (.lst [(.cst (.str (PySem.Str.ofString "quantity")))]) (.cst (.int 4))))))]⟩
def P : Nat → Option Def
  | 1 => some d1
  | 2 => some d2
  | 3 => some d3
  | 5 => some d5
  | 4 => some d4
  | 6 => some d6
  | 23 => some d23
  | 134 => some d134
  | 129 => some d129
  | 130 => some d130
  | 132 => some d132
  | 131 => some d131
  | 135 => some d135
  | 133 => some d133
  | 139 => some d139
  | 140 => some d140
  | 143 => some d143
  | 54 => some d54
  | 27 => some d27
  | 29 => some d29
  | 81 => some d81
  | 82 => some d82
  | 84 => some d84
  | 83 => some d83
  | 30 => some d30
  | 31 => some d31
  | 86 => some d86
  | 571 => some d571
  | 136 => some d136
  | 137 => some d137
  | 138 => some d138
  | 145 => some d145
  | 144 => some d144
  | 148 => some d148
  | 147 => some d147
  | 141 => some d141
  | 142 => some d142
  | 146 => some d146
  | 572 => some d572
  | _ => none
end Lw

set_option Elab.async false
set_option linter.all false
set_option maxRecDepth 100000
set_option maxHeartbeats 4000000
namespace Lw
open PySem PySem.Spec PyProof.Rows L2
def topS (i : Nat) : Stmt := PySem.Challenge.pw_latticewaits_k43_whole_paces_and_times_k.main.body.getD i (.Pass ⟨0, 0, 0, 0⟩)
def Tb : Tab where
  fnm := [(1, Str.ofString "is_whole"), (2, Str.ofString "is_tuple_of"), (3, Str.ofString "are_whole"), (5, Str.ofString "ascends"), (4, Str.ofString "fits_need"), (6, Str.ofString "fits_book"), (23, Str.ofString "need_book"), (134, Str.ofString "need_quantity"), (129, Str.ofString "moment_of"), (130, Str.ofString "lag_of"), (132, Str.ofString "fits_pace"), (131, Str.ofString "users_of"), (135, Str.ofString "kept_by"), (133, Str.ofString "need_pace"), (139, Str.ofString "is_pace"), (140, Str.ofString "lags_of"), (143, Str.ofString "kept_for"), (54, Str.ofString "_law_cup"), (27, Str.ofString "_law_roll"), (29, Str.ofString "_law_some"), (81, Str.ofString "_law_less"), (82, Str.ofString "_law_is_point"), (84, Str.ofString "_law_needed"), (83, Str.ofString "_law_places"), (30, Str.ofString "_law_offset"), (31, Str.ofString "_law_need"), (86, Str.ofString "_law_sides"), (136, Str.ofString "_law_moment"), (137, Str.ofString "_law_lags"), (138, Str.ofString "_law_paced"), (145, Str.ofString "_law_paced_book"), (144, Str.ofString "_law_kept"), (148, Str.ofString "_law_hb"), (147, Str.ofString "_law_b"), (141, Str.ofString "_law_near"), (142, Str.ofString "_law_is_pace"), (146, Str.ofString "_law_right"), (572, Str.ofString "law")]
  cns := [(Str.ofString "MOST", .int 3), (Str.ofString "NEEDS", .int 12), (Str.ofString "GREATEST", .int 1000)]
  cls := [(1, Str.ofString "InvalidBook"), (12, Str.ofString "InvalidPace"), (11, Str.ofString "InvalidQuantity")]
  lms := []
  hcl := [(4, [4], Str.ofString "TooMany"), (9, [1, 3, 4, 9, 11, 12, 13, 14], Str.ofString "WaitError"), (1, [1], Str.ofString "InvalidBook"), (11, [11], Str.ofString "InvalidQuantity"), (3, [3], Str.ofString "InvalidBox"), (12, [12], Str.ofString "InvalidPace"), (13, [13], Str.ofString "InvalidStep"), (14, [14], Str.ofString "InvalidOrder")]
  lfn := [(571, Str.ofString "_law_word")]
abbrev s1 : Stmt := topS 12
theorem sc1 : FnScope ["value", "low", "high"] ["value", "low", "high"] (defScope s1) := ⟨rfl, rfl, rfl, by decide +kernel, rfl, by decide +kernel, by decide +kernel⟩
theorem ck1 : chkSs Tb ["value", "low", "high"] ⟨defScope s1, fun _ => true, 0, false⟩ (defBody s1) d1.body = true := by decide +kernel
theorem bd1 : BindSt "is_whole" s1 ["value", "low", "high"] := fun _ _ _ _ _ _ us hl => match us, hl with | [_, _, _], _ => rfl
abbrev s2 : Stmt := topS 13
theorem sc2 : FnScope ["value", "low", "high"] ["value", "low", "high"] (defScope s2) := ⟨rfl, rfl, rfl, by decide +kernel, rfl, by decide +kernel, by decide +kernel⟩
theorem ck2 : chkSs Tb ["value", "low", "high"] ⟨defScope s2, fun _ => true, 0, false⟩ (defBody s2) d2.body = true := by decide +kernel
theorem bd2 : BindSt "is_tuple_of" s2 ["value", "low", "high"] := fun _ _ _ _ _ _ us hl => match us, hl with | [_, _, _], _ => rfl
abbrev s3 : Stmt := topS 14
theorem sc3 : FnScope ["value", "low", "high", "item"] ["value", "low", "high"] (defScope s3) := ⟨rfl, rfl, rfl, by decide +kernel, rfl, by decide +kernel, by decide +kernel⟩
theorem ck3 : chkSs Tb ["value", "low", "high", "item"] ⟨defScope s3, fun _ => true, 0, false⟩ (defBody s3) d3.body = true := by decide +kernel
theorem bd3 : BindSt "are_whole" s3 ["value", "low", "high"] := fun _ _ _ _ _ _ us hl => match us, hl with | [_, _, _], _ => rfl
abbrev s5 : Stmt := topS 15
theorem sc5 : FnScope ["items", "one", "other"] ["items"] (defScope s5) := ⟨rfl, rfl, rfl, by decide +kernel, rfl, by decide +kernel, by decide +kernel⟩
theorem ck5 : chkSs Tb ["items", "one", "other"] ⟨defScope s5, fun _ => true, 0, false⟩ (defBody s5) d5.body = true := by decide +kernel
theorem bd5 : BindSt "ascends" s5 ["items"] := fun _ _ _ _ _ _ us hl => match us, hl with | [_], _ => rfl
abbrev s4 : Stmt := topS 16
theorem sc4 : FnScope ["quantities", "coordinates", "value"] ["quantities", "coordinates", "value"] (defScope s4) := ⟨rfl, rfl, rfl, by decide +kernel, rfl, by decide +kernel, by decide +kernel⟩
theorem ck4 : chkSs Tb ["quantities", "coordinates", "value"] ⟨defScope s4, fun _ => true, 0, false⟩ (defBody s4) d4.body = true := by decide +kernel
theorem bd4 : BindSt "fits_need" s4 ["quantities", "coordinates", "value"] := fun _ _ _ _ _ _ us hl => match us, hl with | [_, _, _], _ => rfl
abbrev s6 : Stmt := topS 17
theorem sc6 : FnScope ["value", "need"] ["value"] (defScope s6) := ⟨rfl, rfl, rfl, by decide +kernel, rfl, by decide +kernel, by decide +kernel⟩
theorem ck6 : chkSs Tb ["value", "need"] ⟨defScope s6, fun _ => true, 0, false⟩ (defBody s6) d6.body = true := by decide +kernel
theorem bd6 : BindSt "fits_book" s6 ["value"] := fun _ _ _ _ _ _ us hl => match us, hl with | [_], _ => rfl
abbrev s23 : Stmt := topS 18
theorem sc23 : FnScope ["value"] ["value"] (defScope s23) := ⟨rfl, rfl, rfl, by decide +kernel, rfl, by decide +kernel, by decide +kernel⟩
theorem ck23 : chkSs Tb ["value"] ⟨defScope s23, fun _ => true, 0, false⟩ (defBody s23) d23.body = true := by decide +kernel
theorem bd23 : BindSt "need_book" s23 ["value"] := fun _ _ _ _ _ _ us hl => match us, hl with | [_], _ => rfl
abbrev s134 : Stmt := topS 19
theorem sc134 : FnScope ["book", "value"] ["book", "value"] (defScope s134) := ⟨rfl, rfl, rfl, by decide +kernel, rfl, by decide +kernel, by decide +kernel⟩
theorem ck134 : chkSs Tb ["book", "value"] ⟨defScope s134, fun _ => true, 0, false⟩ (defBody s134) d134.body = true := by decide +kernel
theorem bd134 : BindSt "need_quantity" s134 ["book", "value"] := fun _ _ _ _ _ _ us hl => match us, hl with | [_, _], _ => rfl
abbrev s129 : Stmt := topS 22
theorem sc129 : FnScope ["pace", "quantity", "point", "slope", "one"] ["pace", "quantity", "point"] (defScope s129) := ⟨rfl, rfl, rfl, by decide +kernel, rfl, by decide +kernel, by decide +kernel⟩
theorem ck129 : chkSs Tb ["pace", "quantity", "point", "slope", "one"] ⟨defScope s129, fun _ => true, 0, false⟩ (defBody s129) d129.body = true := by decide +kernel
theorem bd129 : BindSt "moment_of" s129 ["pace", "quantity", "point"] := fun _ _ _ _ _ _ us hl => match us, hl with | [_, _, _], _ => rfl
abbrev s130 : Stmt := topS 23
theorem sc130 : FnScope ["pace", "need", "one", "other", "offset"] ["pace", "need"] (defScope s130) := ⟨rfl, rfl, rfl, by decide +kernel, rfl, by decide +kernel, by decide +kernel⟩
theorem ck130 : chkSs Tb ["pace", "need", "one", "other", "offset"] ⟨defScope s130, fun _ => true, 0, false⟩ (defBody s130) d130.body = true := by decide +kernel
theorem bd130 : BindSt "lag_of" s130 ["pace", "need"] := fun _ _ _ _ _ _ us hl => match us, hl with | [_, _], _ => rfl
abbrev s132 : Stmt := topS 24
theorem sc132 : FnScope ["book", "value", "need"] ["book", "value"] (defScope s132) := ⟨rfl, rfl, rfl, by decide +kernel, rfl, by decide +kernel, by decide +kernel⟩
theorem ck132 : chkSs Tb ["book", "value", "need"] ⟨defScope s132, fun _ => true, 0, false⟩ (defBody s132) d132.body = true := by decide +kernel
theorem bd132 : BindSt "fits_pace" s132 ["book", "value"] := fun _ _ _ _ _ _ us hl => match us, hl with | [_, _], _ => rfl
abbrev s131 : Stmt := topS 25
theorem sc131 : FnScope ["book", "quantity", "at", "need"] ["book", "quantity"] (defScope s131) := ⟨rfl, rfl, rfl, by decide +kernel, rfl, by decide +kernel, by decide +kernel⟩
theorem ck131 : chkSs Tb ["book", "quantity", "at", "need"] ⟨defScope s131, fun _ => true, 0, false⟩ (defBody s131) d131.body = true := by decide +kernel
theorem bd131 : BindSt "users_of" s131 ["book", "quantity"] := fun _ _ _ _ _ _ us hl => match us, hl with | [_, _], _ => rfl
abbrev s135 : Stmt := topS 26
theorem sc135 : FnScope ["book", "pace", "quantity", "at"] ["book", "pace", "quantity"] (defScope s135) := ⟨rfl, rfl, rfl, by decide +kernel, rfl, by decide +kernel, by decide +kernel⟩
theorem ck135 : chkSs Tb ["book", "pace", "quantity", "at"] ⟨defScope s135, fun _ => true, 0, false⟩ (defBody s135) d135.body = true := by decide +kernel
theorem bd135 : BindSt "kept_by" s135 ["book", "pace", "quantity"] := fun _ _ _ _ _ _ us hl => match us, hl with | [_, _, _], _ => rfl
abbrev s133 : Stmt := topS 27
theorem sc133 : FnScope ["book", "value"] ["book", "value"] (defScope s133) := ⟨rfl, rfl, rfl, by decide +kernel, rfl, by decide +kernel, by decide +kernel⟩
theorem ck133 : chkSs Tb ["book", "value"] ⟨defScope s133, fun _ => true, 0, false⟩ (defBody s133) d133.body = true := by decide +kernel
theorem bd133 : BindSt "need_pace" s133 ["book", "value"] := fun _ _ _ _ _ _ us hl => match us, hl with | [_, _], _ => rfl
abbrev s139 : Stmt := topS 28
theorem sc139 : FnScope ["book", "value"] ["book", "value"] (defScope s139) := ⟨rfl, rfl, rfl, by decide +kernel, rfl, by decide +kernel, by decide +kernel⟩
theorem ck139 : chkSs Tb ["book", "value"] ⟨defScope s139, fun _ => true, 0, false⟩ (defBody s139) d139.body = true := by decide +kernel
theorem bd139 : BindSt "is_pace" s139 ["book", "value"] := fun _ _ _ _ _ _ us hl => match us, hl with | [_, _], _ => rfl
abbrev s140 : Stmt := topS 29
theorem sc140 : FnScope ["book", "pace", "need"] ["book", "pace"] (defScope s140) := ⟨rfl, rfl, rfl, by decide +kernel, rfl, by decide +kernel, by decide +kernel⟩
theorem ck140 : chkSs Tb ["book", "pace", "need"] ⟨defScope s140, fun _ => true, 0, false⟩ (defBody s140) d140.body = true := by decide +kernel
theorem bd140 : BindSt "lags_of" s140 ["book", "pace"] := fun _ _ _ _ _ _ us hl => match us, hl with | [_, _], _ => rfl
abbrev s143 : Stmt := topS 30
theorem sc143 : FnScope ["book", "pace", "quantity"] ["book", "pace", "quantity"] (defScope s143) := ⟨rfl, rfl, rfl, by decide +kernel, rfl, by decide +kernel, by decide +kernel⟩
theorem ck143 : chkSs Tb ["book", "pace", "quantity"] ⟨defScope s143, fun _ => true, 0, false⟩ (defBody s143) d143.body = true := by decide +kernel
theorem bd143 : BindSt "kept_for" s143 ["book", "pace", "quantity"] := fun _ _ _ _ _ _ us hl => match us, hl with | [_, _, _], _ => rfl
abbrev s54 : Stmt := topS 32
theorem sc54 : FnScope ["script", "cell"] ["script"] (defScope s54) := ⟨rfl, rfl, rfl, by decide +kernel, rfl, by decide +kernel, by decide +kernel⟩
theorem ck54 : chkSs Tb ["script", "cell"] ⟨defScope s54, fun _ => true, 0, false⟩ (defBody s54) d54.body = true := by decide +kernel
theorem bd54 : BindSt "_law_cup" s54 ["script"] := fun _ _ _ _ _ _ us hl => match us, hl with | [_], _ => rfl
abbrev s27 : Stmt := topS 33
theorem sc27 : FnScope ["cup", "many", "deep", "found"] ["cup", "many"] (defScope s27) := ⟨rfl, rfl, rfl, by decide +kernel, rfl, by decide +kernel, by decide +kernel⟩
theorem ck27 : chkSs Tb ["cup", "many", "deep", "found"] ⟨defScope s27, fun _ => true, 0, false⟩ (defBody s27) d27.body = true := by decide +kernel
theorem bd27 : BindSt "_law_roll" s27 ["cup", "many"] := fun _ _ _ _ _ _ us hl => match us, hl with | [_, _], _ => rfl
abbrev s29 : Stmt := topS 34
theorem sc29 : FnScope ["cup", "things"] ["cup", "things"] (defScope s29) := ⟨rfl, rfl, rfl, by decide +kernel, rfl, by decide +kernel, by decide +kernel⟩
theorem ck29 : chkSs Tb ["cup", "things"] ⟨defScope s29, fun _ => true, 0, false⟩ (defBody s29) d29.body = true := by decide +kernel
theorem bd29 : BindSt "_law_some" s29 ["cup", "things"] := fun _ _ _ _ _ _ us hl => match us, hl with | [_, _], _ => rfl
abbrev s81 : Stmt := topS 35
theorem sc81 : FnScope ["point", "offset", "one", "other"] ["point", "offset"] (defScope s81) := ⟨rfl, rfl, rfl, by decide +kernel, rfl, by decide +kernel, by decide +kernel⟩
theorem ck81 : chkSs Tb ["point", "offset", "one", "other"] ⟨defScope s81, fun _ => true, 0, false⟩ (defBody s81) d81.body = true := by decide +kernel
theorem bd81 : BindSt "_law_less" s81 ["point", "offset"] := fun _ _ _ _ _ _ us hl => match us, hl with | [_, _], _ => rfl
abbrev s82 : Stmt := topS 36
theorem sc82 : FnScope ["point", "sides", "one", "side"] ["point", "sides"] (defScope s82) := ⟨rfl, rfl, rfl, by decide +kernel, rfl, by decide +kernel, by decide +kernel⟩
theorem ck82 : chkSs Tb ["point", "sides", "one", "side"] ⟨defScope s82, fun _ => true, 0, false⟩ (defBody s82) d82.body = true := by decide +kernel
theorem bd82 : BindSt "_law_is_point" s82 ["point", "sides"] := fun _ _ _ _ _ _ us hl => match us, hl with | [_, _], _ => rfl
abbrev s84 : Stmt := topS 37
theorem sc84 : FnScope ["book", "place", "sides", "found", "at", "need", "there"] ["book", "place", "sides"] (defScope s84) := ⟨rfl, rfl, rfl, by decide +kernel, rfl, by decide +kernel, by decide +kernel⟩
theorem ck84 : chkSs Tb ["book", "place", "sides", "found", "at", "need", "there"] ⟨defScope s84, fun _ => true, 0, false⟩ (defBody s84) d84.body = true := by decide +kernel
theorem bd84 : BindSt "_law_needed" s84 ["book", "place", "sides"] := fun _ _ _ _ _ _ us hl => match us, hl with | [_, _, _], _ => rfl
abbrev s83 : Stmt := topS 38
theorem sc83 : FnScope ["book", "sides", "points", "side", "found", "quantity", "longer", "point", "one"] ["book", "sides"] (defScope s83) := ⟨rfl, rfl, rfl, by decide +kernel, rfl, by decide +kernel, by decide +kernel⟩
theorem ck83 : chkSs Tb ["book", "sides", "points", "side", "found", "quantity", "longer", "point", "one"] ⟨defScope s83, fun _ => true, 0, false⟩ (defBody s83) d83.body = true := by decide +kernel
theorem bd83 : BindSt "_law_places" s83 ["book", "sides"] := fun _ _ _ _ _ _ us hl => match us, hl with | [_, _], _ => rfl
abbrev s30 : Stmt := topS 39
theorem sc30 : FnScope ["cup", "coordinates", "at"] ["cup", "coordinates"] (defScope s30) := ⟨rfl, rfl, rfl, by decide +kernel, rfl, by decide +kernel, by decide +kernel⟩
theorem ck30 : chkSs Tb ["cup", "coordinates", "at"] ⟨defScope s30, fun _ => true, 0, false⟩ (defBody s30) d30.body = true := by decide +kernel
theorem bd30 : BindSt "_law_offset" s30 ["cup", "coordinates"] := fun _ _ _ _ _ _ us hl => match us, hl with | [_, _], _ => rfl
abbrev s31 : Stmt := topS 40
theorem sc31 : FnScope ["cup", "quantities", "coordinates"] ["cup", "quantities", "coordinates"] (defScope s31) := ⟨rfl, rfl, rfl, by decide +kernel, rfl, by decide +kernel, by decide +kernel⟩
theorem ck31 : chkSs Tb ["cup", "quantities", "coordinates"] ⟨defScope s31, fun _ => true, 0, false⟩ (defBody s31) d31.body = true := by decide +kernel
theorem bd31 : BindSt "_law_need" s31 ["cup", "quantities", "coordinates"] := fun _ _ _ _ _ _ us hl => match us, hl with | [_, _, _], _ => rfl
abbrev s86 : Stmt := topS 41
theorem sc86 : FnScope ["cup", "book", "most", "at"] ["cup", "book", "most"] (defScope s86) := ⟨rfl, rfl, rfl, by decide +kernel, rfl, by decide +kernel, by decide +kernel⟩
theorem ck86 : chkSs Tb ["cup", "book", "most", "at"] ⟨defScope s86, fun _ => true, 0, false⟩ (defBody s86) d86.body = true := by decide +kernel
theorem bd86 : BindSt "_law_sides" s86 ["cup", "book", "most"] := fun _ _ _ _ _ _ us hl => match us, hl with | [_, _, _], _ => rfl
abbrev s571 : Stmt := topS 42
theorem sc571 : FnScope ["call", "e", "some", "word", "good"] ["call"] (defScope s571) := ⟨rfl, rfl, rfl, by decide +kernel, rfl, by decide +kernel, by decide +kernel⟩
theorem ck571 : chkLam Tb ["call", "e", "some", "word", "good"] ⟨defScope s571, fun _ => true, 0, false⟩ (defBody s571) d571.body = true := by decide +kernel
theorem bd571 : BindSt "_law_word" s571 ["call"] := fun _ _ _ _ _ _ us hl => match us, hl with | [_], _ => rfl
abbrev s136 : Stmt := topS 43
theorem sc136 : FnScope ["pace", "quantity", "point", "found", "slope", "one"] ["pace", "quantity", "point"] (defScope s136) := ⟨rfl, rfl, rfl, by decide +kernel, rfl, by decide +kernel, by decide +kernel⟩
theorem ck136 : chkSs Tb ["pace", "quantity", "point", "found", "slope", "one"] ⟨defScope s136, fun _ => true, 0, false⟩ (defBody s136) d136.body = true := by decide +kernel
theorem bd136 : BindSt "_law_moment" s136 ["pace", "quantity", "point"] := fun _ _ _ _ _ _ us hl => match us, hl with | [_, _, _], _ => rfl
abbrev s137 : Stmt := topS 44
theorem sc137 : FnScope ["book", "pace", "nought", "one", "other", "offset"] ["book", "pace"] (defScope s137) := ⟨rfl, rfl, rfl, by decide +kernel, rfl, by decide +kernel, by decide +kernel⟩
theorem ck137 : chkSs Tb ["book", "pace", "nought", "one", "other", "offset"] ⟨defScope s137, fun _ => true, 0, false⟩ (defBody s137) d137.body = true := by decide +kernel
theorem bd137 : BindSt "_law_lags" s137 ["book", "pace"] := fun _ _ _ _ _ _ us hl => match us, hl with | [_, _], _ => rfl
abbrev s138 : Stmt := topS 45
theorem sc138 : FnScope ["cup", "quantities", "coordinates", "needs", "pace", "drawn", "kept", "turn", "need", "at"] ["cup", "quantities", "coordinates", "needs"] (defScope s138) := ⟨rfl, rfl, rfl, by decide +kernel, rfl, by decide +kernel, by decide +kernel⟩
theorem ck138 : chkSs Tb ["cup", "quantities", "coordinates", "needs", "pace", "drawn", "kept", "turn", "need", "at"] ⟨defScope s138, fun _ => true, 0, false⟩ (defBody s138) d138.body = true := by decide +kernel
theorem bd138 : BindSt "_law_paced" s138 ["cup", "quantities", "coordinates", "needs"] := fun _ _ _ _ _ _ us hl => match us, hl with | [_, _, _, _], _ => rfl
abbrev s145 : Stmt := topS 46
theorem sc145 : FnScope ["cup"] ["cup"] (defScope s145) := ⟨rfl, rfl, rfl, by decide +kernel, rfl, by decide +kernel, by decide +kernel⟩
theorem ck145 : chkSs Tb ["cup"] ⟨defScope s145, fun _ => true, 0, false⟩ (defBody s145) d145.body = true := by decide +kernel
theorem bd145 : BindSt "_law_paced_book" s145 ["cup"] := fun _ _ _ _ _ _ us hl => match us, hl with | [_], _ => rfl
abbrev s144 : Stmt := topS 47
theorem sc144 : FnScope ["book", "pace", "quantity", "lags", "at", "need"] ["book", "pace", "quantity"] (defScope s144) := ⟨rfl, rfl, rfl, by decide +kernel, rfl, by decide +kernel, by decide +kernel⟩
theorem ck144 : chkSs Tb ["book", "pace", "quantity", "lags", "at", "need"] ⟨defScope s144, fun _ => true, 0, false⟩ (defBody s144) d144.body = true := by decide +kernel
theorem bd144 : BindSt "_law_kept" s144 ["book", "pace", "quantity"] := fun _ _ _ _ _ _ us hl => match us, hl with | [_, _, _], _ => rfl
abbrev s148 : Stmt := topS 48
theorem sc148 : FnScope [] [] (defScope s148) := ⟨rfl, rfl, rfl, by decide +kernel, rfl, by decide +kernel, by decide +kernel⟩
theorem ck148 : chkSs Tb [] ⟨defScope s148, fun _ => true, 0, false⟩ (defBody s148) d148.body = true := by decide +kernel
theorem bd148 : BindSt "_law_hb" s148 [] := fun _ _ _ _ _ _ us hl => match us, hl with | [], _ => rfl
abbrev s147 : Stmt := topS 49
theorem sc147 : FnScope [] [] (defScope s147) := ⟨rfl, rfl, rfl, by decide +kernel, rfl, by decide +kernel, by decide +kernel⟩
theorem ck147 : chkSs Tb [] ⟨defScope s147, fun _ => true, 0, false⟩ (defBody s147) d147.body = true := by decide +kernel
theorem bd147 : BindSt "_law_b" s147 [] := fun _ _ _ _ _ _ us hl => match us, hl with | [], _ => rfl
abbrev s141 : Stmt := topS 50
theorem sc141 : FnScope ["cup", "pace", "some", "slopes", "constants", "one"] ["cup", "pace"] (defScope s141) := ⟨rfl, rfl, rfl, by decide +kernel, rfl, by decide +kernel, by decide +kernel⟩
theorem ck141 : chkSs Tb ["cup", "pace", "some", "slopes", "constants", "one"] ⟨defScope s141, fun _ => true, 0, false⟩ (defBody s141) d141.body = true := by decide +kernel
theorem bd141 : BindSt "_law_near" s141 ["cup", "pace"] := fun _ _ _ _ _ _ us hl => match us, hl with | [_, _], _ => rfl
abbrev s142 : Stmt := topS 51
theorem sc142 : FnScope ["book", "value", "one", "lag"] ["book", "value"] (defScope s142) := ⟨rfl, rfl, rfl, by decide +kernel, rfl, by decide +kernel, by decide +kernel⟩
theorem ck142 : chkSs Tb ["book", "value", "one", "lag"] ⟨defScope s142, fun _ => true, 0, false⟩ (defBody s142) d142.body = true := by decide +kernel
theorem bd142 : BindSt "_law_is_pace" s142 ["book", "value"] := fun _ _ _ _ _ _ us hl => match us, hl with | [_, _], _ => rfl
abbrev s146 : Stmt := topS 52
theorem sc146 : FnScope ["cup", "book", "pace", "odd", "sides", "place", "at", "there", "one"] ["cup", "book", "pace"] (defScope s146) := ⟨rfl, rfl, rfl, by decide +kernel, rfl, by decide +kernel, by decide +kernel⟩
theorem ck146 : chkSs Tb ["cup", "book", "pace", "odd", "sides", "place", "at", "there", "one"] ⟨defScope s146, fun _ => true, 0, false⟩ (defBody s146) d146.body = true := by decide +kernel
theorem bd146 : BindSt "_law_right" s146 ["cup", "book", "pace"] := fun _ _ _ _ _ _ us hl => match us, hl with | [_, _, _], _ => rfl
abbrev s572 : Stmt := topS 53
theorem sc572 : FnScope ["script", "cup", "turn", "rows", "two", "words", "b", "br", "hb", "hr", "book", "pace", "odd", "row"] ["script"] (defScope s572) := ⟨rfl, rfl, rfl, by decide +kernel, rfl, by decide +kernel, by decide +kernel⟩
theorem ck572 : chkSs Tb ["script", "cup", "turn", "rows", "two", "words", "b", "br", "hb", "hr", "book", "pace", "odd", "row"] ⟨defScope s572, fun _ => true, 0, true⟩ (defBody s572) d572.body = true := by decide +kernel
theorem bd572 : BindSt "law" s572 ["script"] := fun _ _ _ _ _ _ us hl => match us, hl with | [_], _ => rfl
end Lw


set_option Elab.async false
set_option linter.all false
set_option maxRecDepth 100000
set_option maxHeartbeats 2000000
/-! M1: mirrors of what all laws use: whole numbers, tuples, needs, books, the cup. -/
namespace Lw
open PySem
theorem ev_call {P : Nat → Option Def} {k f : Nat} {df : Def} {ws : List W} {s : Cells} (h : P f = some df) (hl : ws.length = df.np) (hs : lamShape df.body = none) :
    evF P (k + 1) (.fn f) ws s = (evSs (evF P k) df.body (startE df.ns ws) s).bind finF := by
  simp only [evF, h, hl, if_pos]
  congr 1
  unfold runDef
  rw [hs]
  split
  · rename_i e; cases e
  · rfl
theorem ite_and {p : Prop} [Decidable p] {x : Bool} {s : Cells} : (if p then R.ok (W.d (.bool x)) s else R.ok (W.d (.bool false)) s) = .ok (.d (.bool (decide p && x))) s := by
  by_cases h : p <;> simp [h]
theorem ite_or {p : Prop} [Decidable p] {x : Bool} {s : Cells} : (if p then R.ok (W.d (.bool true)) s else R.ok (W.d (.bool x)) s) = .ok (.d (.bool (decide p || x))) s := by
  by_cases h : p <;> simp [h]
theorem eq_of_wp {α : Type} {r : R α} {a : α} {s : Cells} (h : Wp r (fun b s1 => b = a ∧ s1 = s)) : r = .ok a s := by
  obtain ⟨b, s1, e, rfl, rfl⟩ := h.ex
  exact e
variable {P : Nat → Option Def} {s : Cells}

/-! ### the evaluator's parts at plain data -/
section
variable {x y : PD} {env : Env} {i j : Int} {n : Nat} {w : W} {ws : List W}
theorem view_d : view s (.d x) = some x := rfl
theorem view_bor : view s (.bor x) = some x := rfl
theorem view_loc : view s (.loc n) = s[n]? := rfl
theorem pure_d : pure? (.d x) = some x := rfl
theorem boolR_d {b : Bool} : boolR (.d (.bool b)) s = .ok b s := rfl
theorem dR_some : dR (some x) s = .ok (.d x) s := rfl
theorem dR_none : dR none s = .bad := rfl
theorem retW_d : retW (.d x) s = .ok (.ret (.d x)) s := rfl
theorem retW_loc : retW (.loc n) s = .ok (.ret (.loc n)) s := rfl
theorem retW_fn : retW (.fn n) s = .ok (.ret (.fn n)) s := rfl
theorem finF_ret : finF (.ret w) s = .ok w s := rfl
theorem finF_nx : finF (.nx env) s = .ok (.d .none) s := rfl
theorem eltR_d : eltR (.d x) s = .ok [x] s := rfl
theorem asgW_nm : asgW (.nm n) w env s = nameW n w env s := rfl
theorem nameW_d : nameW n (.d x) env s = if n < env.length then .ok (.nx (env.set n (some (.d x)))) s else .bad := rfl
theorem nameW_loc {m : Nat} : nameW n (.loc m) env s = if n < env.length then .ok (.nx (env.set n (some (.loc m)))) s else .bad := rfl
theorem nameW_fn {m : Nat} : nameW n (.fn m) env s = if n < env.length then .ok (.nx (env.set n (some (.fn m)))) s else .bad := rfl
def flO (o : Option Env) (s : Cells) : R Fl := match o with
  | some env => .ok (.nx env) s
  | none => .bad
theorem flO_some : flO (some env) s = .ok (.nx env) s := rfl
theorem asgW_tu {ts : List Tg} : asgW (.tu ts) (.d x) env s = flO (asgT (.tu ts) x env) s := rfl
theorem asgT_nm : asgT (.nm n) x env = if n < env.length then some (env.set n (some (.d x))) else none := by simp [asgT]
theorem asgT_tu {ts : List Tg} {xs : List PD} : asgT (.tu ts) (.tuple xs) env = asgTs ts xs env := by simp [asgT]
theorem asgT_tul {ts : List Tg} {xs : List PD} : asgT (.tu ts) (.list xs) env = asgTs ts xs env := by simp [asgT]
theorem asgT_tt {ts : List Tg} {xs : List PD} : asgT (.tt ts) (.tuple xs) env = asgTs ts xs env := by simp [asgT]
theorem asgTs_nil : asgTs [] [] env = some env := by simp [asgTs]
theorem asgTs_cons {t : Tg} {ts : List Tg} {xs : List PD} : asgTs (t :: ts) (x :: xs) env = (asgT t x env).bind fun env1 => asgTs ts xs env1 := by
  rw [asgTs]
  cases asgT t x env <;> rfl
theorem biR_1 {b : Bi} : biR b [.d x] s = dR (biD b [x]) s := by cases b <;> rfl
theorem biR_bor {b : Bi} : biR b [.bor x] s = dR (biD b [x]) s := by cases b <;> rfl
theorem biR_2 {b : Bi} : biR b [.d x, .d y] s = dR (biD b [x, y]) s := by cases b <;> rfl
theorem biR_scr {xs : List PD} : biR .list [.scr xs] s = .ok (.d (.list xs)) s := rfl
theorem isiR_d {t : Ty} : isiR t (.d x) s = dR ((isiD x t).map .bool) s := by cases t <;> rfl
def itO (o : Option (List PD)) (s : Cells) : R (List PD) := match o with
  | some xs => .ok xs s
  | none => .bad
theorem itO_some {xs : List PD} : itO (some xs) s = .ok xs s := rfl
theorem itR_1 {m : Bool} {k : ItK} : itR m k [.d x] s = itO (itItems k [x]) s := by cases m <;> rfl
theorem itR_bor {k : ItK} : itR true k [.bor x] s = itO (itItems k [x]) s := rfl
theorem itR_2 {m : Bool} {k : ItK} : itR m k [.d x, .d y] s = itO (itItems k [x, y]) s := by cases m <;> rfl
theorem itD_seq : itItems .seq [x] = items? x := rfl
theorem itD_rng1 : itItems .rng1 [.int i] = rangeD 0 i := rfl
theorem itD_rng2 : itItems .rng2 [.int i, .int j] = rangeD i j := rfl
theorem it_zip_tt {xs ys : List PD} : itItems .zip2 [.tuple xs, .tuple ys] = some (zipD xs ys) := rfl
theorem it_zip_tl {xs ys : List PD} : itItems .zip2 [.tuple xs, .list ys] = some (zipD xs ys) := rfl
theorem it_zip_lt {xs ys : List PD} : itItems .zip2 [.list xs, .tuple ys] = some (zipD xs ys) := rfl
theorem it_zip_ll {xs ys : List PD} : itItems .zip2 [.list xs, .list ys] = some (zipD xs ys) := rfl
theorem it_enum_t {xs : List PD} : itItems .enum [.tuple xs] = some (enumD 0 xs) := rfl
theorem it_enum_l {xs : List PD} : itItems .enum [.list xs] = some (enumD 0 xs) := rfl
theorem items_l {xs : List PD} : items? (.list xs) = some xs := rfl
theorem items_t {xs : List PD} : items? (.tuple xs) = some xs := rfl
theorem cmpW_dd {o : Cop} : cmpW s o (.d x) (.d y) = cmpD o x y := rfl
theorem cmpW_bd {o : Cop} : cmpW s o (.bor x) (.d y) = cmpD o x y := rfl
theorem cmpW_db {o : Cop} : cmpW s o (.d x) (.bor y) = cmpD o x y := rfl
theorem cmp_lt : cmpD .lt x y = ltD x y := by cases x <;> rfl
theorem cmp_gt : cmpD .gt x y = ltD y x := by cases x <;> rfl
theorem ltD_int : ltD (.int i) (.int j) = some (decide (i < j)) := rfl
theorem cmp_le : cmpD .le (.int i) (.int j) = some (decide (i ≤ j)) := rfl
theorem cmp_ge : cmpD .ge (.int i) (.int j) = some (decide (j ≤ i)) := rfl
theorem cmp_isN : cmpD .is_ x .none = some (isNone x) := by cases x <;> rfl
theorem cmp_isnotN : cmpD .isnot x .none = some (!isNone x) := by cases x <;> rfl
theorem cmp_isB {a b : Bool} : cmpD .is_ (.bool a) (.bool b) = some (decide (a = b)) := rfl
theorem cmp_isnotB {a b : Bool} : cmpD .isnot (.bool a) (.bool b) = some (!decide (a = b)) := rfl
theorem bin_add : binD .add x y = addD x y := rfl
theorem bin_sub : binD .sub x y = subtD x y := rfl
theorem bin_mul : binD .mul x y = mulD x y := rfl
theorem bin_fdiv : binD .fdiv x y = fdivD x y := rfl
theorem bin_mod : binD .mod x y = modD x y := rfl
theorem bin_pow : binD .pow x y = powD x y := rfl
theorem add_int : addD (.int i) (.int j) = some (.int (i + j)) := rfl
theorem subt_int : subtD (.int i) (.int j) = some (.int (i - j)) := rfl
theorem add_l {xs ys : List PD} : addD (.list xs) (.list ys) = if xs.length + ys.length ≤ LINE then some (.list (xs ++ ys)) else none := rfl
theorem add_t {xs ys : List PD} : addD (.tuple xs) (.tuple ys) = if xs.length + ys.length ≤ LINE then some (.tuple (xs ++ ys)) else none := rfl
theorem mod_int : modD (.int i) (.int j) = if 0 < j then some (.int (i % j)) else none := rfl
theorem sub_l {xs : List PD} : subD (.list xs) (.int i) = atD xs i := rfl
theorem sub_t {xs : List PD} : subD (.tuple xs) (.int i) = atD xs i := rfl
theorem slc_l {xs : List PD} {a b : Option Int} : slcD (.list xs) a b = some (.list (cutL xs a b)) := rfl
theorem slc_t {xs : List PD} {a b : Option Int} : slcD (.tuple xs) a b = some (.tuple (cutL xs a b)) := rfl
theorem bndR_nil : bndR [] s = .ok none s := rfl
theorem bndR_1 : bndR [.d (.int i)] s = .ok (some i) s := rfl
theorem at_0 {xs : List PD} : atD (x :: xs) 0 = some x := by
  simp [atD, L2.atI, L2.ixN]
theorem at_1 {xs : List PD} : atD (x :: y :: xs) 1 = some y := by
  have h1 : (1 : Int) < (xs.length : Int) + 1 + 1 := by omega
  simp [atD, L2.atI, L2.ixN, h1]
theorem at_2 {z : PD} {xs : List PD} : atD (x :: y :: z :: xs) 2 = some z := by
  have h1 : (2 : Int) < (xs.length : Int) + 1 + 1 + 1 := by omega
  simp [atD, L2.atI, L2.ixN, h1]
theorem len_l {xs : List PD} : bLen [.list xs] = some (.int xs.length) := rfl
theorem len_t {xs : List PD} : bLen [.tuple xs] = some (.int xs.length) := rfl
theorem none_n : isNone .none = true := rfl
theorem none_i : isNone (.int i) = false := rfl
theorem none_b {b : Bool} : isNone (.bool b) = false := rfl
theorem none_t {xs : List PD} : isNone (.tuple xs) = false := rfl
theorem none_l {xs : List PD} : isNone (.list xs) = false := rfl
theorem isi_ii : isiD (.int i) .int = some true := rfl
theorem isi_bi {b : Bool} : isiD (.bool b) .int = some true := rfl
theorem isi_ib : isiD (.int i) .bool = some false := rfl
theorem isi_bb {b : Bool} : isiD (.bool b) .bool = some true := rfl
def isTupD : PD → Bool
  | .tuple _ => true
  | _ => false
theorem isi_t : isiD x .tuple = some (isTupD x) := rfl
theorem isTupD_t {xs : List PD} : isTupD (.tuple xs) = true := rfl
theorem isTupD_l {xs : List PD} : isTupD (.list xs) = false := rfl
theorem isTupD_i : isTupD (.int i) = false := rfl
theorem isTupD_n : isTupD .none = false := rfl
theorem isTupD_b {b : Bool} : isTupD (.bool b) = false := rfl
theorem max_l {xs : List PD} : bMax [.list (x :: xs)] = if bestOk (x :: xs) then some (W.maxD x xs) else none := rfl
theorem tuple_l {xs : List PD} : bTuple [.list xs] = some (.tuple xs) := rfl
theorem tuple_t {xs : List PD} : bTuple [.tuple xs] = some (.tuple xs) := rfl
theorem list_l {xs : List PD} : bList [.list xs] = some (.list xs) := rfl
theorem list_t {xs : List PD} : bList [.tuple xs] = some (.list xs) := rfl
theorem int_i : bInt [.int i] = some (.int i) := rfl
theorem all_l {xs : List PD} : bAll [.list xs] = (bools? xs).map fun bs => .bool (bs.all id) := rfl
theorem any_l {xs : List PD} : bAny [.list xs] = (bools? xs).map fun bs => .bool (bs.any id) := rfl
theorem sum_l {xs : List PD} : bSum [.list xs] = (ints? xs).map fun is => .int is.sum := rfl
theorem cset_l {env : Env} {xs : List PD} (h : s[n]? = some (.list xs)) : csetW (.loc n) (.d (.int i)) (.d x) env s = if 0 ≤ i ∧ i < xs.length then .ok (.nx env) (s.set n (.list (xs.set i.toNat x))) else .bad := by
  unfold csetW
  simp only [h]
end

/-! ### data -/
abbrev tInts (xs : List Int) : PD := .tuple (xs.map .int)
def isInt : PD → Bool
  | .int _ => true
  | _ => false
def intOf : PD → Int
  | .int i => i
  | _ => 0
theorem intsD_of : ∀ {xs : List PD}, (∀ x ∈ xs, isInt x = true) → xs = (xs.map intOf).map .int
  | [], _ => rfl
  | x :: xs, h => by
    have h1 := h x List.mem_cons_self
    have ih := intsD_of (xs := xs) fun y hy => h y (List.mem_cons_of_mem _ hy)
    cases x <;> first | (cases h1; done) | skip
    simp only [List.map_cons, intOf]
    rw [← ih]
theorem canLay_ints : ∀ xs : List Int, PyData.canLayAll0 (xs.map .int) = true
  | [] => rfl
  | x :: xs => by simp [PyData.canLayAll0, PyData.canLay0, canLay_ints xs]
theorem canLayAll_of : ∀ {xs : List PD}, (∀ x ∈ xs, x.canLay0 = true) → PyData.canLayAll0 xs = true
  | [], _ => rfl
  | x :: xs, h => by
    simp only [PyData.canLayAll0, h x List.mem_cons_self, Bool.true_and]
    exact canLayAll_of fun y hy => h y (List.mem_cons_of_mem _ hy)
theorem depthAll_le : ∀ {xs : List PD} {n : Nat}, (∀ x ∈ xs, x.depth ≤ n) → PyData.depthAll xs ≤ n
  | [], _, _ => by simp [PyData.depthAll]
  | x :: xs, n, h => by
    have h1 := h x List.mem_cons_self
    have h2 := depthAll_le (xs := xs) (n := n) fun y hy => h y (List.mem_cons_of_mem _ hy)
    simp only [PyData.depthAll]
    omega
/-- shaped, to a depth -/
def okN (n : Nat) (d : PD) : Prop := d.canLay0 = true ∧ d.depth ≤ n
theorem okN.ok {n : Nat} {d : PD} (h : okN n d) (hn : n ≤ 64) : okD d = true := by
  unfold okD SeqAt.shaped
  simp [h.1, Nat.le_trans h.2 hn]
theorem okN.mono {n m : Nat} {d : PD} (h : okN n d) (hn : n ≤ m) : okN m d := ⟨h.1, Nat.le_trans h.2 hn⟩
theorem okN_int (i : Int) : okN 0 (.int i) := ⟨rfl, Nat.le_refl 0⟩
theorem okN_tup {n : Nat} {xs : List PD} (h : ∀ x ∈ xs, okN n x) : okN (n + 1) (.tuple xs) :=
  ⟨by simp only [PyData.canLay0]; exact canLayAll_of fun x hx => (h x hx).1, by simp only [PyData.depth]; have := depthAll_le fun x hx => (h x hx).2; omega⟩
theorem okN_list {n : Nat} {xs : List PD} (h : ∀ x ∈ xs, okN n x) : okN (n + 1) (.list xs) :=
  ⟨by simp only [PyData.canLay0]; exact canLayAll_of fun x hx => (h x hx).1, by simp only [PyData.depth]; have := depthAll_le fun x hx => (h x hx).2; omega⟩
theorem okN_tI (xs : List Int) : okN 1 (tInts xs) := okN_tup fun x hx => by
  obtain ⟨i, _, rfl⟩ := List.mem_map.mp hx
  exact okN_int i
theorem okN_lI (xs : List Int) : okN 1 (.list (xs.map .int)) := okN_list fun x hx => by
  obtain ⟨i, _, rfl⟩ := List.mem_map.mp hx
  exact okN_int i
theorem eqv_int (i j : Int) : PyData.eqv (.int i) (.int j) = decide (i = j) := by
  rw [Bool.eq_iff_iff]; simp [PyData.eqv]
theorem eqv_bool (i j : Bool) : PyData.eqv (.bool i) (.bool j) = decide (i = j) := by
  cases i <;> cases j <;> rfl
theorem cmp_eq_int (i j : Int) : cmpD .eq (.int i) (.int j) = some (decide (i = j)) := by
  simp [cmpD, okD, SeqAt.shaped, PyData.canLay0, PyData.depth, eqv_int]
theorem cmp_ne_int (i j : Int) : cmpD .ne (.int i) (.int j) = some (!decide (i = j)) := by
  simp [cmpD, okD, SeqAt.shaped, PyData.canLay0, PyData.depth, eqv_int]
theorem cmp_eq_bool (i j : Bool) : cmpD .eq (.bool i) (.bool j) = some (decide (i = j)) := by
  simp [cmpD, okD, SeqAt.shaped, PyData.canLay0, PyData.depth, eqv_bool]
theorem cmp_ne_bool (i j : Bool) : cmpD .ne (.bool i) (.bool j) = some (!decide (i = j)) := by
  simp [cmpD, okD, SeqAt.shaped, PyData.canLay0, PyData.depth, eqv_bool]
theorem eqvAll_ints : ∀ xs ys : List Int, PyData.eqvAll (xs.map .int) (ys.map .int) = decide (xs = ys)
  | [], [] => rfl
  | [], _ :: _ => rfl
  | _ :: _, [] => rfl
  | x :: xs, y :: ys => by
    simp only [List.map_cons, PyData.eqvAll, eqvAll_ints xs ys, eqv_int, List.cons.injEq, Bool.decide_and]
theorem eqv_tI (xs ys : List Int) : PyData.eqv (tInts xs) (tInts ys) = decide (xs = ys) := by
  simp only [tInts, PyData.eqv, eqvAll_ints]
theorem eqv_lI (xs ys : List Int) : PyData.eqv (.list (xs.map .int)) (.list (ys.map .int)) = decide (xs = ys) := by
  simp only [PyData.eqv, eqvAll_ints]
theorem cmp_ne_tI (xs ys : List Int) : cmpD .ne (tInts xs) (tInts ys) = some (!decide (xs = ys)) := by
  simp [cmpD, (okN_tI xs).ok (by decide), (okN_tI ys).ok (by decide), eqv_tI]
theorem cmp_eq_tI (xs ys : List Int) : cmpD .eq (tInts xs) (tInts ys) = some (decide (xs = ys)) := by
  simp [cmpD, (okN_tI xs).ok (by decide), (okN_tI ys).ok (by decide), eqv_tI]
theorem eqv_nil (xs : List PD) : PyData.eqv (.list xs) (.list []) = xs.isEmpty := by
  cases xs <;> simp [PyData.eqv, PyData.eqvAll]
theorem okD_nil : okD (.list []) = true := rfl
/-- compared to an empty list -/
theorem cmp_eq_nil {xs : List PD} (h : okD (.list xs) = true) : cmpD .eq (.list xs) (.list []) = some xs.isEmpty := by
  simp [cmpD, h, okD_nil, eqv_nil]
theorem cmp_ne_nil {xs : List PD} (h : okD (.list xs) = true) : cmpD .ne (.list xs) (.list []) = some (!xs.isEmpty) := by
  simp [cmpD, h, okD_nil, eqv_nil]
theorem at_nat {xs : List PD} {i : Nat} (h : i < xs.length) : atD xs (i : Int) = xs[i]? := by
  unfold atD L2.atI L2.ixN
  have h1 : (0 : Int) ≤ (i : Int) ∧ (i : Int) < xs.length := ⟨by omega, by omega⟩
  simp [h1, h]

/-! ### whole numbers and tuples of them -/
def isW (v : PD) (lo hi : Int) : Bool := match v with
  | .int i => decide (lo ≤ i) && decide (i ≤ hi)
  | _ => false
theorem isW_int {v : PD} {lo hi : Int} (h : isW v lo hi = true) : isInt v = true := by cases v <;> first | rfl | cases h
theorem m1 (h1 : P 1 = some d1) (k : Nat) (v : PD) (lo hi : Int) : evF P (k + 1) (.fn 1) [.d v, .d (.int lo), .d (.int hi)] s = .ok (.d (.bool (isW v lo hi))) s := by
  rw [ev_call h1 rfl rfl]
  cases v <;> try rfl
  rename_i i
  simp -implicitDefEqProofs [wp_ok, wp_bind, wp_calm, startE, evSs, evS, evAnd, evOr, evC, evE, evL, evT, views, pures, walks, wipeE, bind_ok, bind_exc, wcalm_ok, biD, cmp_eq_int, cmp_ne_int, view_d, view_bor, view_loc, pure_d, boolR_d, dR_some, dR_none, retW_d, retW_loc, retW_fn, finF_ret, finF_nx, eltR_d, asgW_nm, nameW_d, nameW_loc, nameW_fn, flO_some, asgW_tu, asgT_nm, asgT_tu, asgT_tul, asgT_tt, asgTs_nil, asgTs_cons, biR_1, biR_bor, biR_2, biR_scr, isiR_d, itO_some, itR_1, itR_bor, itR_2, itD_seq, itD_rng1, itD_rng2, it_zip_tt, it_zip_tl, it_zip_lt, it_zip_ll, it_enum_t, it_enum_l, items_l, items_t, cmpW_dd, cmpW_bd, cmpW_db, cmp_lt, cmp_gt, ltD_int, cmp_le, cmp_ge, cmp_isN, cmp_isnotN, cmp_isB, cmp_isnotB, bin_add, bin_sub, bin_mul, bin_fdiv, bin_mod, bin_pow, add_int, subt_int, add_l, add_t, mod_int, sub_l, sub_t, slc_l, slc_t, bndR_nil, bndR_1, at_0, at_1, at_2, len_l, len_t, none_n, none_i, none_b, none_t, none_l, isi_ii, isi_bi, isi_ib, isi_bb, isi_t, isTupD_t, isTupD_l, isTupD_i, isTupD_n, isTupD_b, max_l, tuple_l, tuple_t, list_l, list_t, int_i, all_l, any_l, sum_l, d1, isW]
  by_cases h : lo ≤ i <;> simp -implicitDefEqProofs [wp_ok, wp_bind, wp_calm, startE, evSs, evS, evAnd, evOr, evC, evE, evL, evT, views, pures, walks, wipeE, bind_ok, bind_exc, wcalm_ok, biD, cmp_eq_int, cmp_ne_int, view_d, view_bor, view_loc, pure_d, boolR_d, dR_some, dR_none, retW_d, retW_loc, retW_fn, finF_ret, finF_nx, eltR_d, asgW_nm, nameW_d, nameW_loc, nameW_fn, flO_some, asgW_tu, asgT_nm, asgT_tu, asgT_tul, asgT_tt, asgTs_nil, asgTs_cons, biR_1, biR_bor, biR_2, biR_scr, isiR_d, itO_some, itR_1, itR_bor, itR_2, itD_seq, itD_rng1, itD_rng2, it_zip_tt, it_zip_tl, it_zip_lt, it_zip_ll, it_enum_t, it_enum_l, items_l, items_t, cmpW_dd, cmpW_bd, cmpW_db, cmp_lt, cmp_gt, ltD_int, cmp_le, cmp_ge, cmp_isN, cmp_isnotN, cmp_isB, cmp_isnotB, bin_add, bin_sub, bin_mul, bin_fdiv, bin_mod, bin_pow, add_int, subt_int, add_l, add_t, mod_int, sub_l, sub_t, slc_l, slc_t, bndR_nil, bndR_1, at_0, at_1, at_2, len_l, len_t, none_n, none_i, none_b, none_t, none_l, isi_ii, isi_bi, isi_ib, isi_bb, isi_t, isTupD_t, isTupD_l, isTupD_i, isTupD_n, isTupD_b, max_l, tuple_l, tuple_t, list_l, list_t, int_i, all_l, any_l, sum_l, h]
  by_cases h2 : i ≤ hi <;> simp -implicitDefEqProofs [wp_ok, wp_bind, wp_calm, startE, evSs, evS, evAnd, evOr, evC, evE, evL, evT, views, pures, walks, wipeE, bind_ok, bind_exc, wcalm_ok, biD, cmp_eq_int, cmp_ne_int, view_d, view_bor, view_loc, pure_d, boolR_d, dR_some, dR_none, retW_d, retW_loc, retW_fn, finF_ret, finF_nx, eltR_d, asgW_nm, nameW_d, nameW_loc, nameW_fn, flO_some, asgW_tu, asgT_nm, asgT_tu, asgT_tul, asgT_tt, asgTs_nil, asgTs_cons, biR_1, biR_bor, biR_2, biR_scr, isiR_d, itO_some, itR_1, itR_bor, itR_2, itD_seq, itD_rng1, itD_rng2, it_zip_tt, it_zip_tl, it_zip_lt, it_zip_ll, it_enum_t, it_enum_l, items_l, items_t, cmpW_dd, cmpW_bd, cmpW_db, cmp_lt, cmp_gt, ltD_int, cmp_le, cmp_ge, cmp_isN, cmp_isnotN, cmp_isB, cmp_isnotB, bin_add, bin_sub, bin_mul, bin_fdiv, bin_mod, bin_pow, add_int, subt_int, add_l, add_t, mod_int, sub_l, sub_t, slc_l, slc_t, bndR_nil, bndR_1, at_0, at_1, at_2, len_l, len_t, none_n, none_i, none_b, none_t, none_l, isi_ii, isi_bi, isi_ib, isi_bb, isi_t, isTupD_t, isTupD_l, isTupD_i, isTupD_n, isTupD_b, max_l, tuple_l, tuple_t, list_l, list_t, int_i, all_l, any_l, sum_l, h2]
def isT (v : PD) (lo hi : Int) : Bool := match v with
  | .tuple xs => decide (lo ≤ xs.length) && decide ((xs.length : Int) ≤ hi)
  | _ => false
theorem m2 (h2 : P 2 = some d2) (k : Nat) (v : PD) (lo hi : Int) : evF P (k + 1) (.fn 2) [.d v, .d (.int lo), .d (.int hi)] s = .ok (.d (.bool (isT v lo hi))) s := by
  rw [ev_call h2 rfl rfl]
  cases v <;> try rfl
  rename_i i
  simp -implicitDefEqProofs [wp_ok, wp_bind, wp_calm, startE, evSs, evS, evAnd, evOr, evC, evE, evL, evT, views, pures, walks, wipeE, bind_ok, bind_exc, wcalm_ok, biD, cmp_eq_int, cmp_ne_int, view_d, view_bor, view_loc, pure_d, boolR_d, dR_some, dR_none, retW_d, retW_loc, retW_fn, finF_ret, finF_nx, eltR_d, asgW_nm, nameW_d, nameW_loc, nameW_fn, flO_some, asgW_tu, asgT_nm, asgT_tu, asgT_tul, asgT_tt, asgTs_nil, asgTs_cons, biR_1, biR_bor, biR_2, biR_scr, isiR_d, itO_some, itR_1, itR_bor, itR_2, itD_seq, itD_rng1, itD_rng2, it_zip_tt, it_zip_tl, it_zip_lt, it_zip_ll, it_enum_t, it_enum_l, items_l, items_t, cmpW_dd, cmpW_bd, cmpW_db, cmp_lt, cmp_gt, ltD_int, cmp_le, cmp_ge, cmp_isN, cmp_isnotN, cmp_isB, cmp_isnotB, bin_add, bin_sub, bin_mul, bin_fdiv, bin_mod, bin_pow, add_int, subt_int, add_l, add_t, mod_int, sub_l, sub_t, slc_l, slc_t, bndR_nil, bndR_1, at_0, at_1, at_2, len_l, len_t, none_n, none_i, none_b, none_t, none_l, isi_ii, isi_bi, isi_ib, isi_bb, isi_t, isTupD_t, isTupD_l, isTupD_i, isTupD_n, isTupD_b, max_l, tuple_l, tuple_t, list_l, list_t, int_i, all_l, any_l, sum_l, d2, isT]
  by_cases h : lo ≤ i.length <;> simp -implicitDefEqProofs [wp_ok, wp_bind, wp_calm, startE, evSs, evS, evAnd, evOr, evC, evE, evL, evT, views, pures, walks, wipeE, bind_ok, bind_exc, wcalm_ok, biD, cmp_eq_int, cmp_ne_int, view_d, view_bor, view_loc, pure_d, boolR_d, dR_some, dR_none, retW_d, retW_loc, retW_fn, finF_ret, finF_nx, eltR_d, asgW_nm, nameW_d, nameW_loc, nameW_fn, flO_some, asgW_tu, asgT_nm, asgT_tu, asgT_tul, asgT_tt, asgTs_nil, asgTs_cons, biR_1, biR_bor, biR_2, biR_scr, isiR_d, itO_some, itR_1, itR_bor, itR_2, itD_seq, itD_rng1, itD_rng2, it_zip_tt, it_zip_tl, it_zip_lt, it_zip_ll, it_enum_t, it_enum_l, items_l, items_t, cmpW_dd, cmpW_bd, cmpW_db, cmp_lt, cmp_gt, ltD_int, cmp_le, cmp_ge, cmp_isN, cmp_isnotN, cmp_isB, cmp_isnotB, bin_add, bin_sub, bin_mul, bin_fdiv, bin_mod, bin_pow, add_int, subt_int, add_l, add_t, mod_int, sub_l, sub_t, slc_l, slc_t, bndR_nil, bndR_1, at_0, at_1, at_2, len_l, len_t, none_n, none_i, none_b, none_t, none_l, isi_ii, isi_bi, isi_ib, isi_bb, isi_t, isTupD_t, isTupD_l, isTupD_i, isTupD_n, isTupD_b, max_l, tuple_l, tuple_t, list_l, list_t, int_i, all_l, any_l, sum_l, h]
  by_cases h2 : (i.length : Int) ≤ hi <;> simp -implicitDefEqProofs [wp_ok, wp_bind, wp_calm, startE, evSs, evS, evAnd, evOr, evC, evE, evL, evT, views, pures, walks, wipeE, bind_ok, bind_exc, wcalm_ok, biD, cmp_eq_int, cmp_ne_int, view_d, view_bor, view_loc, pure_d, boolR_d, dR_some, dR_none, retW_d, retW_loc, retW_fn, finF_ret, finF_nx, eltR_d, asgW_nm, nameW_d, nameW_loc, nameW_fn, flO_some, asgW_tu, asgT_nm, asgT_tu, asgT_tul, asgT_tt, asgTs_nil, asgTs_cons, biR_1, biR_bor, biR_2, biR_scr, isiR_d, itO_some, itR_1, itR_bor, itR_2, itD_seq, itD_rng1, itD_rng2, it_zip_tt, it_zip_tl, it_zip_lt, it_zip_ll, it_enum_t, it_enum_l, items_l, items_t, cmpW_dd, cmpW_bd, cmpW_db, cmp_lt, cmp_gt, ltD_int, cmp_le, cmp_ge, cmp_isN, cmp_isnotN, cmp_isB, cmp_isnotB, bin_add, bin_sub, bin_mul, bin_fdiv, bin_mod, bin_pow, add_int, subt_int, add_l, add_t, mod_int, sub_l, sub_t, slc_l, slc_t, bndR_nil, bndR_1, at_0, at_1, at_2, len_l, len_t, none_n, none_i, none_b, none_t, none_l, isi_ii, isi_bi, isi_ib, isi_bb, isi_t, isTupD_t, isTupD_l, isTupD_i, isTupD_n, isTupD_b, max_l, tuple_l, tuple_t, list_l, list_t, int_i, all_l, any_l, sum_l, h2]
theorem m3 (h1 : P 1 = some d1) (h3 : P 3 = some d3) (k : Nat) (v : PD) {xs : List PD} (hv : items? v = some xs) (lo hi : Int) : evF P (k + 1 + 1) (.fn 3) [.d v, .d (.int lo), .d (.int hi)] s = .ok (.d (.bool (xs.all fun x => isW x lo hi))) s := by
  rw [ev_call h3 rfl rfl]
  simp -implicitDefEqProofs only [wp_ok, wp_bind, wp_calm, startE, evSs, evS, evAnd, evOr, evC, evE, evL, evT, views, pures, walks, wipeE, bind_ok, bind_exc, wcalm_ok, biD, cmp_eq_int, cmp_ne_int, view_d, view_bor, view_loc, pure_d, boolR_d, dR_some, dR_none, retW_d, retW_loc, retW_fn, finF_ret, finF_nx, eltR_d, asgW_nm, nameW_d, nameW_loc, nameW_fn, flO_some, asgW_tu, asgT_nm, asgT_tu, asgT_tul, asgT_tt, asgTs_nil, asgTs_cons, biR_1, biR_bor, biR_2, biR_scr, isiR_d, itO_some, itR_1, itR_bor, itR_2, itD_seq, itD_rng1, itD_rng2, it_zip_tt, it_zip_tl, it_zip_lt, it_zip_ll, it_enum_t, it_enum_l, items_l, items_t, cmpW_dd, cmpW_bd, cmpW_db, cmp_lt, cmp_gt, ltD_int, cmp_le, cmp_ge, cmp_isN, cmp_isnotN, cmp_isB, cmp_isnotB, bin_add, bin_sub, bin_mul, bin_fdiv, bin_mod, bin_pow, add_int, subt_int, add_l, add_t, mod_int, sub_l, sub_t, slc_l, slc_t, bndR_nil, bndR_1, at_0, at_1, at_2, len_l, len_t, none_n, none_i, none_b, none_t, none_l, isi_ii, isi_bi, isi_ib, isi_bb, isi_t, isTupD_t, isTupD_l, isTupD_i, isTupD_n, isTupD_b, max_l, tuple_l, tuple_t, list_l, list_t, int_i, all_l, any_l, sum_l, d3]
  simp -implicitDefEqProofs [wp_ok, wp_bind, wp_calm, startE, evSs, evS, evAnd, evOr, evC, evE, evL, evT, views, pures, walks, wipeE, bind_ok, bind_exc, wcalm_ok, biD, cmp_eq_int, cmp_ne_int, view_d, view_bor, view_loc, pure_d, boolR_d, dR_some, dR_none, retW_d, retW_loc, retW_fn, finF_ret, finF_nx, eltR_d, asgW_nm, nameW_d, nameW_loc, nameW_fn, flO_some, asgW_tu, asgT_nm, asgT_tu, asgT_tul, asgT_tt, asgTs_nil, asgTs_cons, biR_1, biR_bor, biR_2, biR_scr, isiR_d, itO_some, itR_1, itR_bor, itR_2, itD_seq, itD_rng1, itD_rng2, it_zip_tt, it_zip_tl, it_zip_lt, it_zip_ll, it_enum_t, it_enum_l, items_l, items_t, cmpW_dd, cmpW_bd, cmpW_db, cmp_lt, cmp_gt, ltD_int, cmp_le, cmp_ge, cmp_isN, cmp_isnotN, cmp_isB, cmp_isnotB, bin_add, bin_sub, bin_mul, bin_fdiv, bin_mod, bin_pow, add_int, subt_int, add_l, add_t, mod_int, sub_l, sub_t, slc_l, slc_t, bndR_nil, bndR_1, at_0, at_1, at_2, len_l, len_t, none_n, none_i, none_b, none_t, none_l, isi_ii, isi_bi, isi_ib, isi_bb, isi_t, isTupD_t, isTupD_l, isTupD_i, isTupD_n, isTupD_b, max_l, tuple_l, tuple_t, list_l, list_t, int_i, all_l, any_l, sum_l, hv]
  rw [lcGo_id (fun _ => true) (fun x => .bool (isW x lo hi))]
  · have e : List.filter (fun _ => true) xs = xs := List.filter_eq_self.mpr (fun _ _ => rfl)
    rw [e]
    simp -implicitDefEqProofs [wp_ok, wp_bind, wp_calm, startE, evSs, evS, evAnd, evOr, evC, evE, evL, evT, views, pures, walks, wipeE, bind_ok, bind_exc, wcalm_ok, biD, cmp_eq_int, cmp_ne_int, view_d, view_bor, view_loc, pure_d, boolR_d, dR_some, dR_none, retW_d, retW_loc, retW_fn, finF_ret, finF_nx, eltR_d, asgW_nm, nameW_d, nameW_loc, nameW_fn, flO_some, asgW_tu, asgT_nm, asgT_tu, asgT_tul, asgT_tt, asgTs_nil, asgTs_cons, biR_1, biR_bor, biR_2, biR_scr, isiR_d, itO_some, itR_1, itR_bor, itR_2, itD_seq, itD_rng1, itD_rng2, it_zip_tt, it_zip_tl, it_zip_lt, it_zip_ll, it_enum_t, it_enum_l, items_l, items_t, cmpW_dd, cmpW_bd, cmpW_db, cmp_lt, cmp_gt, ltD_int, cmp_le, cmp_ge, cmp_isN, cmp_isnotN, cmp_isB, cmp_isnotB, bin_add, bin_sub, bin_mul, bin_fdiv, bin_mod, bin_pow, add_int, subt_int, add_l, add_t, mod_int, sub_l, sub_t, slc_l, slc_t, bndR_nil, bndR_1, at_0, at_1, at_2, len_l, len_t, none_n, none_i, none_b, none_t, none_l, isi_ii, isi_bi, isi_ib, isi_bb, isi_t, isTupD_t, isTupD_l, isTupD_i, isTupD_n, isTupD_b, max_l, tuple_l, tuple_t, list_l, list_t, int_i, all_l, any_l, sum_l, bools_map, List.all_map]
  · intro x hx
    refine ⟨_, rfl, rfl, fun _ => ?_⟩
    simp -implicitDefEqProofs [wp_ok, wp_bind, wp_calm, startE, evSs, evS, evAnd, evOr, evC, evE, evL, evT, views, pures, walks, wipeE, bind_ok, bind_exc, wcalm_ok, biD, cmp_eq_int, cmp_ne_int, view_d, view_bor, view_loc, pure_d, boolR_d, dR_some, dR_none, retW_d, retW_loc, retW_fn, finF_ret, finF_nx, eltR_d, asgW_nm, nameW_d, nameW_loc, nameW_fn, flO_some, asgW_tu, asgT_nm, asgT_tu, asgT_tul, asgT_tt, asgTs_nil, asgTs_cons, biR_1, biR_bor, biR_2, biR_scr, isiR_d, itO_some, itR_1, itR_bor, itR_2, itD_seq, itD_rng1, itD_rng2, it_zip_tt, it_zip_tl, it_zip_lt, it_zip_ll, it_enum_t, it_enum_l, items_l, items_t, cmpW_dd, cmpW_bd, cmpW_db, cmp_lt, cmp_gt, ltD_int, cmp_le, cmp_ge, cmp_isN, cmp_isnotN, cmp_isB, cmp_isnotB, bin_add, bin_sub, bin_mul, bin_fdiv, bin_mod, bin_pow, add_int, subt_int, add_l, add_t, mod_int, sub_l, sub_t, slc_l, slc_t, bndR_nil, bndR_1, at_0, at_1, at_2, len_l, len_t, none_n, none_i, none_b, none_t, none_l, isi_ii, isi_bi, isi_ib, isi_bb, isi_t, isTupD_t, isTupD_l, isTupD_i, isTupD_n, isTupD_b, max_l, tuple_l, tuple_t, list_l, list_t, int_i, all_l, any_l, sum_l, m1 h1]
theorem isT_tup {v : PD} {lo hi : Int} (h : isT v lo hi = true) : ∃ xs, v = .tuple xs ∧ lo ≤ xs.length ∧ (xs.length : Int) ≤ hi := by
  cases v <;> first | (cases h; done) | skip
  rename_i xs
  simp only [isT, Bool.and_eq_true, decide_eq_true_eq] at h
  exact ⟨xs, rfl, h⟩
theorem tup3 {v : PD} (h : isT v 3 3 = true) : ∃ a b c, v = .tuple [a, b, c] := by
  obtain ⟨xs, rfl, h1, h2⟩ := isT_tup h
  have : xs.length = 3 := by omega
  match xs, this with
  | [a, b, c], _ => exact ⟨a, b, c, rfl⟩
theorem tup2 {v : PD} (h : isT v 2 2 = true) : ∃ a b, v = .tuple [a, b] := by
  obtain ⟨xs, rfl, h1, h2⟩ := isT_tup h
  have : xs.length = 2 := by omega
  match xs, this with
  | [a, b], _ => exact ⟨a, b, rfl⟩
end Lw

set_option Elab.async false
set_option linter.all false
set_option maxRecDepth 100000
set_option maxHeartbeats 2000000
/-! M2: mirrors of books and the cup. -/
namespace Lw
open PySem
variable {P : Nat → Option Def} {s : Cells}
def items0 (v : PD) : List PD := (items? v).getD []
/-- the law's need: two quantities, an offset -/
def fitsN (q c : Int) (v : PD) : Bool := match v with
  | .tuple [a, b, d] => isW a 0 (q - 1) && isW b 0 (q - 1) && (isT d c c && (items0 d).all fun x => isW x (-3) 3)
  | _ => false
theorem isT_false {v : PD} {xs : List PD} {lo hi : Int} (e : v = .tuple xs) : isT v lo hi = (decide (lo ≤ xs.length) && decide ((xs.length : Int) ≤ hi)) := by rw [e]; rfl
theorem cut2 (a b c : PD) : cutL [a, b, c] none (some 2) = [a, b] := rfl
theorem m4 (h1 : P 1 = some d1) (h2 : P 2 = some d2) (h3 : P 3 = some d3) (h4 : P 4 = some d4) (k : Nat) (v : PD) (q c : Int) : evF P (k + 3) (.fn 4) [.d (.int q), .d (.int c), .d v] s = .ok (.d (.bool (fitsN q c v))) s := by
  rw [ev_call h4 rfl rfl]
  by_cases h : isT v 3 3 = true
  · obtain ⟨a, b, d, rfl⟩ := tup3 h
    simp -implicitDefEqProofs [wp_ok, wp_bind, wp_calm, startE, evSs, evS, evAnd, evOr, evC, evE, evL, evT, views, pures, walks, wipeE, bind_ok, bind_exc, wcalm_ok, biD, cmp_eq_int, cmp_ne_int, view_d, view_bor, view_loc, pure_d, boolR_d, dR_some, dR_none, retW_d, retW_loc, retW_fn, finF_ret, finF_nx, eltR_d, asgW_nm, nameW_d, nameW_loc, nameW_fn, flO_some, asgW_tu, asgT_nm, asgT_tu, asgT_tul, asgT_tt, asgTs_nil, asgTs_cons, biR_1, biR_bor, biR_2, biR_scr, isiR_d, itO_some, itR_1, itR_bor, itR_2, itD_seq, itD_rng1, itD_rng2, it_zip_tt, it_zip_tl, it_zip_lt, it_zip_ll, it_enum_t, it_enum_l, items_l, items_t, cmpW_dd, cmpW_bd, cmpW_db, cmp_lt, cmp_gt, ltD_int, cmp_le, cmp_ge, cmp_isN, cmp_isnotN, cmp_isB, cmp_isnotB, bin_add, bin_sub, bin_mul, bin_fdiv, bin_mod, bin_pow, add_int, subt_int, add_l, add_t, mod_int, sub_l, sub_t, slc_l, slc_t, bndR_nil, bndR_1, at_0, at_1, at_2, len_l, len_t, none_n, none_i, none_b, none_t, none_l, isi_ii, isi_bi, isi_ib, isi_bb, isi_t, isTupD_t, isTupD_l, isTupD_i, isTupD_n, isTupD_b, max_l, tuple_l, tuple_t, list_l, list_t, int_i, all_l, any_l, sum_l, d4, m2 h2, h, cut2]
    rw [m3 h1 h3 k _ (xs := [a, b]) rfl]
    have ea : atD [a, b, d] 2 = some d := rfl
    by_cases hab : (isW a 0 (q - 1) && isW b 0 (q - 1)) = true
    · have hab' := hab
      simp only [Bool.and_eq_true] at hab'
      simp -implicitDefEqProofs [wp_ok, wp_bind, wp_calm, startE, evSs, evS, evAnd, evOr, evC, evE, evL, evT, views, pures, walks, wipeE, bind_ok, bind_exc, wcalm_ok, biD, cmp_eq_int, cmp_ne_int, view_d, view_bor, view_loc, pure_d, boolR_d, dR_some, dR_none, retW_d, retW_loc, retW_fn, finF_ret, finF_nx, eltR_d, asgW_nm, nameW_d, nameW_loc, nameW_fn, flO_some, asgW_tu, asgT_nm, asgT_tu, asgT_tul, asgT_tt, asgTs_nil, asgTs_cons, biR_1, biR_bor, biR_2, biR_scr, isiR_d, itO_some, itR_1, itR_bor, itR_2, itD_seq, itD_rng1, itD_rng2, it_zip_tt, it_zip_tl, it_zip_lt, it_zip_ll, it_enum_t, it_enum_l, items_l, items_t, cmpW_dd, cmpW_bd, cmpW_db, cmp_lt, cmp_gt, ltD_int, cmp_le, cmp_ge, cmp_isN, cmp_isnotN, cmp_isB, cmp_isnotB, bin_add, bin_sub, bin_mul, bin_fdiv, bin_mod, bin_pow, add_int, subt_int, add_l, add_t, mod_int, sub_l, sub_t, slc_l, slc_t, bndR_nil, bndR_1, at_0, at_1, at_2, len_l, len_t, none_n, none_i, none_b, none_t, none_l, isi_ii, isi_bi, isi_ib, isi_bb, isi_t, isTupD_t, isTupD_l, isTupD_i, isTupD_n, isTupD_b, max_l, tuple_l, tuple_t, list_l, list_t, int_i, all_l, any_l, sum_l, hab'.1, hab'.2, m2 h2, ea]
      by_cases hd : isT d c c = true
      · obtain ⟨xs, rfl, _⟩ := isT_tup hd
        simp -implicitDefEqProofs [wp_ok, wp_bind, wp_calm, startE, evSs, evS, evAnd, evOr, evC, evE, evL, evT, views, pures, walks, wipeE, bind_ok, bind_exc, wcalm_ok, biD, cmp_eq_int, cmp_ne_int, view_d, view_bor, view_loc, pure_d, boolR_d, dR_some, dR_none, retW_d, retW_loc, retW_fn, finF_ret, finF_nx, eltR_d, asgW_nm, nameW_d, nameW_loc, nameW_fn, flO_some, asgW_tu, asgT_nm, asgT_tu, asgT_tul, asgT_tt, asgTs_nil, asgTs_cons, biR_1, biR_bor, biR_2, biR_scr, isiR_d, itO_some, itR_1, itR_bor, itR_2, itD_seq, itD_rng1, itD_rng2, it_zip_tt, it_zip_tl, it_zip_lt, it_zip_ll, it_enum_t, it_enum_l, items_l, items_t, cmpW_dd, cmpW_bd, cmpW_db, cmp_lt, cmp_gt, ltD_int, cmp_le, cmp_ge, cmp_isN, cmp_isnotN, cmp_isB, cmp_isnotB, bin_add, bin_sub, bin_mul, bin_fdiv, bin_mod, bin_pow, add_int, subt_int, add_l, add_t, mod_int, sub_l, sub_t, slc_l, slc_t, bndR_nil, bndR_1, at_0, at_1, at_2, len_l, len_t, none_n, none_i, none_b, none_t, none_l, isi_ii, isi_bi, isi_ib, isi_bb, isi_t, isTupD_t, isTupD_l, isTupD_i, isTupD_n, isTupD_b, max_l, tuple_l, tuple_t, list_l, list_t, int_i, all_l, any_l, sum_l, hd]
        rw [m3 h1 h3 k _ (xs := xs) rfl]
        have hf : fitsN q c (.tuple [a, b, .tuple xs]) = xs.all fun x => isW x (-3) 3 := by
          simp only [fitsN, hab'.1, hab'.2, hd, items0, items?, Option.getD_some, Bool.true_and]
        rw [hf]
        generalize (xs.all fun x => isW x (-3) 3) = r
        cases r <;> simp -implicitDefEqProofs [wp_ok, wp_bind, wp_calm, startE, evSs, evS, evAnd, evOr, evC, evE, evL, evT, views, pures, walks, wipeE, bind_ok, bind_exc, wcalm_ok, biD, cmp_eq_int, cmp_ne_int, view_d, view_bor, view_loc, pure_d, boolR_d, dR_some, dR_none, retW_d, retW_loc, retW_fn, finF_ret, finF_nx, eltR_d, asgW_nm, nameW_d, nameW_loc, nameW_fn, flO_some, asgW_tu, asgT_nm, asgT_tu, asgT_tul, asgT_tt, asgTs_nil, asgTs_cons, biR_1, biR_bor, biR_2, biR_scr, isiR_d, itO_some, itR_1, itR_bor, itR_2, itD_seq, itD_rng1, itD_rng2, it_zip_tt, it_zip_tl, it_zip_lt, it_zip_ll, it_enum_t, it_enum_l, items_l, items_t, cmpW_dd, cmpW_bd, cmpW_db, cmp_lt, cmp_gt, ltD_int, cmp_le, cmp_ge, cmp_isN, cmp_isnotN, cmp_isB, cmp_isnotB, bin_add, bin_sub, bin_mul, bin_fdiv, bin_mod, bin_pow, add_int, subt_int, add_l, add_t, mod_int, sub_l, sub_t, slc_l, slc_t, bndR_nil, bndR_1, at_0, at_1, at_2, len_l, len_t, none_n, none_i, none_b, none_t, none_l, isi_ii, isi_bi, isi_ib, isi_bb, isi_t, isTupD_t, isTupD_l, isTupD_i, isTupD_n, isTupD_b, max_l, tuple_l, tuple_t, list_l, list_t, int_i, all_l, any_l, sum_l]
      · simp -implicitDefEqProofs [wp_ok, wp_bind, wp_calm, startE, evSs, evS, evAnd, evOr, evC, evE, evL, evT, views, pures, walks, wipeE, bind_ok, bind_exc, wcalm_ok, biD, cmp_eq_int, cmp_ne_int, view_d, view_bor, view_loc, pure_d, boolR_d, dR_some, dR_none, retW_d, retW_loc, retW_fn, finF_ret, finF_nx, eltR_d, asgW_nm, nameW_d, nameW_loc, nameW_fn, flO_some, asgW_tu, asgT_nm, asgT_tu, asgT_tul, asgT_tt, asgTs_nil, asgTs_cons, biR_1, biR_bor, biR_2, biR_scr, isiR_d, itO_some, itR_1, itR_bor, itR_2, itD_seq, itD_rng1, itD_rng2, it_zip_tt, it_zip_tl, it_zip_lt, it_zip_ll, it_enum_t, it_enum_l, items_l, items_t, cmpW_dd, cmpW_bd, cmpW_db, cmp_lt, cmp_gt, ltD_int, cmp_le, cmp_ge, cmp_isN, cmp_isnotN, cmp_isB, cmp_isnotB, bin_add, bin_sub, bin_mul, bin_fdiv, bin_mod, bin_pow, add_int, subt_int, add_l, add_t, mod_int, sub_l, sub_t, slc_l, slc_t, bndR_nil, bndR_1, at_0, at_1, at_2, len_l, len_t, none_n, none_i, none_b, none_t, none_l, isi_ii, isi_bi, isi_ib, isi_bb, isi_t, isTupD_t, isTupD_l, isTupD_i, isTupD_n, isTupD_b, max_l, tuple_l, tuple_t, list_l, list_t, int_i, all_l, any_l, sum_l, hd, fitsN]
    · have hab2 : (List.all [a, b] fun x => isW x 0 (q - 1)) = false := by
        simp only [List.all_cons, List.all_nil, Bool.and_true]
        simpa using hab
      rw [hab2]
      have : fitsN q c (.tuple [a, b, d]) = false := by
        simp only [fitsN]
        simp only [Bool.not_eq_true] at hab
        rw [hab]; rfl
      simp -implicitDefEqProofs [wp_ok, wp_bind, wp_calm, startE, evSs, evS, evAnd, evOr, evC, evE, evL, evT, views, pures, walks, wipeE, bind_ok, bind_exc, wcalm_ok, biD, cmp_eq_int, cmp_ne_int, view_d, view_bor, view_loc, pure_d, boolR_d, dR_some, dR_none, retW_d, retW_loc, retW_fn, finF_ret, finF_nx, eltR_d, asgW_nm, nameW_d, nameW_loc, nameW_fn, flO_some, asgW_tu, asgT_nm, asgT_tu, asgT_tul, asgT_tt, asgTs_nil, asgTs_cons, biR_1, biR_bor, biR_2, biR_scr, isiR_d, itO_some, itR_1, itR_bor, itR_2, itD_seq, itD_rng1, itD_rng2, it_zip_tt, it_zip_tl, it_zip_lt, it_zip_ll, it_enum_t, it_enum_l, items_l, items_t, cmpW_dd, cmpW_bd, cmpW_db, cmp_lt, cmp_gt, ltD_int, cmp_le, cmp_ge, cmp_isN, cmp_isnotN, cmp_isB, cmp_isnotB, bin_add, bin_sub, bin_mul, bin_fdiv, bin_mod, bin_pow, add_int, subt_int, add_l, add_t, mod_int, sub_l, sub_t, slc_l, slc_t, bndR_nil, bndR_1, at_0, at_1, at_2, len_l, len_t, none_n, none_i, none_b, none_t, none_l, isi_ii, isi_bi, isi_ib, isi_bb, isi_t, isTupD_t, isTupD_l, isTupD_i, isTupD_n, isTupD_b, max_l, tuple_l, tuple_t, list_l, list_t, int_i, all_l, any_l, sum_l, this]
  · have : fitsN q c v = false := by
      unfold fitsN
      split
      · exact absurd rfl h
      · rfl
    simp -implicitDefEqProofs [wp_ok, wp_bind, wp_calm, startE, evSs, evS, evAnd, evOr, evC, evE, evL, evT, views, pures, walks, wipeE, bind_ok, bind_exc, wcalm_ok, biD, cmp_eq_int, cmp_ne_int, view_d, view_bor, view_loc, pure_d, boolR_d, dR_some, dR_none, retW_d, retW_loc, retW_fn, finF_ret, finF_nx, eltR_d, asgW_nm, nameW_d, nameW_loc, nameW_fn, flO_some, asgW_tu, asgT_nm, asgT_tu, asgT_tul, asgT_tt, asgTs_nil, asgTs_cons, biR_1, biR_bor, biR_2, biR_scr, isiR_d, itO_some, itR_1, itR_bor, itR_2, itD_seq, itD_rng1, itD_rng2, it_zip_tt, it_zip_tl, it_zip_lt, it_zip_ll, it_enum_t, it_enum_l, items_l, items_t, cmpW_dd, cmpW_bd, cmpW_db, cmp_lt, cmp_gt, ltD_int, cmp_le, cmp_ge, cmp_isN, cmp_isnotN, cmp_isB, cmp_isnotB, bin_add, bin_sub, bin_mul, bin_fdiv, bin_mod, bin_pow, add_int, subt_int, add_l, add_t, mod_int, sub_l, sub_t, slc_l, slc_t, bndR_nil, bndR_1, at_0, at_1, at_2, len_l, len_t, none_n, none_i, none_b, none_t, none_l, isi_ii, isi_bi, isi_ib, isi_bb, isi_t, isTupD_t, isTupD_l, isTupD_i, isTupD_n, isTupD_b, max_l, tuple_l, tuple_t, list_l, list_t, int_i, all_l, any_l, sum_l, d4, m2 h2, h, this]

abbrev Need := Nat × Nat × List Int
def nD (n : Need) : PD := .tuple [.int n.1, .int n.2.1, tInts n.2.2]
def bookD (Q C : Nat) (ns : List Need) : PD := .tuple [.int Q, .int C, .tuple (ns.map nD)]
theorem okN_nD (n : Need) : okN 2 (nD n) := okN_tup fun x hx => by
  simp only [List.mem_cons, List.not_mem_nil, or_false] at hx
  rcases hx with rfl | rfl | rfl
  · exact (okN_int _).mono (by decide)
  · exact (okN_int _).mono (by decide)
  · exact okN_tI _
theorem alikeAll_ints : ∀ xs ys : List Int, W.alikeAll (xs.map .int) (ys.map .int) = true
  | [], _ => by simp [W.alikeAll]
  | _ :: _, [] => by simp [W.alikeAll]
  | x :: xs, y :: ys => by simp [W.alikeAll, W.alike, alikeAll_ints xs ys]
theorem alike_nD (n m : Need) : W.alike (nD n) (nD m) = true := by
  simp [nD, W.alike, W.alikeAll, alikeAll_ints]
theorem ltD_nD (n m : Need) : cmpD .lt (nD n) (nD m) = some (W.dataLt (nD n) (nD m)) := by
  show ltD (nD n) (nD m) = _
  have h : (W.alike (nD n) (nD m) && okD (nD n) && okD (nD m) && isSeq (nD n)) = true := by
    rw [alike_nD, (okN_nD n).ok (by decide), (okN_nD m).ok (by decide)]; rfl
  unfold ltD
  split
  · rename_i e _; cases e
  · rw [if_pos h]
/-- what a need that fits is -/
theorem fitsN_nD {q c : Nat} {v : PD} (h : fitsN q c v = true) : ∃ n : Need, v = nD n ∧ n.1 < q ∧ n.2.1 < q ∧ n.2.2.length = c ∧ ∀ x ∈ n.2.2, -3 ≤ x ∧ x ≤ 3 := by
  unfold fitsN at h
  split at h
  · rename_i a b d
    simp only [Bool.and_eq_true] at h
    obtain ⟨⟨ha, hb⟩, hd, hx⟩ := h
    obtain ⟨xs, rfl, h1, h2⟩ := isT_tup hd
    cases a <;> first | (cases ha; done) | skip
    cases b <;> first | (cases hb; done) | skip
    rename_i i j
    simp only [isW, Bool.and_eq_true, decide_eq_true_eq] at ha hb
    simp only [items0, items?, Option.getD_some, List.all_eq_true] at hx
    have e := intsD_of (xs := xs) fun x hx' => isW_int (hx x hx')
    refine ⟨(i.toNat, j.toNat, xs.map intOf), ?_, by simp only; omega, by simp only; omega, by simp only [List.length_map]; omega, fun x hx' => ?_⟩
    · unfold nD tInts
      rw [← e]
      simp only
      rw [Int.toNat_of_nonneg ha.1, Int.toNat_of_nonneg hb.1]
    · obtain ⟨y, hy, rfl⟩ := List.mem_map.mp hx'
      have := hx y hy
      cases y <;> first | (cases this; done) | skip
      simpa [isW, intOf] using this
  · cases h
structure FitN (q c : Nat) (n : Need) : Prop where
  a : n.1 < q
  b : n.2.1 < q
  l : n.2.2.length = c
  x : ∀ x ∈ n.2.2, -3 ≤ x ∧ x ≤ 3
theorem fitsN_of {q c : Nat} {n : Need} (h : FitN q c n) : fitsN q c (nD n) = true := by
  have h1 := h.a
  have h2 := h.b
  have h3 := h.l
  simp only [fitsN, nD, isW, isT, items0, items?, Option.getD_some, Bool.and_eq_true, decide_eq_true_eq, List.length_map, List.all_eq_true, List.mem_map]
  refine ⟨⟨⟨by omega, by omega⟩, by omega, by omega⟩, ⟨by omega, by omega⟩, fun x hx => ?_⟩
  obtain ⟨i, hi, rfl⟩ := hx
  simpa [isW] using h.x i hi
/-- rising, one after the other -/
def risesD : List PD → Bool
  | x :: y :: r => W.dataLt x y && risesD (y :: r)
  | _ => true
theorem cut1 (xs : List PD) : cutL xs (some 1) none = xs.tail := by
  unfold cutL HT.sIx
  cases xs with
  | nil => rfl
  | cons x xs =>
    have : min (1 : Int).toNat (x :: xs).length = 1 := by simp
    simp [this]
theorem zip_rises {f : PD × PD → Bool} (hf : ∀ p, f p = W.dataLt p.1 p.2) : ∀ xs : List PD, (xs.zip xs.tail).all f = risesD xs
  | [] => rfl
  | [x] => rfl
  | x :: y :: r => by
    have ih := zip_rises hf (y :: r)
    simp only [List.tail_cons] at ih ⊢
    rw [List.zip_cons_cons, List.all_cons, hf, ih]
    rfl
theorem m5 (h5 : P 5 = some d5) (k : Nat) (ns : List Need) : evF P (k + 1) (.fn 5) [.d (.tuple (ns.map nD))] s = .ok (.d (.bool (risesD (ns.map nD)))) s := by
  rw [ev_call h5 rfl rfl]
  simp -implicitDefEqProofs only [wp_ok, wp_bind, wp_calm, startE, evSs, evS, evAnd, evOr, evC, evE, evL, evT, views, pures, walks, wipeE, bind_ok, bind_exc, wcalm_ok, biD, cmp_eq_int, cmp_ne_int, view_d, view_bor, view_loc, pure_d, boolR_d, dR_some, dR_none, retW_d, retW_loc, retW_fn, finF_ret, finF_nx, eltR_d, asgW_nm, nameW_d, nameW_loc, nameW_fn, flO_some, asgW_tu, asgT_nm, asgT_tu, asgT_tul, asgT_tt, asgTs_nil, asgTs_cons, biR_1, biR_bor, biR_2, biR_scr, isiR_d, itO_some, itR_1, itR_bor, itR_2, itD_seq, itD_rng1, itD_rng2, it_zip_tt, it_zip_tl, it_zip_lt, it_zip_ll, it_enum_t, it_enum_l, items_l, items_t, cmpW_dd, cmpW_bd, cmpW_db, cmp_lt, cmp_gt, ltD_int, cmp_le, cmp_ge, cmp_isN, cmp_isnotN, cmp_isB, cmp_isnotB, bin_add, bin_sub, bin_mul, bin_fdiv, bin_mod, bin_pow, add_int, subt_int, add_l, add_t, mod_int, sub_l, sub_t, slc_l, slc_t, bndR_nil, bndR_1, at_0, at_1, at_2, len_l, len_t, none_n, none_i, none_b, none_t, none_l, isi_ii, isi_bi, isi_ib, isi_bb, isi_t, isTupD_t, isTupD_l, isTupD_i, isTupD_n, isTupD_b, max_l, tuple_l, tuple_t, list_l, list_t, int_i, all_l, any_l, sum_l, d5]
  simp -implicitDefEqProofs [wp_ok, wp_bind, wp_calm, startE, evSs, evS, evAnd, evOr, evC, evE, evL, evT, views, pures, walks, wipeE, bind_ok, bind_exc, wcalm_ok, biD, cmp_eq_int, cmp_ne_int, view_d, view_bor, view_loc, pure_d, boolR_d, dR_some, dR_none, retW_d, retW_loc, retW_fn, finF_ret, finF_nx, eltR_d, asgW_nm, nameW_d, nameW_loc, nameW_fn, flO_some, asgW_tu, asgT_nm, asgT_tu, asgT_tul, asgT_tt, asgTs_nil, asgTs_cons, biR_1, biR_bor, biR_2, biR_scr, isiR_d, itO_some, itR_1, itR_bor, itR_2, itD_seq, itD_rng1, itD_rng2, it_zip_tt, it_zip_tl, it_zip_lt, it_zip_ll, it_enum_t, it_enum_l, items_l, items_t, cmpW_dd, cmpW_bd, cmpW_db, cmp_lt, cmp_gt, ltD_int, cmp_le, cmp_ge, cmp_isN, cmp_isnotN, cmp_isB, cmp_isnotB, bin_add, bin_sub, bin_mul, bin_fdiv, bin_mod, bin_pow, add_int, subt_int, add_l, add_t, mod_int, sub_l, sub_t, slc_l, slc_t, bndR_nil, bndR_1, at_0, at_1, at_2, len_l, len_t, none_n, none_i, none_b, none_t, none_l, isi_ii, isi_bi, isi_ib, isi_bb, isi_t, isTupD_t, isTupD_l, isTupD_i, isTupD_n, isTupD_b, max_l, tuple_l, tuple_t, list_l, list_t, int_i, all_l, any_l, sum_l, cut1]
  have ez : zipD (ns.map nD) (ns.map nD).tail = ((ns.zip ns.tail).map fun p => .tuple [nD p.1, nD p.2]) := by
    rw [← List.map_tail, zipD_map]
  rw [ez]
  rw [lcGo_all (fun p : Need × Need => .tuple [nD p.1, nD p.2]) (fun p => .bool (W.dataLt (nD p.1) (nD p.2)))]
  · have e : (ns.zip ns.tail).map (fun p => W.dataLt (nD p.1) (nD p.2)) = ((ns.map nD).zip (ns.map nD).tail).map (fun p => W.dataLt p.1 p.2) := by
      rw [← List.map_tail, List.zip_map, List.map_map]
      rfl
    have e2 : (((ns.map nD).zip (ns.map nD).tail).map (fun p => W.dataLt p.1 p.2)).all id = risesD (ns.map nD) := by
      rw [List.all_map]
      exact zip_rises (fun _ => rfl) _
    simp -implicitDefEqProofs only [wp_ok, wp_bind, wp_calm, startE, evSs, evS, evAnd, evOr, evC, evE, evL, evT, views, pures, walks, wipeE, bind_ok, bind_exc, wcalm_ok, biD, cmp_eq_int, cmp_ne_int, view_d, view_bor, view_loc, pure_d, boolR_d, dR_some, dR_none, retW_d, retW_loc, retW_fn, finF_ret, finF_nx, eltR_d, asgW_nm, nameW_d, nameW_loc, nameW_fn, flO_some, asgW_tu, asgT_nm, asgT_tu, asgT_tul, asgT_tt, asgTs_nil, asgTs_cons, biR_1, biR_bor, biR_2, biR_scr, isiR_d, itO_some, itR_1, itR_bor, itR_2, itD_seq, itD_rng1, itD_rng2, it_zip_tt, it_zip_tl, it_zip_lt, it_zip_ll, it_enum_t, it_enum_l, items_l, items_t, cmpW_dd, cmpW_bd, cmpW_db, cmp_lt, cmp_gt, ltD_int, cmp_le, cmp_ge, cmp_isN, cmp_isnotN, cmp_isB, cmp_isnotB, bin_add, bin_sub, bin_mul, bin_fdiv, bin_mod, bin_pow, add_int, subt_int, add_l, add_t, mod_int, sub_l, sub_t, slc_l, slc_t, bndR_nil, bndR_1, at_0, at_1, at_2, len_l, len_t, none_n, none_i, none_b, none_t, none_l, isi_ii, isi_bi, isi_ib, isi_bb, isi_t, isTupD_t, isTupD_l, isTupD_i, isTupD_n, isTupD_b, max_l, tuple_l, tuple_t, list_l, list_t, int_i, all_l, any_l, sum_l, bools_map, e, e2, Option.map_some]
  · intro p hp
    refine ⟨_, rfl, rfl, ?_⟩
    have := ltD_nD p.1 p.2
    simp only [cmpD] at this
    simp -implicitDefEqProofs [wp_ok, wp_bind, wp_calm, startE, evSs, evS, evAnd, evOr, evC, evE, evL, evT, views, pures, walks, wipeE, bind_ok, bind_exc, wcalm_ok, biD, cmp_eq_int, cmp_ne_int, view_d, view_bor, view_loc, pure_d, boolR_d, dR_some, dR_none, retW_d, retW_loc, retW_fn, finF_ret, finF_nx, eltR_d, asgW_nm, nameW_d, nameW_loc, nameW_fn, flO_some, asgW_tu, asgT_nm, asgT_tu, asgT_tul, asgT_tt, asgTs_nil, asgTs_cons, biR_1, biR_bor, biR_2, biR_scr, isiR_d, itO_some, itR_1, itR_bor, itR_2, itD_seq, itD_rng1, itD_rng2, it_zip_tt, it_zip_tl, it_zip_lt, it_zip_ll, it_enum_t, it_enum_l, items_l, items_t, cmpW_dd, cmpW_bd, cmpW_db, cmp_lt, cmp_gt, ltD_int, cmp_le, cmp_ge, cmp_isN, cmp_isnotN, cmp_isB, cmp_isnotB, bin_add, bin_sub, bin_mul, bin_fdiv, bin_mod, bin_pow, add_int, subt_int, add_l, add_t, mod_int, sub_l, sub_t, slc_l, slc_t, bndR_nil, bndR_1, at_0, at_1, at_2, len_l, len_t, none_n, none_i, none_b, none_t, none_l, isi_ii, isi_bi, isi_ib, isi_bb, isi_t, isTupD_t, isTupD_l, isTupD_i, isTupD_n, isTupD_b, max_l, tuple_l, tuple_t, list_l, list_t, int_i, all_l, any_l, sum_l, this]
theorem map_of {α : Type} {f : α → PD} {p : α → Prop} : ∀ {xs : List PD}, (∀ x ∈ xs, ∃ n, x = f n ∧ p n) → ∃ ns : List α, xs = ns.map f ∧ ∀ n ∈ ns, p n
  | [], _ => ⟨[], rfl, fun _ h => nomatch h⟩
  | x :: xs, h => by
    obtain ⟨n, rfl, hn⟩ := h x List.mem_cons_self
    obtain ⟨ns, rfl, hs⟩ := map_of (xs := xs) fun y hy => h y (List.mem_cons_of_mem _ hy)
    refine ⟨n :: ns, rfl, fun m hm => ?_⟩
    rcases List.mem_cons.mp hm with rfl | hm
    · exact hn
    · exact hs m hm
/-- a book, as the program says -/
def fitsB (v : PD) : Bool := match v with
  | .tuple [a, b, c] => isW a 1 3 && (isW b 1 3 && (isT c 0 12 && ((items0 c).all (fitsN (intOf a) (intOf b)) && risesD (items0 c))))
  | _ => false
structure IsB (Q C : Nat) (ns : List Need) : Prop where
  q1 : 1 ≤ Q
  q3 : Q ≤ 3
  c1 : 1 ≤ C
  c3 : C ≤ 3
  len : ns.length ≤ 12
  fit : ∀ n ∈ ns, FitN Q C n
  rise : risesD (ns.map nD) = true
theorem fitsB_of {Q C : Nat} {ns : List Need} (h : IsB Q C ns) : fitsB (bookD Q C ns) = true := by
  obtain ⟨h1, h2, h3, h4, h5, h6, h7⟩ := h
  simp only [fitsB, bookD, isW, isT, items0, items?, Option.getD_some, Bool.and_eq_true, decide_eq_true_eq, List.length_map, List.all_eq_true, List.mem_map, intOf]
  refine ⟨⟨by omega, by omega⟩, ⟨by omega, by omega⟩, ⟨by omega, by omega⟩, fun x hx => ?_, h7⟩
  obtain ⟨n, hn, rfl⟩ := hx
  exact fitsN_of (h6 n hn)
theorem isB_of {v : PD} (h : fitsB v = true) : ∃ Q C ns, v = bookD Q C ns ∧ IsB Q C ns := by
  unfold fitsB at h
  split at h
  · rename_i a b c
    simp only [Bool.and_eq_true] at h
    obtain ⟨ha, hb, hc, hall, hr⟩ := h
    obtain ⟨xs, rfl, h1, h2⟩ := isT_tup hc
    cases a <;> first | (cases ha; done) | skip
    cases b <;> first | (cases hb; done) | skip
    rename_i i j
    simp only [isW, Bool.and_eq_true, decide_eq_true_eq] at ha hb
    simp only [items0, items?, Option.getD_some, List.all_eq_true, intOf] at hall hr
    obtain ⟨Q, rfl⟩ := Int.eq_ofNat_of_zero_le (by omega : 0 ≤ i)
    obtain ⟨C, rfl⟩ := Int.eq_ofNat_of_zero_le (by omega : 0 ≤ j)
    obtain ⟨ns, rfl, hn⟩ := map_of (f := nD) (p := FitN Q C) fun x hx => (fitsN_nD (hall x hx)).imp fun n hn => ⟨hn.1, ⟨hn.2.1, hn.2.2.1, hn.2.2.2.1, hn.2.2.2.2⟩⟩
    refine ⟨Q, C, ns, rfl, by omega, by omega, by omega, by omega, by (have h3 : ((ns.map nD).length : Int) ≤ 12 := h2); rw [List.length_map] at h3; omega, hn, hr⟩
  · cases h

theorem isW_ex {v : PD} {lo hi : Int} (h : isW v lo hi = true) : ∃ i, v = .int i := by
  cases v <;> first | (cases h; done) | skip
  exact ⟨_, rfl⟩
theorem m6 (h1 : P 1 = some d1) (h2 : P 2 = some d2) (h3 : P 3 = some d3) (h4 : P 4 = some d4) (h5 : P 5 = some d5) (h6 : P 6 = some d6) (k : Nat) (v : PD) : evF P (k + 4) (.fn 6) [.d v] s = .ok (.d (.bool (fitsB v))) s := by
  rw [ev_call h6 rfl rfl]
  by_cases h : isT v 3 3 = true
  · obtain ⟨a, b, d, rfl⟩ := tup3 h
    have ea : atD [a, b, d] 2 = some d := rfl
    have eb : atD [a, b, d] 0 = some a := rfl
    have ec : atD [a, b, d] 1 = some b := rfl
    have e3 := m3 (s := s) h1 h3 (k + 1) (.tuple [a, b]) (xs := [a, b]) rfl 1 3
    by_cases hab : (List.all [a, b] fun x => isW x 1 3) = true
    · rw [hab] at e3
      have hab' := hab
      simp only [List.all_cons, List.all_nil, Bool.and_true, Bool.and_eq_true] at hab'
      obtain ⟨i, rfl⟩ := isW_ex hab'.1
      obtain ⟨j, rfl⟩ := isW_ex hab'.2
      by_cases hd : isT d 0 12 = true
      · obtain ⟨xs, rfl, _⟩ := isT_tup hd
        have hB : fitsB (.tuple [.int i, .int j, .tuple xs]) = (xs.all (fitsN i j) && risesD xs) := by
          simp only [fitsB, hab'.1, hab'.2, hd, Bool.true_and, items0, items?, Option.getD_some, intOf]
        rw [hB]
        simp -implicitDefEqProofs only [wp_ok, wp_bind, wp_calm, startE, evSs, evS, evAnd, evOr, evC, evE, evL, evT, views, pures, walks, wipeE, bind_ok, bind_exc, wcalm_ok, biD, cmp_eq_int, cmp_ne_int, view_d, view_bor, view_loc, pure_d, boolR_d, dR_some, dR_none, retW_d, retW_loc, retW_fn, finF_ret, finF_nx, eltR_d, asgW_nm, nameW_d, nameW_loc, nameW_fn, flO_some, asgW_tu, asgT_nm, asgT_tu, asgT_tul, asgT_tt, asgTs_nil, asgTs_cons, biR_1, biR_bor, biR_2, biR_scr, isiR_d, itO_some, itR_1, itR_bor, itR_2, itD_seq, itD_rng1, itD_rng2, it_zip_tt, it_zip_tl, it_zip_lt, it_zip_ll, it_enum_t, it_enum_l, items_l, items_t, cmpW_dd, cmpW_bd, cmpW_db, cmp_lt, cmp_gt, ltD_int, cmp_le, cmp_ge, cmp_isN, cmp_isnotN, cmp_isB, cmp_isnotB, bin_add, bin_sub, bin_mul, bin_fdiv, bin_mod, bin_pow, add_int, subt_int, add_l, add_t, mod_int, sub_l, sub_t, slc_l, slc_t, bndR_nil, bndR_1, at_0, at_1, at_2, len_l, len_t, none_n, none_i, none_b, none_t, none_l, isi_ii, isi_bi, isi_ib, isi_bb, isi_t, isTupD_t, isTupD_l, isTupD_i, isTupD_n, isTupD_b, max_l, tuple_l, tuple_t, list_l, list_t, int_i, all_l, any_l, sum_l, d6]
        simp -implicitDefEqProofs [wp_ok, wp_bind, wp_calm, startE, evSs, evS, evAnd, evOr, evC, evE, evL, evT, views, pures, walks, wipeE, bind_ok, bind_exc, wcalm_ok, biD, cmp_eq_int, cmp_ne_int, view_d, view_bor, view_loc, pure_d, boolR_d, dR_some, dR_none, retW_d, retW_loc, retW_fn, finF_ret, finF_nx, eltR_d, asgW_nm, nameW_d, nameW_loc, nameW_fn, flO_some, asgW_tu, asgT_nm, asgT_tu, asgT_tul, asgT_tt, asgTs_nil, asgTs_cons, biR_1, biR_bor, biR_2, biR_scr, isiR_d, itO_some, itR_1, itR_bor, itR_2, itD_seq, itD_rng1, itD_rng2, it_zip_tt, it_zip_tl, it_zip_lt, it_zip_ll, it_enum_t, it_enum_l, items_l, items_t, cmpW_dd, cmpW_bd, cmpW_db, cmp_lt, cmp_gt, ltD_int, cmp_le, cmp_ge, cmp_isN, cmp_isnotN, cmp_isB, cmp_isnotB, bin_add, bin_sub, bin_mul, bin_fdiv, bin_mod, bin_pow, add_int, subt_int, add_l, add_t, mod_int, sub_l, sub_t, slc_l, slc_t, bndR_nil, bndR_1, at_0, at_1, at_2, len_l, len_t, none_n, none_i, none_b, none_t, none_l, isi_ii, isi_bi, isi_ib, isi_bb, isi_t, isTupD_t, isTupD_l, isTupD_i, isTupD_n, isTupD_b, max_l, tuple_l, tuple_t, list_l, list_t, int_i, all_l, any_l, sum_l, m2 h2, h, cut2, e3, ea, eb, ec, hd]
        rw [lcGo_id (fun _ => true) (fun x => .bool (fitsN i j x))]
        · have e : List.filter (fun _ => true) xs = xs := List.filter_eq_self.mpr (fun _ _ => rfl)
          rw [e]
          have e2 : (xs.map (fitsN i j)).all id = xs.all (fitsN i j) := by rw [List.all_map]; rfl
          by_cases hx : xs.all (fitsN i j) = true
          · obtain ⟨Q, C, ns, e9, hI⟩ : ∃ Q C, ∃ ns : List Need, xs = ns.map nD ∧ True := by
              simp only [isW, Bool.and_eq_true, decide_eq_true_eq] at hab'
              obtain ⟨Q, rfl⟩ := Int.eq_ofNat_of_zero_le (by omega : 0 ≤ i)
              obtain ⟨C, rfl⟩ := Int.eq_ofNat_of_zero_le (by omega : 0 ≤ j)
              obtain ⟨ns, e9, hn⟩ := map_of (f := nD) (p := fun _ => True) (xs := xs) fun x hx' => (fitsN_nD (List.all_eq_true.mp hx x hx')).imp fun n hn => ⟨hn.1, trivial⟩
              exact ⟨Q, C, ns, e9, trivial⟩
            simp -implicitDefEqProofs only [wp_ok, wp_bind, wp_calm, startE, evSs, evS, evAnd, evOr, evC, evE, evL, evT, views, pures, walks, wipeE, bind_ok, bind_exc, wcalm_ok, biD, cmp_eq_int, cmp_ne_int, view_d, view_bor, view_loc, pure_d, boolR_d, dR_some, dR_none, retW_d, retW_loc, retW_fn, finF_ret, finF_nx, eltR_d, asgW_nm, nameW_d, nameW_loc, nameW_fn, flO_some, asgW_tu, asgT_nm, asgT_tu, asgT_tul, asgT_tt, asgTs_nil, asgTs_cons, biR_1, biR_bor, biR_2, biR_scr, isiR_d, itO_some, itR_1, itR_bor, itR_2, itD_seq, itD_rng1, itD_rng2, it_zip_tt, it_zip_tl, it_zip_lt, it_zip_ll, it_enum_t, it_enum_l, items_l, items_t, cmpW_dd, cmpW_bd, cmpW_db, cmp_lt, cmp_gt, ltD_int, cmp_le, cmp_ge, cmp_isN, cmp_isnotN, cmp_isB, cmp_isnotB, bin_add, bin_sub, bin_mul, bin_fdiv, bin_mod, bin_pow, add_int, subt_int, add_l, add_t, mod_int, sub_l, sub_t, slc_l, slc_t, bndR_nil, bndR_1, at_0, at_1, at_2, len_l, len_t, none_n, none_i, none_b, none_t, none_l, isi_ii, isi_bi, isi_ib, isi_bb, isi_t, isTupD_t, isTupD_l, isTupD_i, isTupD_n, isTupD_b, max_l, tuple_l, tuple_t, list_l, list_t, int_i, all_l, any_l, sum_l, bools_map, e2, hx, Option.map_some]
            subst e9
            simp -implicitDefEqProofs [wp_ok, wp_bind, wp_calm, startE, evSs, evS, evAnd, evOr, evC, evE, evL, evT, views, pures, walks, wipeE, bind_ok, bind_exc, wcalm_ok, biD, cmp_eq_int, cmp_ne_int, view_d, view_bor, view_loc, pure_d, boolR_d, dR_some, dR_none, retW_d, retW_loc, retW_fn, finF_ret, finF_nx, eltR_d, asgW_nm, nameW_d, nameW_loc, nameW_fn, flO_some, asgW_tu, asgT_nm, asgT_tu, asgT_tul, asgT_tt, asgTs_nil, asgTs_cons, biR_1, biR_bor, biR_2, biR_scr, isiR_d, itO_some, itR_1, itR_bor, itR_2, itD_seq, itD_rng1, itD_rng2, it_zip_tt, it_zip_tl, it_zip_lt, it_zip_ll, it_enum_t, it_enum_l, items_l, items_t, cmpW_dd, cmpW_bd, cmpW_db, cmp_lt, cmp_gt, ltD_int, cmp_le, cmp_ge, cmp_isN, cmp_isnotN, cmp_isB, cmp_isnotB, bin_add, bin_sub, bin_mul, bin_fdiv, bin_mod, bin_pow, add_int, subt_int, add_l, add_t, mod_int, sub_l, sub_t, slc_l, slc_t, bndR_nil, bndR_1, at_0, at_1, at_2, len_l, len_t, none_n, none_i, none_b, none_t, none_l, isi_ii, isi_bi, isi_ib, isi_bb, isi_t, isTupD_t, isTupD_l, isTupD_i, isTupD_n, isTupD_b, max_l, tuple_l, tuple_t, list_l, list_t, int_i, all_l, any_l, sum_l, m5 h5]
            generalize risesD (List.map nD ns) = r
            cases r <;> simp -implicitDefEqProofs [wp_ok, wp_bind, wp_calm, startE, evSs, evS, evAnd, evOr, evC, evE, evL, evT, views, pures, walks, wipeE, bind_ok, bind_exc, wcalm_ok, biD, cmp_eq_int, cmp_ne_int, view_d, view_bor, view_loc, pure_d, boolR_d, dR_some, dR_none, retW_d, retW_loc, retW_fn, finF_ret, finF_nx, eltR_d, asgW_nm, nameW_d, nameW_loc, nameW_fn, flO_some, asgW_tu, asgT_nm, asgT_tu, asgT_tul, asgT_tt, asgTs_nil, asgTs_cons, biR_1, biR_bor, biR_2, biR_scr, isiR_d, itO_some, itR_1, itR_bor, itR_2, itD_seq, itD_rng1, itD_rng2, it_zip_tt, it_zip_tl, it_zip_lt, it_zip_ll, it_enum_t, it_enum_l, items_l, items_t, cmpW_dd, cmpW_bd, cmpW_db, cmp_lt, cmp_gt, ltD_int, cmp_le, cmp_ge, cmp_isN, cmp_isnotN, cmp_isB, cmp_isnotB, bin_add, bin_sub, bin_mul, bin_fdiv, bin_mod, bin_pow, add_int, subt_int, add_l, add_t, mod_int, sub_l, sub_t, slc_l, slc_t, bndR_nil, bndR_1, at_0, at_1, at_2, len_l, len_t, none_n, none_i, none_b, none_t, none_l, isi_ii, isi_bi, isi_ib, isi_bb, isi_t, isTupD_t, isTupD_l, isTupD_i, isTupD_n, isTupD_b, max_l, tuple_l, tuple_t, list_l, list_t, int_i, all_l, any_l, sum_l]
          · simp only [Bool.not_eq_true] at hx
            simp -implicitDefEqProofs only [wp_ok, wp_bind, wp_calm, startE, evSs, evS, evAnd, evOr, evC, evE, evL, evT, views, pures, walks, wipeE, bind_ok, bind_exc, wcalm_ok, biD, cmp_eq_int, cmp_ne_int, view_d, view_bor, view_loc, pure_d, boolR_d, dR_some, dR_none, retW_d, retW_loc, retW_fn, finF_ret, finF_nx, eltR_d, asgW_nm, nameW_d, nameW_loc, nameW_fn, flO_some, asgW_tu, asgT_nm, asgT_tu, asgT_tul, asgT_tt, asgTs_nil, asgTs_cons, biR_1, biR_bor, biR_2, biR_scr, isiR_d, itO_some, itR_1, itR_bor, itR_2, itD_seq, itD_rng1, itD_rng2, it_zip_tt, it_zip_tl, it_zip_lt, it_zip_ll, it_enum_t, it_enum_l, items_l, items_t, cmpW_dd, cmpW_bd, cmpW_db, cmp_lt, cmp_gt, ltD_int, cmp_le, cmp_ge, cmp_isN, cmp_isnotN, cmp_isB, cmp_isnotB, bin_add, bin_sub, bin_mul, bin_fdiv, bin_mod, bin_pow, add_int, subt_int, add_l, add_t, mod_int, sub_l, sub_t, slc_l, slc_t, bndR_nil, bndR_1, at_0, at_1, at_2, len_l, len_t, none_n, none_i, none_b, none_t, none_l, isi_ii, isi_bi, isi_ib, isi_bb, isi_t, isTupD_t, isTupD_l, isTupD_i, isTupD_n, isTupD_b, max_l, tuple_l, tuple_t, list_l, list_t, int_i, all_l, any_l, sum_l, bools_map, e2, hx, Option.map_some]
            rfl
        · intro x hx
          refine ⟨_, rfl, rfl, fun _ => ?_⟩
          simp -implicitDefEqProofs [wp_ok, wp_bind, wp_calm, startE, evSs, evS, evAnd, evOr, evC, evE, evL, evT, views, pures, walks, wipeE, bind_ok, bind_exc, wcalm_ok, biD, cmp_eq_int, cmp_ne_int, view_d, view_bor, view_loc, pure_d, boolR_d, dR_some, dR_none, retW_d, retW_loc, retW_fn, finF_ret, finF_nx, eltR_d, asgW_nm, nameW_d, nameW_loc, nameW_fn, flO_some, asgW_tu, asgT_nm, asgT_tu, asgT_tul, asgT_tt, asgTs_nil, asgTs_cons, biR_1, biR_bor, biR_2, biR_scr, isiR_d, itO_some, itR_1, itR_bor, itR_2, itD_seq, itD_rng1, itD_rng2, it_zip_tt, it_zip_tl, it_zip_lt, it_zip_ll, it_enum_t, it_enum_l, items_l, items_t, cmpW_dd, cmpW_bd, cmpW_db, cmp_lt, cmp_gt, ltD_int, cmp_le, cmp_ge, cmp_isN, cmp_isnotN, cmp_isB, cmp_isnotB, bin_add, bin_sub, bin_mul, bin_fdiv, bin_mod, bin_pow, add_int, subt_int, add_l, add_t, mod_int, sub_l, sub_t, slc_l, slc_t, bndR_nil, bndR_1, at_0, at_1, at_2, len_l, len_t, none_n, none_i, none_b, none_t, none_l, isi_ii, isi_bi, isi_ib, isi_bb, isi_t, isTupD_t, isTupD_l, isTupD_i, isTupD_n, isTupD_b, max_l, tuple_l, tuple_t, list_l, list_t, int_i, all_l, any_l, sum_l, eb, ec, m4 h1 h2 h3 h4]
      · have hB : fitsB (.tuple [.int i, .int j, d]) = false := by
          simp only [fitsB, hd, Bool.false_and, Bool.and_false]
        rw [hB]
        simp -implicitDefEqProofs only [wp_ok, wp_bind, wp_calm, startE, evSs, evS, evAnd, evOr, evC, evE, evL, evT, views, pures, walks, wipeE, bind_ok, bind_exc, wcalm_ok, biD, cmp_eq_int, cmp_ne_int, view_d, view_bor, view_loc, pure_d, boolR_d, dR_some, dR_none, retW_d, retW_loc, retW_fn, finF_ret, finF_nx, eltR_d, asgW_nm, nameW_d, nameW_loc, nameW_fn, flO_some, asgW_tu, asgT_nm, asgT_tu, asgT_tul, asgT_tt, asgTs_nil, asgTs_cons, biR_1, biR_bor, biR_2, biR_scr, isiR_d, itO_some, itR_1, itR_bor, itR_2, itD_seq, itD_rng1, itD_rng2, it_zip_tt, it_zip_tl, it_zip_lt, it_zip_ll, it_enum_t, it_enum_l, items_l, items_t, cmpW_dd, cmpW_bd, cmpW_db, cmp_lt, cmp_gt, ltD_int, cmp_le, cmp_ge, cmp_isN, cmp_isnotN, cmp_isB, cmp_isnotB, bin_add, bin_sub, bin_mul, bin_fdiv, bin_mod, bin_pow, add_int, subt_int, add_l, add_t, mod_int, sub_l, sub_t, slc_l, slc_t, bndR_nil, bndR_1, at_0, at_1, at_2, len_l, len_t, none_n, none_i, none_b, none_t, none_l, isi_ii, isi_bi, isi_ib, isi_bb, isi_t, isTupD_t, isTupD_l, isTupD_i, isTupD_n, isTupD_b, max_l, tuple_l, tuple_t, list_l, list_t, int_i, all_l, any_l, sum_l, d6]
        simp -implicitDefEqProofs [wp_ok, wp_bind, wp_calm, startE, evSs, evS, evAnd, evOr, evC, evE, evL, evT, views, pures, walks, wipeE, bind_ok, bind_exc, wcalm_ok, biD, cmp_eq_int, cmp_ne_int, view_d, view_bor, view_loc, pure_d, boolR_d, dR_some, dR_none, retW_d, retW_loc, retW_fn, finF_ret, finF_nx, eltR_d, asgW_nm, nameW_d, nameW_loc, nameW_fn, flO_some, asgW_tu, asgT_nm, asgT_tu, asgT_tul, asgT_tt, asgTs_nil, asgTs_cons, biR_1, biR_bor, biR_2, biR_scr, isiR_d, itO_some, itR_1, itR_bor, itR_2, itD_seq, itD_rng1, itD_rng2, it_zip_tt, it_zip_tl, it_zip_lt, it_zip_ll, it_enum_t, it_enum_l, items_l, items_t, cmpW_dd, cmpW_bd, cmpW_db, cmp_lt, cmp_gt, ltD_int, cmp_le, cmp_ge, cmp_isN, cmp_isnotN, cmp_isB, cmp_isnotB, bin_add, bin_sub, bin_mul, bin_fdiv, bin_mod, bin_pow, add_int, subt_int, add_l, add_t, mod_int, sub_l, sub_t, slc_l, slc_t, bndR_nil, bndR_1, at_0, at_1, at_2, len_l, len_t, none_n, none_i, none_b, none_t, none_l, isi_ii, isi_bi, isi_ib, isi_bb, isi_t, isTupD_t, isTupD_l, isTupD_i, isTupD_n, isTupD_b, max_l, tuple_l, tuple_t, list_l, list_t, int_i, all_l, any_l, sum_l, m2 h2, h, cut2, e3, ea, eb, ec, hd]
    · simp only [Bool.not_eq_true] at hab
      rw [hab] at e3
      have hB : fitsB (.tuple [a, b, d]) = false := by
        simp only [List.all_cons, List.all_nil, Bool.and_true] at hab
        simp only [fitsB, ← Bool.and_assoc, hab, Bool.false_and]
      rw [hB]
      simp -implicitDefEqProofs only [wp_ok, wp_bind, wp_calm, startE, evSs, evS, evAnd, evOr, evC, evE, evL, evT, views, pures, walks, wipeE, bind_ok, bind_exc, wcalm_ok, biD, cmp_eq_int, cmp_ne_int, view_d, view_bor, view_loc, pure_d, boolR_d, dR_some, dR_none, retW_d, retW_loc, retW_fn, finF_ret, finF_nx, eltR_d, asgW_nm, nameW_d, nameW_loc, nameW_fn, flO_some, asgW_tu, asgT_nm, asgT_tu, asgT_tul, asgT_tt, asgTs_nil, asgTs_cons, biR_1, biR_bor, biR_2, biR_scr, isiR_d, itO_some, itR_1, itR_bor, itR_2, itD_seq, itD_rng1, itD_rng2, it_zip_tt, it_zip_tl, it_zip_lt, it_zip_ll, it_enum_t, it_enum_l, items_l, items_t, cmpW_dd, cmpW_bd, cmpW_db, cmp_lt, cmp_gt, ltD_int, cmp_le, cmp_ge, cmp_isN, cmp_isnotN, cmp_isB, cmp_isnotB, bin_add, bin_sub, bin_mul, bin_fdiv, bin_mod, bin_pow, add_int, subt_int, add_l, add_t, mod_int, sub_l, sub_t, slc_l, slc_t, bndR_nil, bndR_1, at_0, at_1, at_2, len_l, len_t, none_n, none_i, none_b, none_t, none_l, isi_ii, isi_bi, isi_ib, isi_bb, isi_t, isTupD_t, isTupD_l, isTupD_i, isTupD_n, isTupD_b, max_l, tuple_l, tuple_t, list_l, list_t, int_i, all_l, any_l, sum_l, d6]
      simp -implicitDefEqProofs [wp_ok, wp_bind, wp_calm, startE, evSs, evS, evAnd, evOr, evC, evE, evL, evT, views, pures, walks, wipeE, bind_ok, bind_exc, wcalm_ok, biD, cmp_eq_int, cmp_ne_int, view_d, view_bor, view_loc, pure_d, boolR_d, dR_some, dR_none, retW_d, retW_loc, retW_fn, finF_ret, finF_nx, eltR_d, asgW_nm, nameW_d, nameW_loc, nameW_fn, flO_some, asgW_tu, asgT_nm, asgT_tu, asgT_tul, asgT_tt, asgTs_nil, asgTs_cons, biR_1, biR_bor, biR_2, biR_scr, isiR_d, itO_some, itR_1, itR_bor, itR_2, itD_seq, itD_rng1, itD_rng2, it_zip_tt, it_zip_tl, it_zip_lt, it_zip_ll, it_enum_t, it_enum_l, items_l, items_t, cmpW_dd, cmpW_bd, cmpW_db, cmp_lt, cmp_gt, ltD_int, cmp_le, cmp_ge, cmp_isN, cmp_isnotN, cmp_isB, cmp_isnotB, bin_add, bin_sub, bin_mul, bin_fdiv, bin_mod, bin_pow, add_int, subt_int, add_l, add_t, mod_int, sub_l, sub_t, slc_l, slc_t, bndR_nil, bndR_1, at_0, at_1, at_2, len_l, len_t, none_n, none_i, none_b, none_t, none_l, isi_ii, isi_bi, isi_ib, isi_bb, isi_t, isTupD_t, isTupD_l, isTupD_i, isTupD_n, isTupD_b, max_l, tuple_l, tuple_t, list_l, list_t, int_i, all_l, any_l, sum_l, m2 h2, h, cut2, e3]
  · have : fitsB v = false := by
      unfold fitsB
      split
      · exact absurd rfl h
      · rfl
    simp -implicitDefEqProofs only [wp_ok, wp_bind, wp_calm, startE, evSs, evS, evAnd, evOr, evC, evE, evL, evT, views, pures, walks, wipeE, bind_ok, bind_exc, wcalm_ok, biD, cmp_eq_int, cmp_ne_int, view_d, view_bor, view_loc, pure_d, boolR_d, dR_some, dR_none, retW_d, retW_loc, retW_fn, finF_ret, finF_nx, eltR_d, asgW_nm, nameW_d, nameW_loc, nameW_fn, flO_some, asgW_tu, asgT_nm, asgT_tu, asgT_tul, asgT_tt, asgTs_nil, asgTs_cons, biR_1, biR_bor, biR_2, biR_scr, isiR_d, itO_some, itR_1, itR_bor, itR_2, itD_seq, itD_rng1, itD_rng2, it_zip_tt, it_zip_tl, it_zip_lt, it_zip_ll, it_enum_t, it_enum_l, items_l, items_t, cmpW_dd, cmpW_bd, cmpW_db, cmp_lt, cmp_gt, ltD_int, cmp_le, cmp_ge, cmp_isN, cmp_isnotN, cmp_isB, cmp_isnotB, bin_add, bin_sub, bin_mul, bin_fdiv, bin_mod, bin_pow, add_int, subt_int, add_l, add_t, mod_int, sub_l, sub_t, slc_l, slc_t, bndR_nil, bndR_1, at_0, at_1, at_2, len_l, len_t, none_n, none_i, none_b, none_t, none_l, isi_ii, isi_bi, isi_ib, isi_bb, isi_t, isTupD_t, isTupD_l, isTupD_i, isTupD_n, isTupD_b, max_l, tuple_l, tuple_t, list_l, list_t, int_i, all_l, any_l, sum_l, d6]
    simp -implicitDefEqProofs [wp_ok, wp_bind, wp_calm, startE, evSs, evS, evAnd, evOr, evC, evE, evL, evT, views, pures, walks, wipeE, bind_ok, bind_exc, wcalm_ok, biD, cmp_eq_int, cmp_ne_int, view_d, view_bor, view_loc, pure_d, boolR_d, dR_some, dR_none, retW_d, retW_loc, retW_fn, finF_ret, finF_nx, eltR_d, asgW_nm, nameW_d, nameW_loc, nameW_fn, flO_some, asgW_tu, asgT_nm, asgT_tu, asgT_tul, asgT_tt, asgTs_nil, asgTs_cons, biR_1, biR_bor, biR_2, biR_scr, isiR_d, itO_some, itR_1, itR_bor, itR_2, itD_seq, itD_rng1, itD_rng2, it_zip_tt, it_zip_tl, it_zip_lt, it_zip_ll, it_enum_t, it_enum_l, items_l, items_t, cmpW_dd, cmpW_bd, cmpW_db, cmp_lt, cmp_gt, ltD_int, cmp_le, cmp_ge, cmp_isN, cmp_isnotN, cmp_isB, cmp_isnotB, bin_add, bin_sub, bin_mul, bin_fdiv, bin_mod, bin_pow, add_int, subt_int, add_l, add_t, mod_int, sub_l, sub_t, slc_l, slc_t, bndR_nil, bndR_1, at_0, at_1, at_2, len_l, len_t, none_n, none_i, none_b, none_t, none_l, isi_ii, isi_bi, isi_ib, isi_bb, isi_t, isTupD_t, isTupD_l, isTupD_i, isTupD_n, isTupD_b, max_l, tuple_l, tuple_t, list_l, list_t, int_i, all_l, any_l, sum_l, m2 h2, h, this]
/-- the book's check -/
theorem m23 (h1 : P 1 = some d1) (h2 : P 2 = some d2) (h3 : P 3 = some d3) (h4 : P 4 = some d4) (h5 : P 5 = some d5) (h6 : P 6 = some d6) (h23 : P 23 = some d23) (k : Nat) {Q C : Nat} {ns : List Need} (h : IsB Q C ns) : evF P (k + 5) (.fn 23) [.d (bookD Q C ns)] s = .ok (.d .none) s := by
  rw [ev_call h23 rfl rfl]
  simp -implicitDefEqProofs [wp_ok, wp_bind, wp_calm, startE, evSs, evS, evAnd, evOr, evC, evE, evL, evT, views, pures, walks, wipeE, bind_ok, bind_exc, wcalm_ok, biD, cmp_eq_int, cmp_ne_int, view_d, view_bor, view_loc, pure_d, boolR_d, dR_some, dR_none, retW_d, retW_loc, retW_fn, finF_ret, finF_nx, eltR_d, asgW_nm, nameW_d, nameW_loc, nameW_fn, flO_some, asgW_tu, asgT_nm, asgT_tu, asgT_tul, asgT_tt, asgTs_nil, asgTs_cons, biR_1, biR_bor, biR_2, biR_scr, isiR_d, itO_some, itR_1, itR_bor, itR_2, itD_seq, itD_rng1, itD_rng2, it_zip_tt, it_zip_tl, it_zip_lt, it_zip_ll, it_enum_t, it_enum_l, items_l, items_t, cmpW_dd, cmpW_bd, cmpW_db, cmp_lt, cmp_gt, ltD_int, cmp_le, cmp_ge, cmp_isN, cmp_isnotN, cmp_isB, cmp_isnotB, bin_add, bin_sub, bin_mul, bin_fdiv, bin_mod, bin_pow, add_int, subt_int, add_l, add_t, mod_int, sub_l, sub_t, slc_l, slc_t, bndR_nil, bndR_1, at_0, at_1, at_2, len_l, len_t, none_n, none_i, none_b, none_t, none_l, isi_ii, isi_bi, isi_ib, isi_bb, isi_t, isTupD_t, isTupD_l, isTupD_i, isTupD_n, isTupD_b, max_l, tuple_l, tuple_t, list_l, list_t, int_i, all_l, any_l, sum_l, d23, m6 h1 h2 h3 h4 h5 h6, fitsB_of h]

/-! ### the cup -/
def Cup (s : Cells) : Prop := ∃ a b : Int, s = [.list [.int a, .int b]] ∧ 0 ≤ a ∧ 0 ≤ b ∧ b < 4294967296
theorem m54 (h54 : P 54 = some d54) (k : Nat) (ns : List Int) (hl : ns.length ≤ 63) : Wp (evF P (k + 1) (.fn 54) [.scr (ns.map .int)] []) (fun w s => w = .loc 0 ∧ Cup s) := by
  rw [ev_call h54 rfl rfl]
  obtain ⟨c, hc⟩ : ∃ c, (ns.map PyData.int ++ [.int 0])[0]? = some (.int c) := by cases ns <;> exact ⟨_, rfl⟩
  have hl2 : (ns.map PyData.int ++ [PyData.int 0]).length = ns.length + 1 := by simp
  have hat : atD (ns.map PyData.int ++ [.int 0]) 0 = some (.int c) := by
    have := at_nat (xs := ns.map PyData.int ++ [.int 0]) (i := 0) (by rw [hl2]; omega)
    rw [hc] at this
    exact this
  have hlen : ns.length + 1 ≤ LINE := by unfold LINE; omega
  have habs : ∃ d : Int, 0 ≤ d ∧ bAbs [.int c] = some (.int d) := ⟨if c < 0 then -c else c, by split <;> omega, rfl⟩
  obtain ⟨d, hd, ed⟩ := habs
  have hp : powD (.int 10) (.int 18) = some (.int 1000000000000000000) := by
    simp [powD]
  have hm : mulD (.int d) (.int 269) = some (.int (d * 269)) := by
    have : mulOk d 269 = true := by
      have : small64 269 = true := by decide
      simp [mulOk, this]
    simp only [mulD, this, if_pos]
  have hf : fdivD (.int d) (.int 59) = some (.int (d / 59)) := by
    have : (0 : Int) < 59 ∧ (59 : Int).natAbs.log2 < 9000 := by decide
    simp only [fdivD, if_pos this]
  have ha : addD (.list (ns.map .int)) (.list [.int 0]) = some (.list (ns.map PyData.int ++ [.int 0])) := by
    have : (ns.map PyData.int).length + [PyData.int 0].length ≤ LINE := by simpa using hlen
    simp only [addD, if_pos this]
  simp -implicitDefEqProofs only [wp_ok, wp_bind, wp_calm, startE, evSs, evS, evAnd, evOr, evC, evE, evL, evT, views, pures, walks, wipeE, bind_ok, bind_exc, wcalm_ok, biD, cmp_eq_int, cmp_ne_int, view_d, view_bor, view_loc, pure_d, boolR_d, dR_some, dR_none, retW_d, retW_loc, retW_fn, finF_ret, finF_nx, eltR_d, asgW_nm, nameW_d, nameW_loc, nameW_fn, flO_some, asgW_tu, asgT_nm, asgT_tu, asgT_tul, asgT_tt, asgTs_nil, asgTs_cons, biR_1, biR_bor, biR_2, biR_scr, isiR_d, itO_some, itR_1, itR_bor, itR_2, itD_seq, itD_rng1, itD_rng2, it_zip_tt, it_zip_tl, it_zip_lt, it_zip_ll, it_enum_t, it_enum_l, items_l, items_t, cmpW_dd, cmpW_bd, cmpW_db, cmp_lt, cmp_gt, ltD_int, cmp_le, cmp_ge, cmp_isN, cmp_isnotN, cmp_isB, cmp_isnotB, bin_add, bin_sub, bin_mul, bin_fdiv, bin_mod, bin_pow, add_int, subt_int, add_l, add_t, mod_int, sub_l, sub_t, slc_l, slc_t, bndR_nil, bndR_1, at_0, at_1, at_2, len_l, len_t, none_n, none_i, none_b, none_t, none_l, isi_ii, isi_bi, isi_ib, isi_bb, isi_t, isTupD_t, isTupD_l, isTupD_i, isTupD_n, isTupD_b, max_l, tuple_l, tuple_t, list_l, list_t, int_i, all_l, any_l, sum_l, d54]
  simp -implicitDefEqProofs [wp_ok, wp_bind, wp_calm, startE, evSs, evS, evAnd, evOr, evC, evE, evL, evT, views, pures, walks, wipeE, bind_ok, bind_exc, wcalm_ok, biD, cmp_eq_int, cmp_ne_int, view_d, view_bor, view_loc, pure_d, boolR_d, dR_some, dR_none, retW_d, retW_loc, retW_fn, finF_ret, finF_nx, eltR_d, asgW_nm, nameW_d, nameW_loc, nameW_fn, flO_some, asgW_tu, asgT_nm, asgT_tu, asgT_tul, asgT_tt, asgTs_nil, asgTs_cons, biR_1, biR_bor, biR_2, biR_scr, isiR_d, itO_some, itR_1, itR_bor, itR_2, itD_seq, itD_rng1, itD_rng2, it_zip_tt, it_zip_tl, it_zip_lt, it_zip_ll, it_enum_t, it_enum_l, items_l, items_t, cmpW_dd, cmpW_bd, cmpW_db, cmp_lt, cmp_gt, ltD_int, cmp_le, cmp_ge, cmp_isN, cmp_isnotN, cmp_isB, cmp_isnotB, bin_add, bin_sub, bin_mul, bin_fdiv, bin_mod, bin_pow, add_int, subt_int, add_l, add_t, mod_int, sub_l, sub_t, slc_l, slc_t, bndR_nil, bndR_1, at_0, at_1, at_2, len_l, len_t, none_n, none_i, none_b, none_t, none_l, isi_ii, isi_bi, isi_ib, isi_bb, isi_t, isTupD_t, isTupD_l, isTupD_i, isTupD_n, isTupD_b, max_l, tuple_l, tuple_t, list_l, list_t, int_i, all_l, any_l, sum_l, hlen, hat, ed, hp, hm, hf]
  by_cases hc : 1000000000000000000 ≤ d
  · simp -implicitDefEqProofs [wp_ok, wp_bind, wp_calm, startE, evSs, evS, evAnd, evOr, evC, evE, evL, evT, views, pures, walks, wipeE, bind_ok, bind_exc, wcalm_ok, biD, cmp_eq_int, cmp_ne_int, view_d, view_bor, view_loc, pure_d, boolR_d, dR_some, dR_none, retW_d, retW_loc, retW_fn, finF_ret, finF_nx, eltR_d, asgW_nm, nameW_d, nameW_loc, nameW_fn, flO_some, asgW_tu, asgT_nm, asgT_tu, asgT_tul, asgT_tt, asgTs_nil, asgTs_cons, biR_1, biR_bor, biR_2, biR_scr, isiR_d, itO_some, itR_1, itR_bor, itR_2, itD_seq, itD_rng1, itD_rng2, it_zip_tt, it_zip_tl, it_zip_lt, it_zip_ll, it_enum_t, it_enum_l, items_l, items_t, cmpW_dd, cmpW_bd, cmpW_db, cmp_lt, cmp_gt, ltD_int, cmp_le, cmp_ge, cmp_isN, cmp_isnotN, cmp_isB, cmp_isnotB, bin_add, bin_sub, bin_mul, bin_fdiv, bin_mod, bin_pow, add_int, subt_int, add_l, add_t, mod_int, sub_l, sub_t, slc_l, slc_t, bndR_nil, bndR_1, at_0, at_1, at_2, len_l, len_t, none_n, none_i, none_b, none_t, none_l, isi_ii, isi_bi, isi_ib, isi_bb, isi_t, isTupD_t, isTupD_l, isTupD_i, isTupD_n, isTupD_b, max_l, tuple_l, tuple_t, list_l, list_t, int_i, all_l, any_l, sum_l, hc, hlen, hat, ed, hp, hm, hf, wp_ok, Cup]
    exact ⟨_, _, ⟨rfl, rfl⟩, by omega, by omega, by omega⟩
  · simp -implicitDefEqProofs [wp_ok, wp_bind, wp_calm, startE, evSs, evS, evAnd, evOr, evC, evE, evL, evT, views, pures, walks, wipeE, bind_ok, bind_exc, wcalm_ok, biD, cmp_eq_int, cmp_ne_int, view_d, view_bor, view_loc, pure_d, boolR_d, dR_some, dR_none, retW_d, retW_loc, retW_fn, finF_ret, finF_nx, eltR_d, asgW_nm, nameW_d, nameW_loc, nameW_fn, flO_some, asgW_tu, asgT_nm, asgT_tu, asgT_tul, asgT_tt, asgTs_nil, asgTs_cons, biR_1, biR_bor, biR_2, biR_scr, isiR_d, itO_some, itR_1, itR_bor, itR_2, itD_seq, itD_rng1, itD_rng2, it_zip_tt, it_zip_tl, it_zip_lt, it_zip_ll, it_enum_t, it_enum_l, items_l, items_t, cmpW_dd, cmpW_bd, cmpW_db, cmp_lt, cmp_gt, ltD_int, cmp_le, cmp_ge, cmp_isN, cmp_isnotN, cmp_isB, cmp_isnotB, bin_add, bin_sub, bin_mul, bin_fdiv, bin_mod, bin_pow, add_int, subt_int, add_l, add_t, mod_int, sub_l, sub_t, slc_l, slc_t, bndR_nil, bndR_1, at_0, at_1, at_2, len_l, len_t, none_n, none_i, none_b, none_t, none_l, isi_ii, isi_bi, isi_ib, isi_bb, isi_t, isTupD_t, isTupD_l, isTupD_i, isTupD_n, isTupD_b, max_l, tuple_l, tuple_t, list_l, list_t, int_i, all_l, any_l, sum_l, hc, hlen, hat, ed, hp, hm, hf, wp_ok, Cup]
    exact ⟨_, _, ⟨rfl, rfl⟩, by omega, by omega, by omega⟩
/-- a roll -/
theorem m27 (h27 : P 27 = some d27) (k : Nat) {m : Int} (h0 : 0 < m) (hm : m < 4294967296) (hs : Cup s) : Wp (evF P (k + 1) (.fn 27) [.loc 0, .d (.int m)] s) (fun w s => Cup s ∧ ∃ i : Nat, w = .d (.int i) ∧ (i : Int) < m) := by
  rw [ev_call h27 rfl rfl]
  obtain ⟨a, b, rfl, ha, hb, hb2⟩ := hs
  have e0 : ∀ x y : PD, atD [x, y] 0 = some x := fun _ _ => rfl
  have e1 : ∀ x y : PD, atD [x, y] 1 = some y := fun _ _ => rfl
  have hlog : m.natAbs.log2 < 9000 := by
    have : m.natAbs < 2 ^ 32 := by omega
    have := (Nat.log2_lt (by omega : m.natAbs ≠ 0)).mpr this
    omega
  have hf : fdivD (.int a) (.int m) = some (.int (a / m)) := by simp only [fdivD, if_pos (And.intro h0 hlog)]
  have sm : ∀ i : Int, 0 ≤ i → i < 4294967296 → small64 i = true := fun i h1 h2 => by
    simp only [small64, Bool.and_eq_true, decide_eq_true_eq]
    constructor
    · have : (2 : Int) ^ 64 = 18446744073709551616 := by decide
      omega
    · have : (2 : Int) ^ 64 = 18446744073709551616 := by decide
      omega
  have hm1 : mulD (.int b) (.int 31019) = some (.int (b * 31019)) := by simp [mulD, mulOk, sm b hb hb2]
  have hm2 : mulD (.int ((b * 31019 + 7951) % 2147483563)) (.int ((b * 31019 + 7951) % 2147483563 + 223)) = some (.int ((b * 31019 + 7951) % 2147483563 * ((b * 31019 + 7951) % 2147483563 + 223))) := by
    simp [mulD, mulOk, sm ((b * 31019 + 7951) % 2147483563) (by omega) (by omega)]
  have hf2 : ∀ i : Int, fdivD (.int i) (.int 809) = some (.int (i / 809)) := fun i => by
    have : (0 : Int) < 809 ∧ (809 : Int).natAbs.log2 < 9000 := by decide
    simp only [fdivD, if_pos this]
  have hmod : ∀ i : Int, ∃ j : Nat, i % m = j ∧ (j : Int) < m := fun i => ⟨(i % m).toNat, by have := Int.emod_nonneg i (by omega : m ≠ 0); omega, by have := Int.emod_lt_of_pos i h0; have := Int.emod_nonneg i (by omega : m ≠ 0); omega⟩
  simp -implicitDefEqProofs only [wp_ok, wp_bind, wp_calm, startE, evSs, evS, evAnd, evOr, evC, evE, evL, evT, views, pures, walks, wipeE, bind_ok, bind_exc, wcalm_ok, biD, cmp_eq_int, cmp_ne_int, view_d, view_bor, view_loc, pure_d, boolR_d, dR_some, dR_none, retW_d, retW_loc, retW_fn, finF_ret, finF_nx, eltR_d, asgW_nm, nameW_d, nameW_loc, nameW_fn, flO_some, asgW_tu, asgT_nm, asgT_tu, asgT_tul, asgT_tt, asgTs_nil, asgTs_cons, biR_1, biR_bor, biR_2, biR_scr, isiR_d, itO_some, itR_1, itR_bor, itR_2, itD_seq, itD_rng1, itD_rng2, it_zip_tt, it_zip_tl, it_zip_lt, it_zip_ll, it_enum_t, it_enum_l, items_l, items_t, cmpW_dd, cmpW_bd, cmpW_db, cmp_lt, cmp_gt, ltD_int, cmp_le, cmp_ge, cmp_isN, cmp_isnotN, cmp_isB, cmp_isnotB, bin_add, bin_sub, bin_mul, bin_fdiv, bin_mod, bin_pow, add_int, subt_int, add_l, add_t, mod_int, sub_l, sub_t, slc_l, slc_t, bndR_nil, bndR_1, at_0, at_1, at_2, len_l, len_t, none_n, none_i, none_b, none_t, none_l, isi_ii, isi_bi, isi_ib, isi_bb, isi_t, isTupD_t, isTupD_l, isTupD_i, isTupD_n, isTupD_b, max_l, tuple_l, tuple_t, list_l, list_t, int_i, all_l, any_l, sum_l, d27]
  by_cases hc : 0 < a
  · simp -implicitDefEqProofs [wp_ok, wp_bind, wp_calm, startE, evSs, evS, evAnd, evOr, evC, evE, evL, evT, views, pures, walks, wipeE, bind_ok, bind_exc, wcalm_ok, biD, cmp_eq_int, cmp_ne_int, view_d, view_bor, view_loc, pure_d, boolR_d, dR_some, dR_none, retW_d, retW_loc, retW_fn, finF_ret, finF_nx, eltR_d, asgW_nm, nameW_d, nameW_loc, nameW_fn, flO_some, asgW_tu, asgT_nm, asgT_tu, asgT_tul, asgT_tt, asgTs_nil, asgTs_cons, biR_1, biR_bor, biR_2, biR_scr, isiR_d, itO_some, itR_1, itR_bor, itR_2, itD_seq, itD_rng1, itD_rng2, it_zip_tt, it_zip_tl, it_zip_lt, it_zip_ll, it_enum_t, it_enum_l, items_l, items_t, cmpW_dd, cmpW_bd, cmpW_db, cmp_lt, cmp_gt, ltD_int, cmp_le, cmp_ge, cmp_isN, cmp_isnotN, cmp_isB, cmp_isnotB, bin_add, bin_sub, bin_mul, bin_fdiv, bin_mod, bin_pow, add_int, subt_int, add_l, add_t, mod_int, sub_l, sub_t, slc_l, slc_t, bndR_nil, bndR_1, at_0, at_1, at_2, len_l, len_t, none_n, none_i, none_b, none_t, none_l, isi_ii, isi_bi, isi_ib, isi_bb, isi_t, isTupD_t, isTupD_l, isTupD_i, isTupD_n, isTupD_b, max_l, tuple_l, tuple_t, list_l, list_t, int_i, all_l, any_l, sum_l, hf, hm1, hc, h0, csetW]
    obtain ⟨j, hj, hj2⟩ := hmod a
    refine ⟨⟨_, _, rfl, ?_, hb, hb2⟩, j, by rw [hj], hj2⟩
    exact Int.ediv_nonneg ha (by omega)
  · simp -implicitDefEqProofs [wp_ok, wp_bind, wp_calm, startE, evSs, evS, evAnd, evOr, evC, evE, evL, evT, views, pures, walks, wipeE, bind_ok, bind_exc, wcalm_ok, biD, cmp_eq_int, cmp_ne_int, view_d, view_bor, view_loc, pure_d, boolR_d, dR_some, dR_none, retW_d, retW_loc, retW_fn, finF_ret, finF_nx, eltR_d, asgW_nm, nameW_d, nameW_loc, nameW_fn, flO_some, asgW_tu, asgT_nm, asgT_tu, asgT_tul, asgT_tt, asgTs_nil, asgTs_cons, biR_1, biR_bor, biR_2, biR_scr, isiR_d, itO_some, itR_1, itR_bor, itR_2, itD_seq, itD_rng1, itD_rng2, it_zip_tt, it_zip_tl, it_zip_lt, it_zip_ll, it_enum_t, it_enum_l, items_l, items_t, cmpW_dd, cmpW_bd, cmpW_db, cmp_lt, cmp_gt, ltD_int, cmp_le, cmp_ge, cmp_isN, cmp_isnotN, cmp_isB, cmp_isnotB, bin_add, bin_sub, bin_mul, bin_fdiv, bin_mod, bin_pow, add_int, subt_int, add_l, add_t, mod_int, sub_l, sub_t, slc_l, slc_t, bndR_nil, bndR_1, at_0, at_1, at_2, len_l, len_t, none_n, none_i, none_b, none_t, none_l, isi_ii, isi_bi, isi_ib, isi_bb, isi_t, isTupD_t, isTupD_l, isTupD_i, isTupD_n, isTupD_b, max_l, tuple_l, tuple_t, list_l, list_t, int_i, all_l, any_l, sum_l, hf, hm1, hc, h0, csetW, hm2, hf2]
    obtain ⟨j, hj, hj2⟩ := hmod ((b * 31019 + 7951) % 2147483563 * ((b * 31019 + 7951) % 2147483563 + 223) % 2147483587 / 809)
    exact ⟨⟨_, _, rfl, ha, by omega, by omega⟩, j, by rw [hj], hj2⟩
/-- one of some -/
theorem m29 (h27 : P 27 = some d27) (h29 : P 29 = some d29) (k : Nat) {v : PD} {xs : List PD} (hv : v = .list xs ∨ v = .tuple xs) (h0 : 0 < xs.length) (hm : xs.length < 4294967296) (hs : Cup s) : Wp (evF P (k + 2) (.fn 29) [.loc 0, .d v] s) (fun w s => Cup s ∧ ∃ x, x ∈ xs ∧ w = .d x) := by
  rw [ev_call h29 rfl rfl]
  have hl : bLen [v] = some (.int xs.length) := by rcases hv with rfl | rfl <;> rfl
  simp -implicitDefEqProofs only [wp_ok, wp_bind, wp_calm, startE, evSs, evS, evAnd, evOr, evC, evE, evL, evT, views, pures, walks, wipeE, bind_ok, bind_exc, wcalm_ok, biD, cmp_eq_int, cmp_ne_int, view_d, view_bor, view_loc, pure_d, boolR_d, dR_some, dR_none, retW_d, retW_loc, retW_fn, finF_ret, finF_nx, eltR_d, asgW_nm, nameW_d, nameW_loc, nameW_fn, flO_some, asgW_tu, asgT_nm, asgT_tu, asgT_tul, asgT_tt, asgTs_nil, asgTs_cons, biR_1, biR_bor, biR_2, biR_scr, isiR_d, itO_some, itR_1, itR_bor, itR_2, itD_seq, itD_rng1, itD_rng2, it_zip_tt, it_zip_tl, it_zip_lt, it_zip_ll, it_enum_t, it_enum_l, items_l, items_t, cmpW_dd, cmpW_bd, cmpW_db, cmp_lt, cmp_gt, ltD_int, cmp_le, cmp_ge, cmp_isN, cmp_isnotN, cmp_isB, cmp_isnotB, bin_add, bin_sub, bin_mul, bin_fdiv, bin_mod, bin_pow, add_int, subt_int, add_l, add_t, mod_int, sub_l, sub_t, slc_l, slc_t, bndR_nil, bndR_1, at_0, at_1, at_2, len_l, len_t, none_n, none_i, none_b, none_t, none_l, isi_ii, isi_bi, isi_ib, isi_bb, isi_t, isTupD_t, isTupD_l, isTupD_i, isTupD_n, isTupD_b, max_l, tuple_l, tuple_t, list_l, list_t, int_i, all_l, any_l, sum_l, d29]
  simp -implicitDefEqProofs [wp_ok, wp_bind, wp_calm, startE, evSs, evS, evAnd, evOr, evC, evE, evL, evT, views, pures, walks, wipeE, bind_ok, bind_exc, wcalm_ok, biD, cmp_eq_int, cmp_ne_int, view_d, view_bor, view_loc, pure_d, boolR_d, dR_some, dR_none, retW_d, retW_loc, retW_fn, finF_ret, finF_nx, eltR_d, asgW_nm, nameW_d, nameW_loc, nameW_fn, flO_some, asgW_tu, asgT_nm, asgT_tu, asgT_tul, asgT_tt, asgTs_nil, asgTs_cons, biR_1, biR_bor, biR_2, biR_scr, isiR_d, itO_some, itR_1, itR_bor, itR_2, itD_seq, itD_rng1, itD_rng2, it_zip_tt, it_zip_tl, it_zip_lt, it_zip_ll, it_enum_t, it_enum_l, items_l, items_t, cmpW_dd, cmpW_bd, cmpW_db, cmp_lt, cmp_gt, ltD_int, cmp_le, cmp_ge, cmp_isN, cmp_isnotN, cmp_isB, cmp_isnotB, bin_add, bin_sub, bin_mul, bin_fdiv, bin_mod, bin_pow, add_int, subt_int, add_l, add_t, mod_int, sub_l, sub_t, slc_l, slc_t, bndR_nil, bndR_1, at_0, at_1, at_2, len_l, len_t, none_n, none_i, none_b, none_t, none_l, isi_ii, isi_bi, isi_ib, isi_bb, isi_t, isTupD_t, isTupD_l, isTupD_i, isTupD_n, isTupD_b, max_l, tuple_l, tuple_t, list_l, list_t, int_i, all_l, any_l, sum_l, hl]
  refine (m27 h27 k (by omega : (0 : Int) < xs.length) (by omega) hs).mono fun w s' h => ?_
  obtain ⟨hc, i, rfl, hi⟩ := h
  have hat := at_nat (xs := xs) (i := i) (by omega)
  have hi2 : i < xs.length := by omega
  rw [List.getElem?_eq_getElem hi2] at hat
  have hsub : subD v (.int i) = some xs[i] := by rcases hv with rfl | rfl <;> exact hat
  simp -implicitDefEqProofs [wp_ok, wp_bind, wp_calm, startE, evSs, evS, evAnd, evOr, evC, evE, evL, evT, views, pures, walks, wipeE, bind_ok, bind_exc, wcalm_ok, biD, cmp_eq_int, cmp_ne_int, view_d, view_bor, view_loc, pure_d, boolR_d, dR_some, dR_none, retW_d, retW_loc, retW_fn, finF_ret, finF_nx, eltR_d, asgW_nm, nameW_d, nameW_loc, nameW_fn, flO_some, asgW_tu, asgT_nm, asgT_tu, asgT_tul, asgT_tt, asgTs_nil, asgTs_cons, biR_1, biR_bor, biR_2, biR_scr, isiR_d, itO_some, itR_1, itR_bor, itR_2, itD_seq, itD_rng1, itD_rng2, it_zip_tt, it_zip_tl, it_zip_lt, it_zip_ll, it_enum_t, it_enum_l, items_l, items_t, cmpW_dd, cmpW_bd, cmpW_db, cmp_lt, cmp_gt, ltD_int, cmp_le, cmp_ge, cmp_isN, cmp_isnotN, cmp_isB, cmp_isnotB, bin_add, bin_sub, bin_mul, bin_fdiv, bin_mod, bin_pow, add_int, subt_int, add_l, add_t, mod_int, sub_l, sub_t, slc_l, slc_t, bndR_nil, bndR_1, at_0, at_1, at_2, len_l, len_t, none_n, none_i, none_b, none_t, none_l, isi_ii, isi_bi, isi_ib, isi_bb, isi_t, isTupD_t, isTupD_l, isTupD_i, isTupD_n, isTupD_b, max_l, tuple_l, tuple_t, list_l, list_t, int_i, all_l, any_l, sum_l, hsub, wp_ok, hc]
/-- a range's turns -/
theorem range_nat {n : Nat} (h : n ≤ 1000000) : rangeD 0 (n : Int) = some ((List.range n).map fun i => .int (i : Nat)) := by
  have := range_rangeD (n := (n : Int)) (by omega) (by omega)
  simpa using this
theorem m30 (h27 : P 27 = some d27) (h29 : P 29 = some d29) (h30 : P 30 = some d30) (k : Nat) {c : Nat} (h : c ≤ 1000) (hs : Cup s) : Wp (evF P (k + 3) (.fn 30) [.loc 0, .d (.int c)] s) (fun w s => Cup s ∧ ∃ xs : List Int, w = .d (tInts xs) ∧ xs.length = c ∧ ∀ x ∈ xs, -3 ≤ x ∧ x ≤ 3) := by
  have e0 := ev_call (k := k + 2) (s := s) (ws := [.loc 0, .d (.int c)]) h30 rfl rfl
  rw [e0]
  simp -implicitDefEqProofs only [wp_ok, wp_bind, wp_calm, startE, evSs, evS, evAnd, evOr, evC, evE, evL, evT, views, pures, walks, wipeE, bind_ok, bind_exc, wcalm_ok, biD, cmp_eq_int, cmp_ne_int, view_d, view_bor, view_loc, pure_d, boolR_d, dR_some, dR_none, retW_d, retW_loc, retW_fn, finF_ret, finF_nx, eltR_d, asgW_nm, nameW_d, nameW_loc, nameW_fn, flO_some, asgW_tu, asgT_nm, asgT_tu, asgT_tul, asgT_tt, asgTs_nil, asgTs_cons, biR_1, biR_bor, biR_2, biR_scr, isiR_d, itO_some, itR_1, itR_bor, itR_2, itD_seq, itD_rng1, itD_rng2, it_zip_tt, it_zip_tl, it_zip_lt, it_zip_ll, it_enum_t, it_enum_l, items_l, items_t, cmpW_dd, cmpW_bd, cmpW_db, cmp_lt, cmp_gt, ltD_int, cmp_le, cmp_ge, cmp_isN, cmp_isnotN, cmp_isB, cmp_isnotB, bin_add, bin_sub, bin_mul, bin_fdiv, bin_mod, bin_pow, add_int, subt_int, add_l, add_t, mod_int, sub_l, sub_t, slc_l, slc_t, bndR_nil, bndR_1, at_0, at_1, at_2, len_l, len_t, none_n, none_i, none_b, none_t, none_l, isi_ii, isi_bi, isi_ib, isi_bb, isi_t, isTupD_t, isTupD_l, isTupD_i, isTupD_n, isTupD_b, max_l, tuple_l, tuple_t, list_l, list_t, int_i, all_l, any_l, sum_l, d30]
  simp -implicitDefEqProofs [wp_ok, wp_bind, wp_calm, startE, evSs, evS, evAnd, evOr, evC, evE, evL, evT, views, pures, walks, wipeE, bind_ok, bind_exc, wcalm_ok, biD, cmp_eq_int, cmp_ne_int, view_d, view_bor, view_loc, pure_d, boolR_d, dR_some, dR_none, retW_d, retW_loc, retW_fn, finF_ret, finF_nx, eltR_d, asgW_nm, nameW_d, nameW_loc, nameW_fn, flO_some, asgW_tu, asgT_nm, asgT_tu, asgT_tul, asgT_tt, asgTs_nil, asgTs_cons, biR_1, biR_bor, biR_2, biR_scr, isiR_d, itO_some, itR_1, itR_bor, itR_2, itD_seq, itD_rng1, itD_rng2, it_zip_tt, it_zip_tl, it_zip_lt, it_zip_ll, it_enum_t, it_enum_l, items_l, items_t, cmpW_dd, cmpW_bd, cmpW_db, cmp_lt, cmp_gt, ltD_int, cmp_le, cmp_ge, cmp_isN, cmp_isnotN, cmp_isB, cmp_isnotB, bin_add, bin_sub, bin_mul, bin_fdiv, bin_mod, bin_pow, add_int, subt_int, add_l, add_t, mod_int, sub_l, sub_t, slc_l, slc_t, bndR_nil, bndR_1, at_0, at_1, at_2, len_l, len_t, none_n, none_i, none_b, none_t, none_l, isi_ii, isi_bi, isi_ib, isi_bb, isi_t, isTupD_t, isTupD_l, isTupD_i, isTupD_n, isTupD_b, max_l, tuple_l, tuple_t, list_l, list_t, int_i, all_l, any_l, sum_l, range_nat (by omega : c ≤ 1000000)]
  refine (lcGo_inv (I := Cup) (Rel := fun y => ∃ i : Int, y = .int i ∧ (-3 ≤ i ∧ i ≤ 3)) _ s hs fun x hx s hs => ⟨_, rfl, rfl, ?_⟩).mono fun ys s' h => ?_
  · simp -implicitDefEqProofs [wp_ok, wp_bind, wp_calm, startE, evSs, evS, evAnd, evOr, evC, evE, evL, evT, views, pures, walks, wipeE, bind_ok, bind_exc, wcalm_ok, biD, cmp_eq_int, cmp_ne_int, view_d, view_bor, view_loc, pure_d, boolR_d, dR_some, dR_none, retW_d, retW_loc, retW_fn, finF_ret, finF_nx, eltR_d, asgW_nm, nameW_d, nameW_loc, nameW_fn, flO_some, asgW_tu, asgT_nm, asgT_tu, asgT_tul, asgT_tt, asgTs_nil, asgTs_cons, biR_1, biR_bor, biR_2, biR_scr, isiR_d, itO_some, itR_1, itR_bor, itR_2, itD_seq, itD_rng1, itD_rng2, it_zip_tt, it_zip_tl, it_zip_lt, it_zip_ll, it_enum_t, it_enum_l, items_l, items_t, cmpW_dd, cmpW_bd, cmpW_db, cmp_lt, cmp_gt, ltD_int, cmp_le, cmp_ge, cmp_isN, cmp_isnotN, cmp_isB, cmp_isnotB, bin_add, bin_sub, bin_mul, bin_fdiv, bin_mod, bin_pow, add_int, subt_int, add_l, add_t, mod_int, sub_l, sub_t, slc_l, slc_t, bndR_nil, bndR_1, at_0, at_1, at_2, len_l, len_t, none_n, none_i, none_b, none_t, none_l, isi_ii, isi_bi, isi_ib, isi_bb, isi_t, isTupD_t, isTupD_l, isTupD_i, isTupD_n, isTupD_b, max_l, tuple_l, tuple_t, list_l, list_t, int_i, all_l, any_l, sum_l]
    refine (m29 h27 h29 k (xs := [.int 6, .int 7, .int 10]) (.inl rfl) (by simp) (by simp) hs).mono fun w s' h => ?_
    obtain ⟨hc, x, hx, rfl⟩ := h
    obtain ⟨n, hn, rfl⟩ : ∃ n : Nat, n ∈ [6, 7, 10] ∧ x = .int n := by
      simp only [List.mem_cons, List.not_mem_nil, or_false] at hx
      rcases hx with rfl | rfl | rfl
      · exact ⟨6, by simp, rfl⟩
      · exact ⟨7, by simp, rfl⟩
      · exact ⟨10, by simp, rfl⟩
    simp -implicitDefEqProofs [wp_ok, wp_bind, wp_calm, startE, evSs, evS, evAnd, evOr, evC, evE, evL, evT, views, pures, walks, wipeE, bind_ok, bind_exc, wcalm_ok, biD, cmp_eq_int, cmp_ne_int, view_d, view_bor, view_loc, pure_d, boolR_d, dR_some, dR_none, retW_d, retW_loc, retW_fn, finF_ret, finF_nx, eltR_d, asgW_nm, nameW_d, nameW_loc, nameW_fn, flO_some, asgW_tu, asgT_nm, asgT_tu, asgT_tul, asgT_tt, asgTs_nil, asgTs_cons, biR_1, biR_bor, biR_2, biR_scr, isiR_d, itO_some, itR_1, itR_bor, itR_2, itD_seq, itD_rng1, itD_rng2, it_zip_tt, it_zip_tl, it_zip_lt, it_zip_ll, it_enum_t, it_enum_l, items_l, items_t, cmpW_dd, cmpW_bd, cmpW_db, cmp_lt, cmp_gt, ltD_int, cmp_le, cmp_ge, cmp_isN, cmp_isnotN, cmp_isB, cmp_isnotB, bin_add, bin_sub, bin_mul, bin_fdiv, bin_mod, bin_pow, add_int, subt_int, add_l, add_t, mod_int, sub_l, sub_t, slc_l, slc_t, bndR_nil, bndR_1, at_0, at_1, at_2, len_l, len_t, none_n, none_i, none_b, none_t, none_l, isi_ii, isi_bi, isi_ib, isi_bb, isi_t, isTupD_t, isTupD_l, isTupD_i, isTupD_n, isTupD_b, max_l, tuple_l, tuple_t, list_l, list_t, int_i, all_l, any_l, sum_l]
    have hcut : ∃ ys : List Int, cutL [PyData.int 0, PyData.int 0, PyData.int 1, PyData.int 1, PyData.int 1, PyData.int (-1), PyData.int 2, PyData.int (-2), PyData.int 3, PyData.int (-3)] none (some (n : Int)) = ys.map .int ∧ 0 < ys.length ∧ ys.length < 11 ∧ ∀ y ∈ ys, -3 ≤ y ∧ y ≤ 3 := by
      simp only [List.mem_cons, List.not_mem_nil, or_false] at hn
      rcases hn with rfl | rfl | rfl
      · exact ⟨[0, 0, 1, 1, 1, -1], rfl, by decide, by decide, by decide⟩
      · exact ⟨[0, 0, 1, 1, 1, -1, 2], rfl, by decide, by decide, by decide⟩
      · exact ⟨[0, 0, 1, 1, 1, -1, 2, -2, 3, -3], rfl, by decide, by decide, by decide⟩
    obtain ⟨ys, hy, h1, h2, h3⟩ := hcut
    rw [hy]
    refine (m29 h27 h29 k (xs := ys.map .int) (.inl rfl) (by simpa using h1) (by simp; omega) hc).mono fun w s' h => ?_
    obtain ⟨hc, x, hx, rfl⟩ := h
    obtain ⟨i, hi, rfl⟩ := List.mem_map.mp hx
    simp -implicitDefEqProofs [wp_ok, wp_bind, wp_calm, startE, evSs, evS, evAnd, evOr, evC, evE, evL, evT, views, pures, walks, wipeE, bind_ok, bind_exc, wcalm_ok, biD, cmp_eq_int, cmp_ne_int, view_d, view_bor, view_loc, pure_d, boolR_d, dR_some, dR_none, retW_d, retW_loc, retW_fn, finF_ret, finF_nx, eltR_d, asgW_nm, nameW_d, nameW_loc, nameW_fn, flO_some, asgW_tu, asgT_nm, asgT_tu, asgT_tul, asgT_tt, asgTs_nil, asgTs_cons, biR_1, biR_bor, biR_2, biR_scr, isiR_d, itO_some, itR_1, itR_bor, itR_2, itD_seq, itD_rng1, itD_rng2, it_zip_tt, it_zip_tl, it_zip_lt, it_zip_ll, it_enum_t, it_enum_l, items_l, items_t, cmpW_dd, cmpW_bd, cmpW_db, cmp_lt, cmp_gt, ltD_int, cmp_le, cmp_ge, cmp_isN, cmp_isnotN, cmp_isB, cmp_isnotB, bin_add, bin_sub, bin_mul, bin_fdiv, bin_mod, bin_pow, add_int, subt_int, add_l, add_t, mod_int, sub_l, sub_t, slc_l, slc_t, bndR_nil, bndR_1, at_0, at_1, at_2, len_l, len_t, none_n, none_i, none_b, none_t, none_l, isi_ii, isi_bi, isi_ib, isi_bb, isi_t, isTupD_t, isTupD_l, isTupD_i, isTupD_n, isTupD_b, max_l, tuple_l, tuple_t, list_l, list_t, int_i, all_l, any_l, sum_l, hc]
    exact h3 i hi
  · obtain ⟨hc, hl, hr⟩ := h
    obtain ⟨xs, rfl, hx⟩ := map_of hr
    simp -implicitDefEqProofs [wp_ok, wp_bind, wp_calm, startE, evSs, evS, evAnd, evOr, evC, evE, evL, evT, views, pures, walks, wipeE, bind_ok, bind_exc, wcalm_ok, biD, cmp_eq_int, cmp_ne_int, view_d, view_bor, view_loc, pure_d, boolR_d, dR_some, dR_none, retW_d, retW_loc, retW_fn, finF_ret, finF_nx, eltR_d, asgW_nm, nameW_d, nameW_loc, nameW_fn, flO_some, asgW_tu, asgT_nm, asgT_tu, asgT_tul, asgT_tt, asgTs_nil, asgTs_cons, biR_1, biR_bor, biR_2, biR_scr, isiR_d, itO_some, itR_1, itR_bor, itR_2, itD_seq, itD_rng1, itD_rng2, it_zip_tt, it_zip_tl, it_zip_lt, it_zip_ll, it_enum_t, it_enum_l, items_l, items_t, cmpW_dd, cmpW_bd, cmpW_db, cmp_lt, cmp_gt, ltD_int, cmp_le, cmp_ge, cmp_isN, cmp_isnotN, cmp_isB, cmp_isnotB, bin_add, bin_sub, bin_mul, bin_fdiv, bin_mod, bin_pow, add_int, subt_int, add_l, add_t, mod_int, sub_l, sub_t, slc_l, slc_t, bndR_nil, bndR_1, at_0, at_1, at_2, len_l, len_t, none_n, none_i, none_b, none_t, none_l, isi_ii, isi_bi, isi_ib, isi_bb, isi_t, isTupD_t, isTupD_l, isTupD_i, isTupD_n, isTupD_b, max_l, tuple_l, tuple_t, list_l, list_t, int_i, all_l, any_l, sum_l, hc]
    exact ⟨xs, rfl, by simpa using hl, hx⟩
theorem m31 (h27 : P 27 = some d27) (h29 : P 29 = some d29) (h30 : P 30 = some d30) (h31 : P 31 = some d31) (k : Nat) {q c : Nat} (hq : 0 < q) (hq2 : q ≤ 1000) (h : c ≤ 1000) (hs : Cup s) : Wp (evF P (k + 4) (.fn 31) [.loc 0, .d (.int q), .d (.int c)] s) (fun w s => Cup s ∧ ∃ n : Need, w = .d (nD n) ∧ FitN q c n) := by
  rw [ev_call h31 rfl rfl]
  simp -implicitDefEqProofs only [wp_ok, wp_bind, wp_calm, startE, evSs, evS, evAnd, evOr, evC, evE, evL, evT, views, pures, walks, wipeE, bind_ok, bind_exc, wcalm_ok, biD, cmp_eq_int, cmp_ne_int, view_d, view_bor, view_loc, pure_d, boolR_d, dR_some, dR_none, retW_d, retW_loc, retW_fn, finF_ret, finF_nx, eltR_d, asgW_nm, nameW_d, nameW_loc, nameW_fn, flO_some, asgW_tu, asgT_nm, asgT_tu, asgT_tul, asgT_tt, asgTs_nil, asgTs_cons, biR_1, biR_bor, biR_2, biR_scr, isiR_d, itO_some, itR_1, itR_bor, itR_2, itD_seq, itD_rng1, itD_rng2, it_zip_tt, it_zip_tl, it_zip_lt, it_zip_ll, it_enum_t, it_enum_l, items_l, items_t, cmpW_dd, cmpW_bd, cmpW_db, cmp_lt, cmp_gt, ltD_int, cmp_le, cmp_ge, cmp_isN, cmp_isnotN, cmp_isB, cmp_isnotB, bin_add, bin_sub, bin_mul, bin_fdiv, bin_mod, bin_pow, add_int, subt_int, add_l, add_t, mod_int, sub_l, sub_t, slc_l, slc_t, bndR_nil, bndR_1, at_0, at_1, at_2, len_l, len_t, none_n, none_i, none_b, none_t, none_l, isi_ii, isi_bi, isi_ib, isi_bb, isi_t, isTupD_t, isTupD_l, isTupD_i, isTupD_n, isTupD_b, max_l, tuple_l, tuple_t, list_l, list_t, int_i, all_l, any_l, sum_l, d31]
  simp -implicitDefEqProofs [wp_ok, wp_bind, wp_calm, startE, evSs, evS, evAnd, evOr, evC, evE, evL, evT, views, pures, walks, wipeE, bind_ok, bind_exc, wcalm_ok, biD, cmp_eq_int, cmp_ne_int, view_d, view_bor, view_loc, pure_d, boolR_d, dR_some, dR_none, retW_d, retW_loc, retW_fn, finF_ret, finF_nx, eltR_d, asgW_nm, nameW_d, nameW_loc, nameW_fn, flO_some, asgW_tu, asgT_nm, asgT_tu, asgT_tul, asgT_tt, asgTs_nil, asgTs_cons, biR_1, biR_bor, biR_2, biR_scr, isiR_d, itO_some, itR_1, itR_bor, itR_2, itD_seq, itD_rng1, itD_rng2, it_zip_tt, it_zip_tl, it_zip_lt, it_zip_ll, it_enum_t, it_enum_l, items_l, items_t, cmpW_dd, cmpW_bd, cmpW_db, cmp_lt, cmp_gt, ltD_int, cmp_le, cmp_ge, cmp_isN, cmp_isnotN, cmp_isB, cmp_isnotB, bin_add, bin_sub, bin_mul, bin_fdiv, bin_mod, bin_pow, add_int, subt_int, add_l, add_t, mod_int, sub_l, sub_t, slc_l, slc_t, bndR_nil, bndR_1, at_0, at_1, at_2, len_l, len_t, none_n, none_i, none_b, none_t, none_l, isi_ii, isi_bi, isi_ib, isi_bb, isi_t, isTupD_t, isTupD_l, isTupD_i, isTupD_n, isTupD_b, max_l, tuple_l, tuple_t, list_l, list_t, int_i, all_l, any_l, sum_l]
  refine (m27 h27 _ (by omega : (0 : Int) < q) (by omega) hs).mono fun w s' h => ?_
  obtain ⟨hc, i, rfl, hi⟩ := h
  refine (m27 h27 _ (by omega : (0 : Int) < q) (by omega) hc).mono fun w s' h => ?_
  obtain ⟨hc, j, rfl, hj⟩ := h
  refine (m30 h27 h29 h30 _ h hc).mono fun w s' h => ?_
  obtain ⟨hc, xs, rfl, hl, hx⟩ := h
  simp -implicitDefEqProofs only [wp_ok, wp_bind, wp_calm, startE, evSs, evS, evAnd, evOr, evC, evE, evL, evT, views, pures, walks, wipeE, bind_ok, bind_exc, wcalm_ok, biD, cmp_eq_int, cmp_ne_int, view_d, view_bor, view_loc, pure_d, boolR_d, dR_some, dR_none, retW_d, retW_loc, retW_fn, finF_ret, finF_nx, eltR_d, asgW_nm, nameW_d, nameW_loc, nameW_fn, flO_some, asgW_tu, asgT_nm, asgT_tu, asgT_tul, asgT_tt, asgTs_nil, asgTs_cons, biR_1, biR_bor, biR_2, biR_scr, isiR_d, itO_some, itR_1, itR_bor, itR_2, itD_seq, itD_rng1, itD_rng2, it_zip_tt, it_zip_tl, it_zip_lt, it_zip_ll, it_enum_t, it_enum_l, items_l, items_t, cmpW_dd, cmpW_bd, cmpW_db, cmp_lt, cmp_gt, ltD_int, cmp_le, cmp_ge, cmp_isN, cmp_isnotN, cmp_isB, cmp_isnotB, bin_add, bin_sub, bin_mul, bin_fdiv, bin_mod, bin_pow, add_int, subt_int, add_l, add_t, mod_int, sub_l, sub_t, slc_l, slc_t, bndR_nil, bndR_1, at_0, at_1, at_2, len_l, len_t, none_n, none_i, none_b, none_t, none_l, isi_ii, isi_bi, isi_ib, isi_bb, isi_t, isTupD_t, isTupD_l, isTupD_i, isTupD_n, isTupD_b, max_l, tuple_l, tuple_t, list_l, list_t, int_i, all_l, any_l, sum_l]
  exact ⟨hc, i, j, xs, rfl, ⟨by simp only; omega, by simp only; omega, hl, hx⟩⟩
end Lw

set_option Elab.async false
set_option linter.all false
set_option maxRecDepth 100000
set_option maxHeartbeats 2000000
/-! M3: mirrors of paces. -/
namespace Lw
open PySem
variable {P : Nat → Option Def} {s : Cells}
def dot (a x : List Int) : Int := ((a.zip x).map fun p => p.1 * p.2).sum
abbrev paceD (a b : List Int) : PD := .tuple [tInts a, tInts b]
theorem mul_small {i : Int} (j : Int) (h : small64 i = true) : mulD (.int i) (.int j) = some (.int (i * j)) := by
  simp [mulD, mulOk, h]
theorem mul_small2 {j : Int} (i : Int) (h : small64 j = true) : mulD (.int i) (.int j) = some (.int (i * j)) := by
  simp [mulD, mulOk, h]
theorem small_of {i : Int} (h1 : -1000000 ≤ i) (h2 : i ≤ 1000000) : small64 i = true := by
  simp only [small64, Bool.and_eq_true, decide_eq_true_eq]
  have : (2 : Int) ^ 64 = 18446744073709551616 := by decide
  omega
/-- an item, of whole numbers -/
def gI (xs : List Int) (q : Nat) : Int := xs.getD q 0
theorem at_tI {xs : List Int} {q : Nat} (h : q < xs.length) : atD (xs.map PyData.int) (q : Int) = some (.int (gI xs q)) := by
  rw [at_nat (by simpa using h)]
  simp [h, gI]
theorem zip_ints (a x : List Int) : zipD (a.map PyData.int) (x.map PyData.int) = (a.zip x).map fun p => .tuple [.int p.1, .int p.2] := zipD_map _ _ _ _
/-- the moment of a place -/
theorem m129 (h129 : P 129 = some d129) (k : Nat) {a b x : List Int} {q : Nat} (hq : q < b.length) (ha : ∀ i ∈ a, small64 i = true) : evF P (k + 1) (.fn 129) [.d (paceD a b), .d (.int q), .d (tInts x)] s = .ok (.d (.int (dot a x + gI b q))) s := by
  rw [ev_call h129 rfl rfl]
  simp -implicitDefEqProofs only [wp_ok, wp_bind, wp_calm, startE, evSs, evS, evAnd, evOr, evC, evE, evL, evT, views, pures, walks, wipeE, bind_ok, bind_exc, wcalm_ok, biD, cmp_eq_int, cmp_ne_int, view_d, view_bor, view_loc, pure_d, boolR_d, dR_some, dR_none, retW_d, retW_loc, retW_fn, finF_ret, finF_nx, eltR_d, asgW_nm, nameW_d, nameW_loc, nameW_fn, flO_some, asgW_tu, asgT_nm, asgT_tu, asgT_tul, asgT_tt, asgTs_nil, asgTs_cons, biR_1, biR_bor, biR_2, biR_scr, isiR_d, itO_some, itR_1, itR_bor, itR_2, itD_seq, itD_rng1, itD_rng2, it_zip_tt, it_zip_tl, it_zip_lt, it_zip_ll, it_enum_t, it_enum_l, items_l, items_t, cmpW_dd, cmpW_bd, cmpW_db, cmp_lt, cmp_gt, ltD_int, cmp_le, cmp_ge, cmp_isN, cmp_isnotN, cmp_isB, cmp_isnotB, bin_add, bin_sub, bin_mul, bin_fdiv, bin_mod, bin_pow, add_int, subt_int, add_l, add_t, mod_int, sub_l, sub_t, slc_l, slc_t, bndR_nil, bndR_1, at_0, at_1, at_2, len_l, len_t, none_n, none_i, none_b, none_t, none_l, isi_ii, isi_bi, isi_ib, isi_bb, isi_t, isTupD_t, isTupD_l, isTupD_i, isTupD_n, isTupD_b, max_l, tuple_l, tuple_t, list_l, list_t, int_i, all_l, any_l, sum_l, d129]
  simp -implicitDefEqProofs [wp_ok, wp_bind, wp_calm, startE, evSs, evS, evAnd, evOr, evC, evE, evL, evT, views, pures, walks, wipeE, bind_ok, bind_exc, wcalm_ok, biD, cmp_eq_int, cmp_ne_int, view_d, view_bor, view_loc, pure_d, boolR_d, dR_some, dR_none, retW_d, retW_loc, retW_fn, finF_ret, finF_nx, eltR_d, asgW_nm, nameW_d, nameW_loc, nameW_fn, flO_some, asgW_tu, asgT_nm, asgT_tu, asgT_tul, asgT_tt, asgTs_nil, asgTs_cons, biR_1, biR_bor, biR_2, biR_scr, isiR_d, itO_some, itR_1, itR_bor, itR_2, itD_seq, itD_rng1, itD_rng2, it_zip_tt, it_zip_tl, it_zip_lt, it_zip_ll, it_enum_t, it_enum_l, items_l, items_t, cmpW_dd, cmpW_bd, cmpW_db, cmp_lt, cmp_gt, ltD_int, cmp_le, cmp_ge, cmp_isN, cmp_isnotN, cmp_isB, cmp_isnotB, bin_add, bin_sub, bin_mul, bin_fdiv, bin_mod, bin_pow, add_int, subt_int, add_l, add_t, mod_int, sub_l, sub_t, slc_l, slc_t, bndR_nil, bndR_1, at_0, at_1, at_2, len_l, len_t, none_n, none_i, none_b, none_t, none_l, isi_ii, isi_bi, isi_ib, isi_bb, isi_t, isTupD_t, isTupD_l, isTupD_i, isTupD_n, isTupD_b, max_l, tuple_l, tuple_t, list_l, list_t, int_i, all_l, any_l, sum_l, zip_ints]
  rw [lcGo_all (fun p : Int × Int => .tuple [.int p.1, .int p.2]) (fun p => .int (p.1 * p.2))]
  · simp -implicitDefEqProofs [wp_ok, wp_bind, wp_calm, startE, evSs, evS, evAnd, evOr, evC, evE, evL, evT, views, pures, walks, wipeE, bind_ok, bind_exc, wcalm_ok, biD, cmp_eq_int, cmp_ne_int, view_d, view_bor, view_loc, pure_d, boolR_d, dR_some, dR_none, retW_d, retW_loc, retW_fn, finF_ret, finF_nx, eltR_d, asgW_nm, nameW_d, nameW_loc, nameW_fn, flO_some, asgW_tu, asgT_nm, asgT_tu, asgT_tul, asgT_tt, asgTs_nil, asgTs_cons, biR_1, biR_bor, biR_2, biR_scr, isiR_d, itO_some, itR_1, itR_bor, itR_2, itD_seq, itD_rng1, itD_rng2, it_zip_tt, it_zip_tl, it_zip_lt, it_zip_ll, it_enum_t, it_enum_l, items_l, items_t, cmpW_dd, cmpW_bd, cmpW_db, cmp_lt, cmp_gt, ltD_int, cmp_le, cmp_ge, cmp_isN, cmp_isnotN, cmp_isB, cmp_isnotB, bin_add, bin_sub, bin_mul, bin_fdiv, bin_mod, bin_pow, add_int, subt_int, add_l, add_t, mod_int, sub_l, sub_t, slc_l, slc_t, bndR_nil, bndR_1, at_0, at_1, at_2, len_l, len_t, none_n, none_i, none_b, none_t, none_l, isi_ii, isi_bi, isi_ib, isi_bb, isi_t, isTupD_t, isTupD_l, isTupD_i, isTupD_n, isTupD_b, max_l, tuple_l, tuple_t, list_l, list_t, int_i, all_l, any_l, sum_l, ints_map, at_tI hq, dot]
  · intro p hp
    refine ⟨_, rfl, rfl, ?_⟩
    have := List.of_mem_zip hp
    simp -implicitDefEqProofs [wp_ok, wp_bind, wp_calm, startE, evSs, evS, evAnd, evOr, evC, evE, evL, evT, views, pures, walks, wipeE, bind_ok, bind_exc, wcalm_ok, biD, cmp_eq_int, cmp_ne_int, view_d, view_bor, view_loc, pure_d, boolR_d, dR_some, dR_none, retW_d, retW_loc, retW_fn, finF_ret, finF_nx, eltR_d, asgW_nm, nameW_d, nameW_loc, nameW_fn, flO_some, asgW_tu, asgT_nm, asgT_tu, asgT_tul, asgT_tt, asgTs_nil, asgTs_cons, biR_1, biR_bor, biR_2, biR_scr, isiR_d, itO_some, itR_1, itR_bor, itR_2, itD_seq, itD_rng1, itD_rng2, it_zip_tt, it_zip_tl, it_zip_lt, it_zip_ll, it_enum_t, it_enum_l, items_l, items_t, cmpW_dd, cmpW_bd, cmpW_db, cmp_lt, cmp_gt, ltD_int, cmp_le, cmp_ge, cmp_isN, cmp_isnotN, cmp_isB, cmp_isnotB, bin_add, bin_sub, bin_mul, bin_fdiv, bin_mod, bin_pow, add_int, subt_int, add_l, add_t, mod_int, sub_l, sub_t, slc_l, slc_t, bndR_nil, bndR_1, at_0, at_1, at_2, len_l, len_t, none_n, none_i, none_b, none_t, none_l, isi_ii, isi_bi, isi_ib, isi_bb, isi_t, isTupD_t, isTupD_l, isTupD_i, isTupD_n, isTupD_b, max_l, tuple_l, tuple_t, list_l, list_t, int_i, all_l, any_l, sum_l, mul_small p.2 (ha p.1 this.1)]
def lag (a b : List Int) (n : Need) : Int := dot a n.2.2 + gI b n.1 - gI b n.2.1
theorem m130 (h129 : P 129 = some d129) (h130 : P 130 = some d130) (k : Nat) {a b : List Int} {n : Need} (h1 : n.1 < b.length) (h2 : n.2.1 < b.length) (ha : ∀ i ∈ a, small64 i = true) : evF P (k + 2) (.fn 130) [.d (paceD a b), .d (nD n)] s = .ok (.d (.int (lag a b n))) s := by
  rw [ev_call h130 rfl rfl]
  have e := m129 (s := s) h129 k (x := n.2.2) h1 ha
  simp -implicitDefEqProofs only [wp_ok, wp_bind, wp_calm, startE, evSs, evS, evAnd, evOr, evC, evE, evL, evT, views, pures, walks, wipeE, bind_ok, bind_exc, wcalm_ok, biD, cmp_eq_int, cmp_ne_int, view_d, view_bor, view_loc, pure_d, boolR_d, dR_some, dR_none, retW_d, retW_loc, retW_fn, finF_ret, finF_nx, eltR_d, asgW_nm, nameW_d, nameW_loc, nameW_fn, flO_some, asgW_tu, asgT_nm, asgT_tu, asgT_tul, asgT_tt, asgTs_nil, asgTs_cons, biR_1, biR_bor, biR_2, biR_scr, isiR_d, itO_some, itR_1, itR_bor, itR_2, itD_seq, itD_rng1, itD_rng2, it_zip_tt, it_zip_tl, it_zip_lt, it_zip_ll, it_enum_t, it_enum_l, items_l, items_t, cmpW_dd, cmpW_bd, cmpW_db, cmp_lt, cmp_gt, ltD_int, cmp_le, cmp_ge, cmp_isN, cmp_isnotN, cmp_isB, cmp_isnotB, bin_add, bin_sub, bin_mul, bin_fdiv, bin_mod, bin_pow, add_int, subt_int, add_l, add_t, mod_int, sub_l, sub_t, slc_l, slc_t, bndR_nil, bndR_1, at_0, at_1, at_2, len_l, len_t, none_n, none_i, none_b, none_t, none_l, isi_ii, isi_bi, isi_ib, isi_bb, isi_t, isTupD_t, isTupD_l, isTupD_i, isTupD_n, isTupD_b, max_l, tuple_l, tuple_t, list_l, list_t, int_i, all_l, any_l, sum_l, d130]
  simp -implicitDefEqProofs [wp_ok, wp_bind, wp_calm, startE, evSs, evS, evAnd, evOr, evC, evE, evL, evT, views, pures, walks, wipeE, bind_ok, bind_exc, wcalm_ok, biD, cmp_eq_int, cmp_ne_int, view_d, view_bor, view_loc, pure_d, boolR_d, dR_some, dR_none, retW_d, retW_loc, retW_fn, finF_ret, finF_nx, eltR_d, asgW_nm, nameW_d, nameW_loc, nameW_fn, flO_some, asgW_tu, asgT_nm, asgT_tu, asgT_tul, asgT_tt, asgTs_nil, asgTs_cons, biR_1, biR_bor, biR_2, biR_scr, isiR_d, itO_some, itR_1, itR_bor, itR_2, itD_seq, itD_rng1, itD_rng2, it_zip_tt, it_zip_tl, it_zip_lt, it_zip_ll, it_enum_t, it_enum_l, items_l, items_t, cmpW_dd, cmpW_bd, cmpW_db, cmp_lt, cmp_gt, ltD_int, cmp_le, cmp_ge, cmp_isN, cmp_isnotN, cmp_isB, cmp_isnotB, bin_add, bin_sub, bin_mul, bin_fdiv, bin_mod, bin_pow, add_int, subt_int, add_l, add_t, mod_int, sub_l, sub_t, slc_l, slc_t, bndR_nil, bndR_1, at_0, at_1, at_2, len_l, len_t, none_n, none_i, none_b, none_t, none_l, isi_ii, isi_bi, isi_ib, isi_bb, isi_t, isTupD_t, isTupD_l, isTupD_i, isTupD_n, isTupD_b, max_l, tuple_l, tuple_t, list_l, list_t, int_i, all_l, any_l, sum_l, nD, e, at_tI h2, lag]
def fitsP (Q C : Nat) (ns : List Need) (v : PD) : Bool := match v with
  | .tuple [.tuple xs, .tuple ys] => decide (xs.length = C) && (decide (ys.length = Q) && ((xs ++ ys).all (fun x => isW x (-1000) 1000) && ns.all fun n => decide (1 ≤ lag (xs.map intOf) (ys.map intOf) n)))
  | _ => false
theorem isT_nat {v : PD} {n : Nat} : isT v n n = true ↔ ∃ xs, v = .tuple xs ∧ xs.length = n := by
  constructor
  · intro h
    obtain ⟨xs, rfl, h1, h2⟩ := isT_tup h
    exact ⟨xs, rfl, by omega⟩
  · rintro ⟨xs, rfl, h⟩
    simp [isT, h]
theorem small_W {v : PD} {i : Int} (e : v = .int i) (h : isW v (-1000) 1000 = true) : small64 i = true := by
  subst e
  simp only [isW, Bool.and_eq_true, decide_eq_true_eq] at h
  exact small_of (by omega) (by omega)
/-- what the items of a pace are, once they are whole numbers -/
theorem pace_ints {xs ys : List PD} (h : ((xs ++ ys).all fun x => isW x (-1000) 1000) = true) : ∃ a b : List Int, xs = a.map .int ∧ ys = b.map .int ∧ (∀ i ∈ a, small64 i = true) ∧ xs.map intOf = a ∧ ys.map intOf = b := by
  rw [List.all_eq_true] at h
  have h1 := intsD_of (xs := xs) fun x hx => isW_int (h x (List.mem_append_left _ hx))
  have h2 := intsD_of (xs := ys) fun x hx => isW_int (h x (List.mem_append_right _ hx))
  refine ⟨xs.map intOf, ys.map intOf, h1, h2, fun i hi => ?_, rfl, rfl⟩
  obtain ⟨x, hx, rfl⟩ := List.mem_map.mp hi
  obtain ⟨j, rfl⟩ := isW_ex (h x (List.mem_append_left _ hx))
  exact small_W rfl (h _ (List.mem_append_left _ hx))
theorem m132 (h1 : P 1 = some d1) (h2 : P 2 = some d2) (h3 : P 3 = some d3) (h129 : P 129 = some d129) (h130 : P 130 = some d130) (h132 : P 132 = some d132) (k : Nat) {Q C : Nat} {ns : List Need} (hQ : Q ≤ 1000) (hC : C ≤ 1000) (hn : ∀ n ∈ ns, n.1 < Q ∧ n.2.1 < Q) (v : PD) : evF P (k + 3) (.fn 132) [.d (bookD Q C ns), .d v] s = .ok (.d (.bool (fitsP Q C ns v))) s := by
  rw [ev_call h132 rfl rfl]
  by_cases h : isT v 2 2 = true
  · obtain ⟨a, b, rfl⟩ := tup2 h
    by_cases ha : isT a C C = true
    · obtain ⟨xs, rfl, hx⟩ := isT_nat.mp ha
      by_cases hb : isT b Q Q = true
      · obtain ⟨ys, rfl, hy⟩ := isT_nat.mp hb
        have hl : xs.length + ys.length ≤ LINE := by unfold LINE; omega
        by_cases hw : ((xs ++ ys).all fun x => isW x (-1000) 1000) = true
        · obtain ⟨as, bs, e1, e2, hs, e3, e4⟩ := pace_ints hw
          have hF : fitsP Q C ns (.tuple [.tuple xs, .tuple ys]) = ns.all fun n => decide (1 ≤ lag as bs n) := by
            simp only [fitsP, hx, hy, hw, e3, e4, decide_true, Bool.true_and]
          rw [hF]
          have e5 := m3 (s := s) h1 h3 (k := k) (.tuple (xs ++ ys)) (xs := xs ++ ys) rfl (-1000) 1000
          rw [hw] at e5
          simp -implicitDefEqProofs only [wp_ok, wp_bind, wp_calm, startE, evSs, evS, evAnd, evOr, evC, evE, evL, evT, views, pures, walks, wipeE, bind_ok, bind_exc, wcalm_ok, biD, cmp_eq_int, cmp_ne_int, view_d, view_bor, view_loc, pure_d, boolR_d, dR_some, dR_none, retW_d, retW_loc, retW_fn, finF_ret, finF_nx, eltR_d, asgW_nm, nameW_d, nameW_loc, nameW_fn, flO_some, asgW_tu, asgT_nm, asgT_tu, asgT_tul, asgT_tt, asgTs_nil, asgTs_cons, biR_1, biR_bor, biR_2, biR_scr, isiR_d, itO_some, itR_1, itR_bor, itR_2, itD_seq, itD_rng1, itD_rng2, it_zip_tt, it_zip_tl, it_zip_lt, it_zip_ll, it_enum_t, it_enum_l, items_l, items_t, cmpW_dd, cmpW_bd, cmpW_db, cmp_lt, cmp_gt, ltD_int, cmp_le, cmp_ge, cmp_isN, cmp_isnotN, cmp_isB, cmp_isnotB, bin_add, bin_sub, bin_mul, bin_fdiv, bin_mod, bin_pow, add_int, subt_int, add_l, add_t, mod_int, sub_l, sub_t, slc_l, slc_t, bndR_nil, bndR_1, at_0, at_1, at_2, len_l, len_t, none_n, none_i, none_b, none_t, none_l, isi_ii, isi_bi, isi_ib, isi_bb, isi_t, isTupD_t, isTupD_l, isTupD_i, isTupD_n, isTupD_b, max_l, tuple_l, tuple_t, list_l, list_t, int_i, all_l, any_l, sum_l, d132]
          simp -implicitDefEqProofs [wp_ok, wp_bind, wp_calm, startE, evSs, evS, evAnd, evOr, evC, evE, evL, evT, views, pures, walks, wipeE, bind_ok, bind_exc, wcalm_ok, biD, cmp_eq_int, cmp_ne_int, view_d, view_bor, view_loc, pure_d, boolR_d, dR_some, dR_none, retW_d, retW_loc, retW_fn, finF_ret, finF_nx, eltR_d, asgW_nm, nameW_d, nameW_loc, nameW_fn, flO_some, asgW_tu, asgT_nm, asgT_tu, asgT_tul, asgT_tt, asgTs_nil, asgTs_cons, biR_1, biR_bor, biR_2, biR_scr, isiR_d, itO_some, itR_1, itR_bor, itR_2, itD_seq, itD_rng1, itD_rng2, it_zip_tt, it_zip_tl, it_zip_lt, it_zip_ll, it_enum_t, it_enum_l, items_l, items_t, cmpW_dd, cmpW_bd, cmpW_db, cmp_lt, cmp_gt, ltD_int, cmp_le, cmp_ge, cmp_isN, cmp_isnotN, cmp_isB, cmp_isnotB, bin_add, bin_sub, bin_mul, bin_fdiv, bin_mod, bin_pow, add_int, subt_int, add_l, add_t, mod_int, sub_l, sub_t, slc_l, slc_t, bndR_nil, bndR_1, at_0, at_1, at_2, len_l, len_t, none_n, none_i, none_b, none_t, none_l, isi_ii, isi_bi, isi_ib, isi_bb, isi_t, isTupD_t, isTupD_l, isTupD_i, isTupD_n, isTupD_b, max_l, tuple_l, tuple_t, list_l, list_t, int_i, all_l, any_l, sum_l, m2 h2, h, bookD, ha, hb, hl, e5]
          subst e1 e2
          rw [lcGo_all nD (fun n => .bool (decide (1 ≤ lag as bs n)))]
          · simp -implicitDefEqProofs [wp_ok, wp_bind, wp_calm, startE, evSs, evS, evAnd, evOr, evC, evE, evL, evT, views, pures, walks, wipeE, bind_ok, bind_exc, wcalm_ok, biD, cmp_eq_int, cmp_ne_int, view_d, view_bor, view_loc, pure_d, boolR_d, dR_some, dR_none, retW_d, retW_loc, retW_fn, finF_ret, finF_nx, eltR_d, asgW_nm, nameW_d, nameW_loc, nameW_fn, flO_some, asgW_tu, asgT_nm, asgT_tu, asgT_tul, asgT_tt, asgTs_nil, asgTs_cons, biR_1, biR_bor, biR_2, biR_scr, isiR_d, itO_some, itR_1, itR_bor, itR_2, itD_seq, itD_rng1, itD_rng2, it_zip_tt, it_zip_tl, it_zip_lt, it_zip_ll, it_enum_t, it_enum_l, items_l, items_t, cmpW_dd, cmpW_bd, cmpW_db, cmp_lt, cmp_gt, ltD_int, cmp_le, cmp_ge, cmp_isN, cmp_isnotN, cmp_isB, cmp_isnotB, bin_add, bin_sub, bin_mul, bin_fdiv, bin_mod, bin_pow, add_int, subt_int, add_l, add_t, mod_int, sub_l, sub_t, slc_l, slc_t, bndR_nil, bndR_1, at_0, at_1, at_2, len_l, len_t, none_n, none_i, none_b, none_t, none_l, isi_ii, isi_bi, isi_ib, isi_bb, isi_t, isTupD_t, isTupD_l, isTupD_i, isTupD_n, isTupD_b, max_l, tuple_l, tuple_t, list_l, list_t, int_i, all_l, any_l, sum_l, bools_map]
          · intro n hn'
            obtain ⟨q1, q2⟩ := hn n hn'
            refine ⟨_, rfl, rfl, ?_⟩
            have hbl : bs.length = Q := by simpa using hy
            simp -implicitDefEqProofs [wp_ok, wp_bind, wp_calm, startE, evSs, evS, evAnd, evOr, evC, evE, evL, evT, views, pures, walks, wipeE, bind_ok, bind_exc, wcalm_ok, biD, cmp_eq_int, cmp_ne_int, view_d, view_bor, view_loc, pure_d, boolR_d, dR_some, dR_none, retW_d, retW_loc, retW_fn, finF_ret, finF_nx, eltR_d, asgW_nm, nameW_d, nameW_loc, nameW_fn, flO_some, asgW_tu, asgT_nm, asgT_tu, asgT_tul, asgT_tt, asgTs_nil, asgTs_cons, biR_1, biR_bor, biR_2, biR_scr, isiR_d, itO_some, itR_1, itR_bor, itR_2, itD_seq, itD_rng1, itD_rng2, it_zip_tt, it_zip_tl, it_zip_lt, it_zip_ll, it_enum_t, it_enum_l, items_l, items_t, cmpW_dd, cmpW_bd, cmpW_db, cmp_lt, cmp_gt, ltD_int, cmp_le, cmp_ge, cmp_isN, cmp_isnotN, cmp_isB, cmp_isnotB, bin_add, bin_sub, bin_mul, bin_fdiv, bin_mod, bin_pow, add_int, subt_int, add_l, add_t, mod_int, sub_l, sub_t, slc_l, slc_t, bndR_nil, bndR_1, at_0, at_1, at_2, len_l, len_t, none_n, none_i, none_b, none_t, none_l, isi_ii, isi_bi, isi_ib, isi_bb, isi_t, isTupD_t, isTupD_l, isTupD_i, isTupD_n, isTupD_b, max_l, tuple_l, tuple_t, list_l, list_t, int_i, all_l, any_l, sum_l, m130 h129 h130 _ (by omega : n.1 < bs.length) (by omega : n.2.1 < bs.length) hs]
        · simp only [Bool.not_eq_true] at hw
          have hF : fitsP Q C ns (.tuple [.tuple xs, .tuple ys]) = false := by
            simp only [fitsP, hw, Bool.false_and, Bool.and_false]
          rw [hF]
          have e5 := m3 (s := s) h1 h3 (k := k) (.tuple (xs ++ ys)) (xs := xs ++ ys) rfl (-1000) 1000
          rw [hw] at e5
          simp -implicitDefEqProofs only [wp_ok, wp_bind, wp_calm, startE, evSs, evS, evAnd, evOr, evC, evE, evL, evT, views, pures, walks, wipeE, bind_ok, bind_exc, wcalm_ok, biD, cmp_eq_int, cmp_ne_int, view_d, view_bor, view_loc, pure_d, boolR_d, dR_some, dR_none, retW_d, retW_loc, retW_fn, finF_ret, finF_nx, eltR_d, asgW_nm, nameW_d, nameW_loc, nameW_fn, flO_some, asgW_tu, asgT_nm, asgT_tu, asgT_tul, asgT_tt, asgTs_nil, asgTs_cons, biR_1, biR_bor, biR_2, biR_scr, isiR_d, itO_some, itR_1, itR_bor, itR_2, itD_seq, itD_rng1, itD_rng2, it_zip_tt, it_zip_tl, it_zip_lt, it_zip_ll, it_enum_t, it_enum_l, items_l, items_t, cmpW_dd, cmpW_bd, cmpW_db, cmp_lt, cmp_gt, ltD_int, cmp_le, cmp_ge, cmp_isN, cmp_isnotN, cmp_isB, cmp_isnotB, bin_add, bin_sub, bin_mul, bin_fdiv, bin_mod, bin_pow, add_int, subt_int, add_l, add_t, mod_int, sub_l, sub_t, slc_l, slc_t, bndR_nil, bndR_1, at_0, at_1, at_2, len_l, len_t, none_n, none_i, none_b, none_t, none_l, isi_ii, isi_bi, isi_ib, isi_bb, isi_t, isTupD_t, isTupD_l, isTupD_i, isTupD_n, isTupD_b, max_l, tuple_l, tuple_t, list_l, list_t, int_i, all_l, any_l, sum_l, d132]
          simp -implicitDefEqProofs [wp_ok, wp_bind, wp_calm, startE, evSs, evS, evAnd, evOr, evC, evE, evL, evT, views, pures, walks, wipeE, bind_ok, bind_exc, wcalm_ok, biD, cmp_eq_int, cmp_ne_int, view_d, view_bor, view_loc, pure_d, boolR_d, dR_some, dR_none, retW_d, retW_loc, retW_fn, finF_ret, finF_nx, eltR_d, asgW_nm, nameW_d, nameW_loc, nameW_fn, flO_some, asgW_tu, asgT_nm, asgT_tu, asgT_tul, asgT_tt, asgTs_nil, asgTs_cons, biR_1, biR_bor, biR_2, biR_scr, isiR_d, itO_some, itR_1, itR_bor, itR_2, itD_seq, itD_rng1, itD_rng2, it_zip_tt, it_zip_tl, it_zip_lt, it_zip_ll, it_enum_t, it_enum_l, items_l, items_t, cmpW_dd, cmpW_bd, cmpW_db, cmp_lt, cmp_gt, ltD_int, cmp_le, cmp_ge, cmp_isN, cmp_isnotN, cmp_isB, cmp_isnotB, bin_add, bin_sub, bin_mul, bin_fdiv, bin_mod, bin_pow, add_int, subt_int, add_l, add_t, mod_int, sub_l, sub_t, slc_l, slc_t, bndR_nil, bndR_1, at_0, at_1, at_2, len_l, len_t, none_n, none_i, none_b, none_t, none_l, isi_ii, isi_bi, isi_ib, isi_bb, isi_t, isTupD_t, isTupD_l, isTupD_i, isTupD_n, isTupD_b, max_l, tuple_l, tuple_t, list_l, list_t, int_i, all_l, any_l, sum_l, m2 h2, h, bookD, ha, hb, hl, e5]
      · have hF : fitsP Q C ns (.tuple [.tuple xs, b]) = false := by
          unfold fitsP
          split
          · rename_i e
            cases e
            have : ¬ (_ = Q) := fun e => hb (isT_nat.mpr ⟨_, rfl, e⟩)
            simp [this]
          · rfl
        rw [hF]
        simp -implicitDefEqProofs only [wp_ok, wp_bind, wp_calm, startE, evSs, evS, evAnd, evOr, evC, evE, evL, evT, views, pures, walks, wipeE, bind_ok, bind_exc, wcalm_ok, biD, cmp_eq_int, cmp_ne_int, view_d, view_bor, view_loc, pure_d, boolR_d, dR_some, dR_none, retW_d, retW_loc, retW_fn, finF_ret, finF_nx, eltR_d, asgW_nm, nameW_d, nameW_loc, nameW_fn, flO_some, asgW_tu, asgT_nm, asgT_tu, asgT_tul, asgT_tt, asgTs_nil, asgTs_cons, biR_1, biR_bor, biR_2, biR_scr, isiR_d, itO_some, itR_1, itR_bor, itR_2, itD_seq, itD_rng1, itD_rng2, it_zip_tt, it_zip_tl, it_zip_lt, it_zip_ll, it_enum_t, it_enum_l, items_l, items_t, cmpW_dd, cmpW_bd, cmpW_db, cmp_lt, cmp_gt, ltD_int, cmp_le, cmp_ge, cmp_isN, cmp_isnotN, cmp_isB, cmp_isnotB, bin_add, bin_sub, bin_mul, bin_fdiv, bin_mod, bin_pow, add_int, subt_int, add_l, add_t, mod_int, sub_l, sub_t, slc_l, slc_t, bndR_nil, bndR_1, at_0, at_1, at_2, len_l, len_t, none_n, none_i, none_b, none_t, none_l, isi_ii, isi_bi, isi_ib, isi_bb, isi_t, isTupD_t, isTupD_l, isTupD_i, isTupD_n, isTupD_b, max_l, tuple_l, tuple_t, list_l, list_t, int_i, all_l, any_l, sum_l, d132]
        simp -implicitDefEqProofs [wp_ok, wp_bind, wp_calm, startE, evSs, evS, evAnd, evOr, evC, evE, evL, evT, views, pures, walks, wipeE, bind_ok, bind_exc, wcalm_ok, biD, cmp_eq_int, cmp_ne_int, view_d, view_bor, view_loc, pure_d, boolR_d, dR_some, dR_none, retW_d, retW_loc, retW_fn, finF_ret, finF_nx, eltR_d, asgW_nm, nameW_d, nameW_loc, nameW_fn, flO_some, asgW_tu, asgT_nm, asgT_tu, asgT_tul, asgT_tt, asgTs_nil, asgTs_cons, biR_1, biR_bor, biR_2, biR_scr, isiR_d, itO_some, itR_1, itR_bor, itR_2, itD_seq, itD_rng1, itD_rng2, it_zip_tt, it_zip_tl, it_zip_lt, it_zip_ll, it_enum_t, it_enum_l, items_l, items_t, cmpW_dd, cmpW_bd, cmpW_db, cmp_lt, cmp_gt, ltD_int, cmp_le, cmp_ge, cmp_isN, cmp_isnotN, cmp_isB, cmp_isnotB, bin_add, bin_sub, bin_mul, bin_fdiv, bin_mod, bin_pow, add_int, subt_int, add_l, add_t, mod_int, sub_l, sub_t, slc_l, slc_t, bndR_nil, bndR_1, at_0, at_1, at_2, len_l, len_t, none_n, none_i, none_b, none_t, none_l, isi_ii, isi_bi, isi_ib, isi_bb, isi_t, isTupD_t, isTupD_l, isTupD_i, isTupD_n, isTupD_b, max_l, tuple_l, tuple_t, list_l, list_t, int_i, all_l, any_l, sum_l, m2 h2, h, bookD, ha, hb]
    · have hF : fitsP Q C ns (.tuple [a, b]) = false := by
        unfold fitsP
        split
        · rename_i e
          cases e
          have : ¬ (_ = C) := fun e => ha (isT_nat.mpr ⟨_, rfl, e⟩)
          simp [this]
        · rfl
      rw [hF]
      simp -implicitDefEqProofs only [wp_ok, wp_bind, wp_calm, startE, evSs, evS, evAnd, evOr, evC, evE, evL, evT, views, pures, walks, wipeE, bind_ok, bind_exc, wcalm_ok, biD, cmp_eq_int, cmp_ne_int, view_d, view_bor, view_loc, pure_d, boolR_d, dR_some, dR_none, retW_d, retW_loc, retW_fn, finF_ret, finF_nx, eltR_d, asgW_nm, nameW_d, nameW_loc, nameW_fn, flO_some, asgW_tu, asgT_nm, asgT_tu, asgT_tul, asgT_tt, asgTs_nil, asgTs_cons, biR_1, biR_bor, biR_2, biR_scr, isiR_d, itO_some, itR_1, itR_bor, itR_2, itD_seq, itD_rng1, itD_rng2, it_zip_tt, it_zip_tl, it_zip_lt, it_zip_ll, it_enum_t, it_enum_l, items_l, items_t, cmpW_dd, cmpW_bd, cmpW_db, cmp_lt, cmp_gt, ltD_int, cmp_le, cmp_ge, cmp_isN, cmp_isnotN, cmp_isB, cmp_isnotB, bin_add, bin_sub, bin_mul, bin_fdiv, bin_mod, bin_pow, add_int, subt_int, add_l, add_t, mod_int, sub_l, sub_t, slc_l, slc_t, bndR_nil, bndR_1, at_0, at_1, at_2, len_l, len_t, none_n, none_i, none_b, none_t, none_l, isi_ii, isi_bi, isi_ib, isi_bb, isi_t, isTupD_t, isTupD_l, isTupD_i, isTupD_n, isTupD_b, max_l, tuple_l, tuple_t, list_l, list_t, int_i, all_l, any_l, sum_l, d132]
      simp -implicitDefEqProofs [wp_ok, wp_bind, wp_calm, startE, evSs, evS, evAnd, evOr, evC, evE, evL, evT, views, pures, walks, wipeE, bind_ok, bind_exc, wcalm_ok, biD, cmp_eq_int, cmp_ne_int, view_d, view_bor, view_loc, pure_d, boolR_d, dR_some, dR_none, retW_d, retW_loc, retW_fn, finF_ret, finF_nx, eltR_d, asgW_nm, nameW_d, nameW_loc, nameW_fn, flO_some, asgW_tu, asgT_nm, asgT_tu, asgT_tul, asgT_tt, asgTs_nil, asgTs_cons, biR_1, biR_bor, biR_2, biR_scr, isiR_d, itO_some, itR_1, itR_bor, itR_2, itD_seq, itD_rng1, itD_rng2, it_zip_tt, it_zip_tl, it_zip_lt, it_zip_ll, it_enum_t, it_enum_l, items_l, items_t, cmpW_dd, cmpW_bd, cmpW_db, cmp_lt, cmp_gt, ltD_int, cmp_le, cmp_ge, cmp_isN, cmp_isnotN, cmp_isB, cmp_isnotB, bin_add, bin_sub, bin_mul, bin_fdiv, bin_mod, bin_pow, add_int, subt_int, add_l, add_t, mod_int, sub_l, sub_t, slc_l, slc_t, bndR_nil, bndR_1, at_0, at_1, at_2, len_l, len_t, none_n, none_i, none_b, none_t, none_l, isi_ii, isi_bi, isi_ib, isi_bb, isi_t, isTupD_t, isTupD_l, isTupD_i, isTupD_n, isTupD_b, max_l, tuple_l, tuple_t, list_l, list_t, int_i, all_l, any_l, sum_l, m2 h2, h, bookD, ha]
  · have hF : fitsP Q C ns v = false := by
      unfold fitsP
      split
      · exact absurd rfl h
      · rfl
    rw [hF]
    simp -implicitDefEqProofs only [wp_ok, wp_bind, wp_calm, startE, evSs, evS, evAnd, evOr, evC, evE, evL, evT, views, pures, walks, wipeE, bind_ok, bind_exc, wcalm_ok, biD, cmp_eq_int, cmp_ne_int, view_d, view_bor, view_loc, pure_d, boolR_d, dR_some, dR_none, retW_d, retW_loc, retW_fn, finF_ret, finF_nx, eltR_d, asgW_nm, nameW_d, nameW_loc, nameW_fn, flO_some, asgW_tu, asgT_nm, asgT_tu, asgT_tul, asgT_tt, asgTs_nil, asgTs_cons, biR_1, biR_bor, biR_2, biR_scr, isiR_d, itO_some, itR_1, itR_bor, itR_2, itD_seq, itD_rng1, itD_rng2, it_zip_tt, it_zip_tl, it_zip_lt, it_zip_ll, it_enum_t, it_enum_l, items_l, items_t, cmpW_dd, cmpW_bd, cmpW_db, cmp_lt, cmp_gt, ltD_int, cmp_le, cmp_ge, cmp_isN, cmp_isnotN, cmp_isB, cmp_isnotB, bin_add, bin_sub, bin_mul, bin_fdiv, bin_mod, bin_pow, add_int, subt_int, add_l, add_t, mod_int, sub_l, sub_t, slc_l, slc_t, bndR_nil, bndR_1, at_0, at_1, at_2, len_l, len_t, none_n, none_i, none_b, none_t, none_l, isi_ii, isi_bi, isi_ib, isi_bb, isi_t, isTupD_t, isTupD_l, isTupD_i, isTupD_n, isTupD_b, max_l, tuple_l, tuple_t, list_l, list_t, int_i, all_l, any_l, sum_l, d132]
    simp -implicitDefEqProofs [wp_ok, wp_bind, wp_calm, startE, evSs, evS, evAnd, evOr, evC, evE, evL, evT, views, pures, walks, wipeE, bind_ok, bind_exc, wcalm_ok, biD, cmp_eq_int, cmp_ne_int, view_d, view_bor, view_loc, pure_d, boolR_d, dR_some, dR_none, retW_d, retW_loc, retW_fn, finF_ret, finF_nx, eltR_d, asgW_nm, nameW_d, nameW_loc, nameW_fn, flO_some, asgW_tu, asgT_nm, asgT_tu, asgT_tul, asgT_tt, asgTs_nil, asgTs_cons, biR_1, biR_bor, biR_2, biR_scr, isiR_d, itO_some, itR_1, itR_bor, itR_2, itD_seq, itD_rng1, itD_rng2, it_zip_tt, it_zip_tl, it_zip_lt, it_zip_ll, it_enum_t, it_enum_l, items_l, items_t, cmpW_dd, cmpW_bd, cmpW_db, cmp_lt, cmp_gt, ltD_int, cmp_le, cmp_ge, cmp_isN, cmp_isnotN, cmp_isB, cmp_isnotB, bin_add, bin_sub, bin_mul, bin_fdiv, bin_mod, bin_pow, add_int, subt_int, add_l, add_t, mod_int, sub_l, sub_t, slc_l, slc_t, bndR_nil, bndR_1, at_0, at_1, at_2, len_l, len_t, none_n, none_i, none_b, none_t, none_l, isi_ii, isi_bi, isi_ib, isi_bb, isi_t, isTupD_t, isTupD_l, isTupD_i, isTupD_n, isTupD_b, max_l, tuple_l, tuple_t, list_l, list_t, int_i, all_l, any_l, sum_l, m2 h2, h]

/-- a pace that fits: what it is -/
structure IsP (Q C : Nat) (ns : List Need) (a b : List Int) : Prop where
  la : a.length = C
  lb : b.length = Q
  ra : ∀ x ∈ a, -1000 ≤ x ∧ x ≤ 1000
  rb : ∀ x ∈ b, -1000 ≤ x ∧ x ≤ 1000
  lag : ∀ n ∈ ns, 1 ≤ lag a b n
theorem intOf_map (xs : List Int) : (xs.map PyData.int).map intOf = xs := by
  rw [List.map_map]
  exact (List.map_congr_left fun x _ => rfl).trans (List.map_id xs)
theorem fitsP_of {Q C : Nat} {ns : List Need} {a b : List Int} (h : IsP Q C ns a b) : fitsP Q C ns (paceD a b) = true := by
  obtain ⟨h1, h2, h3, h4, h5⟩ := h
  simp only [fitsP, intOf_map, Bool.and_eq_true, decide_eq_true_eq, List.length_map, List.all_eq_true, List.mem_append, List.mem_map]
  refine ⟨h1, h2, fun x hx => ?_, h5⟩
  rcases hx with ⟨i, hi, rfl⟩ | ⟨i, hi, rfl⟩
  · simpa [isW] using h3 i hi
  · simpa [isW] using h4 i hi
theorem IsP.small {Q C : Nat} {ns : List Need} {a b : List Int} (h : IsP Q C ns a b) : ∀ i ∈ a, small64 i = true := fun i hi => by
  have := h.ra i hi
  exact small_of (by omega) (by omega)
/-- the program's functions of paces, all that a law's own has -/
structure PaceF (P : Nat → Option Def) : Prop where
  h1 : P 1 = some d1
  h2 : P 2 = some d2
  h3 : P 3 = some d3
  h4 : P 4 = some d4
  h5 : P 5 = some d5
  h6 : P 6 = some d6
  h23 : P 23 = some d23
  h129 : P 129 = some d129
  h130 : P 130 = some d130
  h132 : P 132 = some d132
  h133 : P 133 = some d133
theorem IsB.qs {Q C : Nat} {ns : List Need} (h : IsB Q C ns) : ∀ n ∈ ns, n.1 < Q ∧ n.2.1 < Q := fun n hn => ⟨(h.fit n hn).a, (h.fit n hn).b⟩
theorem m133 (p : PaceF P) (k : Nat) {Q C : Nat} {ns : List Need} {a b : List Int} (hB : IsB Q C ns) (h : IsP Q C ns a b) : evF P (k + 4) (.fn 133) [.d (bookD Q C ns), .d (paceD a b)] s = .ok (.d .none) s := by
  rw [ev_call p.h133 rfl rfl]
  have e := m132 (s := s) p.h1 p.h2 p.h3 p.h129 p.h130 p.h132 k (Q := Q) (C := C) (ns := ns) (by have := hB.q3; omega) (by have := hB.c3; omega) hB.qs (paceD a b)
  rw [fitsP_of h] at e
  simp -implicitDefEqProofs only [wp_ok, wp_bind, wp_calm, startE, evSs, evS, evAnd, evOr, evC, evE, evL, evT, views, pures, walks, wipeE, bind_ok, bind_exc, wcalm_ok, biD, cmp_eq_int, cmp_ne_int, view_d, view_bor, view_loc, pure_d, boolR_d, dR_some, dR_none, retW_d, retW_loc, retW_fn, finF_ret, finF_nx, eltR_d, asgW_nm, nameW_d, nameW_loc, nameW_fn, flO_some, asgW_tu, asgT_nm, asgT_tu, asgT_tul, asgT_tt, asgTs_nil, asgTs_cons, biR_1, biR_bor, biR_2, biR_scr, isiR_d, itO_some, itR_1, itR_bor, itR_2, itD_seq, itD_rng1, itD_rng2, it_zip_tt, it_zip_tl, it_zip_lt, it_zip_ll, it_enum_t, it_enum_l, items_l, items_t, cmpW_dd, cmpW_bd, cmpW_db, cmp_lt, cmp_gt, ltD_int, cmp_le, cmp_ge, cmp_isN, cmp_isnotN, cmp_isB, cmp_isnotB, bin_add, bin_sub, bin_mul, bin_fdiv, bin_mod, bin_pow, add_int, subt_int, add_l, add_t, mod_int, sub_l, sub_t, slc_l, slc_t, bndR_nil, bndR_1, at_0, at_1, at_2, len_l, len_t, none_n, none_i, none_b, none_t, none_l, isi_ii, isi_bi, isi_ib, isi_bb, isi_t, isTupD_t, isTupD_l, isTupD_i, isTupD_n, isTupD_b, max_l, tuple_l, tuple_t, list_l, list_t, int_i, all_l, any_l, sum_l, d133]
  simp -implicitDefEqProofs [wp_ok, wp_bind, wp_calm, startE, evSs, evS, evAnd, evOr, evC, evE, evL, evT, views, pures, walks, wipeE, bind_ok, bind_exc, wcalm_ok, biD, cmp_eq_int, cmp_ne_int, view_d, view_bor, view_loc, pure_d, boolR_d, dR_some, dR_none, retW_d, retW_loc, retW_fn, finF_ret, finF_nx, eltR_d, asgW_nm, nameW_d, nameW_loc, nameW_fn, flO_some, asgW_tu, asgT_nm, asgT_tu, asgT_tul, asgT_tt, asgTs_nil, asgTs_cons, biR_1, biR_bor, biR_2, biR_scr, isiR_d, itO_some, itR_1, itR_bor, itR_2, itD_seq, itD_rng1, itD_rng2, it_zip_tt, it_zip_tl, it_zip_lt, it_zip_ll, it_enum_t, it_enum_l, items_l, items_t, cmpW_dd, cmpW_bd, cmpW_db, cmp_lt, cmp_gt, ltD_int, cmp_le, cmp_ge, cmp_isN, cmp_isnotN, cmp_isB, cmp_isnotB, bin_add, bin_sub, bin_mul, bin_fdiv, bin_mod, bin_pow, add_int, subt_int, add_l, add_t, mod_int, sub_l, sub_t, slc_l, slc_t, bndR_nil, bndR_1, at_0, at_1, at_2, len_l, len_t, none_n, none_i, none_b, none_t, none_l, isi_ii, isi_bi, isi_ib, isi_bb, isi_t, isTupD_t, isTupD_l, isTupD_i, isTupD_n, isTupD_b, max_l, tuple_l, tuple_t, list_l, list_t, int_i, all_l, any_l, sum_l, e]
theorem m139 (p : PaceF P) (h139 : P 139 = some d139) (k : Nat) {Q C : Nat} {ns : List Need} (hB : IsB Q C ns) (v : PD) : evF P (k + 6) (.fn 139) [.d (bookD Q C ns), .d v] s = .ok (.d (.bool (fitsP Q C ns v))) s := by
  rw [ev_call h139 rfl rfl]
  have e := m132 (s := s) p.h1 p.h2 p.h3 p.h129 p.h130 p.h132 (k + 2) (Q := Q) (C := C) (ns := ns) (by have := hB.q3; omega) (by have := hB.c3; omega) hB.qs v
  simp -implicitDefEqProofs only [wp_ok, wp_bind, wp_calm, startE, evSs, evS, evAnd, evOr, evC, evE, evL, evT, views, pures, walks, wipeE, bind_ok, bind_exc, wcalm_ok, biD, cmp_eq_int, cmp_ne_int, view_d, view_bor, view_loc, pure_d, boolR_d, dR_some, dR_none, retW_d, retW_loc, retW_fn, finF_ret, finF_nx, eltR_d, asgW_nm, nameW_d, nameW_loc, nameW_fn, flO_some, asgW_tu, asgT_nm, asgT_tu, asgT_tul, asgT_tt, asgTs_nil, asgTs_cons, biR_1, biR_bor, biR_2, biR_scr, isiR_d, itO_some, itR_1, itR_bor, itR_2, itD_seq, itD_rng1, itD_rng2, it_zip_tt, it_zip_tl, it_zip_lt, it_zip_ll, it_enum_t, it_enum_l, items_l, items_t, cmpW_dd, cmpW_bd, cmpW_db, cmp_lt, cmp_gt, ltD_int, cmp_le, cmp_ge, cmp_isN, cmp_isnotN, cmp_isB, cmp_isnotB, bin_add, bin_sub, bin_mul, bin_fdiv, bin_mod, bin_pow, add_int, subt_int, add_l, add_t, mod_int, sub_l, sub_t, slc_l, slc_t, bndR_nil, bndR_1, at_0, at_1, at_2, len_l, len_t, none_n, none_i, none_b, none_t, none_l, isi_ii, isi_bi, isi_ib, isi_bb, isi_t, isTupD_t, isTupD_l, isTupD_i, isTupD_n, isTupD_b, max_l, tuple_l, tuple_t, list_l, list_t, int_i, all_l, any_l, sum_l, d139]
  simp -implicitDefEqProofs [wp_ok, wp_bind, wp_calm, startE, evSs, evS, evAnd, evOr, evC, evE, evL, evT, views, pures, walks, wipeE, bind_ok, bind_exc, wcalm_ok, biD, cmp_eq_int, cmp_ne_int, view_d, view_bor, view_loc, pure_d, boolR_d, dR_some, dR_none, retW_d, retW_loc, retW_fn, finF_ret, finF_nx, eltR_d, asgW_nm, nameW_d, nameW_loc, nameW_fn, flO_some, asgW_tu, asgT_nm, asgT_tu, asgT_tul, asgT_tt, asgTs_nil, asgTs_cons, biR_1, biR_bor, biR_2, biR_scr, isiR_d, itO_some, itR_1, itR_bor, itR_2, itD_seq, itD_rng1, itD_rng2, it_zip_tt, it_zip_tl, it_zip_lt, it_zip_ll, it_enum_t, it_enum_l, items_l, items_t, cmpW_dd, cmpW_bd, cmpW_db, cmp_lt, cmp_gt, ltD_int, cmp_le, cmp_ge, cmp_isN, cmp_isnotN, cmp_isB, cmp_isnotB, bin_add, bin_sub, bin_mul, bin_fdiv, bin_mod, bin_pow, add_int, subt_int, add_l, add_t, mod_int, sub_l, sub_t, slc_l, slc_t, bndR_nil, bndR_1, at_0, at_1, at_2, len_l, len_t, none_n, none_i, none_b, none_t, none_l, isi_ii, isi_bi, isi_ib, isi_bb, isi_t, isTupD_t, isTupD_l, isTupD_i, isTupD_n, isTupD_b, max_l, tuple_l, tuple_t, list_l, list_t, int_i, all_l, any_l, sum_l, m23 p.h1 p.h2 p.h3 p.h4 p.h5 p.h6 p.h23 k hB, e]
theorem m140 (p : PaceF P) (h140 : P 140 = some d140) (k : Nat) {Q C : Nat} {ns : List Need} {a b : List Int} (hB : IsB Q C ns) (h : IsP Q C ns a b) : evF P (k + 6) (.fn 140) [.d (bookD Q C ns), .d (paceD a b)] s = .ok (.d (tInts (ns.map (lag a b)))) s := by
  rw [ev_call h140 rfl rfl]
  have e := m23 (s := s) p.h1 p.h2 p.h3 p.h4 p.h5 p.h6 p.h23 k hB
  simp -implicitDefEqProofs only [wp_ok, wp_bind, wp_calm, startE, evSs, evS, evAnd, evOr, evC, evE, evL, evT, views, pures, walks, wipeE, bind_ok, bind_exc, wcalm_ok, biD, cmp_eq_int, cmp_ne_int, view_d, view_bor, view_loc, pure_d, boolR_d, dR_some, dR_none, retW_d, retW_loc, retW_fn, finF_ret, finF_nx, eltR_d, asgW_nm, nameW_d, nameW_loc, nameW_fn, flO_some, asgW_tu, asgT_nm, asgT_tu, asgT_tul, asgT_tt, asgTs_nil, asgTs_cons, biR_1, biR_bor, biR_2, biR_scr, isiR_d, itO_some, itR_1, itR_bor, itR_2, itD_seq, itD_rng1, itD_rng2, it_zip_tt, it_zip_tl, it_zip_lt, it_zip_ll, it_enum_t, it_enum_l, items_l, items_t, cmpW_dd, cmpW_bd, cmpW_db, cmp_lt, cmp_gt, ltD_int, cmp_le, cmp_ge, cmp_isN, cmp_isnotN, cmp_isB, cmp_isnotB, bin_add, bin_sub, bin_mul, bin_fdiv, bin_mod, bin_pow, add_int, subt_int, add_l, add_t, mod_int, sub_l, sub_t, slc_l, slc_t, bndR_nil, bndR_1, at_0, at_1, at_2, len_l, len_t, none_n, none_i, none_b, none_t, none_l, isi_ii, isi_bi, isi_ib, isi_bb, isi_t, isTupD_t, isTupD_l, isTupD_i, isTupD_n, isTupD_b, max_l, tuple_l, tuple_t, list_l, list_t, int_i, all_l, any_l, sum_l, d140]
  simp -implicitDefEqProofs [wp_ok, wp_bind, wp_calm, startE, evSs, evS, evAnd, evOr, evC, evE, evL, evT, views, pures, walks, wipeE, bind_ok, bind_exc, wcalm_ok, biD, cmp_eq_int, cmp_ne_int, view_d, view_bor, view_loc, pure_d, boolR_d, dR_some, dR_none, retW_d, retW_loc, retW_fn, finF_ret, finF_nx, eltR_d, asgW_nm, nameW_d, nameW_loc, nameW_fn, flO_some, asgW_tu, asgT_nm, asgT_tu, asgT_tul, asgT_tt, asgTs_nil, asgTs_cons, biR_1, biR_bor, biR_2, biR_scr, isiR_d, itO_some, itR_1, itR_bor, itR_2, itD_seq, itD_rng1, itD_rng2, it_zip_tt, it_zip_tl, it_zip_lt, it_zip_ll, it_enum_t, it_enum_l, items_l, items_t, cmpW_dd, cmpW_bd, cmpW_db, cmp_lt, cmp_gt, ltD_int, cmp_le, cmp_ge, cmp_isN, cmp_isnotN, cmp_isB, cmp_isnotB, bin_add, bin_sub, bin_mul, bin_fdiv, bin_mod, bin_pow, add_int, subt_int, add_l, add_t, mod_int, sub_l, sub_t, slc_l, slc_t, bndR_nil, bndR_1, at_0, at_1, at_2, len_l, len_t, none_n, none_i, none_b, none_t, none_l, isi_ii, isi_bi, isi_ib, isi_bb, isi_t, isTupD_t, isTupD_l, isTupD_i, isTupD_n, isTupD_b, max_l, tuple_l, tuple_t, list_l, list_t, int_i, all_l, any_l, sum_l, e, m133 p (k + 1) hB h]
  rw [show (bookD Q C ns) = .tuple [.int Q, .int C, .tuple (ns.map nD)] from rfl]
  simp -implicitDefEqProofs [wp_ok, wp_bind, wp_calm, startE, evSs, evS, evAnd, evOr, evC, evE, evL, evT, views, pures, walks, wipeE, bind_ok, bind_exc, wcalm_ok, biD, cmp_eq_int, cmp_ne_int, view_d, view_bor, view_loc, pure_d, boolR_d, dR_some, dR_none, retW_d, retW_loc, retW_fn, finF_ret, finF_nx, eltR_d, asgW_nm, nameW_d, nameW_loc, nameW_fn, flO_some, asgW_tu, asgT_nm, asgT_tu, asgT_tul, asgT_tt, asgTs_nil, asgTs_cons, biR_1, biR_bor, biR_2, biR_scr, isiR_d, itO_some, itR_1, itR_bor, itR_2, itD_seq, itD_rng1, itD_rng2, it_zip_tt, it_zip_tl, it_zip_lt, it_zip_ll, it_enum_t, it_enum_l, items_l, items_t, cmpW_dd, cmpW_bd, cmpW_db, cmp_lt, cmp_gt, ltD_int, cmp_le, cmp_ge, cmp_isN, cmp_isnotN, cmp_isB, cmp_isnotB, bin_add, bin_sub, bin_mul, bin_fdiv, bin_mod, bin_pow, add_int, subt_int, add_l, add_t, mod_int, sub_l, sub_t, slc_l, slc_t, bndR_nil, bndR_1, at_0, at_1, at_2, len_l, len_t, none_n, none_i, none_b, none_t, none_l, isi_ii, isi_bi, isi_ib, isi_bb, isi_t, isTupD_t, isTupD_l, isTupD_i, isTupD_n, isTupD_b, max_l, tuple_l, tuple_t, list_l, list_t, int_i, all_l, any_l, sum_l]
  rw [lcGo_all nD (fun n => .int (lag a b n))]
  · simp -implicitDefEqProofs [wp_ok, wp_bind, wp_calm, startE, evSs, evS, evAnd, evOr, evC, evE, evL, evT, views, pures, walks, wipeE, bind_ok, bind_exc, wcalm_ok, biD, cmp_eq_int, cmp_ne_int, view_d, view_bor, view_loc, pure_d, boolR_d, dR_some, dR_none, retW_d, retW_loc, retW_fn, finF_ret, finF_nx, eltR_d, asgW_nm, nameW_d, nameW_loc, nameW_fn, flO_some, asgW_tu, asgT_nm, asgT_tu, asgT_tul, asgT_tt, asgTs_nil, asgTs_cons, biR_1, biR_bor, biR_2, biR_scr, isiR_d, itO_some, itR_1, itR_bor, itR_2, itD_seq, itD_rng1, itD_rng2, it_zip_tt, it_zip_tl, it_zip_lt, it_zip_ll, it_enum_t, it_enum_l, items_l, items_t, cmpW_dd, cmpW_bd, cmpW_db, cmp_lt, cmp_gt, ltD_int, cmp_le, cmp_ge, cmp_isN, cmp_isnotN, cmp_isB, cmp_isnotB, bin_add, bin_sub, bin_mul, bin_fdiv, bin_mod, bin_pow, add_int, subt_int, add_l, add_t, mod_int, sub_l, sub_t, slc_l, slc_t, bndR_nil, bndR_1, at_0, at_1, at_2, len_l, len_t, none_n, none_i, none_b, none_t, none_l, isi_ii, isi_bi, isi_ib, isi_bb, isi_t, isTupD_t, isTupD_l, isTupD_i, isTupD_n, isTupD_b, max_l, tuple_l, tuple_t, list_l, list_t, int_i, all_l, any_l, sum_l]
  · intro n hn
    have q := hB.qs n hn
    refine ⟨_, rfl, rfl, ?_⟩
    simp -implicitDefEqProofs [wp_ok, wp_bind, wp_calm, startE, evSs, evS, evAnd, evOr, evC, evE, evL, evT, views, pures, walks, wipeE, bind_ok, bind_exc, wcalm_ok, biD, cmp_eq_int, cmp_ne_int, view_d, view_bor, view_loc, pure_d, boolR_d, dR_some, dR_none, retW_d, retW_loc, retW_fn, finF_ret, finF_nx, eltR_d, asgW_nm, nameW_d, nameW_loc, nameW_fn, flO_some, asgW_tu, asgT_nm, asgT_tu, asgT_tul, asgT_tt, asgTs_nil, asgTs_cons, biR_1, biR_bor, biR_2, biR_scr, isiR_d, itO_some, itR_1, itR_bor, itR_2, itD_seq, itD_rng1, itD_rng2, it_zip_tt, it_zip_tl, it_zip_lt, it_zip_ll, it_enum_t, it_enum_l, items_l, items_t, cmpW_dd, cmpW_bd, cmpW_db, cmp_lt, cmp_gt, ltD_int, cmp_le, cmp_ge, cmp_isN, cmp_isnotN, cmp_isB, cmp_isnotB, bin_add, bin_sub, bin_mul, bin_fdiv, bin_mod, bin_pow, add_int, subt_int, add_l, add_t, mod_int, sub_l, sub_t, slc_l, slc_t, bndR_nil, bndR_1, at_0, at_1, at_2, len_l, len_t, none_n, none_i, none_b, none_t, none_l, isi_ii, isi_bi, isi_ib, isi_bb, isi_t, isTupD_t, isTupD_l, isTupD_i, isTupD_n, isTupD_b, max_l, tuple_l, tuple_t, list_l, list_t, int_i, all_l, any_l, sum_l, m130 p.h129 p.h130 (k + 3) (n := n) (by rw [h.lb]; exact q.1) (by rw [h.lb]; exact q.2) h.small]
/-! ### times kept -/
def usesOf (ns : List Need) (q : Nat) : List (Need × Nat) := ns.zipIdx.filter fun p => decide (p.1.2.1 = q)
theorem uses_mem {ns : List Need} {q : Nat} {p : Need × Nat} (h : p ∈ usesOf ns q) : p.2 < ns.length ∧ ns[p.2]? = some p.1 ∧ p.1 ∈ ns ∧ p.1.2.1 = q := by
  obtain ⟨h1, h2⟩ := List.mem_filter.mp h
  have h3 := List.mem_zipIdx h1
  have h4 : p.2 < ns.length := by omega
  refine ⟨h4, ?_, ?_, by simpa using h2⟩
  · rw [List.getElem?_eq_getElem h4, h3.2.2]
    simp
  · rw [h3.2.2]
    exact List.getElem_mem _
theorem enum_needs (ns : List Need) : enumD 0 (ns.map nD) = ns.zipIdx.map fun p => .tuple [.int p.2, nD p.1] := enumD_map _ _ _
theorem m131 (h131 : P 131 = some d131) (k : Nat) (Q C : Nat) (ns : List Need) (q : Nat) : evF P (k + 1) (.fn 131) [.d (bookD Q C ns), .d (.int q)] s = .ok (.d (.list ((usesOf ns q).map fun p => .int p.2))) s := by
  rw [ev_call h131 rfl rfl]
  simp -implicitDefEqProofs only [wp_ok, wp_bind, wp_calm, startE, evSs, evS, evAnd, evOr, evC, evE, evL, evT, views, pures, walks, wipeE, bind_ok, bind_exc, wcalm_ok, biD, cmp_eq_int, cmp_ne_int, view_d, view_bor, view_loc, pure_d, boolR_d, dR_some, dR_none, retW_d, retW_loc, retW_fn, finF_ret, finF_nx, eltR_d, asgW_nm, nameW_d, nameW_loc, nameW_fn, flO_some, asgW_tu, asgT_nm, asgT_tu, asgT_tul, asgT_tt, asgTs_nil, asgTs_cons, biR_1, biR_bor, biR_2, biR_scr, isiR_d, itO_some, itR_1, itR_bor, itR_2, itD_seq, itD_rng1, itD_rng2, it_zip_tt, it_zip_tl, it_zip_lt, it_zip_ll, it_enum_t, it_enum_l, items_l, items_t, cmpW_dd, cmpW_bd, cmpW_db, cmp_lt, cmp_gt, ltD_int, cmp_le, cmp_ge, cmp_isN, cmp_isnotN, cmp_isB, cmp_isnotB, bin_add, bin_sub, bin_mul, bin_fdiv, bin_mod, bin_pow, add_int, subt_int, add_l, add_t, mod_int, sub_l, sub_t, slc_l, slc_t, bndR_nil, bndR_1, at_0, at_1, at_2, len_l, len_t, none_n, none_i, none_b, none_t, none_l, isi_ii, isi_bi, isi_ib, isi_bb, isi_t, isTupD_t, isTupD_l, isTupD_i, isTupD_n, isTupD_b, max_l, tuple_l, tuple_t, list_l, list_t, int_i, all_l, any_l, sum_l, d131]
  rw [show (bookD Q C ns) = .tuple [.int Q, .int C, .tuple (ns.map nD)] from rfl]
  simp -implicitDefEqProofs [wp_ok, wp_bind, wp_calm, startE, evSs, evS, evAnd, evOr, evC, evE, evL, evT, views, pures, walks, wipeE, bind_ok, bind_exc, wcalm_ok, biD, cmp_eq_int, cmp_ne_int, view_d, view_bor, view_loc, pure_d, boolR_d, dR_some, dR_none, retW_d, retW_loc, retW_fn, finF_ret, finF_nx, eltR_d, asgW_nm, nameW_d, nameW_loc, nameW_fn, flO_some, asgW_tu, asgT_nm, asgT_tu, asgT_tul, asgT_tt, asgTs_nil, asgTs_cons, biR_1, biR_bor, biR_2, biR_scr, isiR_d, itO_some, itR_1, itR_bor, itR_2, itD_seq, itD_rng1, itD_rng2, it_zip_tt, it_zip_tl, it_zip_lt, it_zip_ll, it_enum_t, it_enum_l, items_l, items_t, cmpW_dd, cmpW_bd, cmpW_db, cmp_lt, cmp_gt, ltD_int, cmp_le, cmp_ge, cmp_isN, cmp_isnotN, cmp_isB, cmp_isnotB, bin_add, bin_sub, bin_mul, bin_fdiv, bin_mod, bin_pow, add_int, subt_int, add_l, add_t, mod_int, sub_l, sub_t, slc_l, slc_t, bndR_nil, bndR_1, at_0, at_1, at_2, len_l, len_t, none_n, none_i, none_b, none_t, none_l, isi_ii, isi_bi, isi_ib, isi_bb, isi_t, isTupD_t, isTupD_l, isTupD_i, isTupD_n, isTupD_b, max_l, tuple_l, tuple_t, list_l, list_t, int_i, all_l, any_l, sum_l, enum_needs]
  rw [lcGo_enc (fun p : Need × Nat => .tuple [.int p.2, nD p.1]) (fun p => decide (p.1.2.1 = q)) (fun p => .int p.2)]
  · simp -implicitDefEqProofs [wp_ok, wp_bind, wp_calm, startE, evSs, evS, evAnd, evOr, evC, evE, evL, evT, views, pures, walks, wipeE, bind_ok, bind_exc, wcalm_ok, biD, cmp_eq_int, cmp_ne_int, view_d, view_bor, view_loc, pure_d, boolR_d, dR_some, dR_none, retW_d, retW_loc, retW_fn, finF_ret, finF_nx, eltR_d, asgW_nm, nameW_d, nameW_loc, nameW_fn, flO_some, asgW_tu, asgT_nm, asgT_tu, asgT_tul, asgT_tt, asgTs_nil, asgTs_cons, biR_1, biR_bor, biR_2, biR_scr, isiR_d, itO_some, itR_1, itR_bor, itR_2, itD_seq, itD_rng1, itD_rng2, it_zip_tt, it_zip_tl, it_zip_lt, it_zip_ll, it_enum_t, it_enum_l, items_l, items_t, cmpW_dd, cmpW_bd, cmpW_db, cmp_lt, cmp_gt, ltD_int, cmp_le, cmp_ge, cmp_isN, cmp_isnotN, cmp_isB, cmp_isnotB, bin_add, bin_sub, bin_mul, bin_fdiv, bin_mod, bin_pow, add_int, subt_int, add_l, add_t, mod_int, sub_l, sub_t, slc_l, slc_t, bndR_nil, bndR_1, at_0, at_1, at_2, len_l, len_t, none_n, none_i, none_b, none_t, none_l, isi_ii, isi_bi, isi_ib, isi_bb, isi_t, isTupD_t, isTupD_l, isTupD_i, isTupD_n, isTupD_b, max_l, tuple_l, tuple_t, list_l, list_t, int_i, all_l, any_l, sum_l, usesOf]
  · intro p hp
    refine ⟨_, rfl, ?_, fun _ => ?_⟩
    · simp -implicitDefEqProofs [wp_ok, wp_bind, wp_calm, startE, evSs, evS, evAnd, evOr, evC, evE, evL, evT, views, pures, walks, wipeE, bind_ok, bind_exc, wcalm_ok, biD, cmp_eq_int, cmp_ne_int, view_d, view_bor, view_loc, pure_d, boolR_d, dR_some, dR_none, retW_d, retW_loc, retW_fn, finF_ret, finF_nx, eltR_d, asgW_nm, nameW_d, nameW_loc, nameW_fn, flO_some, asgW_tu, asgT_nm, asgT_tu, asgT_tul, asgT_tt, asgTs_nil, asgTs_cons, biR_1, biR_bor, biR_2, biR_scr, isiR_d, itO_some, itR_1, itR_bor, itR_2, itD_seq, itD_rng1, itD_rng2, it_zip_tt, it_zip_tl, it_zip_lt, it_zip_ll, it_enum_t, it_enum_l, items_l, items_t, cmpW_dd, cmpW_bd, cmpW_db, cmp_lt, cmp_gt, ltD_int, cmp_le, cmp_ge, cmp_isN, cmp_isnotN, cmp_isB, cmp_isnotB, bin_add, bin_sub, bin_mul, bin_fdiv, bin_mod, bin_pow, add_int, subt_int, add_l, add_t, mod_int, sub_l, sub_t, slc_l, slc_t, bndR_nil, bndR_1, at_0, at_1, at_2, len_l, len_t, none_n, none_i, none_b, none_t, none_l, isi_ii, isi_bi, isi_ib, isi_bb, isi_t, isTupD_t, isTupD_l, isTupD_i, isTupD_n, isTupD_b, max_l, tuple_l, tuple_t, list_l, list_t, int_i, all_l, any_l, sum_l, nD]
      by_cases hq : p.1.2.1 = q
      · simp [hq]
      · have : ¬ ((p.1.2.1 : Int) = (q : Int)) := by omega
        simp [this, hq]
    · simp -implicitDefEqProofs [wp_ok, wp_bind, wp_calm, startE, evSs, evS, evAnd, evOr, evC, evE, evL, evT, views, pures, walks, wipeE, bind_ok, bind_exc, wcalm_ok, biD, cmp_eq_int, cmp_ne_int, view_d, view_bor, view_loc, pure_d, boolR_d, dR_some, dR_none, retW_d, retW_loc, retW_fn, finF_ret, finF_nx, eltR_d, asgW_nm, nameW_d, nameW_loc, nameW_fn, flO_some, asgW_tu, asgT_nm, asgT_tu, asgT_tul, asgT_tt, asgTs_nil, asgTs_cons, biR_1, biR_bor, biR_2, biR_scr, isiR_d, itO_some, itR_1, itR_bor, itR_2, itD_seq, itD_rng1, itD_rng2, it_zip_tt, it_zip_tl, it_zip_lt, it_zip_ll, it_enum_t, it_enum_l, items_l, items_t, cmpW_dd, cmpW_bd, cmpW_db, cmp_lt, cmp_gt, ltD_int, cmp_le, cmp_ge, cmp_isN, cmp_isnotN, cmp_isB, cmp_isnotB, bin_add, bin_sub, bin_mul, bin_fdiv, bin_mod, bin_pow, add_int, subt_int, add_l, add_t, mod_int, sub_l, sub_t, slc_l, slc_t, bndR_nil, bndR_1, at_0, at_1, at_2, len_l, len_t, none_n, none_i, none_b, none_t, none_l, isi_ii, isi_bi, isi_ib, isi_bb, isi_t, isTupD_t, isTupD_l, isTupD_i, isTupD_n, isTupD_b, max_l, tuple_l, tuple_t, list_l, list_t, int_i, all_l, any_l, sum_l]
def maxI (i : Int) (xs : List Int) : Int := intOf (W.maxD (.int i) (xs.map .int))
theorem maxD_ints : ∀ (xs : List Int) (i : Int), ∃ j, W.maxD (.int i) (xs.map .int) = .int j
  | [], i => ⟨i, rfl⟩
  | x :: xs, i => by
    unfold W.maxD
    simp only [List.map_cons, List.foldl_cons]
    split
    · exact maxD_ints xs x
    · exact maxD_ints xs i
theorem maxD_int (i : Int) (xs : List Int) : W.maxD (.int i) (xs.map .int) = .int (maxI i xs) := by
  obtain ⟨j, e⟩ := maxD_ints xs i
  rw [maxI, e]
  rfl
theorem alike_ints (i j : Int) : W.alike (.int i) (.int j) = true := by simp [W.alike]
theorem best_ints (i : Int) (xs : List Int) : bestOk (.int i :: xs.map .int) = true := by
  have h1 : okD (.list (.int i :: xs.map .int)) = true := (okN_lI (i :: xs)).ok (by decide)
  have h2 : allAlike (.int i :: xs.map .int) = true := by
    unfold allAlike
    rw [List.all_eq_true]
    intro x hx
    rw [List.all_eq_true]
    intro y hy
    obtain ⟨a, _, rfl⟩ := List.mem_map.mp (show x ∈ (i :: xs).map PyData.int from hx)
    obtain ⟨b, _, rfl⟩ := List.mem_map.mp (show y ∈ (i :: xs).map PyData.int from hy)
    exact alike_ints a b
  have h3 : (PyData.int i :: xs.map .int).any isNone = false := by
    rw [List.any_eq_false]
    intro x hx
    obtain ⟨a, _, rfl⟩ := List.mem_map.mp (show x ∈ (i :: xs).map PyData.int from hx)
    simp [none_i]
  simp [bestOk, h1, h2, h3]
def keptI (ns : List Need) (a b : List Int) (q : Nat) : Int := maxI 0 ((usesOf ns q).map fun p => lag a b p.1)
theorem filter_len {α : Type} (p : α → Bool) (xs : List α) : (xs.filter p).length ≤ xs.length := List.length_filter_le p xs
theorem m135 (p : PaceF P) (h131 : P 131 = some d131) (h135 : P 135 = some d135) (k : Nat) {Q C : Nat} {ns : List Need} {a b : List Int} (hB : IsB Q C ns) (h : IsP Q C ns a b) (q : Nat) : evF P (k + 3) (.fn 135) [.d (bookD Q C ns), .d (paceD a b), .d (.int q)] s = .ok (.d (.int (keptI ns a b q))) s := by
  rw [ev_call h135 rfl rfl]
  simp -implicitDefEqProofs only [wp_ok, wp_bind, wp_calm, startE, evSs, evS, evAnd, evOr, evC, evE, evL, evT, views, pures, walks, wipeE, bind_ok, bind_exc, wcalm_ok, biD, cmp_eq_int, cmp_ne_int, view_d, view_bor, view_loc, pure_d, boolR_d, dR_some, dR_none, retW_d, retW_loc, retW_fn, finF_ret, finF_nx, eltR_d, asgW_nm, nameW_d, nameW_loc, nameW_fn, flO_some, asgW_tu, asgT_nm, asgT_tu, asgT_tul, asgT_tt, asgTs_nil, asgTs_cons, biR_1, biR_bor, biR_2, biR_scr, isiR_d, itO_some, itR_1, itR_bor, itR_2, itD_seq, itD_rng1, itD_rng2, it_zip_tt, it_zip_tl, it_zip_lt, it_zip_ll, it_enum_t, it_enum_l, items_l, items_t, cmpW_dd, cmpW_bd, cmpW_db, cmp_lt, cmp_gt, ltD_int, cmp_le, cmp_ge, cmp_isN, cmp_isnotN, cmp_isB, cmp_isnotB, bin_add, bin_sub, bin_mul, bin_fdiv, bin_mod, bin_pow, add_int, subt_int, add_l, add_t, mod_int, sub_l, sub_t, slc_l, slc_t, bndR_nil, bndR_1, at_0, at_1, at_2, len_l, len_t, none_n, none_i, none_b, none_t, none_l, isi_ii, isi_bi, isi_ib, isi_bb, isi_t, isTupD_t, isTupD_l, isTupD_i, isTupD_n, isTupD_b, max_l, tuple_l, tuple_t, list_l, list_t, int_i, all_l, any_l, sum_l, d135]
  simp -implicitDefEqProofs [wp_ok, wp_bind, wp_calm, startE, evSs, evS, evAnd, evOr, evC, evE, evL, evT, views, pures, walks, wipeE, bind_ok, bind_exc, wcalm_ok, biD, cmp_eq_int, cmp_ne_int, view_d, view_bor, view_loc, pure_d, boolR_d, dR_some, dR_none, retW_d, retW_loc, retW_fn, finF_ret, finF_nx, eltR_d, asgW_nm, nameW_d, nameW_loc, nameW_fn, flO_some, asgW_tu, asgT_nm, asgT_tu, asgT_tul, asgT_tt, asgTs_nil, asgTs_cons, biR_1, biR_bor, biR_2, biR_scr, isiR_d, itO_some, itR_1, itR_bor, itR_2, itD_seq, itD_rng1, itD_rng2, it_zip_tt, it_zip_tl, it_zip_lt, it_zip_ll, it_enum_t, it_enum_l, items_l, items_t, cmpW_dd, cmpW_bd, cmpW_db, cmp_lt, cmp_gt, ltD_int, cmp_le, cmp_ge, cmp_isN, cmp_isnotN, cmp_isB, cmp_isnotB, bin_add, bin_sub, bin_mul, bin_fdiv, bin_mod, bin_pow, add_int, subt_int, add_l, add_t, mod_int, sub_l, sub_t, slc_l, slc_t, bndR_nil, bndR_1, at_0, at_1, at_2, len_l, len_t, none_n, none_i, none_b, none_t, none_l, isi_ii, isi_bi, isi_ib, isi_bb, isi_t, isTupD_t, isTupD_l, isTupD_i, isTupD_n, isTupD_b, max_l, tuple_l, tuple_t, list_l, list_t, int_i, all_l, any_l, sum_l, m131 h131]
  rw [lcGo_all (fun p : Need × Nat => .int p.2) (fun p => .int (lag a b p.1))]
  · have hl : (usesOf ns q).length + 1 ≤ LINE := by
      have h1 := filter_len (fun p : Need × Nat => decide (p.1.2.1 = q)) ns.zipIdx
      have h2 := hB.len
      rw [List.length_zipIdx] at h1
      unfold LINE usesOf
      omega
    have e : ((usesOf ns q).map fun p => PyData.int (lag a b p.1)) = ((usesOf ns q).map fun p => lag a b p.1).map .int := by rw [List.map_map]; rfl
    rw [e]
    simp -implicitDefEqProofs [wp_ok, wp_bind, wp_calm, startE, evSs, evS, evAnd, evOr, evC, evE, evL, evT, views, pures, walks, wipeE, bind_ok, bind_exc, wcalm_ok, biD, cmp_eq_int, cmp_ne_int, view_d, view_bor, view_loc, pure_d, boolR_d, dR_some, dR_none, retW_d, retW_loc, retW_fn, finF_ret, finF_nx, eltR_d, asgW_nm, nameW_d, nameW_loc, nameW_fn, flO_some, asgW_tu, asgT_nm, asgT_tu, asgT_tul, asgT_tt, asgTs_nil, asgTs_cons, biR_1, biR_bor, biR_2, biR_scr, isiR_d, itO_some, itR_1, itR_bor, itR_2, itD_seq, itD_rng1, itD_rng2, it_zip_tt, it_zip_tl, it_zip_lt, it_zip_ll, it_enum_t, it_enum_l, items_l, items_t, cmpW_dd, cmpW_bd, cmpW_db, cmp_lt, cmp_gt, ltD_int, cmp_le, cmp_ge, cmp_isN, cmp_isnotN, cmp_isB, cmp_isnotB, bin_add, bin_sub, bin_mul, bin_fdiv, bin_mod, bin_pow, add_int, subt_int, add_l, add_t, mod_int, sub_l, sub_t, slc_l, slc_t, bndR_nil, bndR_1, at_0, at_1, at_2, len_l, len_t, none_n, none_i, none_b, none_t, none_l, isi_ii, isi_bi, isi_ib, isi_bb, isi_t, isTupD_t, isTupD_l, isTupD_i, isTupD_n, isTupD_b, max_l, tuple_l, tuple_t, list_l, list_t, int_i, all_l, any_l, sum_l, hl, best_ints, maxD_int, keptI, Nat.add_comm 1, -List.map_map]
  · intro u hu
    obtain ⟨u1, u2, u3, u4⟩ := uses_mem hu
    have q := hB.qs u.1 u3
    refine ⟨_, rfl, rfl, ?_⟩
    have hat : atD (ns.map nD) (u.2 : Int) = some (nD u.1) := by
      rw [at_nat (by simpa using u1)]
      simp [u2]
    rw [show (bookD Q C ns) = .tuple [.int Q, .int C, .tuple (ns.map nD)] from rfl]
    simp -implicitDefEqProofs [wp_ok, wp_bind, wp_calm, startE, evSs, evS, evAnd, evOr, evC, evE, evL, evT, views, pures, walks, wipeE, bind_ok, bind_exc, wcalm_ok, biD, cmp_eq_int, cmp_ne_int, view_d, view_bor, view_loc, pure_d, boolR_d, dR_some, dR_none, retW_d, retW_loc, retW_fn, finF_ret, finF_nx, eltR_d, asgW_nm, nameW_d, nameW_loc, nameW_fn, flO_some, asgW_tu, asgT_nm, asgT_tu, asgT_tul, asgT_tt, asgTs_nil, asgTs_cons, biR_1, biR_bor, biR_2, biR_scr, isiR_d, itO_some, itR_1, itR_bor, itR_2, itD_seq, itD_rng1, itD_rng2, it_zip_tt, it_zip_tl, it_zip_lt, it_zip_ll, it_enum_t, it_enum_l, items_l, items_t, cmpW_dd, cmpW_bd, cmpW_db, cmp_lt, cmp_gt, ltD_int, cmp_le, cmp_ge, cmp_isN, cmp_isnotN, cmp_isB, cmp_isnotB, bin_add, bin_sub, bin_mul, bin_fdiv, bin_mod, bin_pow, add_int, subt_int, add_l, add_t, mod_int, sub_l, sub_t, slc_l, slc_t, bndR_nil, bndR_1, at_0, at_1, at_2, len_l, len_t, none_n, none_i, none_b, none_t, none_l, isi_ii, isi_bi, isi_ib, isi_bb, isi_t, isTupD_t, isTupD_l, isTupD_i, isTupD_n, isTupD_b, max_l, tuple_l, tuple_t, list_l, list_t, int_i, all_l, any_l, sum_l, hat, m130 p.h129 p.h130 k (n := u.1) (by rw [h.lb]; exact q.1) (by rw [h.lb]; exact q.2) h.small]
theorem m134 (h1 : P 1 = some d1) (h134 : P 134 = some d134) (k : Nat) {Q C : Nat} {ns : List Need} {q : Nat} (hq : q < Q) : evF P (k + 2) (.fn 134) [.d (bookD Q C ns), .d (.int q)] s = .ok (.d .none) s := by
  rw [ev_call h134 rfl rfl]
  have e := m1 (s := s) h1 k (.int q) 0 (Q - 1)
  have e2 : isW (.int q) 0 (Q - 1) = true := by
    simp only [isW, Bool.and_eq_true, decide_eq_true_eq]
    omega
  rw [e2] at e
  simp -implicitDefEqProofs only [wp_ok, wp_bind, wp_calm, startE, evSs, evS, evAnd, evOr, evC, evE, evL, evT, views, pures, walks, wipeE, bind_ok, bind_exc, wcalm_ok, biD, cmp_eq_int, cmp_ne_int, view_d, view_bor, view_loc, pure_d, boolR_d, dR_some, dR_none, retW_d, retW_loc, retW_fn, finF_ret, finF_nx, eltR_d, asgW_nm, nameW_d, nameW_loc, nameW_fn, flO_some, asgW_tu, asgT_nm, asgT_tu, asgT_tul, asgT_tt, asgTs_nil, asgTs_cons, biR_1, biR_bor, biR_2, biR_scr, isiR_d, itO_some, itR_1, itR_bor, itR_2, itD_seq, itD_rng1, itD_rng2, it_zip_tt, it_zip_tl, it_zip_lt, it_zip_ll, it_enum_t, it_enum_l, items_l, items_t, cmpW_dd, cmpW_bd, cmpW_db, cmp_lt, cmp_gt, ltD_int, cmp_le, cmp_ge, cmp_isN, cmp_isnotN, cmp_isB, cmp_isnotB, bin_add, bin_sub, bin_mul, bin_fdiv, bin_mod, bin_pow, add_int, subt_int, add_l, add_t, mod_int, sub_l, sub_t, slc_l, slc_t, bndR_nil, bndR_1, at_0, at_1, at_2, len_l, len_t, none_n, none_i, none_b, none_t, none_l, isi_ii, isi_bi, isi_ib, isi_bb, isi_t, isTupD_t, isTupD_l, isTupD_i, isTupD_n, isTupD_b, max_l, tuple_l, tuple_t, list_l, list_t, int_i, all_l, any_l, sum_l, d134]
  rw [show (bookD Q C ns) = .tuple [.int Q, .int C, .tuple (ns.map nD)] from rfl]
  simp -implicitDefEqProofs [wp_ok, wp_bind, wp_calm, startE, evSs, evS, evAnd, evOr, evC, evE, evL, evT, views, pures, walks, wipeE, bind_ok, bind_exc, wcalm_ok, biD, cmp_eq_int, cmp_ne_int, view_d, view_bor, view_loc, pure_d, boolR_d, dR_some, dR_none, retW_d, retW_loc, retW_fn, finF_ret, finF_nx, eltR_d, asgW_nm, nameW_d, nameW_loc, nameW_fn, flO_some, asgW_tu, asgT_nm, asgT_tu, asgT_tul, asgT_tt, asgTs_nil, asgTs_cons, biR_1, biR_bor, biR_2, biR_scr, isiR_d, itO_some, itR_1, itR_bor, itR_2, itD_seq, itD_rng1, itD_rng2, it_zip_tt, it_zip_tl, it_zip_lt, it_zip_ll, it_enum_t, it_enum_l, items_l, items_t, cmpW_dd, cmpW_bd, cmpW_db, cmp_lt, cmp_gt, ltD_int, cmp_le, cmp_ge, cmp_isN, cmp_isnotN, cmp_isB, cmp_isnotB, bin_add, bin_sub, bin_mul, bin_fdiv, bin_mod, bin_pow, add_int, subt_int, add_l, add_t, mod_int, sub_l, sub_t, slc_l, slc_t, bndR_nil, bndR_1, at_0, at_1, at_2, len_l, len_t, none_n, none_i, none_b, none_t, none_l, isi_ii, isi_bi, isi_ib, isi_bb, isi_t, isTupD_t, isTupD_l, isTupD_i, isTupD_n, isTupD_b, max_l, tuple_l, tuple_t, list_l, list_t, int_i, all_l, any_l, sum_l, e]
theorem m143 (p : PaceF P) (h131 : P 131 = some d131) (h134 : P 134 = some d134) (h135 : P 135 = some d135) (h143 : P 143 = some d143) (k : Nat) {Q C : Nat} {ns : List Need} {a b : List Int} (hB : IsB Q C ns) (h : IsP Q C ns a b) {q : Nat} (hq : q < Q) : evF P (k + 6) (.fn 143) [.d (bookD Q C ns), .d (paceD a b), .d (.int q)] s = .ok (.d (.int (keptI ns a b q))) s := by
  rw [ev_call h143 rfl rfl]
  simp -implicitDefEqProofs only [wp_ok, wp_bind, wp_calm, startE, evSs, evS, evAnd, evOr, evC, evE, evL, evT, views, pures, walks, wipeE, bind_ok, bind_exc, wcalm_ok, biD, cmp_eq_int, cmp_ne_int, view_d, view_bor, view_loc, pure_d, boolR_d, dR_some, dR_none, retW_d, retW_loc, retW_fn, finF_ret, finF_nx, eltR_d, asgW_nm, nameW_d, nameW_loc, nameW_fn, flO_some, asgW_tu, asgT_nm, asgT_tu, asgT_tul, asgT_tt, asgTs_nil, asgTs_cons, biR_1, biR_bor, biR_2, biR_scr, isiR_d, itO_some, itR_1, itR_bor, itR_2, itD_seq, itD_rng1, itD_rng2, it_zip_tt, it_zip_tl, it_zip_lt, it_zip_ll, it_enum_t, it_enum_l, items_l, items_t, cmpW_dd, cmpW_bd, cmpW_db, cmp_lt, cmp_gt, ltD_int, cmp_le, cmp_ge, cmp_isN, cmp_isnotN, cmp_isB, cmp_isnotB, bin_add, bin_sub, bin_mul, bin_fdiv, bin_mod, bin_pow, add_int, subt_int, add_l, add_t, mod_int, sub_l, sub_t, slc_l, slc_t, bndR_nil, bndR_1, at_0, at_1, at_2, len_l, len_t, none_n, none_i, none_b, none_t, none_l, isi_ii, isi_bi, isi_ib, isi_bb, isi_t, isTupD_t, isTupD_l, isTupD_i, isTupD_n, isTupD_b, max_l, tuple_l, tuple_t, list_l, list_t, int_i, all_l, any_l, sum_l, d143]
  simp -implicitDefEqProofs [wp_ok, wp_bind, wp_calm, startE, evSs, evS, evAnd, evOr, evC, evE, evL, evT, views, pures, walks, wipeE, bind_ok, bind_exc, wcalm_ok, biD, cmp_eq_int, cmp_ne_int, view_d, view_bor, view_loc, pure_d, boolR_d, dR_some, dR_none, retW_d, retW_loc, retW_fn, finF_ret, finF_nx, eltR_d, asgW_nm, nameW_d, nameW_loc, nameW_fn, flO_some, asgW_tu, asgT_nm, asgT_tu, asgT_tul, asgT_tt, asgTs_nil, asgTs_cons, biR_1, biR_bor, biR_2, biR_scr, isiR_d, itO_some, itR_1, itR_bor, itR_2, itD_seq, itD_rng1, itD_rng2, it_zip_tt, it_zip_tl, it_zip_lt, it_zip_ll, it_enum_t, it_enum_l, items_l, items_t, cmpW_dd, cmpW_bd, cmpW_db, cmp_lt, cmp_gt, ltD_int, cmp_le, cmp_ge, cmp_isN, cmp_isnotN, cmp_isB, cmp_isnotB, bin_add, bin_sub, bin_mul, bin_fdiv, bin_mod, bin_pow, add_int, subt_int, add_l, add_t, mod_int, sub_l, sub_t, slc_l, slc_t, bndR_nil, bndR_1, at_0, at_1, at_2, len_l, len_t, none_n, none_i, none_b, none_t, none_l, isi_ii, isi_bi, isi_ib, isi_bb, isi_t, isTupD_t, isTupD_l, isTupD_i, isTupD_n, isTupD_b, max_l, tuple_l, tuple_t, list_l, list_t, int_i, all_l, any_l, sum_l, m23 p.h1 p.h2 p.h3 p.h4 p.h5 p.h6 p.h23 k hB, m133 p (k + 1) hB h, m134 p.h1 h134 (k + 3) hq, m135 p h131 h135 (k + 2) hB h]

/-! ### the law's own -/
theorem forGo_sum {body : Env → Cells → R Fl} {asg : PD → Env → Option Env} (envOf : Int → Option PD → Option PD → Env) (xs : List (Int × Int)) :
    ∀ (f : Int) (l1 l2 : Option PD), (∀ f l1 l2, ∀ p ∈ xs, ∃ env1, asg (.tuple [.int p.1, .int p.2]) (envOf f l1 l2) = some env1 ∧ body env1 s = .ok (.nx (envOf (f + p.1 * p.2) (some (.int p.1)) (some (.int p.2)))) s) →
    ∃ l1' l2', forGo asg body (xs.map fun p => .tuple [.int p.1, .int p.2]) (envOf f l1 l2) s = .ok (.nx (envOf (f + (xs.map fun p => p.1 * p.2).sum) l1' l2')) s := by
  induction xs with
  | nil => exact fun f l1 l2 _ => ⟨l1, l2, by simp [forGo]⟩
  | cons x xs ih =>
    intro f l1 l2 h
    obtain ⟨env1, h1, h2⟩ := h f l1 l2 x List.mem_cons_self
    obtain ⟨l1', l2', h3⟩ := ih (f + x.1 * x.2) (some (.int x.1)) (some (.int x.2)) (fun f l1 l2 p hp => h f l1 l2 p (List.mem_cons_of_mem _ hp))
    refine ⟨l1', l2', ?_⟩
    simp only [List.map_cons, forGo, h1, h2, bind_ok, h3, List.sum_cons, Int.add_assoc]
theorem forGo_sumW {body : Env → Cells → R Fl} {asg : PD → Env → Option Env} (envOf : Int → Option PD → Option PD → Env) (xs : List (Int × Int)) (f : Int) (h : ∀ f l1 l2, ∀ p ∈ xs, ∃ env1, asg (.tuple [.int p.1, .int p.2]) (envOf f l1 l2) = some env1 ∧ body env1 s = .ok (.nx (envOf (f + p.1 * p.2) (some (.int p.1)) (some (.int p.2)))) s) :
    Wp (forGo asg body (xs.map fun p => .tuple [.int p.1, .int p.2]) (envOf f none none) s) (fun fl s1 => s1 = s ∧ ∃ l1 l2, fl = .nx (envOf (f + (xs.map fun p => p.1 * p.2).sum) l1 l2)) := by
  obtain ⟨l1, l2, e⟩ := forGo_sum envOf xs f none none h
  exact wp_of e ⟨rfl, l1, l2, rfl⟩
theorem m136 (h136 : P 136 = some d136) (k : Nat) {a b x : List Int} {q : Nat} (hq : q < b.length) (ha : ∀ i ∈ a, small64 i = true) : evF P (k + 1) (.fn 136) [.d (paceD a b), .d (.int q), .d (tInts x)] s = .ok (.d (.int (dot a x + gI b q))) s := by
  rw [ev_call h136 rfl rfl]
  apply eq_of_wp
  simp -implicitDefEqProofs only [wp_ok, wp_bind, wp_calm, startE, evSs, evS, evAnd, evOr, evC, evE, evL, evT, views, pures, walks, wipeE, bind_ok, bind_exc, wcalm_ok, biD, cmp_eq_int, cmp_ne_int, view_d, view_bor, view_loc, pure_d, boolR_d, dR_some, dR_none, retW_d, retW_loc, retW_fn, finF_ret, finF_nx, eltR_d, asgW_nm, nameW_d, nameW_loc, nameW_fn, flO_some, asgW_tu, asgT_nm, asgT_tu, asgT_tul, asgT_tt, asgTs_nil, asgTs_cons, biR_1, biR_bor, biR_2, biR_scr, isiR_d, itO_some, itR_1, itR_bor, itR_2, itD_seq, itD_rng1, itD_rng2, it_zip_tt, it_zip_tl, it_zip_lt, it_zip_ll, it_enum_t, it_enum_l, items_l, items_t, cmpW_dd, cmpW_bd, cmpW_db, cmp_lt, cmp_gt, ltD_int, cmp_le, cmp_ge, cmp_isN, cmp_isnotN, cmp_isB, cmp_isnotB, bin_add, bin_sub, bin_mul, bin_fdiv, bin_mod, bin_pow, add_int, subt_int, add_l, add_t, mod_int, sub_l, sub_t, slc_l, slc_t, bndR_nil, bndR_1, at_0, at_1, at_2, len_l, len_t, none_n, none_i, none_b, none_t, none_l, isi_ii, isi_bi, isi_ib, isi_bb, isi_t, isTupD_t, isTupD_l, isTupD_i, isTupD_n, isTupD_b, max_l, tuple_l, tuple_t, list_l, list_t, int_i, all_l, any_l, sum_l, d136]
  simp -implicitDefEqProofs [wp_ok, wp_bind, wp_calm, startE, evSs, evS, evAnd, evOr, evC, evE, evL, evT, views, pures, walks, wipeE, bind_ok, bind_exc, wcalm_ok, biD, cmp_eq_int, cmp_ne_int, view_d, view_bor, view_loc, pure_d, boolR_d, dR_some, dR_none, retW_d, retW_loc, retW_fn, finF_ret, finF_nx, eltR_d, asgW_nm, nameW_d, nameW_loc, nameW_fn, flO_some, asgW_tu, asgT_nm, asgT_tu, asgT_tul, asgT_tt, asgTs_nil, asgTs_cons, biR_1, biR_bor, biR_2, biR_scr, isiR_d, itO_some, itR_1, itR_bor, itR_2, itD_seq, itD_rng1, itD_rng2, it_zip_tt, it_zip_tl, it_zip_lt, it_zip_ll, it_enum_t, it_enum_l, items_l, items_t, cmpW_dd, cmpW_bd, cmpW_db, cmp_lt, cmp_gt, ltD_int, cmp_le, cmp_ge, cmp_isN, cmp_isnotN, cmp_isB, cmp_isnotB, bin_add, bin_sub, bin_mul, bin_fdiv, bin_mod, bin_pow, add_int, subt_int, add_l, add_t, mod_int, sub_l, sub_t, slc_l, slc_t, bndR_nil, bndR_1, at_0, at_1, at_2, len_l, len_t, none_n, none_i, none_b, none_t, none_l, isi_ii, isi_bi, isi_ib, isi_bb, isi_t, isTupD_t, isTupD_l, isTupD_i, isTupD_n, isTupD_b, max_l, tuple_l, tuple_t, list_l, list_t, int_i, all_l, any_l, sum_l, zip_ints, at_tI hq]
  refine Wp.mono (forGo_sumW (s := s) (fun f l1 l2 => [some (.d (paceD a b)), some (.d (.int q)), some (.d (tInts x)), some (.d (.int f)), l1.map .d, l2.map .d]) (a.zip x) (gI b q) (fun f l1 l2 p hp => ?_)) fun fl s1 h => ?_
  · refine ⟨_, rfl, ?_⟩
    have := List.of_mem_zip hp
    simp -implicitDefEqProofs [wp_ok, wp_bind, wp_calm, startE, evSs, evS, evAnd, evOr, evC, evE, evL, evT, views, pures, walks, wipeE, bind_ok, bind_exc, wcalm_ok, biD, cmp_eq_int, cmp_ne_int, view_d, view_bor, view_loc, pure_d, boolR_d, dR_some, dR_none, retW_d, retW_loc, retW_fn, finF_ret, finF_nx, eltR_d, asgW_nm, nameW_d, nameW_loc, nameW_fn, flO_some, asgW_tu, asgT_nm, asgT_tu, asgT_tul, asgT_tt, asgTs_nil, asgTs_cons, biR_1, biR_bor, biR_2, biR_scr, isiR_d, itO_some, itR_1, itR_bor, itR_2, itD_seq, itD_rng1, itD_rng2, it_zip_tt, it_zip_tl, it_zip_lt, it_zip_ll, it_enum_t, it_enum_l, items_l, items_t, cmpW_dd, cmpW_bd, cmpW_db, cmp_lt, cmp_gt, ltD_int, cmp_le, cmp_ge, cmp_isN, cmp_isnotN, cmp_isB, cmp_isnotB, bin_add, bin_sub, bin_mul, bin_fdiv, bin_mod, bin_pow, add_int, subt_int, add_l, add_t, mod_int, sub_l, sub_t, slc_l, slc_t, bndR_nil, bndR_1, at_0, at_1, at_2, len_l, len_t, none_n, none_i, none_b, none_t, none_l, isi_ii, isi_bi, isi_ib, isi_bb, isi_t, isTupD_t, isTupD_l, isTupD_i, isTupD_n, isTupD_b, max_l, tuple_l, tuple_t, list_l, list_t, int_i, all_l, any_l, sum_l, mul_small p.2 (ha p.1 this.1)]
  · obtain ⟨rfl, l1, l2, rfl⟩ := h
    simp -implicitDefEqProofs [wp_ok, wp_bind, wp_calm, startE, evSs, evS, evAnd, evOr, evC, evE, evL, evT, views, pures, walks, wipeE, bind_ok, bind_exc, wcalm_ok, biD, cmp_eq_int, cmp_ne_int, view_d, view_bor, view_loc, pure_d, boolR_d, dR_some, dR_none, retW_d, retW_loc, retW_fn, finF_ret, finF_nx, eltR_d, asgW_nm, nameW_d, nameW_loc, nameW_fn, flO_some, asgW_tu, asgT_nm, asgT_tu, asgT_tul, asgT_tt, asgTs_nil, asgTs_cons, biR_1, biR_bor, biR_2, biR_scr, isiR_d, itO_some, itR_1, itR_bor, itR_2, itD_seq, itD_rng1, itD_rng2, it_zip_tt, it_zip_tl, it_zip_lt, it_zip_ll, it_enum_t, it_enum_l, items_l, items_t, cmpW_dd, cmpW_bd, cmpW_db, cmp_lt, cmp_gt, ltD_int, cmp_le, cmp_ge, cmp_isN, cmp_isnotN, cmp_isB, cmp_isnotB, bin_add, bin_sub, bin_mul, bin_fdiv, bin_mod, bin_pow, add_int, subt_int, add_l, add_t, mod_int, sub_l, sub_t, slc_l, slc_t, bndR_nil, bndR_1, at_0, at_1, at_2, len_l, len_t, none_n, none_i, none_b, none_t, none_l, isi_ii, isi_bi, isi_ib, isi_bb, isi_t, isTupD_t, isTupD_l, isTupD_i, isTupD_n, isTupD_b, max_l, tuple_l, tuple_t, list_l, list_t, int_i, all_l, any_l, sum_l, Int.add_comm, dot]
def less (x y : List Int) : List Int := (x.zip y).map fun p => p.1 - p.2
theorem m81 (h81 : P 81 = some d81) (k : Nat) (x y : List Int) : evF P (k + 1) (.fn 81) [.d (tInts x), .d (tInts y)] s = .ok (.d (tInts (less x y))) s := by
  rw [ev_call h81 rfl rfl]
  simp -implicitDefEqProofs only [wp_ok, wp_bind, wp_calm, startE, evSs, evS, evAnd, evOr, evC, evE, evL, evT, views, pures, walks, wipeE, bind_ok, bind_exc, wcalm_ok, biD, cmp_eq_int, cmp_ne_int, view_d, view_bor, view_loc, pure_d, boolR_d, dR_some, dR_none, retW_d, retW_loc, retW_fn, finF_ret, finF_nx, eltR_d, asgW_nm, nameW_d, nameW_loc, nameW_fn, flO_some, asgW_tu, asgT_nm, asgT_tu, asgT_tul, asgT_tt, asgTs_nil, asgTs_cons, biR_1, biR_bor, biR_2, biR_scr, isiR_d, itO_some, itR_1, itR_bor, itR_2, itD_seq, itD_rng1, itD_rng2, it_zip_tt, it_zip_tl, it_zip_lt, it_zip_ll, it_enum_t, it_enum_l, items_l, items_t, cmpW_dd, cmpW_bd, cmpW_db, cmp_lt, cmp_gt, ltD_int, cmp_le, cmp_ge, cmp_isN, cmp_isnotN, cmp_isB, cmp_isnotB, bin_add, bin_sub, bin_mul, bin_fdiv, bin_mod, bin_pow, add_int, subt_int, add_l, add_t, mod_int, sub_l, sub_t, slc_l, slc_t, bndR_nil, bndR_1, at_0, at_1, at_2, len_l, len_t, none_n, none_i, none_b, none_t, none_l, isi_ii, isi_bi, isi_ib, isi_bb, isi_t, isTupD_t, isTupD_l, isTupD_i, isTupD_n, isTupD_b, max_l, tuple_l, tuple_t, list_l, list_t, int_i, all_l, any_l, sum_l, d81]
  simp -implicitDefEqProofs [wp_ok, wp_bind, wp_calm, startE, evSs, evS, evAnd, evOr, evC, evE, evL, evT, views, pures, walks, wipeE, bind_ok, bind_exc, wcalm_ok, biD, cmp_eq_int, cmp_ne_int, view_d, view_bor, view_loc, pure_d, boolR_d, dR_some, dR_none, retW_d, retW_loc, retW_fn, finF_ret, finF_nx, eltR_d, asgW_nm, nameW_d, nameW_loc, nameW_fn, flO_some, asgW_tu, asgT_nm, asgT_tu, asgT_tul, asgT_tt, asgTs_nil, asgTs_cons, biR_1, biR_bor, biR_2, biR_scr, isiR_d, itO_some, itR_1, itR_bor, itR_2, itD_seq, itD_rng1, itD_rng2, it_zip_tt, it_zip_tl, it_zip_lt, it_zip_ll, it_enum_t, it_enum_l, items_l, items_t, cmpW_dd, cmpW_bd, cmpW_db, cmp_lt, cmp_gt, ltD_int, cmp_le, cmp_ge, cmp_isN, cmp_isnotN, cmp_isB, cmp_isnotB, bin_add, bin_sub, bin_mul, bin_fdiv, bin_mod, bin_pow, add_int, subt_int, add_l, add_t, mod_int, sub_l, sub_t, slc_l, slc_t, bndR_nil, bndR_1, at_0, at_1, at_2, len_l, len_t, none_n, none_i, none_b, none_t, none_l, isi_ii, isi_bi, isi_ib, isi_bb, isi_t, isTupD_t, isTupD_l, isTupD_i, isTupD_n, isTupD_b, max_l, tuple_l, tuple_t, list_l, list_t, int_i, all_l, any_l, sum_l, zip_ints]
  rw [lcGo_all (fun p : Int × Int => .tuple [.int p.1, .int p.2]) (fun p => .int (p.1 - p.2))]
  · simp -implicitDefEqProofs [wp_ok, wp_bind, wp_calm, startE, evSs, evS, evAnd, evOr, evC, evE, evL, evT, views, pures, walks, wipeE, bind_ok, bind_exc, wcalm_ok, biD, cmp_eq_int, cmp_ne_int, view_d, view_bor, view_loc, pure_d, boolR_d, dR_some, dR_none, retW_d, retW_loc, retW_fn, finF_ret, finF_nx, eltR_d, asgW_nm, nameW_d, nameW_loc, nameW_fn, flO_some, asgW_tu, asgT_nm, asgT_tu, asgT_tul, asgT_tt, asgTs_nil, asgTs_cons, biR_1, biR_bor, biR_2, biR_scr, isiR_d, itO_some, itR_1, itR_bor, itR_2, itD_seq, itD_rng1, itD_rng2, it_zip_tt, it_zip_tl, it_zip_lt, it_zip_ll, it_enum_t, it_enum_l, items_l, items_t, cmpW_dd, cmpW_bd, cmpW_db, cmp_lt, cmp_gt, ltD_int, cmp_le, cmp_ge, cmp_isN, cmp_isnotN, cmp_isB, cmp_isnotB, bin_add, bin_sub, bin_mul, bin_fdiv, bin_mod, bin_pow, add_int, subt_int, add_l, add_t, mod_int, sub_l, sub_t, slc_l, slc_t, bndR_nil, bndR_1, at_0, at_1, at_2, len_l, len_t, none_n, none_i, none_b, none_t, none_l, isi_ii, isi_bi, isi_ib, isi_bb, isi_t, isTupD_t, isTupD_l, isTupD_i, isTupD_n, isTupD_b, max_l, tuple_l, tuple_t, list_l, list_t, int_i, all_l, any_l, sum_l, less]
  · intro p hp
    refine ⟨_, rfl, rfl, ?_⟩
    simp -implicitDefEqProofs [wp_ok, wp_bind, wp_calm, startE, evSs, evS, evAnd, evOr, evC, evE, evL, evT, views, pures, walks, wipeE, bind_ok, bind_exc, wcalm_ok, biD, cmp_eq_int, cmp_ne_int, view_d, view_bor, view_loc, pure_d, boolR_d, dR_some, dR_none, retW_d, retW_loc, retW_fn, finF_ret, finF_nx, eltR_d, asgW_nm, nameW_d, nameW_loc, nameW_fn, flO_some, asgW_tu, asgT_nm, asgT_tu, asgT_tul, asgT_tt, asgTs_nil, asgTs_cons, biR_1, biR_bor, biR_2, biR_scr, isiR_d, itO_some, itR_1, itR_bor, itR_2, itD_seq, itD_rng1, itD_rng2, it_zip_tt, it_zip_tl, it_zip_lt, it_zip_ll, it_enum_t, it_enum_l, items_l, items_t, cmpW_dd, cmpW_bd, cmpW_db, cmp_lt, cmp_gt, ltD_int, cmp_le, cmp_ge, cmp_isN, cmp_isnotN, cmp_isB, cmp_isnotB, bin_add, bin_sub, bin_mul, bin_fdiv, bin_mod, bin_pow, add_int, subt_int, add_l, add_t, mod_int, sub_l, sub_t, slc_l, slc_t, bndR_nil, bndR_1, at_0, at_1, at_2, len_l, len_t, none_n, none_i, none_b, none_t, none_l, isi_ii, isi_bi, isi_ib, isi_bb, isi_t, isTupD_t, isTupD_l, isTupD_i, isTupD_n, isTupD_b, max_l, tuple_l, tuple_t, list_l, list_t, int_i, all_l, any_l, sum_l]
theorem dot_less : ∀ (a x y : List Int), a.length = x.length → a.length = y.length → dot a (less x y) = dot a x - dot a y
  | [], _, _, _, _ => by simp [dot]
  | c :: a, x :: xs, y :: ys, h1, h2 => by
    have ih := dot_less a xs ys (by simpa using h1) (by simpa using h2)
    unfold dot less at ih ⊢
    simp only [List.zip_cons_cons, List.map_cons, List.sum_cons, ih]
    rw [Int.mul_sub]
    omega
  | _ :: _, [], _, h, _ => by simp at h
  | _ :: _, _ :: _, [], _, h => by simp at h
theorem dot_zero : ∀ (a : List Int) (n : Nat), dot a (List.replicate n 0) = 0
  | [], _ => by simp [dot]
  | _ :: _, 0 => by simp [dot]
  | c :: a, n + 1 => by
    have ih := dot_zero a n
    unfold dot at ih ⊢
    simp only [List.replicate_succ, List.zip_cons_cons, List.map_cons, List.sum_cons, ih]
    omega
theorem rep_zero {n : Nat} (h : n ≤ 1000) : mulD (.tuple [.int 0]) (.int n) = some (tInts (List.replicate n 0)) := by
  have h1 : repOk 1 n = true := by
    simp only [repOk, Bool.and_eq_true, decide_eq_true_eq]
    omega
  have e : ∀ n : Nat, (List.replicate n [PyData.int 0]).flatten = (List.replicate n 0).map PyData.int := by
    intro n
    induction n with
    | zero => rfl
    | succ n ih => simp [List.replicate_succ, ih]
  have h2 : mulD (.tuple [.int 0]) (.int n) = if repOk 1 n then some (.tuple (List.replicate n [PyData.int 0]).flatten) else none := by
    simp [mulD]
  rw [h2, h1, e]
  rfl
theorem m137 (h81 : P 81 = some d81) (h136 : P 136 = some d136) (h137 : P 137 = some d137) (k : Nat) {Q C : Nat} {ns : List Need} {a b : List Int} (hC : C ≤ 1000) (la : a.length = C) (lb : b.length = Q) (hn : ∀ n ∈ ns, n.1 < Q ∧ n.2.1 < Q ∧ n.2.2.length = C) (ha : ∀ i ∈ a, small64 i = true) : evF P (k + 2) (.fn 137) [.d (bookD Q C ns), .d (paceD a b)] s = .ok (.d (.list ((ns.map (lag a b)).map .int))) s := by
  rw [ev_call h137 rfl rfl]
  simp -implicitDefEqProofs only [wp_ok, wp_bind, wp_calm, startE, evSs, evS, evAnd, evOr, evC, evE, evL, evT, views, pures, walks, wipeE, bind_ok, bind_exc, wcalm_ok, biD, cmp_eq_int, cmp_ne_int, view_d, view_bor, view_loc, pure_d, boolR_d, dR_some, dR_none, retW_d, retW_loc, retW_fn, finF_ret, finF_nx, eltR_d, asgW_nm, nameW_d, nameW_loc, nameW_fn, flO_some, asgW_tu, asgT_nm, asgT_tu, asgT_tul, asgT_tt, asgTs_nil, asgTs_cons, biR_1, biR_bor, biR_2, biR_scr, isiR_d, itO_some, itR_1, itR_bor, itR_2, itD_seq, itD_rng1, itD_rng2, it_zip_tt, it_zip_tl, it_zip_lt, it_zip_ll, it_enum_t, it_enum_l, items_l, items_t, cmpW_dd, cmpW_bd, cmpW_db, cmp_lt, cmp_gt, ltD_int, cmp_le, cmp_ge, cmp_isN, cmp_isnotN, cmp_isB, cmp_isnotB, bin_add, bin_sub, bin_mul, bin_fdiv, bin_mod, bin_pow, add_int, subt_int, add_l, add_t, mod_int, sub_l, sub_t, slc_l, slc_t, bndR_nil, bndR_1, at_0, at_1, at_2, len_l, len_t, none_n, none_i, none_b, none_t, none_l, isi_ii, isi_bi, isi_ib, isi_bb, isi_t, isTupD_t, isTupD_l, isTupD_i, isTupD_n, isTupD_b, max_l, tuple_l, tuple_t, list_l, list_t, int_i, all_l, any_l, sum_l, d137]
  rw [show (bookD Q C ns) = .tuple [.int Q, .int C, .tuple (ns.map nD)] from rfl]
  simp -implicitDefEqProofs [wp_ok, wp_bind, wp_calm, startE, evSs, evS, evAnd, evOr, evC, evE, evL, evT, views, pures, walks, wipeE, bind_ok, bind_exc, wcalm_ok, biD, cmp_eq_int, cmp_ne_int, view_d, view_bor, view_loc, pure_d, boolR_d, dR_some, dR_none, retW_d, retW_loc, retW_fn, finF_ret, finF_nx, eltR_d, asgW_nm, nameW_d, nameW_loc, nameW_fn, flO_some, asgW_tu, asgT_nm, asgT_tu, asgT_tul, asgT_tt, asgTs_nil, asgTs_cons, biR_1, biR_bor, biR_2, biR_scr, isiR_d, itO_some, itR_1, itR_bor, itR_2, itD_seq, itD_rng1, itD_rng2, it_zip_tt, it_zip_tl, it_zip_lt, it_zip_ll, it_enum_t, it_enum_l, items_l, items_t, cmpW_dd, cmpW_bd, cmpW_db, cmp_lt, cmp_gt, ltD_int, cmp_le, cmp_ge, cmp_isN, cmp_isnotN, cmp_isB, cmp_isnotB, bin_add, bin_sub, bin_mul, bin_fdiv, bin_mod, bin_pow, add_int, subt_int, add_l, add_t, mod_int, sub_l, sub_t, slc_l, slc_t, bndR_nil, bndR_1, at_0, at_1, at_2, len_l, len_t, none_n, none_i, none_b, none_t, none_l, isi_ii, isi_bi, isi_ib, isi_bb, isi_t, isTupD_t, isTupD_l, isTupD_i, isTupD_n, isTupD_b, max_l, tuple_l, tuple_t, list_l, list_t, int_i, all_l, any_l, sum_l, rep_zero hC]
  rw [lcGo_all nD (fun n => .int (lag a b n))]
  · simp -implicitDefEqProofs [wp_ok, wp_bind, wp_calm, startE, evSs, evS, evAnd, evOr, evC, evE, evL, evT, views, pures, walks, wipeE, bind_ok, bind_exc, wcalm_ok, biD, cmp_eq_int, cmp_ne_int, view_d, view_bor, view_loc, pure_d, boolR_d, dR_some, dR_none, retW_d, retW_loc, retW_fn, finF_ret, finF_nx, eltR_d, asgW_nm, nameW_d, nameW_loc, nameW_fn, flO_some, asgW_tu, asgT_nm, asgT_tu, asgT_tul, asgT_tt, asgTs_nil, asgTs_cons, biR_1, biR_bor, biR_2, biR_scr, isiR_d, itO_some, itR_1, itR_bor, itR_2, itD_seq, itD_rng1, itD_rng2, it_zip_tt, it_zip_tl, it_zip_lt, it_zip_ll, it_enum_t, it_enum_l, items_l, items_t, cmpW_dd, cmpW_bd, cmpW_db, cmp_lt, cmp_gt, ltD_int, cmp_le, cmp_ge, cmp_isN, cmp_isnotN, cmp_isB, cmp_isnotB, bin_add, bin_sub, bin_mul, bin_fdiv, bin_mod, bin_pow, add_int, subt_int, add_l, add_t, mod_int, sub_l, sub_t, slc_l, slc_t, bndR_nil, bndR_1, at_0, at_1, at_2, len_l, len_t, none_n, none_i, none_b, none_t, none_l, isi_ii, isi_bi, isi_ib, isi_bb, isi_t, isTupD_t, isTupD_l, isTupD_i, isTupD_n, isTupD_b, max_l, tuple_l, tuple_t, list_l, list_t, int_i, all_l, any_l, sum_l]
  · intro n hn'
    obtain ⟨q1, q2, q3⟩ := hn n hn'
    refine ⟨_, rfl, rfl, ?_⟩
    have e1 := m136 (s := s) h136 k (a := a) (x := List.replicate C 0) (b := b) (q := n.1) (by omega) ha
    have e2 := m136 (s := s) h136 k (a := a) (x := less (List.replicate C 0) n.2.2) (b := b) (q := n.2.1) (by omega) ha
    have e3 := m81 (s := s) h81 k (List.replicate C 0) n.2.2
    rw [dot_zero] at e1
    rw [dot_less a _ _ (by simp [la]) (by omega), dot_zero] at e2
    simp -implicitDefEqProofs [wp_ok, wp_bind, wp_calm, startE, evSs, evS, evAnd, evOr, evC, evE, evL, evT, views, pures, walks, wipeE, bind_ok, bind_exc, wcalm_ok, biD, cmp_eq_int, cmp_ne_int, view_d, view_bor, view_loc, pure_d, boolR_d, dR_some, dR_none, retW_d, retW_loc, retW_fn, finF_ret, finF_nx, eltR_d, asgW_nm, nameW_d, nameW_loc, nameW_fn, flO_some, asgW_tu, asgT_nm, asgT_tu, asgT_tul, asgT_tt, asgTs_nil, asgTs_cons, biR_1, biR_bor, biR_2, biR_scr, isiR_d, itO_some, itR_1, itR_bor, itR_2, itD_seq, itD_rng1, itD_rng2, it_zip_tt, it_zip_tl, it_zip_lt, it_zip_ll, it_enum_t, it_enum_l, items_l, items_t, cmpW_dd, cmpW_bd, cmpW_db, cmp_lt, cmp_gt, ltD_int, cmp_le, cmp_ge, cmp_isN, cmp_isnotN, cmp_isB, cmp_isnotB, bin_add, bin_sub, bin_mul, bin_fdiv, bin_mod, bin_pow, add_int, subt_int, add_l, add_t, mod_int, sub_l, sub_t, slc_l, slc_t, bndR_nil, bndR_1, at_0, at_1, at_2, len_l, len_t, none_n, none_i, none_b, none_t, none_l, isi_ii, isi_bi, isi_ib, isi_bb, isi_t, isTupD_t, isTupD_l, isTupD_i, isTupD_n, isTupD_b, max_l, tuple_l, tuple_t, list_l, list_t, int_i, all_l, any_l, sum_l, e1, e2, e3, -List.map_replicate]
    unfold lag
    omega
/-- a whole number or a truth -/
def isIB : PD → Bool
  | .int _ => true
  | .bool _ => true
  | _ => false
theorem okN_IB {x : PD} (h : isIB x = true) : okN 0 x := by
  cases x <;> first | (cases h; done) | exact ⟨rfl, Nat.le_refl 0⟩
def OddOk (v : PD) : Prop := ∀ xs ys, v = .tuple [.tuple xs, .tuple ys] → ∀ x ∈ xs ++ ys, isIB x = true
theorem filter_empty {α : Type} (p : α → Bool) (xs : List α) : (xs.filter fun x => !p x).isEmpty = xs.all p := by
  induction xs with
  | nil => rfl
  | cons x xs ih =>
    cases h : p x with
    | true => simp only [List.filter_cons, h, Bool.not_true, Bool.false_eq_true, if_false, ih, List.all_cons, Bool.true_and]
    | false => simp [List.filter_cons, h]
theorem m142 (h81 : P 81 = some d81) (h136 : P 136 = some d136) (h137 : P 137 = some d137) (h142 : P 142 = some d142) (k : Nat) {Q C : Nat} {ns : List Need} (hQ : Q ≤ 1000) (hC : C ≤ 1000) (hn : ∀ n ∈ ns, n.1 < Q ∧ n.2.1 < Q ∧ n.2.2.length = C) {v : PD} (hv : OddOk v) : evF P (k + 3) (.fn 142) [.d (bookD Q C ns), .d v] s = .ok (.d (.bool (fitsP Q C ns v))) s := by
  rw [ev_call h142 rfl rfl]
  simp -implicitDefEqProofs only [wp_ok, wp_bind, wp_calm, startE, evSs, evS, evAnd, evOr, evC, evE, evL, evT, views, pures, walks, wipeE, bind_ok, bind_exc, wcalm_ok, biD, cmp_eq_int, cmp_ne_int, view_d, view_bor, view_loc, pure_d, boolR_d, dR_some, dR_none, retW_d, retW_loc, retW_fn, finF_ret, finF_nx, eltR_d, asgW_nm, nameW_d, nameW_loc, nameW_fn, flO_some, asgW_tu, asgT_nm, asgT_tu, asgT_tul, asgT_tt, asgTs_nil, asgTs_cons, biR_1, biR_bor, biR_2, biR_scr, isiR_d, itO_some, itR_1, itR_bor, itR_2, itD_seq, itD_rng1, itD_rng2, it_zip_tt, it_zip_tl, it_zip_lt, it_zip_ll, it_enum_t, it_enum_l, items_l, items_t, cmpW_dd, cmpW_bd, cmpW_db, cmp_lt, cmp_gt, ltD_int, cmp_le, cmp_ge, cmp_isN, cmp_isnotN, cmp_isB, cmp_isnotB, bin_add, bin_sub, bin_mul, bin_fdiv, bin_mod, bin_pow, add_int, subt_int, add_l, add_t, mod_int, sub_l, sub_t, slc_l, slc_t, bndR_nil, bndR_1, at_0, at_1, at_2, len_l, len_t, none_n, none_i, none_b, none_t, none_l, isi_ii, isi_bi, isi_ib, isi_bb, isi_t, isTupD_t, isTupD_l, isTupD_i, isTupD_n, isTupD_b, max_l, tuple_l, tuple_t, list_l, list_t, int_i, all_l, any_l, sum_l, d142]
  by_cases ht : isTupD v = true
  · obtain ⟨zs, rfl⟩ : ∃ zs, v = .tuple zs := by cases v <;> first | (cases ht; done) | exact ⟨_, rfl⟩
    by_cases hl : zs.length = 2
    · obtain ⟨a, b, rfl⟩ : ∃ a b, zs = [a, b] := by
        match zs, hl with
        | [a, b], _ => exact ⟨a, b, rfl⟩
      by_cases ha : isTupD a = true
      · obtain ⟨xs, rfl⟩ : ∃ zs, a = .tuple zs := by cases a <;> first | (cases ha; done) | exact ⟨_, rfl⟩
        by_cases hb : isTupD b = true
        · obtain ⟨ys, rfl⟩ : ∃ zs, b = .tuple zs := by cases b <;> first | (cases hb; done) | exact ⟨_, rfl⟩
          rw [show (bookD Q C ns) = .tuple [.int Q, .int C, .tuple (ns.map nD)] from rfl]
          by_cases hx : xs.length = C
          · by_cases hy : ys.length = Q
            · have hlen : xs.length + ys.length ≤ LINE := by unfold LINE; omega
              have hib := hv xs ys rfl
              simp -implicitDefEqProofs [wp_ok, wp_bind, wp_calm, startE, evSs, evS, evAnd, evOr, evC, evE, evL, evT, views, pures, walks, wipeE, bind_ok, bind_exc, wcalm_ok, biD, cmp_eq_int, cmp_ne_int, view_d, view_bor, view_loc, pure_d, boolR_d, dR_some, dR_none, retW_d, retW_loc, retW_fn, finF_ret, finF_nx, eltR_d, asgW_nm, nameW_d, nameW_loc, nameW_fn, flO_some, asgW_tu, asgT_nm, asgT_tu, asgT_tul, asgT_tt, asgTs_nil, asgTs_cons, biR_1, biR_bor, biR_2, biR_scr, isiR_d, itO_some, itR_1, itR_bor, itR_2, itD_seq, itD_rng1, itD_rng2, it_zip_tt, it_zip_tl, it_zip_lt, it_zip_ll, it_enum_t, it_enum_l, items_l, items_t, cmpW_dd, cmpW_bd, cmpW_db, cmp_lt, cmp_gt, ltD_int, cmp_le, cmp_ge, cmp_isN, cmp_isnotN, cmp_isB, cmp_isnotB, bin_add, bin_sub, bin_mul, bin_fdiv, bin_mod, bin_pow, add_int, subt_int, add_l, add_t, mod_int, sub_l, sub_t, slc_l, slc_t, bndR_nil, bndR_1, at_0, at_1, at_2, len_l, len_t, none_n, none_i, none_b, none_t, none_l, isi_ii, isi_bi, isi_ib, isi_bb, isi_t, isTupD_t, isTupD_l, isTupD_i, isTupD_n, isTupD_b, max_l, tuple_l, tuple_t, list_l, list_t, int_i, all_l, any_l, sum_l, hx, hy, hlen]
              have hL : C + Q ≤ LINE := by unfold LINE; omega
              simp -implicitDefEqProofs [wp_ok, wp_bind, wp_calm, startE, evSs, evS, evAnd, evOr, evC, evE, evL, evT, views, pures, walks, wipeE, bind_ok, bind_exc, wcalm_ok, biD, cmp_eq_int, cmp_ne_int, view_d, view_bor, view_loc, pure_d, boolR_d, dR_some, dR_none, retW_d, retW_loc, retW_fn, finF_ret, finF_nx, eltR_d, asgW_nm, nameW_d, nameW_loc, nameW_fn, flO_some, asgW_tu, asgT_nm, asgT_tu, asgT_tul, asgT_tt, asgTs_nil, asgTs_cons, biR_1, biR_bor, biR_2, biR_scr, isiR_d, itO_some, itR_1, itR_bor, itR_2, itD_seq, itD_rng1, itD_rng2, it_zip_tt, it_zip_tl, it_zip_lt, it_zip_ll, it_enum_t, it_enum_l, items_l, items_t, cmpW_dd, cmpW_bd, cmpW_db, cmp_lt, cmp_gt, ltD_int, cmp_le, cmp_ge, cmp_isN, cmp_isnotN, cmp_isB, cmp_isnotB, bin_add, bin_sub, bin_mul, bin_fdiv, bin_mod, bin_pow, add_int, subt_int, add_l, add_t, mod_int, sub_l, sub_t, slc_l, slc_t, bndR_nil, bndR_1, at_0, at_1, at_2, len_l, len_t, none_n, none_i, none_b, none_t, none_l, isi_ii, isi_bi, isi_ib, isi_bb, isi_t, isTupD_t, isTupD_l, isTupD_i, isTupD_n, isTupD_b, max_l, tuple_l, tuple_t, list_l, list_t, int_i, all_l, any_l, sum_l, hL]
              rw [lcGo_id (fun x => !isW x (-1000) 1000) id]
              · have ho : okD (.list (((xs ++ ys).filter fun x => !isW x (-1000) 1000).map id)) = true := (okN_list (n := 0) fun x hx => by
                  rw [List.map_id] at hx
                  exact okN_IB (hib x (List.mem_filter.mp hx).1)).ok (by decide)
                rw [List.map_id] at ho ⊢
                have hE := cmp_ne_nil ho
                rw [filter_empty] at hE
                generalize (List.filter (fun x => !isW x (-1000) 1000) (xs ++ ys)) = ws at hE ⊢
                by_cases hw : ((xs ++ ys).all fun x => isW x (-1000) 1000) = true
                · obtain ⟨as, bs, e1, e2, hs, e3, e4⟩ := pace_ints hw
                  have hF : fitsP Q C ns (.tuple [.tuple xs, .tuple ys]) = ns.all fun n => decide (1 ≤ lag as bs n) := by
                    simp only [fitsP, hx, hy, hw, e3, e4, decide_true, Bool.true_and]
                  rw [hF]
                  have e5 := m137 (s := s) h81 h136 h137 (k := k) (Q := Q) (ns := ns) (a := as) (b := bs) hC (by rw [← hx, e1, List.length_map]) (by rw [← hy, e2, List.length_map]) hn hs
                  rw [hw] at hE
                  subst e1 e2
                  rw [show (bookD Q C ns) = .tuple [.int Q, .int C, .tuple (ns.map nD)] from rfl] at e5
                  simp -implicitDefEqProofs [wp_ok, wp_bind, wp_calm, startE, evSs, evS, evAnd, evOr, evC, evE, evL, evT, views, pures, walks, wipeE, bind_ok, bind_exc, wcalm_ok, biD, cmp_eq_int, cmp_ne_int, view_d, view_bor, view_loc, pure_d, boolR_d, dR_some, dR_none, retW_d, retW_loc, retW_fn, finF_ret, finF_nx, eltR_d, asgW_nm, nameW_d, nameW_loc, nameW_fn, flO_some, asgW_tu, asgT_nm, asgT_tu, asgT_tul, asgT_tt, asgTs_nil, asgTs_cons, biR_1, biR_bor, biR_2, biR_scr, isiR_d, itO_some, itR_1, itR_bor, itR_2, itD_seq, itD_rng1, itD_rng2, it_zip_tt, it_zip_tl, it_zip_lt, it_zip_ll, it_enum_t, it_enum_l, items_l, items_t, cmpW_dd, cmpW_bd, cmpW_db, cmp_lt, cmp_gt, ltD_int, cmp_le, cmp_ge, cmp_isN, cmp_isnotN, cmp_isB, cmp_isnotB, bin_add, bin_sub, bin_mul, bin_fdiv, bin_mod, bin_pow, add_int, subt_int, add_l, add_t, mod_int, sub_l, sub_t, slc_l, slc_t, bndR_nil, bndR_1, at_0, at_1, at_2, len_l, len_t, none_n, none_i, none_b, none_t, none_l, isi_ii, isi_bi, isi_ib, isi_bb, isi_t, isTupD_t, isTupD_l, isTupD_i, isTupD_n, isTupD_b, max_l, tuple_l, tuple_t, list_l, list_t, int_i, all_l, any_l, sum_l, hE, e5]
                  rw [lcGo_enc (fun n => (PyData.int ∘ lag as bs) n) (fun n => decide (lag as bs n < 1)) (fun n => .int (lag as bs n))]
                  · have e7 : (ns.filter fun n => decide (lag as bs n < 1)) = ns.filter fun n => !decide (1 ≤ lag as bs n) := by
                      apply List.filter_congr
                      intro n _
                      rw [Bool.eq_iff_iff]
                      simp
                    have ho2 : okD (.list ((ns.filter fun n => decide (lag as bs n < 1)).map fun n => .int (lag as bs n))) = true := (okN_list (n := 0) fun x hx => by
                      obtain ⟨n, _, rfl⟩ := List.mem_map.mp hx
                      exact okN_int _).ok (by decide)
                    have hE2 := cmp_eq_nil ho2
                    rw [List.isEmpty_map, e7, filter_empty] at hE2
                    rw [e7]
                    generalize (List.map (fun n => PyData.int (lag as bs n)) (List.filter (fun n => !decide (1 ≤ lag as bs n)) ns)) = us at hE2 ⊢
                    simp -implicitDefEqProofs only [wp_ok, wp_bind, wp_calm, startE, evSs, evS, evAnd, evOr, evC, evE, evL, evT, views, pures, walks, wipeE, bind_ok, bind_exc, wcalm_ok, biD, cmp_eq_int, cmp_ne_int, view_d, view_bor, view_loc, pure_d, boolR_d, dR_some, dR_none, retW_d, retW_loc, retW_fn, finF_ret, finF_nx, eltR_d, asgW_nm, nameW_d, nameW_loc, nameW_fn, flO_some, asgW_tu, asgT_nm, asgT_tu, asgT_tul, asgT_tt, asgTs_nil, asgTs_cons, biR_1, biR_bor, biR_2, biR_scr, isiR_d, itO_some, itR_1, itR_bor, itR_2, itD_seq, itD_rng1, itD_rng2, it_zip_tt, it_zip_tl, it_zip_lt, it_zip_ll, it_enum_t, it_enum_l, items_l, items_t, cmpW_dd, cmpW_bd, cmpW_db, cmp_lt, cmp_gt, ltD_int, cmp_le, cmp_ge, cmp_isN, cmp_isnotN, cmp_isB, cmp_isnotB, bin_add, bin_sub, bin_mul, bin_fdiv, bin_mod, bin_pow, add_int, subt_int, add_l, add_t, mod_int, sub_l, sub_t, slc_l, slc_t, bndR_nil, bndR_1, at_0, at_1, at_2, len_l, len_t, none_n, none_i, none_b, none_t, none_l, isi_ii, isi_bi, isi_ib, isi_bb, isi_t, isTupD_t, isTupD_l, isTupD_i, isTupD_n, isTupD_b, max_l, tuple_l, tuple_t, list_l, list_t, int_i, all_l, any_l, sum_l, hE2]
                    rfl
                  · intro n hn'
                    refine ⟨_, rfl, ?_, fun _ => ?_⟩
                    · simp -implicitDefEqProofs [wp_ok, wp_bind, wp_calm, startE, evSs, evS, evAnd, evOr, evC, evE, evL, evT, views, pures, walks, wipeE, bind_ok, bind_exc, wcalm_ok, biD, cmp_eq_int, cmp_ne_int, view_d, view_bor, view_loc, pure_d, boolR_d, dR_some, dR_none, retW_d, retW_loc, retW_fn, finF_ret, finF_nx, eltR_d, asgW_nm, nameW_d, nameW_loc, nameW_fn, flO_some, asgW_tu, asgT_nm, asgT_tu, asgT_tul, asgT_tt, asgTs_nil, asgTs_cons, biR_1, biR_bor, biR_2, biR_scr, isiR_d, itO_some, itR_1, itR_bor, itR_2, itD_seq, itD_rng1, itD_rng2, it_zip_tt, it_zip_tl, it_zip_lt, it_zip_ll, it_enum_t, it_enum_l, items_l, items_t, cmpW_dd, cmpW_bd, cmpW_db, cmp_lt, cmp_gt, ltD_int, cmp_le, cmp_ge, cmp_isN, cmp_isnotN, cmp_isB, cmp_isnotB, bin_add, bin_sub, bin_mul, bin_fdiv, bin_mod, bin_pow, add_int, subt_int, add_l, add_t, mod_int, sub_l, sub_t, slc_l, slc_t, bndR_nil, bndR_1, at_0, at_1, at_2, len_l, len_t, none_n, none_i, none_b, none_t, none_l, isi_ii, isi_bi, isi_ib, isi_bb, isi_t, isTupD_t, isTupD_l, isTupD_i, isTupD_n, isTupD_b, max_l, tuple_l, tuple_t, list_l, list_t, int_i, all_l, any_l, sum_l]
                      by_cases hq : lag as bs n < 1 <;> simp [hq]
                    · simp -implicitDefEqProofs [wp_ok, wp_bind, wp_calm, startE, evSs, evS, evAnd, evOr, evC, evE, evL, evT, views, pures, walks, wipeE, bind_ok, bind_exc, wcalm_ok, biD, cmp_eq_int, cmp_ne_int, view_d, view_bor, view_loc, pure_d, boolR_d, dR_some, dR_none, retW_d, retW_loc, retW_fn, finF_ret, finF_nx, eltR_d, asgW_nm, nameW_d, nameW_loc, nameW_fn, flO_some, asgW_tu, asgT_nm, asgT_tu, asgT_tul, asgT_tt, asgTs_nil, asgTs_cons, biR_1, biR_bor, biR_2, biR_scr, isiR_d, itO_some, itR_1, itR_bor, itR_2, itD_seq, itD_rng1, itD_rng2, it_zip_tt, it_zip_tl, it_zip_lt, it_zip_ll, it_enum_t, it_enum_l, items_l, items_t, cmpW_dd, cmpW_bd, cmpW_db, cmp_lt, cmp_gt, ltD_int, cmp_le, cmp_ge, cmp_isN, cmp_isnotN, cmp_isB, cmp_isnotB, bin_add, bin_sub, bin_mul, bin_fdiv, bin_mod, bin_pow, add_int, subt_int, add_l, add_t, mod_int, sub_l, sub_t, slc_l, slc_t, bndR_nil, bndR_1, at_0, at_1, at_2, len_l, len_t, none_n, none_i, none_b, none_t, none_l, isi_ii, isi_bi, isi_ib, isi_bb, isi_t, isTupD_t, isTupD_l, isTupD_i, isTupD_n, isTupD_b, max_l, tuple_l, tuple_t, list_l, list_t, int_i, all_l, any_l, sum_l]
                · simp only [Bool.not_eq_true] at hw
                  have hF : fitsP Q C ns (.tuple [.tuple xs, .tuple ys]) = false := by
                    simp only [fitsP, hw, Bool.false_and, Bool.and_false]
                  rw [hF]
                  rw [hw] at hE
                  simp -implicitDefEqProofs [wp_ok, wp_bind, wp_calm, startE, evSs, evS, evAnd, evOr, evC, evE, evL, evT, views, pures, walks, wipeE, bind_ok, bind_exc, wcalm_ok, biD, cmp_eq_int, cmp_ne_int, view_d, view_bor, view_loc, pure_d, boolR_d, dR_some, dR_none, retW_d, retW_loc, retW_fn, finF_ret, finF_nx, eltR_d, asgW_nm, nameW_d, nameW_loc, nameW_fn, flO_some, asgW_tu, asgT_nm, asgT_tu, asgT_tul, asgT_tt, asgTs_nil, asgTs_cons, biR_1, biR_bor, biR_2, biR_scr, isiR_d, itO_some, itR_1, itR_bor, itR_2, itD_seq, itD_rng1, itD_rng2, it_zip_tt, it_zip_tl, it_zip_lt, it_zip_ll, it_enum_t, it_enum_l, items_l, items_t, cmpW_dd, cmpW_bd, cmpW_db, cmp_lt, cmp_gt, ltD_int, cmp_le, cmp_ge, cmp_isN, cmp_isnotN, cmp_isB, cmp_isnotB, bin_add, bin_sub, bin_mul, bin_fdiv, bin_mod, bin_pow, add_int, subt_int, add_l, add_t, mod_int, sub_l, sub_t, slc_l, slc_t, bndR_nil, bndR_1, at_0, at_1, at_2, len_l, len_t, none_n, none_i, none_b, none_t, none_l, isi_ii, isi_bi, isi_ib, isi_bb, isi_t, isTupD_t, isTupD_l, isTupD_i, isTupD_n, isTupD_b, max_l, tuple_l, tuple_t, list_l, list_t, int_i, all_l, any_l, sum_l, hE]
              · intro x hx
                have := hib x hx
                refine ⟨_, rfl, ?_, fun _ => ?_⟩
                · cases x <;> first | (cases this; done) | skip
                  · simp -implicitDefEqProofs [wp_ok, wp_bind, wp_calm, startE, evSs, evS, evAnd, evOr, evC, evE, evL, evT, views, pures, walks, wipeE, bind_ok, bind_exc, wcalm_ok, biD, cmp_eq_int, cmp_ne_int, view_d, view_bor, view_loc, pure_d, boolR_d, dR_some, dR_none, retW_d, retW_loc, retW_fn, finF_ret, finF_nx, eltR_d, asgW_nm, nameW_d, nameW_loc, nameW_fn, flO_some, asgW_tu, asgT_nm, asgT_tu, asgT_tul, asgT_tt, asgTs_nil, asgTs_cons, biR_1, biR_bor, biR_2, biR_scr, isiR_d, itO_some, itR_1, itR_bor, itR_2, itD_seq, itD_rng1, itD_rng2, it_zip_tt, it_zip_tl, it_zip_lt, it_zip_ll, it_enum_t, it_enum_l, items_l, items_t, cmpW_dd, cmpW_bd, cmpW_db, cmp_lt, cmp_gt, ltD_int, cmp_le, cmp_ge, cmp_isN, cmp_isnotN, cmp_isB, cmp_isnotB, bin_add, bin_sub, bin_mul, bin_fdiv, bin_mod, bin_pow, add_int, subt_int, add_l, add_t, mod_int, sub_l, sub_t, slc_l, slc_t, bndR_nil, bndR_1, at_0, at_1, at_2, len_l, len_t, none_n, none_i, none_b, none_t, none_l, isi_ii, isi_bi, isi_ib, isi_bb, isi_t, isTupD_t, isTupD_l, isTupD_i, isTupD_n, isTupD_b, max_l, tuple_l, tuple_t, list_l, list_t, int_i, all_l, any_l, sum_l, isW]
                  · rename_i i
                    simp -implicitDefEqProofs [wp_ok, wp_bind, wp_calm, startE, evSs, evS, evAnd, evOr, evC, evE, evL, evT, views, pures, walks, wipeE, bind_ok, bind_exc, wcalm_ok, biD, cmp_eq_int, cmp_ne_int, view_d, view_bor, view_loc, pure_d, boolR_d, dR_some, dR_none, retW_d, retW_loc, retW_fn, finF_ret, finF_nx, eltR_d, asgW_nm, nameW_d, nameW_loc, nameW_fn, flO_some, asgW_tu, asgT_nm, asgT_tu, asgT_tul, asgT_tt, asgTs_nil, asgTs_cons, biR_1, biR_bor, biR_2, biR_scr, isiR_d, itO_some, itR_1, itR_bor, itR_2, itD_seq, itD_rng1, itD_rng2, it_zip_tt, it_zip_tl, it_zip_lt, it_zip_ll, it_enum_t, it_enum_l, items_l, items_t, cmpW_dd, cmpW_bd, cmpW_db, cmp_lt, cmp_gt, ltD_int, cmp_le, cmp_ge, cmp_isN, cmp_isnotN, cmp_isB, cmp_isnotB, bin_add, bin_sub, bin_mul, bin_fdiv, bin_mod, bin_pow, add_int, subt_int, add_l, add_t, mod_int, sub_l, sub_t, slc_l, slc_t, bndR_nil, bndR_1, at_0, at_1, at_2, len_l, len_t, none_n, none_i, none_b, none_t, none_l, isi_ii, isi_bi, isi_ib, isi_bb, isi_t, isTupD_t, isTupD_l, isTupD_i, isTupD_n, isTupD_b, max_l, tuple_l, tuple_t, list_l, list_t, int_i, all_l, any_l, sum_l, isW]
                    by_cases q1 : -1000 ≤ i
                    · by_cases q2 : i ≤ 1000 <;> simp -implicitDefEqProofs [wp_ok, wp_bind, wp_calm, startE, evSs, evS, evAnd, evOr, evC, evE, evL, evT, views, pures, walks, wipeE, bind_ok, bind_exc, wcalm_ok, biD, cmp_eq_int, cmp_ne_int, view_d, view_bor, view_loc, pure_d, boolR_d, dR_some, dR_none, retW_d, retW_loc, retW_fn, finF_ret, finF_nx, eltR_d, asgW_nm, nameW_d, nameW_loc, nameW_fn, flO_some, asgW_tu, asgT_nm, asgT_tu, asgT_tul, asgT_tt, asgTs_nil, asgTs_cons, biR_1, biR_bor, biR_2, biR_scr, isiR_d, itO_some, itR_1, itR_bor, itR_2, itD_seq, itD_rng1, itD_rng2, it_zip_tt, it_zip_tl, it_zip_lt, it_zip_ll, it_enum_t, it_enum_l, items_l, items_t, cmpW_dd, cmpW_bd, cmpW_db, cmp_lt, cmp_gt, ltD_int, cmp_le, cmp_ge, cmp_isN, cmp_isnotN, cmp_isB, cmp_isnotB, bin_add, bin_sub, bin_mul, bin_fdiv, bin_mod, bin_pow, add_int, subt_int, add_l, add_t, mod_int, sub_l, sub_t, slc_l, slc_t, bndR_nil, bndR_1, at_0, at_1, at_2, len_l, len_t, none_n, none_i, none_b, none_t, none_l, isi_ii, isi_bi, isi_ib, isi_bb, isi_t, isTupD_t, isTupD_l, isTupD_i, isTupD_n, isTupD_b, max_l, tuple_l, tuple_t, list_l, list_t, int_i, all_l, any_l, sum_l, q1, q2]
                    · simp -implicitDefEqProofs [wp_ok, wp_bind, wp_calm, startE, evSs, evS, evAnd, evOr, evC, evE, evL, evT, views, pures, walks, wipeE, bind_ok, bind_exc, wcalm_ok, biD, cmp_eq_int, cmp_ne_int, view_d, view_bor, view_loc, pure_d, boolR_d, dR_some, dR_none, retW_d, retW_loc, retW_fn, finF_ret, finF_nx, eltR_d, asgW_nm, nameW_d, nameW_loc, nameW_fn, flO_some, asgW_tu, asgT_nm, asgT_tu, asgT_tul, asgT_tt, asgTs_nil, asgTs_cons, biR_1, biR_bor, biR_2, biR_scr, isiR_d, itO_some, itR_1, itR_bor, itR_2, itD_seq, itD_rng1, itD_rng2, it_zip_tt, it_zip_tl, it_zip_lt, it_zip_ll, it_enum_t, it_enum_l, items_l, items_t, cmpW_dd, cmpW_bd, cmpW_db, cmp_lt, cmp_gt, ltD_int, cmp_le, cmp_ge, cmp_isN, cmp_isnotN, cmp_isB, cmp_isnotB, bin_add, bin_sub, bin_mul, bin_fdiv, bin_mod, bin_pow, add_int, subt_int, add_l, add_t, mod_int, sub_l, sub_t, slc_l, slc_t, bndR_nil, bndR_1, at_0, at_1, at_2, len_l, len_t, none_n, none_i, none_b, none_t, none_l, isi_ii, isi_bi, isi_ib, isi_bb, isi_t, isTupD_t, isTupD_l, isTupD_i, isTupD_n, isTupD_b, max_l, tuple_l, tuple_t, list_l, list_t, int_i, all_l, any_l, sum_l, q1]
                · simp -implicitDefEqProofs [wp_ok, wp_bind, wp_calm, startE, evSs, evS, evAnd, evOr, evC, evE, evL, evT, views, pures, walks, wipeE, bind_ok, bind_exc, wcalm_ok, biD, cmp_eq_int, cmp_ne_int, view_d, view_bor, view_loc, pure_d, boolR_d, dR_some, dR_none, retW_d, retW_loc, retW_fn, finF_ret, finF_nx, eltR_d, asgW_nm, nameW_d, nameW_loc, nameW_fn, flO_some, asgW_tu, asgT_nm, asgT_tu, asgT_tul, asgT_tt, asgTs_nil, asgTs_cons, biR_1, biR_bor, biR_2, biR_scr, isiR_d, itO_some, itR_1, itR_bor, itR_2, itD_seq, itD_rng1, itD_rng2, it_zip_tt, it_zip_tl, it_zip_lt, it_zip_ll, it_enum_t, it_enum_l, items_l, items_t, cmpW_dd, cmpW_bd, cmpW_db, cmp_lt, cmp_gt, ltD_int, cmp_le, cmp_ge, cmp_isN, cmp_isnotN, cmp_isB, cmp_isnotB, bin_add, bin_sub, bin_mul, bin_fdiv, bin_mod, bin_pow, add_int, subt_int, add_l, add_t, mod_int, sub_l, sub_t, slc_l, slc_t, bndR_nil, bndR_1, at_0, at_1, at_2, len_l, len_t, none_n, none_i, none_b, none_t, none_l, isi_ii, isi_bi, isi_ib, isi_bb, isi_t, isTupD_t, isTupD_l, isTupD_i, isTupD_n, isTupD_b, max_l, tuple_l, tuple_t, list_l, list_t, int_i, all_l, any_l, sum_l]
            · have hF : fitsP Q C ns (.tuple [.tuple xs, .tuple ys]) = false := by
                simp only [fitsP, hy, decide_false, Bool.false_and, Bool.and_false]
              have hy2 : ¬ ((ys.length : Int) = Q) := by omega
              rw [hF]
              simp -implicitDefEqProofs [wp_ok, wp_bind, wp_calm, startE, evSs, evS, evAnd, evOr, evC, evE, evL, evT, views, pures, walks, wipeE, bind_ok, bind_exc, wcalm_ok, biD, cmp_eq_int, cmp_ne_int, view_d, view_bor, view_loc, pure_d, boolR_d, dR_some, dR_none, retW_d, retW_loc, retW_fn, finF_ret, finF_nx, eltR_d, asgW_nm, nameW_d, nameW_loc, nameW_fn, flO_some, asgW_tu, asgT_nm, asgT_tu, asgT_tul, asgT_tt, asgTs_nil, asgTs_cons, biR_1, biR_bor, biR_2, biR_scr, isiR_d, itO_some, itR_1, itR_bor, itR_2, itD_seq, itD_rng1, itD_rng2, it_zip_tt, it_zip_tl, it_zip_lt, it_zip_ll, it_enum_t, it_enum_l, items_l, items_t, cmpW_dd, cmpW_bd, cmpW_db, cmp_lt, cmp_gt, ltD_int, cmp_le, cmp_ge, cmp_isN, cmp_isnotN, cmp_isB, cmp_isnotB, bin_add, bin_sub, bin_mul, bin_fdiv, bin_mod, bin_pow, add_int, subt_int, add_l, add_t, mod_int, sub_l, sub_t, slc_l, slc_t, bndR_nil, bndR_1, at_0, at_1, at_2, len_l, len_t, none_n, none_i, none_b, none_t, none_l, isi_ii, isi_bi, isi_ib, isi_bb, isi_t, isTupD_t, isTupD_l, isTupD_i, isTupD_n, isTupD_b, max_l, tuple_l, tuple_t, list_l, list_t, int_i, all_l, any_l, sum_l, hx, hy, hy2]
          · have hF : fitsP Q C ns (.tuple [.tuple xs, .tuple ys]) = false := by
              simp only [fitsP, hx, decide_false, Bool.false_and, Bool.and_false]
            have hx2 : ¬ ((xs.length : Int) = C) := by omega
            rw [hF]
            simp -implicitDefEqProofs [wp_ok, wp_bind, wp_calm, startE, evSs, evS, evAnd, evOr, evC, evE, evL, evT, views, pures, walks, wipeE, bind_ok, bind_exc, wcalm_ok, biD, cmp_eq_int, cmp_ne_int, view_d, view_bor, view_loc, pure_d, boolR_d, dR_some, dR_none, retW_d, retW_loc, retW_fn, finF_ret, finF_nx, eltR_d, asgW_nm, nameW_d, nameW_loc, nameW_fn, flO_some, asgW_tu, asgT_nm, asgT_tu, asgT_tul, asgT_tt, asgTs_nil, asgTs_cons, biR_1, biR_bor, biR_2, biR_scr, isiR_d, itO_some, itR_1, itR_bor, itR_2, itD_seq, itD_rng1, itD_rng2, it_zip_tt, it_zip_tl, it_zip_lt, it_zip_ll, it_enum_t, it_enum_l, items_l, items_t, cmpW_dd, cmpW_bd, cmpW_db, cmp_lt, cmp_gt, ltD_int, cmp_le, cmp_ge, cmp_isN, cmp_isnotN, cmp_isB, cmp_isnotB, bin_add, bin_sub, bin_mul, bin_fdiv, bin_mod, bin_pow, add_int, subt_int, add_l, add_t, mod_int, sub_l, sub_t, slc_l, slc_t, bndR_nil, bndR_1, at_0, at_1, at_2, len_l, len_t, none_n, none_i, none_b, none_t, none_l, isi_ii, isi_bi, isi_ib, isi_bb, isi_t, isTupD_t, isTupD_l, isTupD_i, isTupD_n, isTupD_b, max_l, tuple_l, tuple_t, list_l, list_t, int_i, all_l, any_l, sum_l, hx, hx2]
        · have hF : fitsP Q C ns (.tuple [.tuple xs, b]) = false := by
            unfold fitsP
            split
            · rename_i e; cases e; exact absurd rfl hb
            · rfl
          rw [hF]
          simp -implicitDefEqProofs [wp_ok, wp_bind, wp_calm, startE, evSs, evS, evAnd, evOr, evC, evE, evL, evT, views, pures, walks, wipeE, bind_ok, bind_exc, wcalm_ok, biD, cmp_eq_int, cmp_ne_int, view_d, view_bor, view_loc, pure_d, boolR_d, dR_some, dR_none, retW_d, retW_loc, retW_fn, finF_ret, finF_nx, eltR_d, asgW_nm, nameW_d, nameW_loc, nameW_fn, flO_some, asgW_tu, asgT_nm, asgT_tu, asgT_tul, asgT_tt, asgTs_nil, asgTs_cons, biR_1, biR_bor, biR_2, biR_scr, isiR_d, itO_some, itR_1, itR_bor, itR_2, itD_seq, itD_rng1, itD_rng2, it_zip_tt, it_zip_tl, it_zip_lt, it_zip_ll, it_enum_t, it_enum_l, items_l, items_t, cmpW_dd, cmpW_bd, cmpW_db, cmp_lt, cmp_gt, ltD_int, cmp_le, cmp_ge, cmp_isN, cmp_isnotN, cmp_isB, cmp_isnotB, bin_add, bin_sub, bin_mul, bin_fdiv, bin_mod, bin_pow, add_int, subt_int, add_l, add_t, mod_int, sub_l, sub_t, slc_l, slc_t, bndR_nil, bndR_1, at_0, at_1, at_2, len_l, len_t, none_n, none_i, none_b, none_t, none_l, isi_ii, isi_bi, isi_ib, isi_bb, isi_t, isTupD_t, isTupD_l, isTupD_i, isTupD_n, isTupD_b, max_l, tuple_l, tuple_t, list_l, list_t, int_i, all_l, any_l, sum_l, hb]
      · have hF : fitsP Q C ns (.tuple [a, b]) = false := by
          unfold fitsP
          split
          · rename_i e; cases e; exact absurd rfl ha
          · rfl
        rw [hF]
        simp -implicitDefEqProofs [wp_ok, wp_bind, wp_calm, startE, evSs, evS, evAnd, evOr, evC, evE, evL, evT, views, pures, walks, wipeE, bind_ok, bind_exc, wcalm_ok, biD, cmp_eq_int, cmp_ne_int, view_d, view_bor, view_loc, pure_d, boolR_d, dR_some, dR_none, retW_d, retW_loc, retW_fn, finF_ret, finF_nx, eltR_d, asgW_nm, nameW_d, nameW_loc, nameW_fn, flO_some, asgW_tu, asgT_nm, asgT_tu, asgT_tul, asgT_tt, asgTs_nil, asgTs_cons, biR_1, biR_bor, biR_2, biR_scr, isiR_d, itO_some, itR_1, itR_bor, itR_2, itD_seq, itD_rng1, itD_rng2, it_zip_tt, it_zip_tl, it_zip_lt, it_zip_ll, it_enum_t, it_enum_l, items_l, items_t, cmpW_dd, cmpW_bd, cmpW_db, cmp_lt, cmp_gt, ltD_int, cmp_le, cmp_ge, cmp_isN, cmp_isnotN, cmp_isB, cmp_isnotB, bin_add, bin_sub, bin_mul, bin_fdiv, bin_mod, bin_pow, add_int, subt_int, add_l, add_t, mod_int, sub_l, sub_t, slc_l, slc_t, bndR_nil, bndR_1, at_0, at_1, at_2, len_l, len_t, none_n, none_i, none_b, none_t, none_l, isi_ii, isi_bi, isi_ib, isi_bb, isi_t, isTupD_t, isTupD_l, isTupD_i, isTupD_n, isTupD_b, max_l, tuple_l, tuple_t, list_l, list_t, int_i, all_l, any_l, sum_l, ha]
    · have hF : fitsP Q C ns (.tuple zs) = false := by
        unfold fitsP
        split
        · rename_i e; cases e; exact absurd rfl hl
        · rfl
      have hl2 : ¬ ((zs.length : Int) = 2) := by omega
      rw [hF]
      simp -implicitDefEqProofs [wp_ok, wp_bind, wp_calm, startE, evSs, evS, evAnd, evOr, evC, evE, evL, evT, views, pures, walks, wipeE, bind_ok, bind_exc, wcalm_ok, biD, cmp_eq_int, cmp_ne_int, view_d, view_bor, view_loc, pure_d, boolR_d, dR_some, dR_none, retW_d, retW_loc, retW_fn, finF_ret, finF_nx, eltR_d, asgW_nm, nameW_d, nameW_loc, nameW_fn, flO_some, asgW_tu, asgT_nm, asgT_tu, asgT_tul, asgT_tt, asgTs_nil, asgTs_cons, biR_1, biR_bor, biR_2, biR_scr, isiR_d, itO_some, itR_1, itR_bor, itR_2, itD_seq, itD_rng1, itD_rng2, it_zip_tt, it_zip_tl, it_zip_lt, it_zip_ll, it_enum_t, it_enum_l, items_l, items_t, cmpW_dd, cmpW_bd, cmpW_db, cmp_lt, cmp_gt, ltD_int, cmp_le, cmp_ge, cmp_isN, cmp_isnotN, cmp_isB, cmp_isnotB, bin_add, bin_sub, bin_mul, bin_fdiv, bin_mod, bin_pow, add_int, subt_int, add_l, add_t, mod_int, sub_l, sub_t, slc_l, slc_t, bndR_nil, bndR_1, at_0, at_1, at_2, len_l, len_t, none_n, none_i, none_b, none_t, none_l, isi_ii, isi_bi, isi_ib, isi_bb, isi_t, isTupD_t, isTupD_l, isTupD_i, isTupD_n, isTupD_b, max_l, tuple_l, tuple_t, list_l, list_t, int_i, all_l, any_l, sum_l, hl, hl2]
  · have hF : fitsP Q C ns v = false := by
      unfold fitsP
      split
      · exact absurd rfl ht
      · rfl
    rw [hF]
    simp -implicitDefEqProofs [wp_ok, wp_bind, wp_calm, startE, evSs, evS, evAnd, evOr, evC, evE, evL, evT, views, pures, walks, wipeE, bind_ok, bind_exc, wcalm_ok, biD, cmp_eq_int, cmp_ne_int, view_d, view_bor, view_loc, pure_d, boolR_d, dR_some, dR_none, retW_d, retW_loc, retW_fn, finF_ret, finF_nx, eltR_d, asgW_nm, nameW_d, nameW_loc, nameW_fn, flO_some, asgW_tu, asgT_nm, asgT_tu, asgT_tul, asgT_tt, asgTs_nil, asgTs_cons, biR_1, biR_bor, biR_2, biR_scr, isiR_d, itO_some, itR_1, itR_bor, itR_2, itD_seq, itD_rng1, itD_rng2, it_zip_tt, it_zip_tl, it_zip_lt, it_zip_ll, it_enum_t, it_enum_l, items_l, items_t, cmpW_dd, cmpW_bd, cmpW_db, cmp_lt, cmp_gt, ltD_int, cmp_le, cmp_ge, cmp_isN, cmp_isnotN, cmp_isB, cmp_isnotB, bin_add, bin_sub, bin_mul, bin_fdiv, bin_mod, bin_pow, add_int, subt_int, add_l, add_t, mod_int, sub_l, sub_t, slc_l, slc_t, bndR_nil, bndR_1, at_0, at_1, at_2, len_l, len_t, none_n, none_i, none_b, none_t, none_l, isi_ii, isi_bi, isi_ib, isi_bb, isi_t, isTupD_t, isTupD_l, isTupD_i, isTupD_n, isTupD_b, max_l, tuple_l, tuple_t, list_l, list_t, int_i, all_l, any_l, sum_l, ht]
end Lw

set_option Elab.async false
set_option linter.all false
set_option maxRecDepth 100000
set_option maxHeartbeats 2000000
/-! M4: mirrors of places, and what law k43 draws. -/
namespace Lw
open PySem
variable {P : Nat → Option Def} {s : Cells}
theorem m144 (h81 : P 81 = some d81) (h136 : P 136 = some d136) (h137 : P 137 = some d137) (h144 : P 144 = some d144) (k : Nat) {Q C : Nat} {ns : List Need} {a b : List Int} (hB : IsB Q C ns) (h : IsP Q C ns a b) (q : Nat) : evF P (k + 3) (.fn 144) [.d (bookD Q C ns), .d (paceD a b), .d (.int q)] s = .ok (.d (.int (keptI ns a b q))) s := by
  rw [ev_call h144 rfl rfl]
  have e5 := m137 (s := s) h81 h136 h137 k (Q := Q) (ns := ns) (a := a) (b := b) (by have := hB.c3; omega) h.la h.lb (fun n hn => ⟨(hB.fit n hn).a, (hB.fit n hn).b, (hB.fit n hn).l⟩) h.small
  rw [show (bookD Q C ns) = .tuple [.int Q, .int C, .tuple (ns.map nD)] from rfl] at e5 ⊢
  simp -implicitDefEqProofs only [wp_ok, wp_bind, wp_calm, startE, evSs, evS, evAnd, evOr, evC, evE, evL, evT, views, pures, walks, wipeE, bind_ok, bind_exc, wcalm_ok, biD, cmp_eq_int, cmp_ne_int, view_d, view_bor, view_loc, pure_d, boolR_d, dR_some, dR_none, retW_d, retW_loc, retW_fn, finF_ret, finF_nx, eltR_d, asgW_nm, nameW_d, nameW_loc, nameW_fn, flO_some, asgW_tu, asgT_nm, asgT_tu, asgT_tul, asgT_tt, asgTs_nil, asgTs_cons, biR_1, biR_bor, biR_2, biR_scr, isiR_d, itO_some, itR_1, itR_bor, itR_2, itD_seq, itD_rng1, itD_rng2, it_zip_tt, it_zip_tl, it_zip_lt, it_zip_ll, it_enum_t, it_enum_l, items_l, items_t, cmpW_dd, cmpW_bd, cmpW_db, cmp_lt, cmp_gt, ltD_int, cmp_le, cmp_ge, cmp_isN, cmp_isnotN, cmp_isB, cmp_isnotB, bin_add, bin_sub, bin_mul, bin_fdiv, bin_mod, bin_pow, add_int, subt_int, add_l, add_t, mod_int, sub_l, sub_t, slc_l, slc_t, bndR_nil, bndR_1, at_0, at_1, at_2, len_l, len_t, none_n, none_i, none_b, none_t, none_l, isi_ii, isi_bi, isi_ib, isi_bb, isi_t, isTupD_t, isTupD_l, isTupD_i, isTupD_n, isTupD_b, max_l, tuple_l, tuple_t, list_l, list_t, int_i, all_l, any_l, sum_l, d144]
  simp -implicitDefEqProofs [wp_ok, wp_bind, wp_calm, startE, evSs, evS, evAnd, evOr, evC, evE, evL, evT, views, pures, walks, wipeE, bind_ok, bind_exc, wcalm_ok, biD, cmp_eq_int, cmp_ne_int, view_d, view_bor, view_loc, pure_d, boolR_d, dR_some, dR_none, retW_d, retW_loc, retW_fn, finF_ret, finF_nx, eltR_d, asgW_nm, nameW_d, nameW_loc, nameW_fn, flO_some, asgW_tu, asgT_nm, asgT_tu, asgT_tul, asgT_tt, asgTs_nil, asgTs_cons, biR_1, biR_bor, biR_2, biR_scr, isiR_d, itO_some, itR_1, itR_bor, itR_2, itD_seq, itD_rng1, itD_rng2, it_zip_tt, it_zip_tl, it_zip_lt, it_zip_ll, it_enum_t, it_enum_l, items_l, items_t, cmpW_dd, cmpW_bd, cmpW_db, cmp_lt, cmp_gt, ltD_int, cmp_le, cmp_ge, cmp_isN, cmp_isnotN, cmp_isB, cmp_isnotB, bin_add, bin_sub, bin_mul, bin_fdiv, bin_mod, bin_pow, add_int, subt_int, add_l, add_t, mod_int, sub_l, sub_t, slc_l, slc_t, bndR_nil, bndR_1, at_0, at_1, at_2, len_l, len_t, none_n, none_i, none_b, none_t, none_l, isi_ii, isi_bi, isi_ib, isi_bb, isi_t, isTupD_t, isTupD_l, isTupD_i, isTupD_n, isTupD_b, max_l, tuple_l, tuple_t, list_l, list_t, int_i, all_l, any_l, sum_l, enum_needs, e5]
  rw [lcGo_enc (fun p : Need × Nat => .tuple [.int p.2, nD p.1]) (fun p => decide (p.1.2.1 = q)) (fun p => .int (lag a b p.1))]
  · have hl : (usesOf ns q).length + 1 ≤ LINE := by
      have h1 := filter_len (fun p : Need × Nat => decide (p.1.2.1 = q)) ns.zipIdx
      have h2 := hB.len
      rw [List.length_zipIdx] at h1
      unfold LINE usesOf
      omega
    have e : ((usesOf ns q).map fun p => PyData.int (lag a b p.1)) = ((usesOf ns q).map fun p => lag a b p.1).map .int := by rw [List.map_map]; rfl
    rw [show ns.zipIdx.filter (fun p => decide (p.1.2.1 = q)) = usesOf ns q from rfl, e]
    simp -implicitDefEqProofs [wp_ok, wp_bind, wp_calm, startE, evSs, evS, evAnd, evOr, evC, evE, evL, evT, views, pures, walks, wipeE, bind_ok, bind_exc, wcalm_ok, biD, cmp_eq_int, cmp_ne_int, view_d, view_bor, view_loc, pure_d, boolR_d, dR_some, dR_none, retW_d, retW_loc, retW_fn, finF_ret, finF_nx, eltR_d, asgW_nm, nameW_d, nameW_loc, nameW_fn, flO_some, asgW_tu, asgT_nm, asgT_tu, asgT_tul, asgT_tt, asgTs_nil, asgTs_cons, biR_1, biR_bor, biR_2, biR_scr, isiR_d, itO_some, itR_1, itR_bor, itR_2, itD_seq, itD_rng1, itD_rng2, it_zip_tt, it_zip_tl, it_zip_lt, it_zip_ll, it_enum_t, it_enum_l, items_l, items_t, cmpW_dd, cmpW_bd, cmpW_db, cmp_lt, cmp_gt, ltD_int, cmp_le, cmp_ge, cmp_isN, cmp_isnotN, cmp_isB, cmp_isnotB, bin_add, bin_sub, bin_mul, bin_fdiv, bin_mod, bin_pow, add_int, subt_int, add_l, add_t, mod_int, sub_l, sub_t, slc_l, slc_t, bndR_nil, bndR_1, at_0, at_1, at_2, len_l, len_t, none_n, none_i, none_b, none_t, none_l, isi_ii, isi_bi, isi_ib, isi_bb, isi_t, isTupD_t, isTupD_l, isTupD_i, isTupD_n, isTupD_b, max_l, tuple_l, tuple_t, list_l, list_t, int_i, all_l, any_l, sum_l, hl, best_ints, maxD_int, keptI, Nat.add_comm 1, -List.map_map]
  · intro u hu
    have h3 := List.mem_zipIdx hu
    have h4 : u.2 < ns.length := by omega
    refine ⟨_, rfl, ?_, fun _ => ?_⟩
    · simp -implicitDefEqProofs [wp_ok, wp_bind, wp_calm, startE, evSs, evS, evAnd, evOr, evC, evE, evL, evT, views, pures, walks, wipeE, bind_ok, bind_exc, wcalm_ok, biD, cmp_eq_int, cmp_ne_int, view_d, view_bor, view_loc, pure_d, boolR_d, dR_some, dR_none, retW_d, retW_loc, retW_fn, finF_ret, finF_nx, eltR_d, asgW_nm, nameW_d, nameW_loc, nameW_fn, flO_some, asgW_tu, asgT_nm, asgT_tu, asgT_tul, asgT_tt, asgTs_nil, asgTs_cons, biR_1, biR_bor, biR_2, biR_scr, isiR_d, itO_some, itR_1, itR_bor, itR_2, itD_seq, itD_rng1, itD_rng2, it_zip_tt, it_zip_tl, it_zip_lt, it_zip_ll, it_enum_t, it_enum_l, items_l, items_t, cmpW_dd, cmpW_bd, cmpW_db, cmp_lt, cmp_gt, ltD_int, cmp_le, cmp_ge, cmp_isN, cmp_isnotN, cmp_isB, cmp_isnotB, bin_add, bin_sub, bin_mul, bin_fdiv, bin_mod, bin_pow, add_int, subt_int, add_l, add_t, mod_int, sub_l, sub_t, slc_l, slc_t, bndR_nil, bndR_1, at_0, at_1, at_2, len_l, len_t, none_n, none_i, none_b, none_t, none_l, isi_ii, isi_bi, isi_ib, isi_bb, isi_t, isTupD_t, isTupD_l, isTupD_i, isTupD_n, isTupD_b, max_l, tuple_l, tuple_t, list_l, list_t, int_i, all_l, any_l, sum_l, nD]
      by_cases hq : u.1.2.1 = q
      · simp [hq]
      · have : ¬ ((u.1.2.1 : Int) = (q : Int)) := by omega
        simp [this, hq]
    · have hat : atD (List.map (PyData.int ∘ lag a b) ns) (u.2 : Int) = some (.int (lag a b u.1)) := by
        rw [at_nat (by simpa using h4)]
        rw [List.getElem?_map, List.getElem?_eq_getElem h4, h3.2.2]
        simp
      simp -implicitDefEqProofs [wp_ok, wp_bind, wp_calm, startE, evSs, evS, evAnd, evOr, evC, evE, evL, evT, views, pures, walks, wipeE, bind_ok, bind_exc, wcalm_ok, biD, cmp_eq_int, cmp_ne_int, view_d, view_bor, view_loc, pure_d, boolR_d, dR_some, dR_none, retW_d, retW_loc, retW_fn, finF_ret, finF_nx, eltR_d, asgW_nm, nameW_d, nameW_loc, nameW_fn, flO_some, asgW_tu, asgT_nm, asgT_tu, asgT_tul, asgT_tt, asgTs_nil, asgTs_cons, biR_1, biR_bor, biR_2, biR_scr, isiR_d, itO_some, itR_1, itR_bor, itR_2, itD_seq, itD_rng1, itD_rng2, it_zip_tt, it_zip_tl, it_zip_lt, it_zip_ll, it_enum_t, it_enum_l, items_l, items_t, cmpW_dd, cmpW_bd, cmpW_db, cmp_lt, cmp_gt, ltD_int, cmp_le, cmp_ge, cmp_isN, cmp_isnotN, cmp_isB, cmp_isnotB, bin_add, bin_sub, bin_mul, bin_fdiv, bin_mod, bin_pow, add_int, subt_int, add_l, add_t, mod_int, sub_l, sub_t, slc_l, slc_t, bndR_nil, bndR_1, at_0, at_1, at_2, len_l, len_t, none_n, none_i, none_b, none_t, none_l, isi_ii, isi_bi, isi_ib, isi_bb, isi_t, isTupD_t, isTupD_l, isTupD_i, isTupD_n, isTupD_b, max_l, tuple_l, tuple_t, list_l, list_t, int_i, all_l, any_l, sum_l, hat]
/-- the sides of a box, drawn -/
theorem m86 (h27 : P 27 = some d27) (h86 : P 86 = some d86) (k : Nat) (Q C : Nat) (ns : List Need) (hC : C ≤ 1000) {m : Nat} (h0 : 0 < m) (hm : m ≤ 1000) (hs : Cup s) : Wp (evF P (k + 2) (.fn 86) [.loc 0, .d (bookD Q C ns), .d (.int m)] s) (fun w s => Cup s ∧ ∃ xs : List Nat, w = .d (tInts (xs.map Int.ofNat)) ∧ xs.length = C ∧ ∀ x ∈ xs, 1 ≤ x ∧ x ≤ m) := by
  rw [ev_call h86 rfl rfl]
  rw [show (bookD Q C ns) = .tuple [.int Q, .int C, .tuple (ns.map nD)] from rfl]
  simp -implicitDefEqProofs only [wp_ok, wp_bind, wp_calm, startE, evSs, evS, evAnd, evOr, evC, evE, evL, evT, views, pures, walks, wipeE, bind_ok, bind_exc, wcalm_ok, biD, cmp_eq_int, cmp_ne_int, view_d, view_bor, view_loc, pure_d, boolR_d, dR_some, dR_none, retW_d, retW_loc, retW_fn, finF_ret, finF_nx, eltR_d, asgW_nm, nameW_d, nameW_loc, nameW_fn, flO_some, asgW_tu, asgT_nm, asgT_tu, asgT_tul, asgT_tt, asgTs_nil, asgTs_cons, biR_1, biR_bor, biR_2, biR_scr, isiR_d, itO_some, itR_1, itR_bor, itR_2, itD_seq, itD_rng1, itD_rng2, it_zip_tt, it_zip_tl, it_zip_lt, it_zip_ll, it_enum_t, it_enum_l, items_l, items_t, cmpW_dd, cmpW_bd, cmpW_db, cmp_lt, cmp_gt, ltD_int, cmp_le, cmp_ge, cmp_isN, cmp_isnotN, cmp_isB, cmp_isnotB, bin_add, bin_sub, bin_mul, bin_fdiv, bin_mod, bin_pow, add_int, subt_int, add_l, add_t, mod_int, sub_l, sub_t, slc_l, slc_t, bndR_nil, bndR_1, at_0, at_1, at_2, len_l, len_t, none_n, none_i, none_b, none_t, none_l, isi_ii, isi_bi, isi_ib, isi_bb, isi_t, isTupD_t, isTupD_l, isTupD_i, isTupD_n, isTupD_b, max_l, tuple_l, tuple_t, list_l, list_t, int_i, all_l, any_l, sum_l, d86]
  simp -implicitDefEqProofs [wp_ok, wp_bind, wp_calm, startE, evSs, evS, evAnd, evOr, evC, evE, evL, evT, views, pures, walks, wipeE, bind_ok, bind_exc, wcalm_ok, biD, cmp_eq_int, cmp_ne_int, view_d, view_bor, view_loc, pure_d, boolR_d, dR_some, dR_none, retW_d, retW_loc, retW_fn, finF_ret, finF_nx, eltR_d, asgW_nm, nameW_d, nameW_loc, nameW_fn, flO_some, asgW_tu, asgT_nm, asgT_tu, asgT_tul, asgT_tt, asgTs_nil, asgTs_cons, biR_1, biR_bor, biR_2, biR_scr, isiR_d, itO_some, itR_1, itR_bor, itR_2, itD_seq, itD_rng1, itD_rng2, it_zip_tt, it_zip_tl, it_zip_lt, it_zip_ll, it_enum_t, it_enum_l, items_l, items_t, cmpW_dd, cmpW_bd, cmpW_db, cmp_lt, cmp_gt, ltD_int, cmp_le, cmp_ge, cmp_isN, cmp_isnotN, cmp_isB, cmp_isnotB, bin_add, bin_sub, bin_mul, bin_fdiv, bin_mod, bin_pow, add_int, subt_int, add_l, add_t, mod_int, sub_l, sub_t, slc_l, slc_t, bndR_nil, bndR_1, at_0, at_1, at_2, len_l, len_t, none_n, none_i, none_b, none_t, none_l, isi_ii, isi_bi, isi_ib, isi_bb, isi_t, isTupD_t, isTupD_l, isTupD_i, isTupD_n, isTupD_b, max_l, tuple_l, tuple_t, list_l, list_t, int_i, all_l, any_l, sum_l, range_nat (by omega : C ≤ 1000000)]
  refine (lcGo_inv (I := Cup) (Rel := fun y => ∃ i : Nat, y = .int i ∧ (1 ≤ i ∧ i ≤ m)) _ s hs fun x hx s hs => ⟨_, rfl, rfl, ?_⟩).mono fun ys s' h => ?_
  · simp -implicitDefEqProofs [wp_ok, wp_bind, wp_calm, startE, evSs, evS, evAnd, evOr, evC, evE, evL, evT, views, pures, walks, wipeE, bind_ok, bind_exc, wcalm_ok, biD, cmp_eq_int, cmp_ne_int, view_d, view_bor, view_loc, pure_d, boolR_d, dR_some, dR_none, retW_d, retW_loc, retW_fn, finF_ret, finF_nx, eltR_d, asgW_nm, nameW_d, nameW_loc, nameW_fn, flO_some, asgW_tu, asgT_nm, asgT_tu, asgT_tul, asgT_tt, asgTs_nil, asgTs_cons, biR_1, biR_bor, biR_2, biR_scr, isiR_d, itO_some, itR_1, itR_bor, itR_2, itD_seq, itD_rng1, itD_rng2, it_zip_tt, it_zip_tl, it_zip_lt, it_zip_ll, it_enum_t, it_enum_l, items_l, items_t, cmpW_dd, cmpW_bd, cmpW_db, cmp_lt, cmp_gt, ltD_int, cmp_le, cmp_ge, cmp_isN, cmp_isnotN, cmp_isB, cmp_isnotB, bin_add, bin_sub, bin_mul, bin_fdiv, bin_mod, bin_pow, add_int, subt_int, add_l, add_t, mod_int, sub_l, sub_t, slc_l, slc_t, bndR_nil, bndR_1, at_0, at_1, at_2, len_l, len_t, none_n, none_i, none_b, none_t, none_l, isi_ii, isi_bi, isi_ib, isi_bb, isi_t, isTupD_t, isTupD_l, isTupD_i, isTupD_n, isTupD_b, max_l, tuple_l, tuple_t, list_l, list_t, int_i, all_l, any_l, sum_l]
    refine (m27 h27 k (by omega : (0 : Int) < m) (by omega) hs).mono fun w s' h => ?_
    obtain ⟨hc, i, rfl, hi⟩ := h
    simp -implicitDefEqProofs only [wp_ok, wp_bind, wp_calm, startE, evSs, evS, evAnd, evOr, evC, evE, evL, evT, views, pures, walks, wipeE, bind_ok, bind_exc, wcalm_ok, biD, cmp_eq_int, cmp_ne_int, view_d, view_bor, view_loc, pure_d, boolR_d, dR_some, dR_none, retW_d, retW_loc, retW_fn, finF_ret, finF_nx, eltR_d, asgW_nm, nameW_d, nameW_loc, nameW_fn, flO_some, asgW_tu, asgT_nm, asgT_tu, asgT_tul, asgT_tt, asgTs_nil, asgTs_cons, biR_1, biR_bor, biR_2, biR_scr, isiR_d, itO_some, itR_1, itR_bor, itR_2, itD_seq, itD_rng1, itD_rng2, it_zip_tt, it_zip_tl, it_zip_lt, it_zip_ll, it_enum_t, it_enum_l, items_l, items_t, cmpW_dd, cmpW_bd, cmpW_db, cmp_lt, cmp_gt, ltD_int, cmp_le, cmp_ge, cmp_isN, cmp_isnotN, cmp_isB, cmp_isnotB, bin_add, bin_sub, bin_mul, bin_fdiv, bin_mod, bin_pow, add_int, subt_int, add_l, add_t, mod_int, sub_l, sub_t, slc_l, slc_t, bndR_nil, bndR_1, at_0, at_1, at_2, len_l, len_t, none_n, none_i, none_b, none_t, none_l, isi_ii, isi_bi, isi_ib, isi_bb, isi_t, isTupD_t, isTupD_l, isTupD_i, isTupD_n, isTupD_b, max_l, tuple_l, tuple_t, list_l, list_t, int_i, all_l, any_l, sum_l]
    exact ⟨hc, _, rfl, 1 + i, by simp, by omega, by omega⟩
  · obtain ⟨hc, hl, hr⟩ := h
    obtain ⟨xs, rfl, hx⟩ := map_of hr
    refine ⟨hc, xs, ?_, by simpa using hl, hx⟩
    rfl
def isPt (x sides : List Int) : Bool := x.all (fun i => !decide (i < 0)) && (x.zip sides).all fun p => !decide (p.2 ≤ p.1)
theorem m82 (h82 : P 82 = some d82) (k : Nat) (x sides : List Int) : evF P (k + 1) (.fn 82) [.d (tInts x), .d (tInts sides)] s = .ok (.d (.bool (isPt x sides))) s := by
  rw [ev_call h82 rfl rfl]
  simp -implicitDefEqProofs only [wp_ok, wp_bind, wp_calm, startE, evSs, evS, evAnd, evOr, evC, evE, evL, evT, views, pures, walks, wipeE, bind_ok, bind_exc, wcalm_ok, biD, cmp_eq_int, cmp_ne_int, view_d, view_bor, view_loc, pure_d, boolR_d, dR_some, dR_none, retW_d, retW_loc, retW_fn, finF_ret, finF_nx, eltR_d, asgW_nm, nameW_d, nameW_loc, nameW_fn, flO_some, asgW_tu, asgT_nm, asgT_tu, asgT_tul, asgT_tt, asgTs_nil, asgTs_cons, biR_1, biR_bor, biR_2, biR_scr, isiR_d, itO_some, itR_1, itR_bor, itR_2, itD_seq, itD_rng1, itD_rng2, it_zip_tt, it_zip_tl, it_zip_lt, it_zip_ll, it_enum_t, it_enum_l, items_l, items_t, cmpW_dd, cmpW_bd, cmpW_db, cmp_lt, cmp_gt, ltD_int, cmp_le, cmp_ge, cmp_isN, cmp_isnotN, cmp_isB, cmp_isnotB, bin_add, bin_sub, bin_mul, bin_fdiv, bin_mod, bin_pow, add_int, subt_int, add_l, add_t, mod_int, sub_l, sub_t, slc_l, slc_t, bndR_nil, bndR_1, at_0, at_1, at_2, len_l, len_t, none_n, none_i, none_b, none_t, none_l, isi_ii, isi_bi, isi_ib, isi_bb, isi_t, isTupD_t, isTupD_l, isTupD_i, isTupD_n, isTupD_b, max_l, tuple_l, tuple_t, list_l, list_t, int_i, all_l, any_l, sum_l, d82]
  simp -implicitDefEqProofs [wp_ok, wp_bind, wp_calm, startE, evSs, evS, evAnd, evOr, evC, evE, evL, evT, views, pures, walks, wipeE, bind_ok, bind_exc, wcalm_ok, biD, cmp_eq_int, cmp_ne_int, view_d, view_bor, view_loc, pure_d, boolR_d, dR_some, dR_none, retW_d, retW_loc, retW_fn, finF_ret, finF_nx, eltR_d, asgW_nm, nameW_d, nameW_loc, nameW_fn, flO_some, asgW_tu, asgT_nm, asgT_tu, asgT_tul, asgT_tt, asgTs_nil, asgTs_cons, biR_1, biR_bor, biR_2, biR_scr, isiR_d, itO_some, itR_1, itR_bor, itR_2, itD_seq, itD_rng1, itD_rng2, it_zip_tt, it_zip_tl, it_zip_lt, it_zip_ll, it_enum_t, it_enum_l, items_l, items_t, cmpW_dd, cmpW_bd, cmpW_db, cmp_lt, cmp_gt, ltD_int, cmp_le, cmp_ge, cmp_isN, cmp_isnotN, cmp_isB, cmp_isnotB, bin_add, bin_sub, bin_mul, bin_fdiv, bin_mod, bin_pow, add_int, subt_int, add_l, add_t, mod_int, sub_l, sub_t, slc_l, slc_t, bndR_nil, bndR_1, at_0, at_1, at_2, len_l, len_t, none_n, none_i, none_b, none_t, none_l, isi_ii, isi_bi, isi_ib, isi_bb, isi_t, isTupD_t, isTupD_l, isTupD_i, isTupD_n, isTupD_b, max_l, tuple_l, tuple_t, list_l, list_t, int_i, all_l, any_l, sum_l, zip_ints]
  rw [lcGo_enc PyData.int (fun i => decide (i < 0)) PyData.int]
  · have h1 := cmp_ne_nil ((okN_lI (x.filter fun i => decide (i < 0))).ok (by decide))
    have e1 : (x.filter fun i => decide (i < 0)).isEmpty = x.all fun i => !decide (i < 0) := by
      have := filter_empty (fun i : Int => !decide (i < 0)) x
      simpa using this
    rw [List.isEmpty_map, e1] at h1
    unfold isPt
    simp -implicitDefEqProofs only [wp_ok, wp_bind, wp_calm, startE, evSs, evS, evAnd, evOr, evC, evE, evL, evT, views, pures, walks, wipeE, bind_ok, bind_exc, wcalm_ok, biD, cmp_eq_int, cmp_ne_int, view_d, view_bor, view_loc, pure_d, boolR_d, dR_some, dR_none, retW_d, retW_loc, retW_fn, finF_ret, finF_nx, eltR_d, asgW_nm, nameW_d, nameW_loc, nameW_fn, flO_some, asgW_tu, asgT_nm, asgT_tu, asgT_tul, asgT_tt, asgTs_nil, asgTs_cons, biR_1, biR_bor, biR_2, biR_scr, isiR_d, itO_some, itR_1, itR_bor, itR_2, itD_seq, itD_rng1, itD_rng2, it_zip_tt, it_zip_tl, it_zip_lt, it_zip_ll, it_enum_t, it_enum_l, items_l, items_t, cmpW_dd, cmpW_bd, cmpW_db, cmp_lt, cmp_gt, ltD_int, cmp_le, cmp_ge, cmp_isN, cmp_isnotN, cmp_isB, cmp_isnotB, bin_add, bin_sub, bin_mul, bin_fdiv, bin_mod, bin_pow, add_int, subt_int, add_l, add_t, mod_int, sub_l, sub_t, slc_l, slc_t, bndR_nil, bndR_1, at_0, at_1, at_2, len_l, len_t, none_n, none_i, none_b, none_t, none_l, isi_ii, isi_bi, isi_ib, isi_bb, isi_t, isTupD_t, isTupD_l, isTupD_i, isTupD_n, isTupD_b, max_l, tuple_l, tuple_t, list_l, list_t, int_i, all_l, any_l, sum_l, h1]
    by_cases c1 : (x.all fun i => !decide (i < 0)) = true
    · rw [c1]
      simp -implicitDefEqProofs [wp_ok, wp_bind, wp_calm, startE, evSs, evS, evAnd, evOr, evC, evE, evL, evT, views, pures, walks, wipeE, bind_ok, bind_exc, wcalm_ok, biD, cmp_eq_int, cmp_ne_int, view_d, view_bor, view_loc, pure_d, boolR_d, dR_some, dR_none, retW_d, retW_loc, retW_fn, finF_ret, finF_nx, eltR_d, asgW_nm, nameW_d, nameW_loc, nameW_fn, flO_some, asgW_tu, asgT_nm, asgT_tu, asgT_tul, asgT_tt, asgTs_nil, asgTs_cons, biR_1, biR_bor, biR_2, biR_scr, isiR_d, itO_some, itR_1, itR_bor, itR_2, itD_seq, itD_rng1, itD_rng2, it_zip_tt, it_zip_tl, it_zip_lt, it_zip_ll, it_enum_t, it_enum_l, items_l, items_t, cmpW_dd, cmpW_bd, cmpW_db, cmp_lt, cmp_gt, ltD_int, cmp_le, cmp_ge, cmp_isN, cmp_isnotN, cmp_isB, cmp_isnotB, bin_add, bin_sub, bin_mul, bin_fdiv, bin_mod, bin_pow, add_int, subt_int, add_l, add_t, mod_int, sub_l, sub_t, slc_l, slc_t, bndR_nil, bndR_1, at_0, at_1, at_2, len_l, len_t, none_n, none_i, none_b, none_t, none_l, isi_ii, isi_bi, isi_ib, isi_bb, isi_t, isTupD_t, isTupD_l, isTupD_i, isTupD_n, isTupD_b, max_l, tuple_l, tuple_t, list_l, list_t, int_i, all_l, any_l, sum_l, zip_ints]
      rw [lcGo_enc (fun p : Int × Int => .tuple [.int p.1, .int p.2]) (fun p => decide (p.2 ≤ p.1)) (fun _ => .int 1)]
      · have ho2 : okD (.list (((x.zip sides).filter fun p => decide (p.2 ≤ p.1)).map fun _ => .int 1)) = true := (okN_list (n := 0) fun x hx => by
          obtain ⟨n, _, rfl⟩ := List.mem_map.mp hx
          exact okN_int _).ok (by decide)
        have hE2 := cmp_eq_nil ho2
        have e2 : ((x.zip sides).filter fun p => decide (p.2 ≤ p.1)).isEmpty = (x.zip sides).all fun p => !decide (p.2 ≤ p.1) := by
          have := filter_empty (fun p : Int × Int => !decide (p.2 ≤ p.1)) (x.zip sides)
          simpa using this
        rw [List.isEmpty_map, e2] at hE2
        generalize (List.map (fun _ => PyData.int 1) ((x.zip sides).filter fun p => decide (p.2 ≤ p.1))) = us at hE2 ⊢
        simp -implicitDefEqProofs only [wp_ok, wp_bind, wp_calm, startE, evSs, evS, evAnd, evOr, evC, evE, evL, evT, views, pures, walks, wipeE, bind_ok, bind_exc, wcalm_ok, biD, cmp_eq_int, cmp_ne_int, view_d, view_bor, view_loc, pure_d, boolR_d, dR_some, dR_none, retW_d, retW_loc, retW_fn, finF_ret, finF_nx, eltR_d, asgW_nm, nameW_d, nameW_loc, nameW_fn, flO_some, asgW_tu, asgT_nm, asgT_tu, asgT_tul, asgT_tt, asgTs_nil, asgTs_cons, biR_1, biR_bor, biR_2, biR_scr, isiR_d, itO_some, itR_1, itR_bor, itR_2, itD_seq, itD_rng1, itD_rng2, it_zip_tt, it_zip_tl, it_zip_lt, it_zip_ll, it_enum_t, it_enum_l, items_l, items_t, cmpW_dd, cmpW_bd, cmpW_db, cmp_lt, cmp_gt, ltD_int, cmp_le, cmp_ge, cmp_isN, cmp_isnotN, cmp_isB, cmp_isnotB, bin_add, bin_sub, bin_mul, bin_fdiv, bin_mod, bin_pow, add_int, subt_int, add_l, add_t, mod_int, sub_l, sub_t, slc_l, slc_t, bndR_nil, bndR_1, at_0, at_1, at_2, len_l, len_t, none_n, none_i, none_b, none_t, none_l, isi_ii, isi_bi, isi_ib, isi_bb, isi_t, isTupD_t, isTupD_l, isTupD_i, isTupD_n, isTupD_b, max_l, tuple_l, tuple_t, list_l, list_t, int_i, all_l, any_l, sum_l, hE2]
        generalize ((x.zip sides).all fun p => !decide (p.2 ≤ p.1)) = r
        cases r <;> rfl
      · intro p hp
        refine ⟨_, rfl, ?_, fun _ => ?_⟩
        · simp -implicitDefEqProofs [wp_ok, wp_bind, wp_calm, startE, evSs, evS, evAnd, evOr, evC, evE, evL, evT, views, pures, walks, wipeE, bind_ok, bind_exc, wcalm_ok, biD, cmp_eq_int, cmp_ne_int, view_d, view_bor, view_loc, pure_d, boolR_d, dR_some, dR_none, retW_d, retW_loc, retW_fn, finF_ret, finF_nx, eltR_d, asgW_nm, nameW_d, nameW_loc, nameW_fn, flO_some, asgW_tu, asgT_nm, asgT_tu, asgT_tul, asgT_tt, asgTs_nil, asgTs_cons, biR_1, biR_bor, biR_2, biR_scr, isiR_d, itO_some, itR_1, itR_bor, itR_2, itD_seq, itD_rng1, itD_rng2, it_zip_tt, it_zip_tl, it_zip_lt, it_zip_ll, it_enum_t, it_enum_l, items_l, items_t, cmpW_dd, cmpW_bd, cmpW_db, cmp_lt, cmp_gt, ltD_int, cmp_le, cmp_ge, cmp_isN, cmp_isnotN, cmp_isB, cmp_isnotB, bin_add, bin_sub, bin_mul, bin_fdiv, bin_mod, bin_pow, add_int, subt_int, add_l, add_t, mod_int, sub_l, sub_t, slc_l, slc_t, bndR_nil, bndR_1, at_0, at_1, at_2, len_l, len_t, none_n, none_i, none_b, none_t, none_l, isi_ii, isi_bi, isi_ib, isi_bb, isi_t, isTupD_t, isTupD_l, isTupD_i, isTupD_n, isTupD_b, max_l, tuple_l, tuple_t, list_l, list_t, int_i, all_l, any_l, sum_l]
          by_cases hq : p.2 ≤ p.1 <;> simp [hq]
        · simp -implicitDefEqProofs [wp_ok, wp_bind, wp_calm, startE, evSs, evS, evAnd, evOr, evC, evE, evL, evT, views, pures, walks, wipeE, bind_ok, bind_exc, wcalm_ok, biD, cmp_eq_int, cmp_ne_int, view_d, view_bor, view_loc, pure_d, boolR_d, dR_some, dR_none, retW_d, retW_loc, retW_fn, finF_ret, finF_nx, eltR_d, asgW_nm, nameW_d, nameW_loc, nameW_fn, flO_some, asgW_tu, asgT_nm, asgT_tu, asgT_tul, asgT_tt, asgTs_nil, asgTs_cons, biR_1, biR_bor, biR_2, biR_scr, isiR_d, itO_some, itR_1, itR_bor, itR_2, itD_seq, itD_rng1, itD_rng2, it_zip_tt, it_zip_tl, it_zip_lt, it_zip_ll, it_enum_t, it_enum_l, items_l, items_t, cmpW_dd, cmpW_bd, cmpW_db, cmp_lt, cmp_gt, ltD_int, cmp_le, cmp_ge, cmp_isN, cmp_isnotN, cmp_isB, cmp_isnotB, bin_add, bin_sub, bin_mul, bin_fdiv, bin_mod, bin_pow, add_int, subt_int, add_l, add_t, mod_int, sub_l, sub_t, slc_l, slc_t, bndR_nil, bndR_1, at_0, at_1, at_2, len_l, len_t, none_n, none_i, none_b, none_t, none_l, isi_ii, isi_bi, isi_ib, isi_bb, isi_t, isTupD_t, isTupD_l, isTupD_i, isTupD_n, isTupD_b, max_l, tuple_l, tuple_t, list_l, list_t, int_i, all_l, any_l, sum_l]
    · simp only [Bool.not_eq_true] at c1
      rw [c1]
      simp -implicitDefEqProofs [wp_ok, wp_bind, wp_calm, startE, evSs, evS, evAnd, evOr, evC, evE, evL, evT, views, pures, walks, wipeE, bind_ok, bind_exc, wcalm_ok, biD, cmp_eq_int, cmp_ne_int, view_d, view_bor, view_loc, pure_d, boolR_d, dR_some, dR_none, retW_d, retW_loc, retW_fn, finF_ret, finF_nx, eltR_d, asgW_nm, nameW_d, nameW_loc, nameW_fn, flO_some, asgW_tu, asgT_nm, asgT_tu, asgT_tul, asgT_tt, asgTs_nil, asgTs_cons, biR_1, biR_bor, biR_2, biR_scr, isiR_d, itO_some, itR_1, itR_bor, itR_2, itD_seq, itD_rng1, itD_rng2, it_zip_tt, it_zip_tl, it_zip_lt, it_zip_ll, it_enum_t, it_enum_l, items_l, items_t, cmpW_dd, cmpW_bd, cmpW_db, cmp_lt, cmp_gt, ltD_int, cmp_le, cmp_ge, cmp_isN, cmp_isnotN, cmp_isB, cmp_isnotB, bin_add, bin_sub, bin_mul, bin_fdiv, bin_mod, bin_pow, add_int, subt_int, add_l, add_t, mod_int, sub_l, sub_t, slc_l, slc_t, bndR_nil, bndR_1, at_0, at_1, at_2, len_l, len_t, none_n, none_i, none_b, none_t, none_l, isi_ii, isi_bi, isi_ib, isi_bb, isi_t, isTupD_t, isTupD_l, isTupD_i, isTupD_n, isTupD_b, max_l, tuple_l, tuple_t, list_l, list_t, int_i, all_l, any_l, sum_l]
  · intro i hi
    refine ⟨_, rfl, ?_, fun _ => ?_⟩
    · simp -implicitDefEqProofs [wp_ok, wp_bind, wp_calm, startE, evSs, evS, evAnd, evOr, evC, evE, evL, evT, views, pures, walks, wipeE, bind_ok, bind_exc, wcalm_ok, biD, cmp_eq_int, cmp_ne_int, view_d, view_bor, view_loc, pure_d, boolR_d, dR_some, dR_none, retW_d, retW_loc, retW_fn, finF_ret, finF_nx, eltR_d, asgW_nm, nameW_d, nameW_loc, nameW_fn, flO_some, asgW_tu, asgT_nm, asgT_tu, asgT_tul, asgT_tt, asgTs_nil, asgTs_cons, biR_1, biR_bor, biR_2, biR_scr, isiR_d, itO_some, itR_1, itR_bor, itR_2, itD_seq, itD_rng1, itD_rng2, it_zip_tt, it_zip_tl, it_zip_lt, it_zip_ll, it_enum_t, it_enum_l, items_l, items_t, cmpW_dd, cmpW_bd, cmpW_db, cmp_lt, cmp_gt, ltD_int, cmp_le, cmp_ge, cmp_isN, cmp_isnotN, cmp_isB, cmp_isnotB, bin_add, bin_sub, bin_mul, bin_fdiv, bin_mod, bin_pow, add_int, subt_int, add_l, add_t, mod_int, sub_l, sub_t, slc_l, slc_t, bndR_nil, bndR_1, at_0, at_1, at_2, len_l, len_t, none_n, none_i, none_b, none_t, none_l, isi_ii, isi_bi, isi_ib, isi_bb, isi_t, isTupD_t, isTupD_l, isTupD_i, isTupD_n, isTupD_b, max_l, tuple_l, tuple_t, list_l, list_t, int_i, all_l, any_l, sum_l]
      by_cases hq : i < 0 <;> simp [hq]
    · simp -implicitDefEqProofs [wp_ok, wp_bind, wp_calm, startE, evSs, evS, evAnd, evOr, evC, evE, evL, evT, views, pures, walks, wipeE, bind_ok, bind_exc, wcalm_ok, biD, cmp_eq_int, cmp_ne_int, view_d, view_bor, view_loc, pure_d, boolR_d, dR_some, dR_none, retW_d, retW_loc, retW_fn, finF_ret, finF_nx, eltR_d, asgW_nm, nameW_d, nameW_loc, nameW_fn, flO_some, asgW_tu, asgT_nm, asgT_tu, asgT_tul, asgT_tt, asgTs_nil, asgTs_cons, biR_1, biR_bor, biR_2, biR_scr, isiR_d, itO_some, itR_1, itR_bor, itR_2, itD_seq, itD_rng1, itD_rng2, it_zip_tt, it_zip_tl, it_zip_lt, it_zip_ll, it_enum_t, it_enum_l, items_l, items_t, cmpW_dd, cmpW_bd, cmpW_db, cmp_lt, cmp_gt, ltD_int, cmp_le, cmp_ge, cmp_isN, cmp_isnotN, cmp_isB, cmp_isnotB, bin_add, bin_sub, bin_mul, bin_fdiv, bin_mod, bin_pow, add_int, subt_int, add_l, add_t, mod_int, sub_l, sub_t, slc_l, slc_t, bndR_nil, bndR_1, at_0, at_1, at_2, len_l, len_t, none_n, none_i, none_b, none_t, none_l, isi_ii, isi_bi, isi_ib, isi_bb, isi_t, isTupD_t, isTupD_l, isTupD_i, isTupD_n, isTupD_b, max_l, tuple_l, tuple_t, list_l, list_t, int_i, all_l, any_l, sum_l]

theorem forGo_foldE {α σ ι : Type} {asg : PD → Env → Option Env} {body : Env → Cells → R Fl} (enc : α → PD) (envOf : σ → ι → Env) (st : σ → α → σ) (a0 : σ) {xs : List α}
    (h : ∀ pre x rest j, xs = pre ++ x :: rest → ∃ env1, asg (enc x) (envOf (pre.foldl st a0) j) = some env1 ∧ ∃ j', body env1 s = .ok (.nx (envOf (st (pre.foldl st a0) x) j')) s) :
    ∀ (rest pre : List α) (j : ι), xs = pre ++ rest → ∃ j', forGo asg body (rest.map enc) (envOf (pre.foldl st a0) j) s = .ok (.nx (envOf (xs.foldl st a0) j')) s
  | [], pre, j, e => ⟨j, by rw [e, List.append_nil]; rfl⟩
  | x :: rest, pre, j, e => by
    obtain ⟨env1, h1, j1, h2⟩ := h pre x rest j e
    obtain ⟨j2, h3⟩ := forGo_foldE enc envOf st a0 h rest (pre ++ [x]) j1 (by simp [e])
    rw [List.foldl_append] at h3
    refine ⟨j2, ?_⟩
    simp only [List.map_cons, forGo, h1, h2, bind_ok]
    exact h3
/-- a loop that folds: what it gathers, and what its names hold besides -/
theorem forGo_foldW {α σ ι : Type} {asg : PD → Env → Option Env} {body : Env → Cells → R Fl} (enc : α → PD) (envOf : σ → ι → Env) (st : σ → α → σ) (a0 : σ) (xs : List α) (j : ι)
    (h : ∀ pre x rest j, xs = pre ++ x :: rest → ∃ env1, asg (enc x) (envOf (pre.foldl st a0) j) = some env1 ∧ Wp (body env1 s) (fun fl s1 => s1 = s ∧ ∃ j', fl = .nx (envOf (st (pre.foldl st a0) x) j'))) :
    Wp (forGo asg body (xs.map enc) (envOf a0 j) s) (fun fl s1 => s1 = s ∧ ∃ j, fl = .nx (envOf (xs.foldl st a0) j)) := by
  obtain ⟨j', e⟩ := forGo_foldE (s := s) (asg := asg) (body := body) enc envOf st a0 (xs := xs) (fun pre x rest j e => by
    obtain ⟨env1, h1, h2⟩ := h pre x rest j e
    obtain ⟨fl, s1, e2, e3, j', e4⟩ := h2.ex
    rw [e3, e4] at e2
    exact ⟨env1, h1, j', e2⟩) xs [] j rfl
  exact wp_of e ⟨rfl, j', rfl⟩
def nextPts (pts : List (List Int)) (side : Nat) : List (List Int) := pts.flatMap fun p => (List.range side).map fun i : Nat => p ++ [(i : Int)]
def ptsOf (sides : List Nat) : List (List Int) := sides.foldl nextPts [[]]
abbrev plD (p : Nat × List Int) : PD := .tuple [.int p.1, tInts p.2]
def placesOf (Q : Nat) (pts : List (List Int)) : List (Nat × List Int) := (List.range Q).flatMap fun q => pts.map fun x => (q, x)
theorem foldl_app {α β : Type} (f : α → List β) (xs : List α) (a : List β) : xs.foldl (fun l x => l ++ f x) a = a ++ xs.flatMap f := by
  induction xs generalizing a with
  | nil => simp
  | cons x xs ih => rw [List.foldl_cons, ih, List.flatMap_cons, List.append_assoc]
theorem nextPts_len (pts : List (List Int)) (side : Nat) : (nextPts pts side).length = pts.length * side := by
  unfold nextPts
  induction pts with
  | nil => simp
  | cons p pts ih => rw [List.flatMap_cons, List.length_append, ih]; simp [Nat.add_mul, Nat.add_comm]
theorem flat_pre_len {α β : Type} (f : α → List β) (pre rest : List α) (x : α) : (pre.flatMap f).length + (f x).length ≤ ((pre ++ x :: rest).flatMap f).length := by
  rw [List.flatMap_append, List.flatMap_cons]
  simp only [List.length_append]
  omega
theorem ptsOf_len : ∀ (pre : List Nat) (p : List Int), p ∈ ptsOf pre → p.length = pre.length := by
  have : ∀ (pre : List Nat) (a : List (List Int)) (n : Nat), (∀ p ∈ a, p.length = n) → ∀ p ∈ pre.foldl nextPts a, p.length = n + pre.length := by
    intro pre
    induction pre with
    | nil => intro a n h p hp; simpa using h p hp
    | cons x pre ih =>
      intro a n h p hp
      rw [List.foldl_cons] at hp
      have := ih (nextPts a x) (n + 1) (fun q hq => by
        unfold nextPts at hq
        obtain ⟨r, hr, hq⟩ := List.mem_flatMap.mp hq
        obtain ⟨i, _, rfl⟩ := List.mem_map.mp hq
        simp [h r hr]) p hp
      simp only [List.length_cons]
      omega
  intro pre p hp
  have := this pre [[]] 0 (fun p hp => by simp at hp; simp [hp]) p hp
  omega
theorem lcGo_allW {α : Type} {tg : Tg} {cond : Env → Cells → R Bool} {elt : Env → Cells → R (List PD)} {env : Env} (enc : α → PD) (e : α → PD) (xs : List α) (h : ∀ x ∈ xs, ∃ env1, asgT tg (enc x) env = some env1 ∧ cond env1 s = .ok true s ∧ elt env1 s = .ok [e x] s) :
    Wp (lcGo tg cond elt env (xs.map enc) s) (fun ys s1 => ys = xs.map e ∧ s1 = s) := wp_of (lcGo_all enc e xs h) ⟨rfl, rfl⟩
theorem m83 (h83 : P 83 = some d83) (k : Nat) (Q C : Nat) (ns : List Need) (sides : List Nat) (hl : sides.length ≤ 1000) (hs : ∀ x ∈ sides, x ≤ 1000) (hb : ∀ pre rest, sides = pre ++ rest → (ptsOf pre).length ≤ 100000) (hQ : Q ≤ 100) : evF P (k + 1) (.fn 83) [.d (bookD Q C ns), .d (tInts (sides.map Int.ofNat))] s = .ok (.d (.list ((placesOf Q (ptsOf sides)).map plD))) s := by
  rw [ev_call h83 rfl rfl]
  apply eq_of_wp
  rw [show (bookD Q C ns) = .tuple [.int Q, .int C, .tuple (ns.map nD)] from rfl]
  simp -implicitDefEqProofs only [wp_ok, wp_bind, wp_calm, startE, evSs, evS, evAnd, evOr, evC, evE, evL, evT, views, pures, walks, wipeE, bind_ok, bind_exc, wcalm_ok, biD, cmp_eq_int, cmp_ne_int, view_d, view_bor, view_loc, pure_d, boolR_d, dR_some, dR_none, retW_d, retW_loc, retW_fn, finF_ret, finF_nx, eltR_d, asgW_nm, nameW_d, nameW_loc, nameW_fn, flO_some, asgW_tu, asgT_nm, asgT_tu, asgT_tul, asgT_tt, asgTs_nil, asgTs_cons, biR_1, biR_bor, biR_2, biR_scr, isiR_d, itO_some, itR_1, itR_bor, itR_2, itD_seq, itD_rng1, itD_rng2, it_zip_tt, it_zip_tl, it_zip_lt, it_zip_ll, it_enum_t, it_enum_l, items_l, items_t, cmpW_dd, cmpW_bd, cmpW_db, cmp_lt, cmp_gt, ltD_int, cmp_le, cmp_ge, cmp_isN, cmp_isnotN, cmp_isB, cmp_isnotB, bin_add, bin_sub, bin_mul, bin_fdiv, bin_mod, bin_pow, add_int, subt_int, add_l, add_t, mod_int, sub_l, sub_t, slc_l, slc_t, bndR_nil, bndR_1, at_0, at_1, at_2, len_l, len_t, none_n, none_i, none_b, none_t, none_l, isi_ii, isi_bi, isi_ib, isi_bb, isi_t, isTupD_t, isTupD_l, isTupD_i, isTupD_n, isTupD_b, max_l, tuple_l, tuple_t, list_l, list_t, int_i, all_l, any_l, sum_l, d83]
  simp -implicitDefEqProofs [wp_ok, wp_bind, wp_calm, startE, evSs, evS, evAnd, evOr, evC, evE, evL, evT, views, pures, walks, wipeE, bind_ok, bind_exc, wcalm_ok, biD, cmp_eq_int, cmp_ne_int, view_d, view_bor, view_loc, pure_d, boolR_d, dR_some, dR_none, retW_d, retW_loc, retW_fn, finF_ret, finF_nx, eltR_d, asgW_nm, nameW_d, nameW_loc, nameW_fn, flO_some, asgW_tu, asgT_nm, asgT_tu, asgT_tul, asgT_tt, asgTs_nil, asgTs_cons, biR_1, biR_bor, biR_2, biR_scr, isiR_d, itO_some, itR_1, itR_bor, itR_2, itD_seq, itD_rng1, itD_rng2, it_zip_tt, it_zip_tl, it_zip_lt, it_zip_ll, it_enum_t, it_enum_l, items_l, items_t, cmpW_dd, cmpW_bd, cmpW_db, cmp_lt, cmp_gt, ltD_int, cmp_le, cmp_ge, cmp_isN, cmp_isnotN, cmp_isB, cmp_isnotB, bin_add, bin_sub, bin_mul, bin_fdiv, bin_mod, bin_pow, add_int, subt_int, add_l, add_t, mod_int, sub_l, sub_t, slc_l, slc_t, bndR_nil, bndR_1, at_0, at_1, at_2, len_l, len_t, none_n, none_i, none_b, none_t, none_l, isi_ii, isi_bi, isi_ib, isi_bb, isi_t, isTupD_t, isTupD_l, isTupD_i, isTupD_n, isTupD_b, max_l, tuple_l, tuple_t, list_l, list_t, int_i, all_l, any_l, sum_l, -List.map_map]
  have e1 : (sides.map Int.ofNat).map PyData.int = sides.map fun i : Nat => PyData.int i := by rw [List.map_map]; rfl
  rw [e1]
  refine Wp.mono (forGo_foldW (s := s) (fun i : Nat => PyData.int i) (fun (pts : List (List Int)) (j : Option W × Option W × Option W) => [some (.d (.tuple [.int Q, .int C, .tuple (ns.map nD)])), some (.d (tInts (sides.map Int.ofNat))), some (.d (.list (pts.map tInts))), j.1, none, none, j.2.1, j.2.2, none]) nextPts [[]] sides (none, none, none) fun pre side rest j e => ?_) fun fl s1 h => ?_
  · refine ⟨_, rfl, ?_⟩
    obtain ⟨j1, j2, j3⟩ := j
    have hside := hs side (by rw [e]; simp)
    have hpl := hb pre (side :: rest) e
    have hpl2 := hb (pre ++ [side]) rest (by simp [e])
    rw [ptsOf, List.foldl_append] at hpl2
    have hpp : ∀ p ∈ pre.foldl nextPts [[]], p.length ≤ 1000 := fun p hp => by
      have := ptsOf_len pre p hp
      have : sides.length = pre.length + (rest.length + 1) := by rw [e]; simp
      omega
    simp -implicitDefEqProofs [wp_ok, wp_bind, wp_calm, startE, evSs, evS, evAnd, evOr, evC, evE, evL, evT, views, pures, walks, wipeE, bind_ok, bind_exc, wcalm_ok, biD, cmp_eq_int, cmp_ne_int, view_d, view_bor, view_loc, pure_d, boolR_d, dR_some, dR_none, retW_d, retW_loc, retW_fn, finF_ret, finF_nx, eltR_d, asgW_nm, nameW_d, nameW_loc, nameW_fn, flO_some, asgW_tu, asgT_nm, asgT_tu, asgT_tul, asgT_tt, asgTs_nil, asgTs_cons, biR_1, biR_bor, biR_2, biR_scr, isiR_d, itO_some, itR_1, itR_bor, itR_2, itD_seq, itD_rng1, itD_rng2, it_zip_tt, it_zip_tl, it_zip_lt, it_zip_ll, it_enum_t, it_enum_l, items_l, items_t, cmpW_dd, cmpW_bd, cmpW_db, cmp_lt, cmp_gt, ltD_int, cmp_le, cmp_ge, cmp_isN, cmp_isnotN, cmp_isB, cmp_isnotB, bin_add, bin_sub, bin_mul, bin_fdiv, bin_mod, bin_pow, add_int, subt_int, add_l, add_t, mod_int, sub_l, sub_t, slc_l, slc_t, bndR_nil, bndR_1, at_0, at_1, at_2, len_l, len_t, none_n, none_i, none_b, none_t, none_l, isi_ii, isi_bi, isi_ib, isi_bb, isi_t, isTupD_t, isTupD_l, isTupD_i, isTupD_n, isTupD_b, max_l, tuple_l, tuple_t, list_l, list_t, int_i, all_l, any_l, sum_l]
    generalize hpts : pre.foldl nextPts [[]] = pts at hpp hpl2 ⊢
    refine Wp.mono (forGo_foldW (s := s) tInts (fun (lg : List (List Int)) (j : Option W) => [some (.d (.tuple [.int Q, .int C, .tuple (ns.map nD)])), some (.d (tInts (sides.map Int.ofNat))), some (.d (.list (pts.map tInts))), some (.d (.int side)), none, none, some (.d (.list (lg.map tInts))), j, none]) (fun lg p => lg ++ (List.range side).map fun i : Nat => p ++ [(i : Int)]) [] pts j3 fun pre2 p rest2 j e2 => ?_) fun fl s1 h => ?_
    · refine ⟨_, rfl, ?_⟩
      have hp := hpp p (by rw [e2]; simp)
      have hle : (p.map PyData.int).length + 1 ≤ LINE := by unfold LINE; rw [List.length_map]; omega
      rw [foldl_app]
      generalize hlg : [] ++ pre2.flatMap (fun p => (List.range side).map fun i : Nat => p ++ [(i : Int)]) = lg
      have hll : lg.length + side ≤ LINE := by
        have := flat_pre_len (fun p => (List.range side).map fun i : Nat => p ++ [(i : Int)]) pre2 rest2 p
        rw [← hlg]
        rw [← e2] at this
        simp only [List.foldl_cons, List.foldl_nil, nextPts] at hpl2
        simp only [List.length_map, List.length_range, List.nil_append] at this ⊢
        unfold LINE
        omega
      simp -implicitDefEqProofs [wp_ok, wp_bind, wp_calm, startE, evSs, evS, evAnd, evOr, evC, evE, evL, evT, views, pures, walks, wipeE, bind_ok, bind_exc, wcalm_ok, biD, cmp_eq_int, cmp_ne_int, view_d, view_bor, view_loc, pure_d, boolR_d, dR_some, dR_none, retW_d, retW_loc, retW_fn, finF_ret, finF_nx, eltR_d, asgW_nm, nameW_d, nameW_loc, nameW_fn, flO_some, asgW_tu, asgT_nm, asgT_tu, asgT_tul, asgT_tt, asgTs_nil, asgTs_cons, biR_1, biR_bor, biR_2, biR_scr, isiR_d, itO_some, itR_1, itR_bor, itR_2, itD_seq, itD_rng1, itD_rng2, it_zip_tt, it_zip_tl, it_zip_lt, it_zip_ll, it_enum_t, it_enum_l, items_l, items_t, cmpW_dd, cmpW_bd, cmpW_db, cmp_lt, cmp_gt, ltD_int, cmp_le, cmp_ge, cmp_isN, cmp_isnotN, cmp_isB, cmp_isnotB, bin_add, bin_sub, bin_mul, bin_fdiv, bin_mod, bin_pow, add_int, subt_int, add_l, add_t, mod_int, sub_l, sub_t, slc_l, slc_t, bndR_nil, bndR_1, at_0, at_1, at_2, len_l, len_t, none_n, none_i, none_b, none_t, none_l, isi_ii, isi_bi, isi_ib, isi_bb, isi_t, isTupD_t, isTupD_l, isTupD_i, isTupD_n, isTupD_b, max_l, tuple_l, tuple_t, list_l, list_t, int_i, all_l, any_l, sum_l, range_nat (by omega : side ≤ 1000000)]
      refine Wp.mono (lcGo_allW (fun i : Nat => PyData.int i) (fun i : Nat => tInts (p ++ [(i : Int)])) _ fun i hi => ⟨_, rfl, rfl, ?_⟩) fun ys s1 h => ?_
      · have hle2 : p.length + 1 ≤ LINE := by simpa using hle
        simp -implicitDefEqProofs [wp_ok, wp_bind, wp_calm, startE, evSs, evS, evAnd, evOr, evC, evE, evL, evT, views, pures, walks, wipeE, bind_ok, bind_exc, wcalm_ok, biD, cmp_eq_int, cmp_ne_int, view_d, view_bor, view_loc, pure_d, boolR_d, dR_some, dR_none, retW_d, retW_loc, retW_fn, finF_ret, finF_nx, eltR_d, asgW_nm, nameW_d, nameW_loc, nameW_fn, flO_some, asgW_tu, asgT_nm, asgT_tu, asgT_tul, asgT_tt, asgTs_nil, asgTs_cons, biR_1, biR_bor, biR_2, biR_scr, isiR_d, itO_some, itR_1, itR_bor, itR_2, itD_seq, itD_rng1, itD_rng2, it_zip_tt, it_zip_tl, it_zip_lt, it_zip_ll, it_enum_t, it_enum_l, items_l, items_t, cmpW_dd, cmpW_bd, cmpW_db, cmp_lt, cmp_gt, ltD_int, cmp_le, cmp_ge, cmp_isN, cmp_isnotN, cmp_isB, cmp_isnotB, bin_add, bin_sub, bin_mul, bin_fdiv, bin_mod, bin_pow, add_int, subt_int, add_l, add_t, mod_int, sub_l, sub_t, slc_l, slc_t, bndR_nil, bndR_1, at_0, at_1, at_2, len_l, len_t, none_n, none_i, none_b, none_t, none_l, isi_ii, isi_bi, isi_ib, isi_bb, isi_t, isTupD_t, isTupD_l, isTupD_i, isTupD_n, isTupD_b, max_l, tuple_l, tuple_t, list_l, list_t, int_i, all_l, any_l, sum_l, hle2]
      · obtain ⟨rfl, rfl⟩ := h
        have hll2 : (lg.map tInts).length + side ≤ LINE := by simpa using hll
        simp -implicitDefEqProofs [wp_ok, wp_bind, wp_calm, startE, evSs, evS, evAnd, evOr, evC, evE, evL, evT, views, pures, walks, wipeE, bind_ok, bind_exc, wcalm_ok, biD, cmp_eq_int, cmp_ne_int, view_d, view_bor, view_loc, pure_d, boolR_d, dR_some, dR_none, retW_d, retW_loc, retW_fn, finF_ret, finF_nx, eltR_d, asgW_nm, nameW_d, nameW_loc, nameW_fn, flO_some, asgW_tu, asgT_nm, asgT_tu, asgT_tul, asgT_tt, asgTs_nil, asgTs_cons, biR_1, biR_bor, biR_2, biR_scr, isiR_d, itO_some, itR_1, itR_bor, itR_2, itD_seq, itD_rng1, itD_rng2, it_zip_tt, it_zip_tl, it_zip_lt, it_zip_ll, it_enum_t, it_enum_l, items_l, items_t, cmpW_dd, cmpW_bd, cmpW_db, cmp_lt, cmp_gt, ltD_int, cmp_le, cmp_ge, cmp_isN, cmp_isnotN, cmp_isB, cmp_isnotB, bin_add, bin_sub, bin_mul, bin_fdiv, bin_mod, bin_pow, add_int, subt_int, add_l, add_t, mod_int, sub_l, sub_t, slc_l, slc_t, bndR_nil, bndR_1, at_0, at_1, at_2, len_l, len_t, none_n, none_i, none_b, none_t, none_l, isi_ii, isi_bi, isi_ib, isi_bb, isi_t, isTupD_t, isTupD_l, isTupD_i, isTupD_n, isTupD_b, max_l, tuple_l, tuple_t, list_l, list_t, int_i, all_l, any_l, sum_l, hll]
    · obtain ⟨rfl, j, rfl⟩ := h
      rw [foldl_app]
      simp -implicitDefEqProofs [wp_ok, wp_bind, wp_calm, startE, evSs, evS, evAnd, evOr, evC, evE, evL, evT, views, pures, walks, wipeE, bind_ok, bind_exc, wcalm_ok, biD, cmp_eq_int, cmp_ne_int, view_d, view_bor, view_loc, pure_d, boolR_d, dR_some, dR_none, retW_d, retW_loc, retW_fn, finF_ret, finF_nx, eltR_d, asgW_nm, nameW_d, nameW_loc, nameW_fn, flO_some, asgW_tu, asgT_nm, asgT_tu, asgT_tul, asgT_tt, asgTs_nil, asgTs_cons, biR_1, biR_bor, biR_2, biR_scr, isiR_d, itO_some, itR_1, itR_bor, itR_2, itD_seq, itD_rng1, itD_rng2, it_zip_tt, it_zip_tl, it_zip_lt, it_zip_ll, it_enum_t, it_enum_l, items_l, items_t, cmpW_dd, cmpW_bd, cmpW_db, cmp_lt, cmp_gt, ltD_int, cmp_le, cmp_ge, cmp_isN, cmp_isnotN, cmp_isB, cmp_isnotB, bin_add, bin_sub, bin_mul, bin_fdiv, bin_mod, bin_pow, add_int, subt_int, add_l, add_t, mod_int, sub_l, sub_t, slc_l, slc_t, bndR_nil, bndR_1, at_0, at_1, at_2, len_l, len_t, none_n, none_i, none_b, none_t, none_l, isi_ii, isi_bi, isi_ib, isi_bb, isi_t, isTupD_t, isTupD_l, isTupD_i, isTupD_n, isTupD_b, max_l, tuple_l, tuple_t, list_l, list_t, int_i, all_l, any_l, sum_l, nextPts]
  · obtain ⟨rfl, j, rfl⟩ := h
    have hpl := hb sides [] (by simp)
    rw [show sides.foldl nextPts [[]] = ptsOf sides from rfl]
    generalize ptsOf sides = pts at hpl ⊢
    simp -implicitDefEqProofs [wp_ok, wp_bind, wp_calm, startE, evSs, evS, evAnd, evOr, evC, evE, evL, evT, views, pures, walks, wipeE, bind_ok, bind_exc, wcalm_ok, biD, cmp_eq_int, cmp_ne_int, view_d, view_bor, view_loc, pure_d, boolR_d, dR_some, dR_none, retW_d, retW_loc, retW_fn, finF_ret, finF_nx, eltR_d, asgW_nm, nameW_d, nameW_loc, nameW_fn, flO_some, asgW_tu, asgT_nm, asgT_tu, asgT_tul, asgT_tt, asgTs_nil, asgTs_cons, biR_1, biR_bor, biR_2, biR_scr, isiR_d, itO_some, itR_1, itR_bor, itR_2, itD_seq, itD_rng1, itD_rng2, it_zip_tt, it_zip_tl, it_zip_lt, it_zip_ll, it_enum_t, it_enum_l, items_l, items_t, cmpW_dd, cmpW_bd, cmpW_db, cmp_lt, cmp_gt, ltD_int, cmp_le, cmp_ge, cmp_isN, cmp_isnotN, cmp_isB, cmp_isnotB, bin_add, bin_sub, bin_mul, bin_fdiv, bin_mod, bin_pow, add_int, subt_int, add_l, add_t, mod_int, sub_l, sub_t, slc_l, slc_t, bndR_nil, bndR_1, at_0, at_1, at_2, len_l, len_t, none_n, none_i, none_b, none_t, none_l, isi_ii, isi_bi, isi_ib, isi_bb, isi_t, isTupD_t, isTupD_l, isTupD_i, isTupD_n, isTupD_b, max_l, tuple_l, tuple_t, list_l, list_t, int_i, all_l, any_l, sum_l, range_nat (by omega : Q ≤ 1000000)]
    refine Wp.mono (forGo_foldW (s := s1) (fun i : Nat => PyData.int i) (fun (fd : List (Nat × List Int)) (j2 : Option W × Option W) => [some (.d (.tuple [.int Q, .int C, .tuple (ns.map nD)])), some (.d (tInts (sides.map Int.ofNat))), some (.d (.list (pts.map tInts))), j.1, some (.d (.list (fd.map plD))), j2.1, j.2.1, j.2.2, none]) (fun fd q => fd ++ pts.map fun x => (q, x)) [] (List.range Q) (none, none) fun pre2 q rest2 j2 e2 => ?_) fun fl s2 h => ?_
    · refine ⟨_, rfl, ?_⟩
      rw [foldl_app]
      generalize hlg : [] ++ pre2.flatMap (fun q => pts.map fun x => (q, x)) = lg
      have hll : lg.length + pts.length ≤ LINE := by
        have := flat_pre_len (fun q => pts.map fun x => (q, x)) pre2 rest2 q
        rw [← hlg]
        rw [← e2] at this
        have e3 : ∀ n : Nat, ((List.range n).flatMap fun q => pts.map fun x => (q, x)).length = n * pts.length := by
          intro n
          induction n with
          | zero => simp
          | succ n ih => rw [List.range_succ, List.flatMap_append, List.length_append, ih]; simp [Nat.add_mul]
        rw [e3] at this
        have e4 : Q * pts.length ≤ 100 * 100000 := Nat.mul_le_mul hQ hpl
        simp only [List.length_map, List.nil_append] at this ⊢
        unfold LINE
        omega
      simp -implicitDefEqProofs [wp_ok, wp_bind, wp_calm, startE, evSs, evS, evAnd, evOr, evC, evE, evL, evT, views, pures, walks, wipeE, bind_ok, bind_exc, wcalm_ok, biD, cmp_eq_int, cmp_ne_int, view_d, view_bor, view_loc, pure_d, boolR_d, dR_some, dR_none, retW_d, retW_loc, retW_fn, finF_ret, finF_nx, eltR_d, asgW_nm, nameW_d, nameW_loc, nameW_fn, flO_some, asgW_tu, asgT_nm, asgT_tu, asgT_tul, asgT_tt, asgTs_nil, asgTs_cons, biR_1, biR_bor, biR_2, biR_scr, isiR_d, itO_some, itR_1, itR_bor, itR_2, itD_seq, itD_rng1, itD_rng2, it_zip_tt, it_zip_tl, it_zip_lt, it_zip_ll, it_enum_t, it_enum_l, items_l, items_t, cmpW_dd, cmpW_bd, cmpW_db, cmp_lt, cmp_gt, ltD_int, cmp_le, cmp_ge, cmp_isN, cmp_isnotN, cmp_isB, cmp_isnotB, bin_add, bin_sub, bin_mul, bin_fdiv, bin_mod, bin_pow, add_int, subt_int, add_l, add_t, mod_int, sub_l, sub_t, slc_l, slc_t, bndR_nil, bndR_1, at_0, at_1, at_2, len_l, len_t, none_n, none_i, none_b, none_t, none_l, isi_ii, isi_bi, isi_ib, isi_bb, isi_t, isTupD_t, isTupD_l, isTupD_i, isTupD_n, isTupD_b, max_l, tuple_l, tuple_t, list_l, list_t, int_i, all_l, any_l, sum_l]
      refine Wp.mono (lcGo_allW tInts (fun x => plD (q, x)) _ fun i hi => ⟨_, rfl, rfl, ?_⟩) fun ys s1 h => ?_
      · simp -implicitDefEqProofs [wp_ok, wp_bind, wp_calm, startE, evSs, evS, evAnd, evOr, evC, evE, evL, evT, views, pures, walks, wipeE, bind_ok, bind_exc, wcalm_ok, biD, cmp_eq_int, cmp_ne_int, view_d, view_bor, view_loc, pure_d, boolR_d, dR_some, dR_none, retW_d, retW_loc, retW_fn, finF_ret, finF_nx, eltR_d, asgW_nm, nameW_d, nameW_loc, nameW_fn, flO_some, asgW_tu, asgT_nm, asgT_tu, asgT_tul, asgT_tt, asgTs_nil, asgTs_cons, biR_1, biR_bor, biR_2, biR_scr, isiR_d, itO_some, itR_1, itR_bor, itR_2, itD_seq, itD_rng1, itD_rng2, it_zip_tt, it_zip_tl, it_zip_lt, it_zip_ll, it_enum_t, it_enum_l, items_l, items_t, cmpW_dd, cmpW_bd, cmpW_db, cmp_lt, cmp_gt, ltD_int, cmp_le, cmp_ge, cmp_isN, cmp_isnotN, cmp_isB, cmp_isnotB, bin_add, bin_sub, bin_mul, bin_fdiv, bin_mod, bin_pow, add_int, subt_int, add_l, add_t, mod_int, sub_l, sub_t, slc_l, slc_t, bndR_nil, bndR_1, at_0, at_1, at_2, len_l, len_t, none_n, none_i, none_b, none_t, none_l, isi_ii, isi_bi, isi_ib, isi_bb, isi_t, isTupD_t, isTupD_l, isTupD_i, isTupD_n, isTupD_b, max_l, tuple_l, tuple_t, list_l, list_t, int_i, all_l, any_l, sum_l]
      · obtain ⟨rfl, rfl⟩ := h
        simp -implicitDefEqProofs [wp_ok, wp_bind, wp_calm, startE, evSs, evS, evAnd, evOr, evC, evE, evL, evT, views, pures, walks, wipeE, bind_ok, bind_exc, wcalm_ok, biD, cmp_eq_int, cmp_ne_int, view_d, view_bor, view_loc, pure_d, boolR_d, dR_some, dR_none, retW_d, retW_loc, retW_fn, finF_ret, finF_nx, eltR_d, asgW_nm, nameW_d, nameW_loc, nameW_fn, flO_some, asgW_tu, asgT_nm, asgT_tu, asgT_tul, asgT_tt, asgTs_nil, asgTs_cons, biR_1, biR_bor, biR_2, biR_scr, isiR_d, itO_some, itR_1, itR_bor, itR_2, itD_seq, itD_rng1, itD_rng2, it_zip_tt, it_zip_tl, it_zip_lt, it_zip_ll, it_enum_t, it_enum_l, items_l, items_t, cmpW_dd, cmpW_bd, cmpW_db, cmp_lt, cmp_gt, ltD_int, cmp_le, cmp_ge, cmp_isN, cmp_isnotN, cmp_isB, cmp_isnotB, bin_add, bin_sub, bin_mul, bin_fdiv, bin_mod, bin_pow, add_int, subt_int, add_l, add_t, mod_int, sub_l, sub_t, slc_l, slc_t, bndR_nil, bndR_1, at_0, at_1, at_2, len_l, len_t, none_n, none_i, none_b, none_t, none_l, isi_ii, isi_bi, isi_ib, isi_bb, isi_t, isTupD_t, isTupD_l, isTupD_i, isTupD_n, isTupD_b, max_l, tuple_l, tuple_t, list_l, list_t, int_i, all_l, any_l, sum_l, hll]
    · obtain ⟨rfl, j2, rfl⟩ := h
      rw [foldl_app]
      simp -implicitDefEqProofs [wp_ok, wp_bind, wp_calm, startE, evSs, evS, evAnd, evOr, evC, evE, evL, evT, views, pures, walks, wipeE, bind_ok, bind_exc, wcalm_ok, biD, cmp_eq_int, cmp_ne_int, view_d, view_bor, view_loc, pure_d, boolR_d, dR_some, dR_none, retW_d, retW_loc, retW_fn, finF_ret, finF_nx, eltR_d, asgW_nm, nameW_d, nameW_loc, nameW_fn, flO_some, asgW_tu, asgT_nm, asgT_tu, asgT_tul, asgT_tt, asgTs_nil, asgTs_cons, biR_1, biR_bor, biR_2, biR_scr, isiR_d, itO_some, itR_1, itR_bor, itR_2, itD_seq, itD_rng1, itD_rng2, it_zip_tt, it_zip_tl, it_zip_lt, it_zip_ll, it_enum_t, it_enum_l, items_l, items_t, cmpW_dd, cmpW_bd, cmpW_db, cmp_lt, cmp_gt, ltD_int, cmp_le, cmp_ge, cmp_isN, cmp_isnotN, cmp_isB, cmp_isnotB, bin_add, bin_sub, bin_mul, bin_fdiv, bin_mod, bin_pow, add_int, subt_int, add_l, add_t, mod_int, sub_l, sub_t, slc_l, slc_t, bndR_nil, bndR_1, at_0, at_1, at_2, len_l, len_t, none_n, none_i, none_b, none_t, none_l, isi_ii, isi_bi, isi_ib, isi_bb, isi_t, isTupD_t, isTupD_l, isTupD_i, isTupD_n, isTupD_b, max_l, tuple_l, tuple_t, list_l, list_t, int_i, all_l, any_l, sum_l, placesOf]

abbrev fdD (p : Nat × Nat × List Int) : PD := .tuple [.int p.1, plD p.2]
def neededOf (ns : List Need) (q : Nat) (x sides : List Int) : List (Nat × Nat × List Int) :=
  ns.zipIdx.flatMap fun p => if p.1.1 = q ∧ isPt (less x p.1.2.2) sides = true then [(p.2, p.1.2.1, less x p.1.2.2)] else []
theorem m84 (h81 : P 81 = some d81) (h82 : P 82 = some d82) (h84 : P 84 = some d84) (k : Nat) (Q C : Nat) (ns : List Need) (hn : ns.length ≤ 1000) (q : Nat) (x sides : List Int) : evF P (k + 2) (.fn 84) [.d (bookD Q C ns), .d (plD (q, x)), .d (tInts sides)] s = .ok (.d (.list ((neededOf ns q x sides).map fdD))) s := by
  rw [ev_call h84 rfl rfl]
  apply eq_of_wp
  rw [show (bookD Q C ns) = .tuple [.int Q, .int C, .tuple (ns.map nD)] from rfl]
  simp -implicitDefEqProofs only [wp_ok, wp_bind, wp_calm, startE, evSs, evS, evAnd, evOr, evC, evE, evL, evT, views, pures, walks, wipeE, bind_ok, bind_exc, wcalm_ok, biD, cmp_eq_int, cmp_ne_int, view_d, view_bor, view_loc, pure_d, boolR_d, dR_some, dR_none, retW_d, retW_loc, retW_fn, finF_ret, finF_nx, eltR_d, asgW_nm, nameW_d, nameW_loc, nameW_fn, flO_some, asgW_tu, asgT_nm, asgT_tu, asgT_tul, asgT_tt, asgTs_nil, asgTs_cons, biR_1, biR_bor, biR_2, biR_scr, isiR_d, itO_some, itR_1, itR_bor, itR_2, itD_seq, itD_rng1, itD_rng2, it_zip_tt, it_zip_tl, it_zip_lt, it_zip_ll, it_enum_t, it_enum_l, items_l, items_t, cmpW_dd, cmpW_bd, cmpW_db, cmp_lt, cmp_gt, ltD_int, cmp_le, cmp_ge, cmp_isN, cmp_isnotN, cmp_isB, cmp_isnotB, bin_add, bin_sub, bin_mul, bin_fdiv, bin_mod, bin_pow, add_int, subt_int, add_l, add_t, mod_int, sub_l, sub_t, slc_l, slc_t, bndR_nil, bndR_1, at_0, at_1, at_2, len_l, len_t, none_n, none_i, none_b, none_t, none_l, isi_ii, isi_bi, isi_ib, isi_bb, isi_t, isTupD_t, isTupD_l, isTupD_i, isTupD_n, isTupD_b, max_l, tuple_l, tuple_t, list_l, list_t, int_i, all_l, any_l, sum_l, d84]
  simp -implicitDefEqProofs [wp_ok, wp_bind, wp_calm, startE, evSs, evS, evAnd, evOr, evC, evE, evL, evT, views, pures, walks, wipeE, bind_ok, bind_exc, wcalm_ok, biD, cmp_eq_int, cmp_ne_int, view_d, view_bor, view_loc, pure_d, boolR_d, dR_some, dR_none, retW_d, retW_loc, retW_fn, finF_ret, finF_nx, eltR_d, asgW_nm, nameW_d, nameW_loc, nameW_fn, flO_some, asgW_tu, asgT_nm, asgT_tu, asgT_tul, asgT_tt, asgTs_nil, asgTs_cons, biR_1, biR_bor, biR_2, biR_scr, isiR_d, itO_some, itR_1, itR_bor, itR_2, itD_seq, itD_rng1, itD_rng2, it_zip_tt, it_zip_tl, it_zip_lt, it_zip_ll, it_enum_t, it_enum_l, items_l, items_t, cmpW_dd, cmpW_bd, cmpW_db, cmp_lt, cmp_gt, ltD_int, cmp_le, cmp_ge, cmp_isN, cmp_isnotN, cmp_isB, cmp_isnotB, bin_add, bin_sub, bin_mul, bin_fdiv, bin_mod, bin_pow, add_int, subt_int, add_l, add_t, mod_int, sub_l, sub_t, slc_l, slc_t, bndR_nil, bndR_1, at_0, at_1, at_2, len_l, len_t, none_n, none_i, none_b, none_t, none_l, isi_ii, isi_bi, isi_ib, isi_bb, isi_t, isTupD_t, isTupD_l, isTupD_i, isTupD_n, isTupD_b, max_l, tuple_l, tuple_t, list_l, list_t, int_i, all_l, any_l, sum_l, enum_needs, -List.map_map]
  refine Wp.mono (forGo_foldW (s := s) (fun p : Need × Nat => PyData.tuple [.int p.2, nD p.1]) (fun (fd : List (Nat × Nat × List Int)) (j : Option W × Option W × Option W) => [some (.d (.tuple [.int Q, .int C, .tuple (ns.map nD)])), some (.d (plD (q, x))), some (.d (tInts sides)), some (.own (.list (fd.map fdD))), j.1, j.2.1, j.2.2]) (fun fd p => fd ++ if p.1.1 = q ∧ isPt (less x p.1.2.2) sides = true then [(p.2, p.1.2.1, less x p.1.2.2)] else []) [] ns.zipIdx (none, none, none) fun pre p rest j e => ?_) fun fl s1 h => ?_
  · refine ⟨_, rfl, ?_⟩
    rw [foldl_app]
    generalize hlg : [] ++ pre.flatMap (fun p : Need × Nat => if p.1.1 = q ∧ isPt (less x p.1.2.2) sides = true then [(p.2, p.1.2.1, less x p.1.2.2)] else []) = lg
    have hll : lg.length < LINE := by
      have h1 : ∀ pre : List (Need × Nat), (pre.flatMap (fun p : Need × Nat => if p.1.1 = q ∧ isPt (less x p.1.2.2) sides = true then [(p.2, p.1.2.1, less x p.1.2.2)] else [])).length ≤ pre.length := by
        intro pre
        induction pre with
        | nil => simp
        | cons p pre ih =>
          rw [List.flatMap_cons, List.length_append]
          have : (if p.1.1 = q ∧ isPt (less x p.1.2.2) sides = true then [(p.2, p.1.2.1, less x p.1.2.2)] else []).length ≤ 1 := by split <;> simp
          simp only [List.length_cons]
          omega
      have h2 := h1 pre
      have h3 : ns.zipIdx.length = ns.length := List.length_zipIdx
      rw [e] at h3
      simp only [List.length_append, List.length_cons] at h3
      rw [← hlg, List.nil_append]
      unfold LINE
      omega
    obtain ⟨j1, j2, j3⟩ := j
    simp -implicitDefEqProofs [wp_ok, wp_bind, wp_calm, startE, evSs, evS, evAnd, evOr, evC, evE, evL, evT, views, pures, walks, wipeE, bind_ok, bind_exc, wcalm_ok, biD, cmp_eq_int, cmp_ne_int, view_d, view_bor, view_loc, pure_d, boolR_d, dR_some, dR_none, retW_d, retW_loc, retW_fn, finF_ret, finF_nx, eltR_d, asgW_nm, nameW_d, nameW_loc, nameW_fn, flO_some, asgW_tu, asgT_nm, asgT_tu, asgT_tul, asgT_tt, asgTs_nil, asgTs_cons, biR_1, biR_bor, biR_2, biR_scr, isiR_d, itO_some, itR_1, itR_bor, itR_2, itD_seq, itD_rng1, itD_rng2, it_zip_tt, it_zip_tl, it_zip_lt, it_zip_ll, it_enum_t, it_enum_l, items_l, items_t, cmpW_dd, cmpW_bd, cmpW_db, cmp_lt, cmp_gt, ltD_int, cmp_le, cmp_ge, cmp_isN, cmp_isnotN, cmp_isB, cmp_isnotB, bin_add, bin_sub, bin_mul, bin_fdiv, bin_mod, bin_pow, add_int, subt_int, add_l, add_t, mod_int, sub_l, sub_t, slc_l, slc_t, bndR_nil, bndR_1, at_0, at_1, at_2, len_l, len_t, none_n, none_i, none_b, none_t, none_l, isi_ii, isi_bi, isi_ib, isi_bb, isi_t, isTupD_t, isTupD_l, isTupD_i, isTupD_n, isTupD_b, max_l, tuple_l, tuple_t, list_l, list_t, int_i, all_l, any_l, sum_l, nD, m81 h81, m82 h82]
    by_cases c1 : p.1.1 = q
    · by_cases c2 : isPt (less x p.1.2.2) sides = true
      · simp -implicitDefEqProofs [wp_ok, wp_bind, wp_calm, startE, evSs, evS, evAnd, evOr, evC, evE, evL, evT, views, pures, walks, wipeE, bind_ok, bind_exc, wcalm_ok, biD, cmp_eq_int, cmp_ne_int, view_d, view_bor, view_loc, pure_d, boolR_d, dR_some, dR_none, retW_d, retW_loc, retW_fn, finF_ret, finF_nx, eltR_d, asgW_nm, nameW_d, nameW_loc, nameW_fn, flO_some, asgW_tu, asgT_nm, asgT_tu, asgT_tul, asgT_tt, asgTs_nil, asgTs_cons, biR_1, biR_bor, biR_2, biR_scr, isiR_d, itO_some, itR_1, itR_bor, itR_2, itD_seq, itD_rng1, itD_rng2, it_zip_tt, it_zip_tl, it_zip_lt, it_zip_ll, it_enum_t, it_enum_l, items_l, items_t, cmpW_dd, cmpW_bd, cmpW_db, cmp_lt, cmp_gt, ltD_int, cmp_le, cmp_ge, cmp_isN, cmp_isnotN, cmp_isB, cmp_isnotB, bin_add, bin_sub, bin_mul, bin_fdiv, bin_mod, bin_pow, add_int, subt_int, add_l, add_t, mod_int, sub_l, sub_t, slc_l, slc_t, bndR_nil, bndR_1, at_0, at_1, at_2, len_l, len_t, none_n, none_i, none_b, none_t, none_l, isi_ii, isi_bi, isi_ib, isi_bb, isi_t, isTupD_t, isTupD_l, isTupD_i, isTupD_n, isTupD_b, max_l, tuple_l, tuple_t, list_l, list_t, int_i, all_l, any_l, sum_l, c1, c2, appW, hll]
      · simp -implicitDefEqProofs [wp_ok, wp_bind, wp_calm, startE, evSs, evS, evAnd, evOr, evC, evE, evL, evT, views, pures, walks, wipeE, bind_ok, bind_exc, wcalm_ok, biD, cmp_eq_int, cmp_ne_int, view_d, view_bor, view_loc, pure_d, boolR_d, dR_some, dR_none, retW_d, retW_loc, retW_fn, finF_ret, finF_nx, eltR_d, asgW_nm, nameW_d, nameW_loc, nameW_fn, flO_some, asgW_tu, asgT_nm, asgT_tu, asgT_tul, asgT_tt, asgTs_nil, asgTs_cons, biR_1, biR_bor, biR_2, biR_scr, isiR_d, itO_some, itR_1, itR_bor, itR_2, itD_seq, itD_rng1, itD_rng2, it_zip_tt, it_zip_tl, it_zip_lt, it_zip_ll, it_enum_t, it_enum_l, items_l, items_t, cmpW_dd, cmpW_bd, cmpW_db, cmp_lt, cmp_gt, ltD_int, cmp_le, cmp_ge, cmp_isN, cmp_isnotN, cmp_isB, cmp_isnotB, bin_add, bin_sub, bin_mul, bin_fdiv, bin_mod, bin_pow, add_int, subt_int, add_l, add_t, mod_int, sub_l, sub_t, slc_l, slc_t, bndR_nil, bndR_1, at_0, at_1, at_2, len_l, len_t, none_n, none_i, none_b, none_t, none_l, isi_ii, isi_bi, isi_ib, isi_bb, isi_t, isTupD_t, isTupD_l, isTupD_i, isTupD_n, isTupD_b, max_l, tuple_l, tuple_t, list_l, list_t, int_i, all_l, any_l, sum_l, c1, c2]
    · have c3 : ¬ ((p.1.1 : Int) = q) := by omega
      simp -implicitDefEqProofs [wp_ok, wp_bind, wp_calm, startE, evSs, evS, evAnd, evOr, evC, evE, evL, evT, views, pures, walks, wipeE, bind_ok, bind_exc, wcalm_ok, biD, cmp_eq_int, cmp_ne_int, view_d, view_bor, view_loc, pure_d, boolR_d, dR_some, dR_none, retW_d, retW_loc, retW_fn, finF_ret, finF_nx, eltR_d, asgW_nm, nameW_d, nameW_loc, nameW_fn, flO_some, asgW_tu, asgT_nm, asgT_tu, asgT_tul, asgT_tt, asgTs_nil, asgTs_cons, biR_1, biR_bor, biR_2, biR_scr, isiR_d, itO_some, itR_1, itR_bor, itR_2, itD_seq, itD_rng1, itD_rng2, it_zip_tt, it_zip_tl, it_zip_lt, it_zip_ll, it_enum_t, it_enum_l, items_l, items_t, cmpW_dd, cmpW_bd, cmpW_db, cmp_lt, cmp_gt, ltD_int, cmp_le, cmp_ge, cmp_isN, cmp_isnotN, cmp_isB, cmp_isnotB, bin_add, bin_sub, bin_mul, bin_fdiv, bin_mod, bin_pow, add_int, subt_int, add_l, add_t, mod_int, sub_l, sub_t, slc_l, slc_t, bndR_nil, bndR_1, at_0, at_1, at_2, len_l, len_t, none_n, none_i, none_b, none_t, none_l, isi_ii, isi_bi, isi_ib, isi_bb, isi_t, isTupD_t, isTupD_l, isTupD_i, isTupD_n, isTupD_b, max_l, tuple_l, tuple_t, list_l, list_t, int_i, all_l, any_l, sum_l, c1, c3]
  · obtain ⟨rfl, j, rfl⟩ := h
    rw [foldl_app]
    simp -implicitDefEqProofs [wp_ok, wp_bind, wp_calm, startE, evSs, evS, evAnd, evOr, evC, evE, evL, evT, views, pures, walks, wipeE, bind_ok, bind_exc, wcalm_ok, biD, cmp_eq_int, cmp_ne_int, view_d, view_bor, view_loc, pure_d, boolR_d, dR_some, dR_none, retW_d, retW_loc, retW_fn, finF_ret, finF_nx, eltR_d, asgW_nm, nameW_d, nameW_loc, nameW_fn, flO_some, asgW_tu, asgT_nm, asgT_tu, asgT_tul, asgT_tt, asgTs_nil, asgTs_cons, biR_1, biR_bor, biR_2, biR_scr, isiR_d, itO_some, itR_1, itR_bor, itR_2, itD_seq, itD_rng1, itD_rng2, it_zip_tt, it_zip_tl, it_zip_lt, it_zip_ll, it_enum_t, it_enum_l, items_l, items_t, cmpW_dd, cmpW_bd, cmpW_db, cmp_lt, cmp_gt, ltD_int, cmp_le, cmp_ge, cmp_isN, cmp_isnotN, cmp_isB, cmp_isnotB, bin_add, bin_sub, bin_mul, bin_fdiv, bin_mod, bin_pow, add_int, subt_int, add_l, add_t, mod_int, sub_l, sub_t, slc_l, slc_t, bndR_nil, bndR_1, at_0, at_1, at_2, len_l, len_t, none_n, none_i, none_b, none_t, none_l, isi_ii, isi_bi, isi_ib, isi_bb, isi_t, isTupD_t, isTupD_l, isTupD_i, isTupD_n, isTupD_b, max_l, tuple_l, tuple_t, list_l, list_t, int_i, all_l, any_l, sum_l, neededOf]
end Lw

set_option Elab.async false
set_option linter.all false
set_option maxRecDepth 100000
set_option maxHeartbeats 2000000
/-! M5: mirrors of what law k43 draws and asks. -/
namespace Lw
open PySem
variable {P : Nat → Option Def} {s : Cells}
theorem rep_1 {d : PD} {n : Nat} (h : n ≤ 1000) : mulD (.tuple [d]) (.int n) = some (.tuple (List.replicate n d)) := by
  have h1 : repOk 1 n = true := by
    simp only [repOk, Bool.and_eq_true, decide_eq_true_eq]
    omega
  have e : ∀ n : Nat, (List.replicate n [d]).flatten = List.replicate n d := by
    intro n
    induction n with
    | zero => rfl
    | succ n ih => simp [List.replicate_succ, ih]
  have h2 : mulD (.tuple [d]) (.int n) = if repOk 1 n then some (.tuple (List.replicate n [d]).flatten) else none := by
    simp [mulD]
  rw [h2, h1, e]
  rfl
theorem oddOk_pair {xs ys : List PD} (hx : ∀ x ∈ xs, isIB x = true) (hy : ∀ y ∈ ys, isIB y = true) : OddOk (.tuple [.tuple xs, .tuple ys]) := by
  intro xs' ys' e x h
  cases e
  rcases List.mem_append.mp h with h | h
  · exact hx x h
  · exact hy x h
theorem ib_ints (a : List Int) : ∀ x ∈ a.map PyData.int, isIB x = true := fun x hx => by
  obtain ⟨i, _, rfl⟩ := List.mem_map.mp hx
  rfl
theorem cut_mem {xs : List PD} {lo hi : Option Int} {x : PD} (h : x ∈ cutL xs lo hi) : x ∈ xs := List.mem_of_mem_drop (List.mem_of_mem_take h)
theorem at_last {xs : List PD} (h : 0 < xs.length) : atD xs (-1) = some (xs[xs.length - 1]'(by omega)) := by
  unfold atD L2.atI L2.ixN
  have h1 : ¬ ((0 : Int) ≤ -1) := by omega
  have h2 : -(xs.length : Int) ≤ -1 := by omega
  rw [if_neg h1, if_pos h2]
  have h3 : ((-1 : Int) + xs.length).toNat = xs.length - 1 := by omega
  simp only [Option.bind_some, h3]
  rw [List.getElem?_eq_getElem]
theorem m141 (h27 : P 27 = some d27) (h29 : P 29 = some d29) (h141 : P 141 = some d141) (k : Nat) {a b : List Int} (ha : a.length ≤ 1000) (hb : b.length ≤ 1000) (hb0 : 0 < b.length) (hs : Cup s) : Wp (evF P (k + 3) (.fn 141) [.loc 0, .d (paceD a b)] s) (fun w s => Cup s ∧ ∃ v, w = .d v ∧ OddOk v) := by
  rw [ev_call h141 rfl rfl]
  obtain ⟨z, hz⟩ : ∃ z, atD (b.map PyData.int) (-1) = some (.int z) := by
    rw [at_last (by simpa using hb0)]
    exact ⟨_, by rw [List.getElem_map]⟩
  have l1 : b.length + 1 ≤ LINE := by unfold LINE; omega
  have l2 : (cutL (b.map PyData.int) none (some (-1))).length + 1 ≤ LINE := by
    have : (cutL (b.map PyData.int) none (some (-1))).length ≤ (b.map PyData.int).length := by
      unfold cutL
      rw [List.length_take, List.length_drop]
      omega
    rw [List.length_map] at this
    unfold LINE
    omega
  simp -implicitDefEqProofs only [wp_ok, wp_bind, wp_calm, startE, evSs, evS, evAnd, evOr, evC, evE, evL, evT, views, pures, walks, wipeE, bind_ok, bind_exc, wcalm_ok, biD, cmp_eq_int, cmp_ne_int, view_d, view_bor, view_loc, pure_d, boolR_d, dR_some, dR_none, retW_d, retW_loc, retW_fn, finF_ret, finF_nx, eltR_d, asgW_nm, nameW_d, nameW_loc, nameW_fn, flO_some, asgW_tu, asgT_nm, asgT_tu, asgT_tul, asgT_tt, asgTs_nil, asgTs_cons, biR_1, biR_bor, biR_2, biR_scr, isiR_d, itO_some, itR_1, itR_bor, itR_2, itD_seq, itD_rng1, itD_rng2, it_zip_tt, it_zip_tl, it_zip_lt, it_zip_ll, it_enum_t, it_enum_l, items_l, items_t, cmpW_dd, cmpW_bd, cmpW_db, cmp_lt, cmp_gt, ltD_int, cmp_le, cmp_ge, cmp_isN, cmp_isnotN, cmp_isB, cmp_isnotB, bin_add, bin_sub, bin_mul, bin_fdiv, bin_mod, bin_pow, add_int, subt_int, add_l, add_t, mod_int, sub_l, sub_t, slc_l, slc_t, bndR_nil, bndR_1, at_0, at_1, at_2, len_l, len_t, none_n, none_i, none_b, none_t, none_l, isi_ii, isi_bi, isi_ib, isi_bb, isi_t, isTupD_t, isTupD_l, isTupD_i, isTupD_n, isTupD_b, max_l, tuple_l, tuple_t, list_l, list_t, int_i, all_l, any_l, sum_l, d141]
  simp -implicitDefEqProofs [wp_ok, wp_bind, wp_calm, startE, evSs, evS, evAnd, evOr, evC, evE, evL, evT, views, pures, walks, wipeE, bind_ok, bind_exc, wcalm_ok, biD, cmp_eq_int, cmp_ne_int, view_d, view_bor, view_loc, pure_d, boolR_d, dR_some, dR_none, retW_d, retW_loc, retW_fn, finF_ret, finF_nx, eltR_d, asgW_nm, nameW_d, nameW_loc, nameW_fn, flO_some, asgW_tu, asgT_nm, asgT_tu, asgT_tul, asgT_tt, asgTs_nil, asgTs_cons, biR_1, biR_bor, biR_2, biR_scr, isiR_d, itO_some, itR_1, itR_bor, itR_2, itD_seq, itD_rng1, itD_rng2, it_zip_tt, it_zip_tl, it_zip_lt, it_zip_ll, it_enum_t, it_enum_l, items_l, items_t, cmpW_dd, cmpW_bd, cmpW_db, cmp_lt, cmp_gt, ltD_int, cmp_le, cmp_ge, cmp_isN, cmp_isnotN, cmp_isB, cmp_isnotB, bin_add, bin_sub, bin_mul, bin_fdiv, bin_mod, bin_pow, add_int, subt_int, add_l, add_t, mod_int, sub_l, sub_t, slc_l, slc_t, bndR_nil, bndR_1, at_0, at_1, at_2, len_l, len_t, none_n, none_i, none_b, none_t, none_l, isi_ii, isi_bi, isi_ib, isi_bb, isi_t, isTupD_t, isTupD_l, isTupD_i, isTupD_n, isTupD_b, max_l, tuple_l, tuple_t, list_l, list_t, int_i, all_l, any_l, sum_l, hz, l1, l2, rep_1 ha]
  refine Wp.mono (lcGo_allW PyData.int (fun i => .int (i - 1)) _ fun i hi => ⟨_, rfl, rfl, ?_⟩) fun ys s1 h => ?_
  · simp -implicitDefEqProofs [wp_ok, wp_bind, wp_calm, startE, evSs, evS, evAnd, evOr, evC, evE, evL, evT, views, pures, walks, wipeE, bind_ok, bind_exc, wcalm_ok, biD, cmp_eq_int, cmp_ne_int, view_d, view_bor, view_loc, pure_d, boolR_d, dR_some, dR_none, retW_d, retW_loc, retW_fn, finF_ret, finF_nx, eltR_d, asgW_nm, nameW_d, nameW_loc, nameW_fn, flO_some, asgW_tu, asgT_nm, asgT_tu, asgT_tul, asgT_tt, asgTs_nil, asgTs_cons, biR_1, biR_bor, biR_2, biR_scr, isiR_d, itO_some, itR_1, itR_bor, itR_2, itD_seq, itD_rng1, itD_rng2, it_zip_tt, it_zip_tl, it_zip_lt, it_zip_ll, it_enum_t, it_enum_l, items_l, items_t, cmpW_dd, cmpW_bd, cmpW_db, cmp_lt, cmp_gt, ltD_int, cmp_le, cmp_ge, cmp_isN, cmp_isnotN, cmp_isB, cmp_isnotB, bin_add, bin_sub, bin_mul, bin_fdiv, bin_mod, bin_pow, add_int, subt_int, add_l, add_t, mod_int, sub_l, sub_t, slc_l, slc_t, bndR_nil, bndR_1, at_0, at_1, at_2, len_l, len_t, none_n, none_i, none_b, none_t, none_l, isi_ii, isi_bi, isi_ib, isi_bb, isi_t, isTupD_t, isTupD_l, isTupD_i, isTupD_n, isTupD_b, max_l, tuple_l, tuple_t, list_l, list_t, int_i, all_l, any_l, sum_l]
  obtain ⟨rfl, rfl⟩ := h
  refine Wp.mono (lcGo_allW PyData.int (fun i => .int (-i)) _ fun i hi => ⟨_, rfl, rfl, ?_⟩) fun ys s1 h => ?_
  · simp -implicitDefEqProofs [wp_ok, wp_bind, wp_calm, startE, evSs, evS, evAnd, evOr, evC, evE, evL, evT, views, pures, walks, wipeE, bind_ok, bind_exc, wcalm_ok, biD, cmp_eq_int, cmp_ne_int, view_d, view_bor, view_loc, pure_d, boolR_d, dR_some, dR_none, retW_d, retW_loc, retW_fn, finF_ret, finF_nx, eltR_d, asgW_nm, nameW_d, nameW_loc, nameW_fn, flO_some, asgW_tu, asgT_nm, asgT_tu, asgT_tul, asgT_tt, asgTs_nil, asgTs_cons, biR_1, biR_bor, biR_2, biR_scr, isiR_d, itO_some, itR_1, itR_bor, itR_2, itD_seq, itD_rng1, itD_rng2, it_zip_tt, it_zip_tl, it_zip_lt, it_zip_ll, it_enum_t, it_enum_l, items_l, items_t, cmpW_dd, cmpW_bd, cmpW_db, cmp_lt, cmp_gt, ltD_int, cmp_le, cmp_ge, cmp_isN, cmp_isnotN, cmp_isB, cmp_isnotB, bin_add, bin_sub, bin_mul, bin_fdiv, bin_mod, bin_pow, add_int, subt_int, add_l, add_t, mod_int, sub_l, sub_t, slc_l, slc_t, bndR_nil, bndR_1, at_0, at_1, at_2, len_l, len_t, none_n, none_i, none_b, none_t, none_l, isi_ii, isi_bi, isi_ib, isi_bb, isi_t, isTupD_t, isTupD_l, isTupD_i, isTupD_n, isTupD_b, max_l, tuple_l, tuple_t, list_l, list_t, int_i, all_l, any_l, sum_l]
  obtain ⟨rfl, rfl⟩ := h
  refine Wp.mono (lcGo_allW PyData.int (fun i => .int (i + 1)) _ fun i hi => ⟨_, rfl, rfl, ?_⟩) fun ys s1 h => ?_
  · simp -implicitDefEqProofs [wp_ok, wp_bind, wp_calm, startE, evSs, evS, evAnd, evOr, evC, evE, evL, evT, views, pures, walks, wipeE, bind_ok, bind_exc, wcalm_ok, biD, cmp_eq_int, cmp_ne_int, view_d, view_bor, view_loc, pure_d, boolR_d, dR_some, dR_none, retW_d, retW_loc, retW_fn, finF_ret, finF_nx, eltR_d, asgW_nm, nameW_d, nameW_loc, nameW_fn, flO_some, asgW_tu, asgT_nm, asgT_tu, asgT_tul, asgT_tt, asgTs_nil, asgTs_cons, biR_1, biR_bor, biR_2, biR_scr, isiR_d, itO_some, itR_1, itR_bor, itR_2, itD_seq, itD_rng1, itD_rng2, it_zip_tt, it_zip_tl, it_zip_lt, it_zip_ll, it_enum_t, it_enum_l, items_l, items_t, cmpW_dd, cmpW_bd, cmpW_db, cmp_lt, cmp_gt, ltD_int, cmp_le, cmp_ge, cmp_isN, cmp_isnotN, cmp_isB, cmp_isnotB, bin_add, bin_sub, bin_mul, bin_fdiv, bin_mod, bin_pow, add_int, subt_int, add_l, add_t, mod_int, sub_l, sub_t, slc_l, slc_t, bndR_nil, bndR_1, at_0, at_1, at_2, len_l, len_t, none_n, none_i, none_b, none_t, none_l, isi_ii, isi_bi, isi_ib, isi_bb, isi_t, isTupD_t, isTupD_l, isTupD_i, isTupD_n, isTupD_b, max_l, tuple_l, tuple_t, list_l, list_t, int_i, all_l, any_l, sum_l]
  obtain ⟨rfl, rfl⟩ := h
  have l10 : 10 ≤ LINE := by decide
  have l13 : 13 ≤ LINE := by decide
  simp -implicitDefEqProofs [wp_ok, wp_bind, wp_calm, startE, evSs, evS, evAnd, evOr, evC, evE, evL, evT, views, pures, walks, wipeE, bind_ok, bind_exc, wcalm_ok, biD, cmp_eq_int, cmp_ne_int, view_d, view_bor, view_loc, pure_d, boolR_d, dR_some, dR_none, retW_d, retW_loc, retW_fn, finF_ret, finF_nx, eltR_d, asgW_nm, nameW_d, nameW_loc, nameW_fn, flO_some, asgW_tu, asgT_nm, asgT_tu, asgT_tul, asgT_tt, asgTs_nil, asgTs_cons, biR_1, biR_bor, biR_2, biR_scr, isiR_d, itO_some, itR_1, itR_bor, itR_2, itD_seq, itD_rng1, itD_rng2, it_zip_tt, it_zip_tl, it_zip_lt, it_zip_ll, it_enum_t, it_enum_l, items_l, items_t, cmpW_dd, cmpW_bd, cmpW_db, cmp_lt, cmp_gt, ltD_int, cmp_le, cmp_ge, cmp_isN, cmp_isnotN, cmp_isB, cmp_isnotB, bin_add, bin_sub, bin_mul, bin_fdiv, bin_mod, bin_pow, add_int, subt_int, add_l, add_t, mod_int, sub_l, sub_t, slc_l, slc_t, bndR_nil, bndR_1, at_0, at_1, at_2, len_l, len_t, none_n, none_i, none_b, none_t, none_l, isi_ii, isi_bi, isi_ib, isi_bb, isi_t, isTupD_t, isTupD_l, isTupD_i, isTupD_n, isTupD_b, max_l, tuple_l, tuple_t, list_l, list_t, int_i, all_l, any_l, sum_l, hz, l1, l2, l10, l13, rep_1 ha]
  have hib := ib_ints a
  have hib2 := ib_ints b
  have mp : ∀ (f : Int → Int) (c : List Int), ∀ x ∈ c.map (fun i => PyData.int (f i)), isIB x = true := fun f c x hx => by
    obtain ⟨i, _, rfl⟩ := List.mem_map.mp hx
    rfl
  refine Wp.mono (m29 h27 h29 k (.inl rfl) (by simp) (by simp) hs) fun w s' h => ?_
  obtain ⟨hc, x, hx, rfl⟩ := h
  simp -implicitDefEqProofs [wp_ok, wp_bind, wp_calm, startE, evSs, evS, evAnd, evOr, evC, evE, evL, evT, views, pures, walks, wipeE, bind_ok, bind_exc, wcalm_ok, biD, cmp_eq_int, cmp_ne_int, view_d, view_bor, view_loc, pure_d, boolR_d, dR_some, dR_none, retW_d, retW_loc, retW_fn, finF_ret, finF_nx, eltR_d, asgW_nm, nameW_d, nameW_loc, nameW_fn, flO_some, asgW_tu, asgT_nm, asgT_tu, asgT_tul, asgT_tt, asgTs_nil, asgTs_cons, biR_1, biR_bor, biR_2, biR_scr, isiR_d, itO_some, itR_1, itR_bor, itR_2, itD_seq, itD_rng1, itD_rng2, it_zip_tt, it_zip_tl, it_zip_lt, it_zip_ll, it_enum_t, it_enum_l, items_l, items_t, cmpW_dd, cmpW_bd, cmpW_db, cmp_lt, cmp_gt, ltD_int, cmp_le, cmp_ge, cmp_isN, cmp_isnotN, cmp_isB, cmp_isnotB, bin_add, bin_sub, bin_mul, bin_fdiv, bin_mod, bin_pow, add_int, subt_int, add_l, add_t, mod_int, sub_l, sub_t, slc_l, slc_t, bndR_nil, bndR_1, at_0, at_1, at_2, len_l, len_t, none_n, none_i, none_b, none_t, none_l, isi_ii, isi_bi, isi_ib, isi_bb, isi_t, isTupD_t, isTupD_l, isTupD_i, isTupD_n, isTupD_b, max_l, tuple_l, tuple_t, list_l, list_t, int_i, all_l, any_l, sum_l, hc]
  have rp : ∀ (d : PD), isIB d = true → ∀ x ∈ List.replicate a.length d, isIB x = true := fun d hd x hx => by
    rw [(List.mem_replicate.mp hx).2]; exact hd
  have ap : ∀ (xs : List PD) (d : PD), (∀ x ∈ xs, isIB x = true) → isIB d = true → ∀ x ∈ xs ++ [d], isIB x = true := fun xs d h1 h2 x hx => by
    rcases List.mem_append.mp hx with h | h
    · exact h1 x h
    · rw [List.mem_singleton.mp h]; exact h2
  simp only [List.mem_cons, List.not_mem_nil, or_false] at hx
  rcases hx with rfl | rfl | rfl | rfl | rfl | rfl | rfl | rfl | rfl | rfl | rfl | rfl | rfl
  · intro xs ys e; cases e
  · intro xs ys e; cases e
  · intro xs ys e; cases e
  · intro xs ys e; cases e
  · exact oddOk_pair (fun x hx => hib x (cut_mem hx)) hib2
  · exact oddOk_pair hib (ap _ _ hib2 rfl)
  · exact oddOk_pair hib (fun x hx => hib2 x (List.mem_reverse.mp hx))
  · exact oddOk_pair (mp (fun i => i - 1) a) hib2
  · exact oddOk_pair (mp (fun i => -i) a) hib2
  · exact oddOk_pair hib (mp (fun i => i + 1) b)
  · exact oddOk_pair (rp _ rfl) hib2
  · exact oddOk_pair (rp _ rfl) hib2
  · exact oddOk_pair hib (ap _ _ (fun x hx => hib2 x (cut_mem hx)) rfl)

/-! ### sorted, without doubles -/
theorem keyIs_of : ∀ {xs : List PD}, (∀ x ∈ xs, keyI x = true) → keyIs xs = true
  | [], _ => rfl
  | x :: xs, h => by
    simp only [keyIs, h x List.mem_cons_self, Bool.true_and]
    exact keyIs_of fun y hy => h y (List.mem_cons_of_mem _ hy)
theorem keyI_tI (xs : List Int) : keyI (tInts xs) = true := by
  simp only [tInts, keyI]
  exact keyIs_of fun x hx => by
    obtain ⟨i, _, rfl⟩ := List.mem_map.mp hx
    rfl
theorem keyI_nD (n : Need) : keyI (nD n) = true := by
  simp only [nD, keyI, keyIs, Bool.true_and, Bool.and_true]
  exact keyI_tI n.2.2
theorem rises_of : ∀ {l : List PD}, l.Pairwise (fun a b => leD a b = true) → l.Nodup → (∀ x ∈ l, ∃ n : Need, x = nD n) → risesD l = true
  | [], _, _, _ => rfl
  | [_], _, _, _ => rfl
  | x :: y :: r, h1, h2, h3 => by
    have ih := rises_of (l := y :: r) (List.pairwise_cons.mp h1).2 (List.nodup_cons.mp h2).2 fun z hz => h3 z (List.mem_cons_of_mem _ hz)
    have hxy := (List.pairwise_cons.mp h1).1 y List.mem_cons_self
    obtain ⟨n, rfl⟩ := h3 x List.mem_cons_self
    obtain ⟨m, rfl⟩ := h3 y (List.mem_cons_of_mem _ List.mem_cons_self)
    have hlt : W.dataLt (nD n) (nD m) = true := by
      cases c : W.dataLt (nD n) (nD m) with
      | true => rfl
      | false =>
        have hyx : leD (nD m) (nD n) = true := by rw [leD_eq, c]; rfl
        have e := leD_antisymm (keyI_nD n) (keyI_nD m) (alike_nD n m) hxy hyx
        exact absurd (e ▸ List.mem_cons_self) (List.nodup_cons.mp h2).1
    simp only [risesD, hlt, ih, Bool.and_self]
theorem key_ints : ∀ xs : List Int, (NestedKey.tup (toKeys (xs.map .int))).depth ≤ 2
  | [] => by simp [toKeys, NestedKey.depth, NestedKey.depthAll]
  | x :: xs => by
    have := key_ints xs
    simp [toKeys, toKey, NestedKey.depth, NestedKey.depthAll] at this ⊢
    omega
theorem setEl_nD (n : Need) : setEl (nD n) = true := by
  have h1 : (toKey (nD n)).depth ≤ 8 := by
    have := key_ints n.2.2
    simp [nD, toKey, toKeys, NestedKey.depth, NestedKey.depthAll] at this ⊢
    omega
  have h2 : (nD n).depth ≤ 60 := Nat.le_trans (okN_nD n).2 (by decide)
  have h3 : nonemptyTup (nD n) = true := rfl
  simp only [setEl, keyI_nD, h1, h2, h3, decide_true, Bool.and_self]
theorem sorted_needs {ns : List Need} (h : ns.length < 64) : ∃ ms : List Need, bSortedset [.list (ns.map nD)] = some (.list (ms.map nD)) ∧ risesD (ms.map nD) = true ∧ (∀ m ∈ ms, m ∈ ns ∨ ∃ n ∈ ns, nD m = nD n) ∧ ms.length ≤ ns.length := by
  have hk : ∀ y ∈ ns.map nD, keyI y = true := fun y hy => by
    obtain ⟨n, _, rfl⟩ := List.mem_map.mp hy
    exact keyI_nD n
  have hok : setOk (ns.map nD) = true := by
    have h1 : (ns.map nD).all setEl = true := by
      rw [List.all_eq_true]
      intro x hx
      obtain ⟨n, _, rfl⟩ := List.mem_map.mp hx
      exact setEl_nD n
    have h2 : allAlike (ns.map nD) = true := by
      unfold allAlike
      rw [List.all_eq_true]
      intro x hx
      rw [List.all_eq_true]
      intro y hy
      obtain ⟨n, _, rfl⟩ := List.mem_map.mp hx
      obtain ⟨m, _, rfl⟩ := List.mem_map.mp hy
      exact alike_nD n m
    simp [setOk, h1, h2, h]
  obtain ⟨d1, d2⟩ := dedD_spec (ns.map nD) hk
  have hp := sortD_perm (dedD (ns.map nD))
  have hmem : ∀ x ∈ sortD (dedD (ns.map nD)), ∃ n : Need, x = nD n ∧ n ∈ ns := fun x hx => by
    have := (d2 x).mp (hp.mem_iff.mp hx)
    obtain ⟨n, hn, rfl⟩ := List.mem_map.mp this
    exact ⟨n, rfl, hn⟩
  obtain ⟨ms, e, hms⟩ := map_of (f := nD) (p := fun n => n ∈ ns) hmem
  refine ⟨ms, ?_, ?_, fun m hm => .inl (hms m hm), ?_⟩
  · rw [← e]
    simp only [bSortedset, items?, hok, if_true]
  · rw [← e]
    exact rises_of (sortD_sorted _) ((hp.nodup_iff).mpr d1) fun x hx => let ⟨n, h, _⟩ := hmem x hx; ⟨n, h⟩
  · have h1 : (sortD (dedD (ns.map nD))).length = ms.length := by rw [e, List.length_map]
    have h2 := hp.length_eq
    have h3 : ∀ l : List PD, (dedD l).length ≤ l.length := by
      intro l
      induction l with
      | nil => simp [dedD]
      | cons x l ih =>
        simp only [dedD]
        split
        · simp only [List.length_cons]; omega
        · simp only [List.length_cons]; omega
    have h4 := h3 (ns.map nD)
    rw [List.length_map] at h4
    omega

/-! ### a book with a pace, drawn -/
structure DrawF (P : Nat → Option Def) : Prop where
  h27 : P 27 = some d27
  h29 : P 29 = some d29
  h30 : P 30 = some d30
  h31 : P 31 = some d31
  h81 : P 81 = some d81
  h136 : P 136 = some d136
  h137 : P 137 = some d137
theorem lcGo_invW {I : Cells → Prop} {α : Type} {tg : Tg} {cond : Env → Cells → R Bool} {elt : Env → Cells → R (List PD)} {env : Env} (f : α → PD) (p : α → Prop) (xs : List PD) (hs : I s) (h : ∀ x ∈ xs, ∀ s, I s → ∃ env1, asgT tg x env = some env1 ∧ cond env1 s = .ok true s ∧ Wp (elt env1 s) (fun ys s' => I s' ∧ ∃ n, ys = [f n] ∧ p n)) :
    Wp (lcGo tg cond elt env xs s) (fun ys s' => I s' ∧ ∃ ns : List α, ys = ns.map f ∧ ns.length = xs.length ∧ ∀ n ∈ ns, p n) := by
  refine (lcGo_inv (I := I) (Rel := fun y => ∃ n, y = f n ∧ p n) xs s hs fun x hx s hs => ?_).mono fun ys s' h => ?_
  · obtain ⟨env1, h1, h2, h3⟩ := h x hx s hs
    exact ⟨env1, h1, h2, h3.mono fun ys s' ⟨i, n, e, q⟩ => ⟨i, f n, e, n, rfl, q⟩⟩
  · obtain ⟨i, hl, hr⟩ := h
    obtain ⟨ns, rfl, hn⟩ := map_of hr
    exact ⟨i, ns, rfl, by simpa using hl, hn⟩
theorem some_int (h27 : P 27 = some d27) (h29 : P 29 = some d29) (k : Nat) {xs : List Int} (h0 : 0 < xs.length) (hm : xs.length < 1000) (hs : Cup s) {p : Int → Prop} (hp : ∀ x ∈ xs, p x) : Wp (evF P (k + 2) (.fn 29) [.loc 0, .d (.list (xs.map .int))] s) (fun w s => Cup s ∧ ∃ i : Int, w = .d (.int i) ∧ p i) := by
  refine (m29 h27 h29 k (.inl rfl) (by simpa using h0) (by rw [List.length_map]; omega) hs).mono fun w s' h => ?_
  obtain ⟨hc, x, hx, rfl⟩ := h
  obtain ⟨i, hi, rfl⟩ := List.mem_map.mp hx
  exact ⟨hc, i, rfl, hp i hi⟩
theorem lcGo_encW {α : Type} {tg : Tg} {cond : Env → Cells → R Bool} {elt : Env → Cells → R (List PD)} {env : Env} (enc : α → PD) (c : α → Bool) (e : α → PD) (xs : List α) (h : ∀ x ∈ xs, ∃ env1, asgT tg (enc x) env = some env1 ∧ cond env1 s = .ok (c x) s ∧ (c x = true → elt env1 s = .ok [e x] s)) :
    Wp (lcGo tg cond elt env (xs.map enc) s) (fun ys s1 => ys = (xs.filter c).map e ∧ s1 = s) := wp_of (lcGo_enc enc c e xs h) ⟨rfl, rfl⟩
theorem nD_inj {n m : Need} (h : nD n = nD m) : n = m := by
  obtain ⟨n1, n2, n3⟩ := n
  obtain ⟨m1, m2, m3⟩ := m
  simp only [nD, tInts, PyData.tuple.injEq, List.cons.injEq, PyData.int.injEq, and_true] at h
  obtain ⟨h1, h2, h3⟩ := h
  have h3 := (List.map_inj_right (fun x y e => by cases e; rfl)).mp h3
  have h1 : n1 = m1 := by omega
  have h2 : n2 = m2 := by omega
  rw [h1, h2, h3]
theorem m138 (p : DrawF P) (h138 : P 138 = some d138) (k : Nat) {Q C m : Nat} (hQ : 1 ≤ Q) (hQ2 : Q ≤ 3) (hC : 1 ≤ C) (hC2 : C ≤ 3) (hm : m ≤ 12) (hs : Cup s) : Wp (evF P (k + 5) (.fn 138) [.loc 0, .d (.int Q), .d (.int C), .d (.int m)] s) (fun w s => Cup s ∧ ∃ ns a b, w = .d (.tuple [bookD Q C ns, paceD a b]) ∧ IsB Q C ns ∧ IsP Q C ns a b) := by
  rw [ev_call h138 rfl rfl]
  simp -implicitDefEqProofs only [wp_ok, wp_bind, wp_calm, startE, evSs, evS, evAnd, evOr, evC, evE, evL, evT, views, pures, walks, wipeE, bind_ok, bind_exc, wcalm_ok, biD, cmp_eq_int, cmp_ne_int, view_d, view_bor, view_loc, pure_d, boolR_d, dR_some, dR_none, retW_d, retW_loc, retW_fn, finF_ret, finF_nx, eltR_d, asgW_nm, nameW_d, nameW_loc, nameW_fn, flO_some, asgW_tu, asgT_nm, asgT_tu, asgT_tul, asgT_tt, asgTs_nil, asgTs_cons, biR_1, biR_bor, biR_2, biR_scr, isiR_d, itO_some, itR_1, itR_bor, itR_2, itD_seq, itD_rng1, itD_rng2, it_zip_tt, it_zip_tl, it_zip_lt, it_zip_ll, it_enum_t, it_enum_l, items_l, items_t, cmpW_dd, cmpW_bd, cmpW_db, cmp_lt, cmp_gt, ltD_int, cmp_le, cmp_ge, cmp_isN, cmp_isnotN, cmp_isB, cmp_isnotB, bin_add, bin_sub, bin_mul, bin_fdiv, bin_mod, bin_pow, add_int, subt_int, add_l, add_t, mod_int, sub_l, sub_t, slc_l, slc_t, bndR_nil, bndR_1, at_0, at_1, at_2, len_l, len_t, none_n, none_i, none_b, none_t, none_l, isi_ii, isi_bi, isi_ib, isi_bb, isi_t, isTupD_t, isTupD_l, isTupD_i, isTupD_n, isTupD_b, max_l, tuple_l, tuple_t, list_l, list_t, int_i, all_l, any_l, sum_l, d138]
  simp -implicitDefEqProofs [wp_ok, wp_bind, wp_calm, startE, evSs, evS, evAnd, evOr, evC, evE, evL, evT, views, pures, walks, wipeE, bind_ok, bind_exc, wcalm_ok, biD, cmp_eq_int, cmp_ne_int, view_d, view_bor, view_loc, pure_d, boolR_d, dR_some, dR_none, retW_d, retW_loc, retW_fn, finF_ret, finF_nx, eltR_d, asgW_nm, nameW_d, nameW_loc, nameW_fn, flO_some, asgW_tu, asgT_nm, asgT_tu, asgT_tul, asgT_tt, asgTs_nil, asgTs_cons, biR_1, biR_bor, biR_2, biR_scr, isiR_d, itO_some, itR_1, itR_bor, itR_2, itD_seq, itD_rng1, itD_rng2, it_zip_tt, it_zip_tl, it_zip_lt, it_zip_ll, it_enum_t, it_enum_l, items_l, items_t, cmpW_dd, cmpW_bd, cmpW_db, cmp_lt, cmp_gt, ltD_int, cmp_le, cmp_ge, cmp_isN, cmp_isnotN, cmp_isB, cmp_isnotB, bin_add, bin_sub, bin_mul, bin_fdiv, bin_mod, bin_pow, add_int, subt_int, add_l, add_t, mod_int, sub_l, sub_t, slc_l, slc_t, bndR_nil, bndR_1, at_0, at_1, at_2, len_l, len_t, none_n, none_i, none_b, none_t, none_l, isi_ii, isi_bi, isi_ib, isi_bb, isi_t, isTupD_t, isTupD_l, isTupD_i, isTupD_n, isTupD_b, max_l, tuple_l, tuple_t, list_l, list_t, int_i, all_l, any_l, sum_l, range_nat (by omega : C ≤ 1000000), range_nat (by omega : Q ≤ 1000000), range_nat (by omega : m ≤ 1000000)]
  refine (lcGo_invW (I := Cup) PyData.int (fun i => -1000 ≤ i ∧ i ≤ 1000) _ hs fun x hx s hs => ⟨_, rfl, rfl, ?_⟩).mono fun ys s1 h => ?_
  · simp -implicitDefEqProofs [wp_ok, wp_bind, wp_calm, startE, evSs, evS, evAnd, evOr, evC, evE, evL, evT, views, pures, walks, wipeE, bind_ok, bind_exc, wcalm_ok, biD, cmp_eq_int, cmp_ne_int, view_d, view_bor, view_loc, pure_d, boolR_d, dR_some, dR_none, retW_d, retW_loc, retW_fn, finF_ret, finF_nx, eltR_d, asgW_nm, nameW_d, nameW_loc, nameW_fn, flO_some, asgW_tu, asgT_nm, asgT_tu, asgT_tul, asgT_tt, asgTs_nil, asgTs_cons, biR_1, biR_bor, biR_2, biR_scr, isiR_d, itO_some, itR_1, itR_bor, itR_2, itD_seq, itD_rng1, itD_rng2, it_zip_tt, it_zip_tl, it_zip_lt, it_zip_ll, it_enum_t, it_enum_l, items_l, items_t, cmpW_dd, cmpW_bd, cmpW_db, cmp_lt, cmp_gt, ltD_int, cmp_le, cmp_ge, cmp_isN, cmp_isnotN, cmp_isB, cmp_isnotB, bin_add, bin_sub, bin_mul, bin_fdiv, bin_mod, bin_pow, add_int, subt_int, add_l, add_t, mod_int, sub_l, sub_t, slc_l, slc_t, bndR_nil, bndR_1, at_0, at_1, at_2, len_l, len_t, none_n, none_i, none_b, none_t, none_l, isi_ii, isi_bi, isi_ib, isi_bb, isi_t, isTupD_t, isTupD_l, isTupD_i, isTupD_n, isTupD_b, max_l, tuple_l, tuple_t, list_l, list_t, int_i, all_l, any_l, sum_l]
    refine (some_int p.h27 p.h29 (k + 2) (xs := [0, 1, 1, 2, 3, -1]) (by simp) (by simp) hs (p := fun i => -1000 ≤ i ∧ i ≤ 1000) (by simp)).mono fun w s' h => ?_
    obtain ⟨hc, i, rfl, hi⟩ := h
    simp -implicitDefEqProofs only [wp_ok, wp_bind, wp_calm, startE, evSs, evS, evAnd, evOr, evC, evE, evL, evT, views, pures, walks, wipeE, bind_ok, bind_exc, wcalm_ok, biD, cmp_eq_int, cmp_ne_int, view_d, view_bor, view_loc, pure_d, boolR_d, dR_some, dR_none, retW_d, retW_loc, retW_fn, finF_ret, finF_nx, eltR_d, asgW_nm, nameW_d, nameW_loc, nameW_fn, flO_some, asgW_tu, asgT_nm, asgT_tu, asgT_tul, asgT_tt, asgTs_nil, asgTs_cons, biR_1, biR_bor, biR_2, biR_scr, isiR_d, itO_some, itR_1, itR_bor, itR_2, itD_seq, itD_rng1, itD_rng2, it_zip_tt, it_zip_tl, it_zip_lt, it_zip_ll, it_enum_t, it_enum_l, items_l, items_t, cmpW_dd, cmpW_bd, cmpW_db, cmp_lt, cmp_gt, ltD_int, cmp_le, cmp_ge, cmp_isN, cmp_isnotN, cmp_isB, cmp_isnotB, bin_add, bin_sub, bin_mul, bin_fdiv, bin_mod, bin_pow, add_int, subt_int, add_l, add_t, mod_int, sub_l, sub_t, slc_l, slc_t, bndR_nil, bndR_1, at_0, at_1, at_2, len_l, len_t, none_n, none_i, none_b, none_t, none_l, isi_ii, isi_bi, isi_ib, isi_bb, isi_t, isTupD_t, isTupD_l, isTupD_i, isTupD_n, isTupD_b, max_l, tuple_l, tuple_t, list_l, list_t, int_i, all_l, any_l, sum_l]
    exact ⟨hc, i, rfl, hi⟩
  obtain ⟨hc, a, rfl, la, ra⟩ := h
  refine (lcGo_invW (I := Cup) PyData.int (fun i => -1000 ≤ i ∧ i ≤ 1000) _ hc fun x hx s hs => ⟨_, rfl, rfl, ?_⟩).mono fun ys s1 h => ?_
  · simp -implicitDefEqProofs [wp_ok, wp_bind, wp_calm, startE, evSs, evS, evAnd, evOr, evC, evE, evL, evT, views, pures, walks, wipeE, bind_ok, bind_exc, wcalm_ok, biD, cmp_eq_int, cmp_ne_int, view_d, view_bor, view_loc, pure_d, boolR_d, dR_some, dR_none, retW_d, retW_loc, retW_fn, finF_ret, finF_nx, eltR_d, asgW_nm, nameW_d, nameW_loc, nameW_fn, flO_some, asgW_tu, asgT_nm, asgT_tu, asgT_tul, asgT_tt, asgTs_nil, asgTs_cons, biR_1, biR_bor, biR_2, biR_scr, isiR_d, itO_some, itR_1, itR_bor, itR_2, itD_seq, itD_rng1, itD_rng2, it_zip_tt, it_zip_tl, it_zip_lt, it_zip_ll, it_enum_t, it_enum_l, items_l, items_t, cmpW_dd, cmpW_bd, cmpW_db, cmp_lt, cmp_gt, ltD_int, cmp_le, cmp_ge, cmp_isN, cmp_isnotN, cmp_isB, cmp_isnotB, bin_add, bin_sub, bin_mul, bin_fdiv, bin_mod, bin_pow, add_int, subt_int, add_l, add_t, mod_int, sub_l, sub_t, slc_l, slc_t, bndR_nil, bndR_1, at_0, at_1, at_2, len_l, len_t, none_n, none_i, none_b, none_t, none_l, isi_ii, isi_bi, isi_ib, isi_bb, isi_t, isTupD_t, isTupD_l, isTupD_i, isTupD_n, isTupD_b, max_l, tuple_l, tuple_t, list_l, list_t, int_i, all_l, any_l, sum_l]
    refine (some_int p.h27 p.h29 (k + 2) (xs := [0, 0, 1, -2, 3]) (by simp) (by simp) hs (p := fun i => -1000 ≤ i ∧ i ≤ 1000) (by simp)).mono fun w s' h => ?_
    obtain ⟨hc, i, rfl, hi⟩ := h
    simp -implicitDefEqProofs only [wp_ok, wp_bind, wp_calm, startE, evSs, evS, evAnd, evOr, evC, evE, evL, evT, views, pures, walks, wipeE, bind_ok, bind_exc, wcalm_ok, biD, cmp_eq_int, cmp_ne_int, view_d, view_bor, view_loc, pure_d, boolR_d, dR_some, dR_none, retW_d, retW_loc, retW_fn, finF_ret, finF_nx, eltR_d, asgW_nm, nameW_d, nameW_loc, nameW_fn, flO_some, asgW_tu, asgT_nm, asgT_tu, asgT_tul, asgT_tt, asgTs_nil, asgTs_cons, biR_1, biR_bor, biR_2, biR_scr, isiR_d, itO_some, itR_1, itR_bor, itR_2, itD_seq, itD_rng1, itD_rng2, it_zip_tt, it_zip_tl, it_zip_lt, it_zip_ll, it_enum_t, it_enum_l, items_l, items_t, cmpW_dd, cmpW_bd, cmpW_db, cmp_lt, cmp_gt, ltD_int, cmp_le, cmp_ge, cmp_isN, cmp_isnotN, cmp_isB, cmp_isnotB, bin_add, bin_sub, bin_mul, bin_fdiv, bin_mod, bin_pow, add_int, subt_int, add_l, add_t, mod_int, sub_l, sub_t, slc_l, slc_t, bndR_nil, bndR_1, at_0, at_1, at_2, len_l, len_t, none_n, none_i, none_b, none_t, none_l, isi_ii, isi_bi, isi_ib, isi_bb, isi_t, isTupD_t, isTupD_l, isTupD_i, isTupD_n, isTupD_b, max_l, tuple_l, tuple_t, list_l, list_t, int_i, all_l, any_l, sum_l]
    exact ⟨hc, i, rfl, hi⟩
  obtain ⟨hc, b, rfl, lb, rb⟩ := h
  rw [List.length_map, List.length_range] at la lb
  refine (lcGo_invW (I := Cup) nD (FitN Q C) _ hc fun x hx s hs => ⟨_, rfl, rfl, ?_⟩).mono fun ys s1 h => ?_
  · simp -implicitDefEqProofs [wp_ok, wp_bind, wp_calm, startE, evSs, evS, evAnd, evOr, evC, evE, evL, evT, views, pures, walks, wipeE, bind_ok, bind_exc, wcalm_ok, biD, cmp_eq_int, cmp_ne_int, view_d, view_bor, view_loc, pure_d, boolR_d, dR_some, dR_none, retW_d, retW_loc, retW_fn, finF_ret, finF_nx, eltR_d, asgW_nm, nameW_d, nameW_loc, nameW_fn, flO_some, asgW_tu, asgT_nm, asgT_tu, asgT_tul, asgT_tt, asgTs_nil, asgTs_cons, biR_1, biR_bor, biR_2, biR_scr, isiR_d, itO_some, itR_1, itR_bor, itR_2, itD_seq, itD_rng1, itD_rng2, it_zip_tt, it_zip_tl, it_zip_lt, it_zip_ll, it_enum_t, it_enum_l, items_l, items_t, cmpW_dd, cmpW_bd, cmpW_db, cmp_lt, cmp_gt, ltD_int, cmp_le, cmp_ge, cmp_isN, cmp_isnotN, cmp_isB, cmp_isnotB, bin_add, bin_sub, bin_mul, bin_fdiv, bin_mod, bin_pow, add_int, subt_int, add_l, add_t, mod_int, sub_l, sub_t, slc_l, slc_t, bndR_nil, bndR_1, at_0, at_1, at_2, len_l, len_t, none_n, none_i, none_b, none_t, none_l, isi_ii, isi_bi, isi_ib, isi_bb, isi_t, isTupD_t, isTupD_l, isTupD_i, isTupD_n, isTupD_b, max_l, tuple_l, tuple_t, list_l, list_t, int_i, all_l, any_l, sum_l]
    refine (m31 p.h27 p.h29 p.h30 p.h31 k (q := Q) (c := C) (by omega) (by omega) (by omega) hs).mono fun w s' h => ?_
    obtain ⟨hc, n, rfl, hn⟩ := h
    simp -implicitDefEqProofs only [wp_ok, wp_bind, wp_calm, startE, evSs, evS, evAnd, evOr, evC, evE, evL, evT, views, pures, walks, wipeE, bind_ok, bind_exc, wcalm_ok, biD, cmp_eq_int, cmp_ne_int, view_d, view_bor, view_loc, pure_d, boolR_d, dR_some, dR_none, retW_d, retW_loc, retW_fn, finF_ret, finF_nx, eltR_d, asgW_nm, nameW_d, nameW_loc, nameW_fn, flO_some, asgW_tu, asgT_nm, asgT_tu, asgT_tul, asgT_tt, asgTs_nil, asgTs_cons, biR_1, biR_bor, biR_2, biR_scr, isiR_d, itO_some, itR_1, itR_bor, itR_2, itD_seq, itD_rng1, itD_rng2, it_zip_tt, it_zip_tl, it_zip_lt, it_zip_ll, it_enum_t, it_enum_l, items_l, items_t, cmpW_dd, cmpW_bd, cmpW_db, cmp_lt, cmp_gt, ltD_int, cmp_le, cmp_ge, cmp_isN, cmp_isnotN, cmp_isB, cmp_isnotB, bin_add, bin_sub, bin_mul, bin_fdiv, bin_mod, bin_pow, add_int, subt_int, add_l, add_t, mod_int, sub_l, sub_t, slc_l, slc_t, bndR_nil, bndR_1, at_0, at_1, at_2, len_l, len_t, none_n, none_i, none_b, none_t, none_l, isi_ii, isi_bi, isi_ib, isi_bb, isi_t, isTupD_t, isTupD_l, isTupD_i, isTupD_n, isTupD_b, max_l, tuple_l, tuple_t, list_l, list_t, int_i, all_l, any_l, sum_l]
    exact ⟨hc, n.1, n.2.1, n.2.2, rfl, hn⟩
  obtain ⟨hc, ns, rfl, ln, fn⟩ := h
  rw [List.length_map, List.length_range] at ln
  have sa : ∀ i ∈ a, small64 i = true := fun i hi => by
    have := ra i hi
    exact small_of (by omega) (by omega)
  refine (lcGo_encW nD (fun n => decide (1 ≤ lag a b n)) nD ns fun n hn => ⟨_, rfl, ?_, fun _ => ?_⟩).mono fun ys s1 h => ?_
  · have e5 := m137 (s := s1) p.h81 p.h136 p.h137 (k + 2) (Q := Q) (C := C) (ns := [n]) (a := a) (b := b) (by omega) la lb (fun n' hn' => by rw [List.mem_singleton.mp hn']; exact ⟨(fn n hn).a, (fn n hn).b, (fn n hn).l⟩) sa
    rw [show (bookD Q C [n]) = .tuple [.int Q, .int C, .tuple [nD n]] from rfl] at e5
    simp -implicitDefEqProofs [wp_ok, wp_bind, wp_calm, startE, evSs, evS, evAnd, evOr, evC, evE, evL, evT, views, pures, walks, wipeE, bind_ok, bind_exc, wcalm_ok, biD, cmp_eq_int, cmp_ne_int, view_d, view_bor, view_loc, pure_d, boolR_d, dR_some, dR_none, retW_d, retW_loc, retW_fn, finF_ret, finF_nx, eltR_d, asgW_nm, nameW_d, nameW_loc, nameW_fn, flO_some, asgW_tu, asgT_nm, asgT_tu, asgT_tul, asgT_tt, asgTs_nil, asgTs_cons, biR_1, biR_bor, biR_2, biR_scr, isiR_d, itO_some, itR_1, itR_bor, itR_2, itD_seq, itD_rng1, itD_rng2, it_zip_tt, it_zip_tl, it_zip_lt, it_zip_ll, it_enum_t, it_enum_l, items_l, items_t, cmpW_dd, cmpW_bd, cmpW_db, cmp_lt, cmp_gt, ltD_int, cmp_le, cmp_ge, cmp_isN, cmp_isnotN, cmp_isB, cmp_isnotB, bin_add, bin_sub, bin_mul, bin_fdiv, bin_mod, bin_pow, add_int, subt_int, add_l, add_t, mod_int, sub_l, sub_t, slc_l, slc_t, bndR_nil, bndR_1, at_0, at_1, at_2, len_l, len_t, none_n, none_i, none_b, none_t, none_l, isi_ii, isi_bi, isi_ib, isi_bb, isi_t, isTupD_t, isTupD_l, isTupD_i, isTupD_n, isTupD_b, max_l, tuple_l, tuple_t, list_l, list_t, int_i, all_l, any_l, sum_l, e5]
    by_cases hq : 1 ≤ lag a b n <;> simp [hq]
  · simp -implicitDefEqProofs [wp_ok, wp_bind, wp_calm, startE, evSs, evS, evAnd, evOr, evC, evE, evL, evT, views, pures, walks, wipeE, bind_ok, bind_exc, wcalm_ok, biD, cmp_eq_int, cmp_ne_int, view_d, view_bor, view_loc, pure_d, boolR_d, dR_some, dR_none, retW_d, retW_loc, retW_fn, finF_ret, finF_nx, eltR_d, asgW_nm, nameW_d, nameW_loc, nameW_fn, flO_some, asgW_tu, asgT_nm, asgT_tu, asgT_tul, asgT_tt, asgTs_nil, asgTs_cons, biR_1, biR_bor, biR_2, biR_scr, isiR_d, itO_some, itR_1, itR_bor, itR_2, itD_seq, itD_rng1, itD_rng2, it_zip_tt, it_zip_tl, it_zip_lt, it_zip_ll, it_enum_t, it_enum_l, items_l, items_t, cmpW_dd, cmpW_bd, cmpW_db, cmp_lt, cmp_gt, ltD_int, cmp_le, cmp_ge, cmp_isN, cmp_isnotN, cmp_isB, cmp_isnotB, bin_add, bin_sub, bin_mul, bin_fdiv, bin_mod, bin_pow, add_int, subt_int, add_l, add_t, mod_int, sub_l, sub_t, slc_l, slc_t, bndR_nil, bndR_1, at_0, at_1, at_2, len_l, len_t, none_n, none_i, none_b, none_t, none_l, isi_ii, isi_bi, isi_ib, isi_bb, isi_t, isTupD_t, isTupD_l, isTupD_i, isTupD_n, isTupD_b, max_l, tuple_l, tuple_t, list_l, list_t, int_i, all_l, any_l, sum_l]
  obtain ⟨rfl, rfl⟩ := h
  have hlen : (ns.filter fun n => decide (1 ≤ lag a b n)).length ≤ 12 := by
    have := filter_len (fun n => decide (1 ≤ lag a b n)) ns
    omega
  obtain ⟨ms, e, hr, hmem, hml⟩ := sorted_needs (ns := ns.filter fun n => decide (1 ≤ lag a b n)) (by omega)
  have hmem2 : ∀ n ∈ ms, n ∈ ns ∧ 1 ≤ lag a b n := fun n hn => by
    rcases hmem n hn with h | ⟨n', h, e⟩
    · simpa using List.mem_filter.mp h
    · rw [nD_inj e]; simpa using List.mem_filter.mp h
  simp -implicitDefEqProofs [wp_ok, wp_bind, wp_calm, startE, evSs, evS, evAnd, evOr, evC, evE, evL, evT, views, pures, walks, wipeE, bind_ok, bind_exc, wcalm_ok, biD, cmp_eq_int, cmp_ne_int, view_d, view_bor, view_loc, pure_d, boolR_d, dR_some, dR_none, retW_d, retW_loc, retW_fn, finF_ret, finF_nx, eltR_d, asgW_nm, nameW_d, nameW_loc, nameW_fn, flO_some, asgW_tu, asgT_nm, asgT_tu, asgT_tul, asgT_tt, asgTs_nil, asgTs_cons, biR_1, biR_bor, biR_2, biR_scr, isiR_d, itO_some, itR_1, itR_bor, itR_2, itD_seq, itD_rng1, itD_rng2, it_zip_tt, it_zip_tl, it_zip_lt, it_zip_ll, it_enum_t, it_enum_l, items_l, items_t, cmpW_dd, cmpW_bd, cmpW_db, cmp_lt, cmp_gt, ltD_int, cmp_le, cmp_ge, cmp_isN, cmp_isnotN, cmp_isB, cmp_isnotB, bin_add, bin_sub, bin_mul, bin_fdiv, bin_mod, bin_pow, add_int, subt_int, add_l, add_t, mod_int, sub_l, sub_t, slc_l, slc_t, bndR_nil, bndR_1, at_0, at_1, at_2, len_l, len_t, none_n, none_i, none_b, none_t, none_l, isi_ii, isi_bi, isi_ib, isi_bb, isi_t, isTupD_t, isTupD_l, isTupD_i, isTupD_n, isTupD_b, max_l, tuple_l, tuple_t, list_l, list_t, int_i, all_l, any_l, sum_l, e, hc]
  refine ⟨ms, a, b, ⟨rfl, rfl, rfl⟩, ⟨hQ, hQ2, hC, hC2, by omega, fun n hn => fn n (hmem2 n hn).1, hr⟩, ⟨la, lb, ra, rb, fun n hn => (hmem2 n hn).2⟩⟩
theorem m145 (p : DrawF P) (h138 : P 138 = some d138) (h145 : P 145 = some d145) (k : Nat) (hs : Cup s) : Wp (evF P (k + 6) (.fn 145) [.loc 0] s) (fun w s => Cup s ∧ ∃ Q C ns a b, w = .d (.tuple [bookD Q C ns, paceD a b]) ∧ IsB Q C ns ∧ IsP Q C ns a b) := by
  rw [ev_call h145 rfl rfl]
  simp -implicitDefEqProofs only [wp_ok, wp_bind, wp_calm, startE, evSs, evS, evAnd, evOr, evC, evE, evL, evT, views, pures, walks, wipeE, bind_ok, bind_exc, wcalm_ok, biD, cmp_eq_int, cmp_ne_int, view_d, view_bor, view_loc, pure_d, boolR_d, dR_some, dR_none, retW_d, retW_loc, retW_fn, finF_ret, finF_nx, eltR_d, asgW_nm, nameW_d, nameW_loc, nameW_fn, flO_some, asgW_tu, asgT_nm, asgT_tu, asgT_tul, asgT_tt, asgTs_nil, asgTs_cons, biR_1, biR_bor, biR_2, biR_scr, isiR_d, itO_some, itR_1, itR_bor, itR_2, itD_seq, itD_rng1, itD_rng2, it_zip_tt, it_zip_tl, it_zip_lt, it_zip_ll, it_enum_t, it_enum_l, items_l, items_t, cmpW_dd, cmpW_bd, cmpW_db, cmp_lt, cmp_gt, ltD_int, cmp_le, cmp_ge, cmp_isN, cmp_isnotN, cmp_isB, cmp_isnotB, bin_add, bin_sub, bin_mul, bin_fdiv, bin_mod, bin_pow, add_int, subt_int, add_l, add_t, mod_int, sub_l, sub_t, slc_l, slc_t, bndR_nil, bndR_1, at_0, at_1, at_2, len_l, len_t, none_n, none_i, none_b, none_t, none_l, isi_ii, isi_bi, isi_ib, isi_bb, isi_t, isTupD_t, isTupD_l, isTupD_i, isTupD_n, isTupD_b, max_l, tuple_l, tuple_t, list_l, list_t, int_i, all_l, any_l, sum_l, d145]
  simp -implicitDefEqProofs [wp_ok, wp_bind, wp_calm, startE, evSs, evS, evAnd, evOr, evC, evE, evL, evT, views, pures, walks, wipeE, bind_ok, bind_exc, wcalm_ok, biD, cmp_eq_int, cmp_ne_int, view_d, view_bor, view_loc, pure_d, boolR_d, dR_some, dR_none, retW_d, retW_loc, retW_fn, finF_ret, finF_nx, eltR_d, asgW_nm, nameW_d, nameW_loc, nameW_fn, flO_some, asgW_tu, asgT_nm, asgT_tu, asgT_tul, asgT_tt, asgTs_nil, asgTs_cons, biR_1, biR_bor, biR_2, biR_scr, isiR_d, itO_some, itR_1, itR_bor, itR_2, itD_seq, itD_rng1, itD_rng2, it_zip_tt, it_zip_tl, it_zip_lt, it_zip_ll, it_enum_t, it_enum_l, items_l, items_t, cmpW_dd, cmpW_bd, cmpW_db, cmp_lt, cmp_gt, ltD_int, cmp_le, cmp_ge, cmp_isN, cmp_isnotN, cmp_isB, cmp_isnotB, bin_add, bin_sub, bin_mul, bin_fdiv, bin_mod, bin_pow, add_int, subt_int, add_l, add_t, mod_int, sub_l, sub_t, slc_l, slc_t, bndR_nil, bndR_1, at_0, at_1, at_2, len_l, len_t, none_n, none_i, none_b, none_t, none_l, isi_ii, isi_bi, isi_ib, isi_bb, isi_t, isTupD_t, isTupD_l, isTupD_i, isTupD_n, isTupD_b, max_l, tuple_l, tuple_t, list_l, list_t, int_i, all_l, any_l, sum_l]
  refine (some_int p.h27 p.h29 (k + 3) (xs := [1, 2, 2]) (by simp) (by simp) hs (p := fun i => i = 1 ∨ i = 2) (by simp)).mono fun w s1 h => ?_
  obtain ⟨hc, i, rfl, hi⟩ := h
  refine (some_int p.h27 p.h29 (k + 3) (xs := [1, 2, 2]) (by simp) (by simp) hc (p := fun i => i = 1 ∨ i = 2) (by simp)).mono fun w s1 h => ?_
  obtain ⟨hc, j, rfl, hj⟩ := h
  obtain ⟨Q, rfl⟩ := Int.eq_ofNat_of_zero_le (by omega : 0 ≤ i)
  obtain ⟨C, rfl⟩ := Int.eq_ofNat_of_zero_le (by omega : 0 ≤ j)
  refine (m138 p h138 k (Q := Q) (C := C) (m := 6) (by omega) (by omega) (by omega) (by omega) (by omega) hc).mono fun w s1 h => ?_
  obtain ⟨hc, ns, a, b, rfl, hB, hP⟩ := h
  simp -implicitDefEqProofs [wp_ok, wp_bind, wp_calm, startE, evSs, evS, evAnd, evOr, evC, evE, evL, evT, views, pures, walks, wipeE, bind_ok, bind_exc, wcalm_ok, biD, cmp_eq_int, cmp_ne_int, view_d, view_bor, view_loc, pure_d, boolR_d, dR_some, dR_none, retW_d, retW_loc, retW_fn, finF_ret, finF_nx, eltR_d, asgW_nm, nameW_d, nameW_loc, nameW_fn, flO_some, asgW_tu, asgT_nm, asgT_tu, asgT_tul, asgT_tt, asgTs_nil, asgTs_cons, biR_1, biR_bor, biR_2, biR_scr, isiR_d, itO_some, itR_1, itR_bor, itR_2, itD_seq, itD_rng1, itD_rng2, it_zip_tt, it_zip_tl, it_zip_lt, it_zip_ll, it_enum_t, it_enum_l, items_l, items_t, cmpW_dd, cmpW_bd, cmpW_db, cmp_lt, cmp_gt, ltD_int, cmp_le, cmp_ge, cmp_isN, cmp_isnotN, cmp_isB, cmp_isnotB, bin_add, bin_sub, bin_mul, bin_fdiv, bin_mod, bin_pow, add_int, subt_int, add_l, add_t, mod_int, sub_l, sub_t, slc_l, slc_t, bndR_nil, bndR_1, at_0, at_1, at_2, len_l, len_t, none_n, none_i, none_b, none_t, none_l, isi_ii, isi_bi, isi_ib, isi_bb, isi_t, isTupD_t, isTupD_l, isTupD_i, isTupD_n, isTupD_b, max_l, tuple_l, tuple_t, list_l, list_t, int_i, all_l, any_l, sum_l, hc]
  exact ⟨Q, C, ns, a, b, ⟨rfl, rfl, rfl⟩, hB, hP⟩
end Lw

set_option Elab.async false
set_option linter.all false
set_option maxRecDepth 100000
set_option maxHeartbeats 4000000
/-! M6: the law's check of a book with its pace. -/
namespace Lw
open PySem
variable {P : Nat → Option Def} {s : Cells}
structure RightF (P : Nat → Option Def) : Prop where
  pf : PaceF P
  df : DrawF P
  h131 : P 131 = some d131
  h134 : P 134 = some d134
  h135 : P 135 = some d135
  h143 : P 143 = some d143
  h82 : P 82 = some d82
  h83 : P 83 = some d83
  h84 : P 84 = some d84
  h86 : P 86 = some d86
  h139 : P 139 = some d139
  h140 : P 140 = some d140
  h141 : P 141 = some d141
  h142 : P 142 = some d142
  h144 : P 144 = some d144
theorem pts_le : ∀ (pre : List Nat), pre.length ≤ 3 → (∀ x ∈ pre, x ≤ 4) → (ptsOf pre).length ≤ 64 := by
  have h1 : ∀ (pts : List (List Int)) (x : Nat), (nextPts pts x).length = pts.length * x := nextPts_len
  intro pre hl hx
  match pre, hl, hx with
  | [], _, _ => simp [ptsOf]
  | [x], _, hx =>
    have := hx x (by simp)
    simp only [ptsOf, List.foldl_cons, List.foldl_nil, h1, List.length_singleton]
    omega
  | [x, y], _, hx =>
    have h2 := hx x (by simp)
    have h3 := hx y (by simp)
    simp only [ptsOf, List.foldl_cons, List.foldl_nil, h1, List.length_singleton]
    have := Nat.mul_le_mul (Nat.mul_le_mul (Nat.le_refl 1) h2) h3
    omega
  | [x, y, z], _, hx =>
    have h2 := hx x (by simp)
    have h3 := hx y (by simp)
    have h4 := hx z (by simp)
    simp only [ptsOf, List.foldl_cons, List.foldl_nil, h1, List.length_singleton]
    have := Nat.mul_le_mul (Nat.mul_le_mul (Nat.mul_le_mul (Nat.le_refl 1) h2) h3) h4
    omega
theorem needed_mem {ns : List Need} {q : Nat} {x sides : List Int} {f : Nat × Nat × List Int} (h : f ∈ neededOf ns q x sides) : ∃ n : Need, ns[f.1]? = some n ∧ n ∈ ns ∧ n.1 = q ∧ f.2.1 = n.2.1 ∧ f.2.2 = less x n.2.2 := by
  unfold neededOf at h
  obtain ⟨p, hp, h⟩ := List.mem_flatMap.mp h
  split at h
  · rename_i c
    have e := List.mem_singleton.mp h
    subst e
    have h3 := List.mem_zipIdx hp
    have h4 : p.2 < ns.length := by omega
    refine ⟨p.1, ?_, ?_, c.1, rfl, rfl⟩
    · rw [List.getElem?_eq_getElem h4, h3.2.2]
      simp
    · rw [h3.2.2]
      exact List.getElem_mem _
  · cases h
theorem places_mem {Q : Nat} {pts : List (List Int)} {p : Nat × List Int} (h : p ∈ placesOf Q pts) : p.1 < Q ∧ p.2 ∈ pts := by
  unfold placesOf at h
  obtain ⟨q, hq, h⟩ := List.mem_flatMap.mp h
  obtain ⟨x, hx, rfl⟩ := List.mem_map.mp h
  exact ⟨List.mem_range.mp hq, hx⟩
theorem m146 (p : RightF P) (h146 : P 146 = some d146) (k : Nat) {Q C : Nat} {ns : List Need} {a b : List Int} (hB : IsB Q C ns) (hP : IsP Q C ns a b) (hs : Cup s) : Wp (evF P (k + 7) (.fn 146) [.loc 0, .d (bookD Q C ns), .d (paceD a b)] s) (fun w s => Cup s ∧ w = .d (.bool true)) := by
  rw [ev_call h146 rfl rfl]
  have hQ := hB.q3
  have hC := hB.c3
  have fits : ∀ n ∈ ns, n.1 < Q ∧ n.2.1 < Q ∧ n.2.2.length = C := fun n hn => ⟨(hB.fit n hn).a, (hB.fit n hn).b, (hB.fit n hn).l⟩
  have eis : ∀ (v : PD) (s : Cells), evF P (k + 6) (.fn 139) [.d (bookD Q C ns), .d v] s = .ok (.d (.bool (fitsP Q C ns v))) s := fun v s => m139 p.pf p.h139 k hB v
  have elg : ∀ s : Cells, evF P (k + 6) (.fn 140) [.d (bookD Q C ns), .d (paceD a b)] s = .ok (.d (tInts (ns.map (lag a b)))) s := fun s => m140 p.pf p.h140 k hB hP
  have ell : ∀ s : Cells, evF P (k + 6) (.fn 137) [.d (bookD Q C ns), .d (paceD a b)] s = .ok (.d (.list ((ns.map (lag a b)).map .int))) s := fun s => m137 p.df.h81 p.df.h136 p.df.h137 (k + 4) (by omega) hP.la hP.lb fits hP.small
  have ekf : ∀ (q : Nat) (s : Cells), q < Q → evF P (k + 6) (.fn 143) [.d (bookD Q C ns), .d (paceD a b), .d (.int q)] s = .ok (.d (.int (keptI ns a b q))) s := fun q s hq => m143 p.pf p.h131 p.h134 p.h135 p.h143 k hB hP hq
  have ekl : ∀ (q : Nat) (s : Cells), evF P (k + 6) (.fn 144) [.d (bookD Q C ns), .d (paceD a b), .d (.int q)] s = .ok (.d (.int (keptI ns a b q))) s := fun q s => m144 p.df.h81 p.df.h136 p.df.h137 p.h144 (k + 3) hB hP q
  have emm : ∀ (q : Nat) (x : List Int) (s : Cells), q < Q → evF P (k + 6) (.fn 136) [.d (paceD a b), .d (.int q), .d (tInts x)] s = .ok (.d (.int (dot a x + gI b q))) s := fun q x s hq => m136 p.df.h136 (k + 5) (by rw [hP.lb]; exact hq) hP.small
  have esd : ∀ s : Cells, Cup s → Wp (evF P (k + 6) (.fn 86) [.loc 0, .d (bookD Q C ns), .d (.int 4)] s) (fun w s => Cup s ∧ ∃ xs : List Nat, w = .d (tInts (xs.map Int.ofNat)) ∧ xs.length = C ∧ ∀ x ∈ xs, 1 ≤ x ∧ x ≤ 4) := fun s hs => m86 p.df.h27 p.h86 (k + 4) Q C ns (by omega) (m := 4) (by omega) (by omega) hs
  have epl : ∀ (sides : List Nat) (s : Cells), sides.length = C → (∀ x ∈ sides, 1 ≤ x ∧ x ≤ 4) → evF P (k + 6) (.fn 83) [.d (bookD Q C ns), .d (tInts (sides.map Int.ofNat))] s = .ok (.d (.list ((placesOf Q (ptsOf sides)).map plD))) s := fun sides s hl hx => m83 p.h83 (k + 5) Q C ns sides (by omega) (fun x h => by have := hx x h; omega) (fun pre rest e => by
    have := pts_le pre (by have : sides.length = pre.length + rest.length := by rw [e, List.length_append]
                           omega) (fun x h => (hx x (by rw [e]; exact List.mem_append_left _ h)).2)
    omega) (by omega)
  have end' : ∀ (q : Nat) (x sides : List Int) (s : Cells), evF P (k + 6) (.fn 84) [.d (bookD Q C ns), .d (plD (q, x)), .d (tInts sides)] s = .ok (.d (.list ((neededOf ns q x sides).map fdD))) s := fun q x sides s => m84 p.df.h81 p.h82 p.h84 (k + 4) Q C ns (by have := hB.len; omega) q x sides
  have eod : ∀ (v : PD) (s : Cells), OddOk v → evF P (k + 6) (.fn 142) [.d (bookD Q C ns), .d v] s = .ok (.d (.bool (fitsP Q C ns v))) s := fun v s h => m142 p.df.h81 p.df.h136 p.df.h137 p.h142 (k + 3) (by omega) (by omega) fits h
  have hb0 : subD (bookD Q C ns) (.int 0) = some (.int Q) := rfl
  generalize bookD Q C ns = bk at eis elg ell ekf ekl esd epl end' eod hb0 ⊢
  simp -implicitDefEqProofs only [wp_ok, wp_bind, wp_calm, startE, evSs, evS, evAnd, evOr, evC, evE, evL, evT, views, pures, walks, wipeE, bind_ok, bind_exc, wcalm_ok, biD, cmp_eq_int, cmp_ne_int, view_d, view_bor, view_loc, pure_d, boolR_d, dR_some, dR_none, retW_d, retW_loc, retW_fn, finF_ret, finF_nx, eltR_d, asgW_nm, nameW_d, nameW_loc, nameW_fn, flO_some, asgW_tu, asgT_nm, asgT_tu, asgT_tul, asgT_tt, asgTs_nil, asgTs_cons, biR_1, biR_bor, biR_2, biR_scr, isiR_d, itO_some, itR_1, itR_bor, itR_2, itD_seq, itD_rng1, itD_rng2, it_zip_tt, it_zip_tl, it_zip_lt, it_zip_ll, it_enum_t, it_enum_l, items_l, items_t, cmpW_dd, cmpW_bd, cmpW_db, cmp_lt, cmp_gt, ltD_int, cmp_le, cmp_ge, cmp_isN, cmp_isnotN, cmp_isB, cmp_isnotB, bin_add, bin_sub, bin_mul, bin_fdiv, bin_mod, bin_pow, add_int, subt_int, add_l, add_t, mod_int, sub_l, sub_t, slc_l, slc_t, bndR_nil, bndR_1, at_0, at_1, at_2, len_l, len_t, none_n, none_i, none_b, none_t, none_l, isi_ii, isi_bi, isi_ib, isi_bb, isi_t, isTupD_t, isTupD_l, isTupD_i, isTupD_n, isTupD_b, max_l, tuple_l, tuple_t, list_l, list_t, int_i, all_l, any_l, sum_l, d146]
  simp -implicitDefEqProofs [wp_ok, wp_bind, wp_calm, startE, evSs, evS, evAnd, evOr, evC, evE, evL, evT, views, pures, walks, wipeE, bind_ok, bind_exc, wcalm_ok, biD, cmp_eq_int, cmp_ne_int, view_d, view_bor, view_loc, pure_d, boolR_d, dR_some, dR_none, retW_d, retW_loc, retW_fn, finF_ret, finF_nx, eltR_d, asgW_nm, nameW_d, nameW_loc, nameW_fn, flO_some, asgW_tu, asgT_nm, asgT_tu, asgT_tul, asgT_tt, asgTs_nil, asgTs_cons, biR_1, biR_bor, biR_2, biR_scr, isiR_d, itO_some, itR_1, itR_bor, itR_2, itD_seq, itD_rng1, itD_rng2, it_zip_tt, it_zip_tl, it_zip_lt, it_zip_ll, it_enum_t, it_enum_l, items_l, items_t, cmpW_dd, cmpW_bd, cmpW_db, cmp_lt, cmp_gt, ltD_int, cmp_le, cmp_ge, cmp_isN, cmp_isnotN, cmp_isB, cmp_isnotB, bin_add, bin_sub, bin_mul, bin_fdiv, bin_mod, bin_pow, add_int, subt_int, add_l, add_t, mod_int, sub_l, sub_t, slc_l, slc_t, bndR_nil, bndR_1, at_0, at_1, at_2, len_l, len_t, none_n, none_i, none_b, none_t, none_l, isi_ii, isi_bi, isi_ib, isi_bb, isi_t, isTupD_t, isTupD_l, isTupD_i, isTupD_n, isTupD_b, max_l, tuple_l, tuple_t, list_l, list_t, int_i, all_l, any_l, sum_l, eis, elg, ell, fitsP_of hP, cmp_ne_tI, -List.map_map]
  refine (m141 p.df.h27 p.df.h29 p.h141 (k + 3) (a := a) (b := b) (by rw [hP.la]; omega) (by rw [hP.lb]; omega) (by rw [hP.lb]; exact hB.q1) hs).mono fun w s1 h => ?_
  obtain ⟨hc, v, rfl, hv⟩ := h
  simp -implicitDefEqProofs [wp_ok, wp_bind, wp_calm, startE, evSs, evS, evAnd, evOr, evC, evE, evL, evT, views, pures, walks, wipeE, bind_ok, bind_exc, wcalm_ok, biD, cmp_eq_int, cmp_ne_int, view_d, view_bor, view_loc, pure_d, boolR_d, dR_some, dR_none, retW_d, retW_loc, retW_fn, finF_ret, finF_nx, eltR_d, asgW_nm, nameW_d, nameW_loc, nameW_fn, flO_some, asgW_tu, asgT_nm, asgT_tu, asgT_tul, asgT_tt, asgTs_nil, asgTs_cons, biR_1, biR_bor, biR_2, biR_scr, isiR_d, itO_some, itR_1, itR_bor, itR_2, itD_seq, itD_rng1, itD_rng2, it_zip_tt, it_zip_tl, it_zip_lt, it_zip_ll, it_enum_t, it_enum_l, items_l, items_t, cmpW_dd, cmpW_bd, cmpW_db, cmp_lt, cmp_gt, ltD_int, cmp_le, cmp_ge, cmp_isN, cmp_isnotN, cmp_isB, cmp_isnotB, bin_add, bin_sub, bin_mul, bin_fdiv, bin_mod, bin_pow, add_int, subt_int, add_l, add_t, mod_int, sub_l, sub_t, slc_l, slc_t, bndR_nil, bndR_1, at_0, at_1, at_2, len_l, len_t, none_n, none_i, none_b, none_t, none_l, isi_ii, isi_bi, isi_ib, isi_bb, isi_t, isTupD_t, isTupD_l, isTupD_i, isTupD_n, isTupD_b, max_l, tuple_l, tuple_t, list_l, list_t, int_i, all_l, any_l, sum_l, eis, eod v _ hv, cmp_ne_bool]
  refine (esd s1 hc).mono fun w s2 h => ?_
  obtain ⟨hc, sides, rfl, hsl, hsx⟩ := h
  simp -implicitDefEqProofs [wp_ok, wp_bind, wp_calm, startE, evSs, evS, evAnd, evOr, evC, evE, evL, evT, views, pures, walks, wipeE, bind_ok, bind_exc, wcalm_ok, biD, cmp_eq_int, cmp_ne_int, view_d, view_bor, view_loc, pure_d, boolR_d, dR_some, dR_none, retW_d, retW_loc, retW_fn, finF_ret, finF_nx, eltR_d, asgW_nm, nameW_d, nameW_loc, nameW_fn, flO_some, asgW_tu, asgT_nm, asgT_tu, asgT_tul, asgT_tt, asgTs_nil, asgTs_cons, biR_1, biR_bor, biR_2, biR_scr, isiR_d, itO_some, itR_1, itR_bor, itR_2, itD_seq, itD_rng1, itD_rng2, it_zip_tt, it_zip_tl, it_zip_lt, it_zip_ll, it_enum_t, it_enum_l, items_l, items_t, cmpW_dd, cmpW_bd, cmpW_db, cmp_lt, cmp_gt, ltD_int, cmp_le, cmp_ge, cmp_isN, cmp_isnotN, cmp_isB, cmp_isnotB, bin_add, bin_sub, bin_mul, bin_fdiv, bin_mod, bin_pow, add_int, subt_int, add_l, add_t, mod_int, sub_l, sub_t, slc_l, slc_t, bndR_nil, bndR_1, at_0, at_1, at_2, len_l, len_t, none_n, none_i, none_b, none_t, none_l, isi_ii, isi_bi, isi_ib, isi_bb, isi_t, isTupD_t, isTupD_l, isTupD_i, isTupD_n, isTupD_b, max_l, tuple_l, tuple_t, list_l, list_t, int_i, all_l, any_l, sum_l, epl sides _ hsl hsx]
  refine Wp.mono (forGo_foldW (s := s2) plD (fun (_ : Unit) (j : Option W × Option W × Option W) => [some (.loc 0), some (.d bk), some (.d (paceD a b)), some (.d v), some (.d (tInts (sides.map Int.ofNat))), j.1, j.2.1, j.2.2, none]) (fun _ _ => ()) () (placesOf Q (ptsOf sides)) (none, none, none) fun pre pl rest j e => ?_) fun fl s3 h => ?_
  · refine ⟨_, rfl, ?_⟩
    obtain ⟨hq, hx⟩ := places_mem (show pl ∈ placesOf Q (ptsOf sides) by rw [e]; simp)
    have hxl := ptsOf_len sides pl.2 hx
    simp -implicitDefEqProofs [wp_ok, wp_bind, wp_calm, startE, evSs, evS, evAnd, evOr, evC, evE, evL, evT, views, pures, walks, wipeE, bind_ok, bind_exc, wcalm_ok, biD, cmp_eq_int, cmp_ne_int, view_d, view_bor, view_loc, pure_d, boolR_d, dR_some, dR_none, retW_d, retW_loc, retW_fn, finF_ret, finF_nx, eltR_d, asgW_nm, nameW_d, nameW_loc, nameW_fn, flO_some, asgW_tu, asgT_nm, asgT_tu, asgT_tul, asgT_tt, asgTs_nil, asgTs_cons, biR_1, biR_bor, biR_2, biR_scr, isiR_d, itO_some, itR_1, itR_bor, itR_2, itD_seq, itD_rng1, itD_rng2, it_zip_tt, it_zip_tl, it_zip_lt, it_zip_ll, it_enum_t, it_enum_l, items_l, items_t, cmpW_dd, cmpW_bd, cmpW_db, cmp_lt, cmp_gt, ltD_int, cmp_le, cmp_ge, cmp_isN, cmp_isnotN, cmp_isB, cmp_isnotB, bin_add, bin_sub, bin_mul, bin_fdiv, bin_mod, bin_pow, add_int, subt_int, add_l, add_t, mod_int, sub_l, sub_t, slc_l, slc_t, bndR_nil, bndR_1, at_0, at_1, at_2, len_l, len_t, none_n, none_i, none_b, none_t, none_l, isi_ii, isi_bi, isi_ib, isi_bb, isi_t, isTupD_t, isTupD_l, isTupD_i, isTupD_n, isTupD_b, max_l, tuple_l, tuple_t, list_l, list_t, int_i, all_l, any_l, sum_l, end']
    refine Wp.mono (forGo_foldW (s := s2) fdD (fun (_ : Unit) (j2 : Option W × Option W) => [some (.loc 0), some (.d bk), some (.d (paceD a b)), some (.d v), some (.d (tInts (sides.map Int.ofNat))), some (.d (plD pl)), j2.1, j2.2, none]) (fun _ _ => ()) () (neededOf ns pl.1 pl.2 (sides.map Int.ofNat)) (j.2.1, j.2.2) fun pre2 f rest2 j2 e2 => ?_) fun fl s3 h => ?_
    · refine ⟨_, rfl, ?_⟩
      obtain ⟨n, n1, n2, n3, n4, n5⟩ := needed_mem (show f ∈ neededOf ns pl.1 pl.2 (sides.map Int.ofNat) by rw [e2]; simp)
      have fn := fits n n2
      have hf : f.1 < ns.length := by
        rcases Nat.lt_or_ge f.1 ns.length with h | h
        · exact h
        · rw [List.getElem?_eq_none h] at n1; cases n1
      have hat : atD ((ns.map (lag a b)).map PyData.int) (f.1 : Int) = some (.int (lag a b n)) := by
        rw [at_nat (by simpa using hf)]
        simp [n1]
      have hdl := dot_less a pl.2 n.2.2 (by rw [hP.la, hxl, hsl]) (by rw [hP.la]; exact fn.2.2.symm)
      have heq : dot a pl.2 + gI b pl.1 - (dot a f.2.2 + gI b f.2.1) = lag a b n := by
        rw [n5, hdl, n4, ← n3]
        unfold lag
        omega
      simp -implicitDefEqProofs [wp_ok, wp_bind, wp_calm, startE, evSs, evS, evAnd, evOr, evC, evE, evL, evT, views, pures, walks, wipeE, bind_ok, bind_exc, wcalm_ok, biD, cmp_eq_int, cmp_ne_int, view_d, view_bor, view_loc, pure_d, boolR_d, dR_some, dR_none, retW_d, retW_loc, retW_fn, finF_ret, finF_nx, eltR_d, asgW_nm, nameW_d, nameW_loc, nameW_fn, flO_some, asgW_tu, asgT_nm, asgT_tu, asgT_tul, asgT_tt, asgTs_nil, asgTs_cons, biR_1, biR_bor, biR_2, biR_scr, isiR_d, itO_some, itR_1, itR_bor, itR_2, itD_seq, itD_rng1, itD_rng2, it_zip_tt, it_zip_tl, it_zip_lt, it_zip_ll, it_enum_t, it_enum_l, items_l, items_t, cmpW_dd, cmpW_bd, cmpW_db, cmp_lt, cmp_gt, ltD_int, cmp_le, cmp_ge, cmp_isN, cmp_isnotN, cmp_isB, cmp_isnotB, bin_add, bin_sub, bin_mul, bin_fdiv, bin_mod, bin_pow, add_int, subt_int, add_l, add_t, mod_int, sub_l, sub_t, slc_l, slc_t, bndR_nil, bndR_1, at_0, at_1, at_2, len_l, len_t, none_n, none_i, none_b, none_t, none_l, isi_ii, isi_bi, isi_ib, isi_bb, isi_t, isTupD_t, isTupD_l, isTupD_i, isTupD_n, isTupD_b, max_l, tuple_l, tuple_t, list_l, list_t, int_i, all_l, any_l, sum_l, emm pl.1 pl.2 _ hq, emm f.2.1 f.2.2 _ (by rw [n4]; exact fn.2.1), ell, hat, heq, -List.map_map]
    · obtain ⟨rfl, j2, rfl⟩ := h
      simp -implicitDefEqProofs [wp_ok, wp_bind, wp_calm, startE, evSs, evS, evAnd, evOr, evC, evE, evL, evT, views, pures, walks, wipeE, bind_ok, bind_exc, wcalm_ok, biD, cmp_eq_int, cmp_ne_int, view_d, view_bor, view_loc, pure_d, boolR_d, dR_some, dR_none, retW_d, retW_loc, retW_fn, finF_ret, finF_nx, eltR_d, asgW_nm, nameW_d, nameW_loc, nameW_fn, flO_some, asgW_tu, asgT_nm, asgT_tu, asgT_tul, asgT_tt, asgTs_nil, asgTs_cons, biR_1, biR_bor, biR_2, biR_scr, isiR_d, itO_some, itR_1, itR_bor, itR_2, itD_seq, itD_rng1, itD_rng2, it_zip_tt, it_zip_tl, it_zip_lt, it_zip_ll, it_enum_t, it_enum_l, items_l, items_t, cmpW_dd, cmpW_bd, cmpW_db, cmp_lt, cmp_gt, ltD_int, cmp_le, cmp_ge, cmp_isN, cmp_isnotN, cmp_isB, cmp_isnotB, bin_add, bin_sub, bin_mul, bin_fdiv, bin_mod, bin_pow, add_int, subt_int, add_l, add_t, mod_int, sub_l, sub_t, slc_l, slc_t, bndR_nil, bndR_1, at_0, at_1, at_2, len_l, len_t, none_n, none_i, none_b, none_t, none_l, isi_ii, isi_bi, isi_ib, isi_bb, isi_t, isTupD_t, isTupD_l, isTupD_i, isTupD_n, isTupD_b, max_l, tuple_l, tuple_t, list_l, list_t, int_i, all_l, any_l, sum_l]
  · obtain ⟨rfl, j, rfl⟩ := h
    simp -implicitDefEqProofs [wp_ok, wp_bind, wp_calm, startE, evSs, evS, evAnd, evOr, evC, evE, evL, evT, views, pures, walks, wipeE, bind_ok, bind_exc, wcalm_ok, biD, cmp_eq_int, cmp_ne_int, view_d, view_bor, view_loc, pure_d, boolR_d, dR_some, dR_none, retW_d, retW_loc, retW_fn, finF_ret, finF_nx, eltR_d, asgW_nm, nameW_d, nameW_loc, nameW_fn, flO_some, asgW_tu, asgT_nm, asgT_tu, asgT_tul, asgT_tt, asgTs_nil, asgTs_cons, biR_1, biR_bor, biR_2, biR_scr, isiR_d, itO_some, itR_1, itR_bor, itR_2, itD_seq, itD_rng1, itD_rng2, it_zip_tt, it_zip_tl, it_zip_lt, it_zip_ll, it_enum_t, it_enum_l, items_l, items_t, cmpW_dd, cmpW_bd, cmpW_db, cmp_lt, cmp_gt, ltD_int, cmp_le, cmp_ge, cmp_isN, cmp_isnotN, cmp_isB, cmp_isnotB, bin_add, bin_sub, bin_mul, bin_fdiv, bin_mod, bin_pow, add_int, subt_int, add_l, add_t, mod_int, sub_l, sub_t, slc_l, slc_t, bndR_nil, bndR_1, at_0, at_1, at_2, len_l, len_t, none_n, none_i, none_b, none_t, none_l, isi_ii, isi_bi, isi_ib, isi_bb, isi_t, isTupD_t, isTupD_l, isTupD_i, isTupD_n, isTupD_b, max_l, tuple_l, tuple_t, list_l, list_t, int_i, all_l, any_l, sum_l, hb0, range_nat (by omega : Q ≤ 1000000)]
    refine Wp.mono (lcGo_encW (fun i : Nat => PyData.int i) (fun _ => false) (fun i : Nat => PyData.int i) _ fun i hi => ⟨_, rfl, ?_, fun h => nomatch h⟩) fun ys s4 h => ?_
    · simp -implicitDefEqProofs [wp_ok, wp_bind, wp_calm, startE, evSs, evS, evAnd, evOr, evC, evE, evL, evT, views, pures, walks, wipeE, bind_ok, bind_exc, wcalm_ok, biD, cmp_eq_int, cmp_ne_int, view_d, view_bor, view_loc, pure_d, boolR_d, dR_some, dR_none, retW_d, retW_loc, retW_fn, finF_ret, finF_nx, eltR_d, asgW_nm, nameW_d, nameW_loc, nameW_fn, flO_some, asgW_tu, asgT_nm, asgT_tu, asgT_tul, asgT_tt, asgTs_nil, asgTs_cons, biR_1, biR_bor, biR_2, biR_scr, isiR_d, itO_some, itR_1, itR_bor, itR_2, itD_seq, itD_rng1, itD_rng2, it_zip_tt, it_zip_tl, it_zip_lt, it_zip_ll, it_enum_t, it_enum_l, items_l, items_t, cmpW_dd, cmpW_bd, cmpW_db, cmp_lt, cmp_gt, ltD_int, cmp_le, cmp_ge, cmp_isN, cmp_isnotN, cmp_isB, cmp_isnotB, bin_add, bin_sub, bin_mul, bin_fdiv, bin_mod, bin_pow, add_int, subt_int, add_l, add_t, mod_int, sub_l, sub_t, slc_l, slc_t, bndR_nil, bndR_1, at_0, at_1, at_2, len_l, len_t, none_n, none_i, none_b, none_t, none_l, isi_ii, isi_bi, isi_ib, isi_bb, isi_t, isTupD_t, isTupD_l, isTupD_i, isTupD_n, isTupD_b, max_l, tuple_l, tuple_t, list_l, list_t, int_i, all_l, any_l, sum_l, ekf i _ (List.mem_range.mp hi), ekl]
    · obtain ⟨rfl, rfl⟩ := h
      have e0 : ∀ l : List Nat, l.filter (fun _ => false) = [] := fun l => by simp
      rw [e0]
      have := cmp_eq_nil (xs := []) rfl
      simp -implicitDefEqProofs [wp_ok, wp_bind, wp_calm, startE, evSs, evS, evAnd, evOr, evC, evE, evL, evT, views, pures, walks, wipeE, bind_ok, bind_exc, wcalm_ok, biD, cmp_eq_int, cmp_ne_int, view_d, view_bor, view_loc, pure_d, boolR_d, dR_some, dR_none, retW_d, retW_loc, retW_fn, finF_ret, finF_nx, eltR_d, asgW_nm, nameW_d, nameW_loc, nameW_fn, flO_some, asgW_tu, asgT_nm, asgT_tu, asgT_tul, asgT_tt, asgTs_nil, asgTs_cons, biR_1, biR_bor, biR_2, biR_scr, isiR_d, itO_some, itR_1, itR_bor, itR_2, itD_seq, itD_rng1, itD_rng2, it_zip_tt, it_zip_tl, it_zip_lt, it_zip_ll, it_enum_t, it_enum_l, items_l, items_t, cmpW_dd, cmpW_bd, cmpW_db, cmp_lt, cmp_gt, ltD_int, cmp_le, cmp_ge, cmp_isN, cmp_isnotN, cmp_isB, cmp_isnotB, bin_add, bin_sub, bin_mul, bin_fdiv, bin_mod, bin_pow, add_int, subt_int, add_l, add_t, mod_int, sub_l, sub_t, slc_l, slc_t, bndR_nil, bndR_1, at_0, at_1, at_2, len_l, len_t, none_n, none_i, none_b, none_t, none_l, isi_ii, isi_bi, isi_ib, isi_bb, isi_t, isTupD_t, isTupD_l, isTupD_i, isTupD_n, isTupD_b, max_l, tuple_l, tuple_t, list_l, list_t, int_i, all_l, any_l, sum_l, this, hc]
end Lw

set_option Elab.async false
set_option linter.all false
set_option maxRecDepth 100000
set_option maxHeartbeats 4000000
/-! M43: the mirror of law k43. -/
namespace Lw
open PySem
def rest572 : List St := d572.body.drop 2
theorem body572 : d572.body = d572.body.take 2 ++ rest572 := rfl
theorem const572 (xs : List PD) (t : Option W) (bk pc : Option W) (s : Cells) : evSs (evF P 39) rest572 [some (.scr xs), some (.loc 0), t, none, none, none, none, none, none, none, bk, pc, none, none] s = .ok (.ret (.d (.bool true))) s := by kernel_rfl

theorem evSs_app {C : Callee} : ∀ (xs ys : List St) (env : Env) (s : Cells), evSs C (xs ++ ys) env s = (evSs C xs env s).bind fun f s1 => match f with
    | .nx env1 => evSs C ys env1 s1
    | f => .ok f s1
  | [], ys, env, s => by simp only [List.nil_append, evSs, bind_ok]
  | x :: xs, ys, env, s => by
    simp only [List.cons_append, evSs]
    cases evS C x env s with
    | ok f s1 =>
      simp only [bind_ok]
      cases f with
      | nx env1 => exact evSs_app xs ys env1 s1
      | _ => rfl
    | exc x s1 => rfl
    | bad => rfl
theorem forGo_cup {α ι : Type} {I : Cells → Prop} {asg : PD → Env → Option Env} {body : Env → Cells → R Fl} (enc : α → PD) (envOf : ι → Env) : ∀ (xs : List α) (j : ι) (s : Cells), I s → (∀ x ∈ xs, ∀ j s, I s → ∃ env1, asg (enc x) (envOf j) = some env1 ∧ Wp (body env1 s) (fun fl s1 => I s1 ∧ ∃ j', fl = .nx (envOf j'))) →
    Wp (forGo asg body (xs.map enc) (envOf j) s) (fun fl s1 => I s1 ∧ ∃ j, fl = .nx (envOf j))
  | [], j, s, hi, _ => ⟨hi, j, rfl⟩
  | x :: xs, j, s, hi, h => by
    obtain ⟨env1, h1, h2⟩ := h x List.mem_cons_self j s hi
    simp only [List.map_cons, forGo, h1]
    refine Wp.bind (h2.mono fun fl s1 q => ?_)
    obtain ⟨hi1, j1, rfl⟩ := q
    exact forGo_cup enc envOf xs j1 s1 hi1 fun y hy => h y (List.mem_cons_of_mem _ hy)
def rf43 : RightF P := ⟨⟨rfl, rfl, rfl, rfl, rfl, rfl, rfl, rfl, rfl, rfl, rfl⟩, ⟨rfl, rfl, rfl, rfl, rfl, rfl, rfl⟩, rfl, rfl, rfl, rfl, rfl, rfl, rfl, rfl, rfl, rfl, rfl, rfl, rfl⟩
theorem law_mirror : ∀ ns : List Int, ns.length ≤ 63 → (∀ z ∈ ns, PySem.Builtin.Int.intBits z ≤ 1048576) → Wp (evF P (39 + 1) (.fn 572) [.scr (ns.map .int)] []) (fun w _ => w = .d (.bool true)) := by
  intro ns hl _
  rw [ev_call (k := 39) (df := d572) rfl rfl rfl, body572, evSs_app]
  simp only [wp_bind]
  have h54 : P 54 = some d54 := rfl
  have h145 : P 145 = some d145 := rfl
  have h146 : P 146 = some d146 := rfl
  generalize hxs : ns.map PyData.int = xs
  have e54 := m54 h54 38 ns hl
  rw [hxs] at e54
  have econst := const572 xs
  simp -implicitDefEqProofs only [wp_ok, wp_bind, wp_calm, startE, evSs, evS, evAnd, evOr, evC, evE, evL, evT, views, pures, walks, wipeE, bind_ok, bind_exc, wcalm_ok, biD, cmp_eq_int, cmp_ne_int, view_d, view_bor, view_loc, pure_d, boolR_d, dR_some, dR_none, retW_d, retW_loc, retW_fn, finF_ret, finF_nx, eltR_d, asgW_nm, nameW_d, nameW_loc, nameW_fn, flO_some, asgW_tu, asgT_nm, asgT_tu, asgT_tul, asgT_tt, asgTs_nil, asgTs_cons, biR_1, biR_bor, biR_2, biR_scr, isiR_d, itO_some, itR_1, itR_bor, itR_2, itD_seq, itD_rng1, itD_rng2, it_zip_tt, it_zip_tl, it_zip_lt, it_zip_ll, it_enum_t, it_enum_l, items_l, items_t, cmpW_dd, cmpW_bd, cmpW_db, cmp_lt, cmp_gt, ltD_int, cmp_le, cmp_ge, cmp_isN, cmp_isnotN, cmp_isB, cmp_isnotB, bin_add, bin_sub, bin_mul, bin_fdiv, bin_mod, bin_pow, add_int, subt_int, add_l, add_t, mod_int, sub_l, sub_t, slc_l, slc_t, bndR_nil, bndR_1, at_0, at_1, at_2, len_l, len_t, none_n, none_i, none_b, none_t, none_l, isi_ii, isi_bi, isi_ib, isi_bb, isi_t, isTupD_t, isTupD_l, isTupD_i, isTupD_n, isTupD_b, max_l, tuple_l, tuple_t, list_l, list_t, int_i, all_l, any_l, sum_l, d572, List.take_succ_cons, List.take_zero]
  simp -implicitDefEqProofs [wp_ok, wp_bind, wp_calm, startE, evSs, evS, evAnd, evOr, evC, evE, evL, evT, views, pures, walks, wipeE, bind_ok, bind_exc, wcalm_ok, biD, cmp_eq_int, cmp_ne_int, view_d, view_bor, view_loc, pure_d, boolR_d, dR_some, dR_none, retW_d, retW_loc, retW_fn, finF_ret, finF_nx, eltR_d, asgW_nm, nameW_d, nameW_loc, nameW_fn, flO_some, asgW_tu, asgT_nm, asgT_tu, asgT_tul, asgT_tt, asgTs_nil, asgTs_cons, biR_1, biR_bor, biR_2, biR_scr, isiR_d, itO_some, itR_1, itR_bor, itR_2, itD_seq, itD_rng1, itD_rng2, it_zip_tt, it_zip_tl, it_zip_lt, it_zip_ll, it_enum_t, it_enum_l, items_l, items_t, cmpW_dd, cmpW_bd, cmpW_db, cmp_lt, cmp_gt, ltD_int, cmp_le, cmp_ge, cmp_isN, cmp_isnotN, cmp_isB, cmp_isnotB, bin_add, bin_sub, bin_mul, bin_fdiv, bin_mod, bin_pow, add_int, subt_int, add_l, add_t, mod_int, sub_l, sub_t, slc_l, slc_t, bndR_nil, bndR_1, at_0, at_1, at_2, len_l, len_t, none_n, none_i, none_b, none_t, none_l, isi_ii, isi_bi, isi_ib, isi_bb, isi_t, isTupD_t, isTupD_l, isTupD_i, isTupD_n, isTupD_b, max_l, tuple_l, tuple_t, list_l, list_t, int_i, all_l, any_l, sum_l, List.take]
  refine e54.mono fun w s h => ?_
  obtain ⟨rfl, hc⟩ := h
  have r4 : rangeD 0 4 = some ((List.range 4).map fun i : Nat => .int i) := range_nat (n := 4) (by omega)
  simp -implicitDefEqProofs [wp_ok, wp_bind, wp_calm, startE, evSs, evS, evAnd, evOr, evC, evE, evL, evT, views, pures, walks, wipeE, bind_ok, bind_exc, wcalm_ok, biD, cmp_eq_int, cmp_ne_int, view_d, view_bor, view_loc, pure_d, boolR_d, dR_some, dR_none, retW_d, retW_loc, retW_fn, finF_ret, finF_nx, eltR_d, asgW_nm, nameW_d, nameW_loc, nameW_fn, flO_some, asgW_tu, asgT_nm, asgT_tu, asgT_tul, asgT_tt, asgTs_nil, asgTs_cons, biR_1, biR_bor, biR_2, biR_scr, isiR_d, itO_some, itR_1, itR_bor, itR_2, itD_seq, itD_rng1, itD_rng2, it_zip_tt, it_zip_tl, it_zip_lt, it_zip_ll, it_enum_t, it_enum_l, items_l, items_t, cmpW_dd, cmpW_bd, cmpW_db, cmp_lt, cmp_gt, ltD_int, cmp_le, cmp_ge, cmp_isN, cmp_isnotN, cmp_isB, cmp_isnotB, bin_add, bin_sub, bin_mul, bin_fdiv, bin_mod, bin_pow, add_int, subt_int, add_l, add_t, mod_int, sub_l, sub_t, slc_l, slc_t, bndR_nil, bndR_1, at_0, at_1, at_2, len_l, len_t, none_n, none_i, none_b, none_t, none_l, isi_ii, isi_bi, isi_ib, isi_bb, isi_t, isTupD_t, isTupD_l, isTupD_i, isTupD_n, isTupD_b, max_l, tuple_l, tuple_t, list_l, list_t, int_i, all_l, any_l, sum_l, r4, -List.map_cons]
  refine Wp.mono (forGo_cup (I := Cup) (fun i : Nat => PyData.int i) (fun (j : Option W × Option W × Option W) => [some (.scr xs), some (.loc 0), j.1, none, none, none, none, none, none, none, j.2.1, j.2.2, none, none]) (List.range 4) (none, none, none) s hc fun i hi j s hs => ⟨_, rfl, ?_⟩) fun fl s1 h => ?_
  · simp -implicitDefEqProofs [wp_ok, wp_bind, wp_calm, startE, evSs, evS, evAnd, evOr, evC, evE, evL, evT, views, pures, walks, wipeE, bind_ok, bind_exc, wcalm_ok, biD, cmp_eq_int, cmp_ne_int, view_d, view_bor, view_loc, pure_d, boolR_d, dR_some, dR_none, retW_d, retW_loc, retW_fn, finF_ret, finF_nx, eltR_d, asgW_nm, nameW_d, nameW_loc, nameW_fn, flO_some, asgW_tu, asgT_nm, asgT_tu, asgT_tul, asgT_tt, asgTs_nil, asgTs_cons, biR_1, biR_bor, biR_2, biR_scr, isiR_d, itO_some, itR_1, itR_bor, itR_2, itD_seq, itD_rng1, itD_rng2, it_zip_tt, it_zip_tl, it_zip_lt, it_zip_ll, it_enum_t, it_enum_l, items_l, items_t, cmpW_dd, cmpW_bd, cmpW_db, cmp_lt, cmp_gt, ltD_int, cmp_le, cmp_ge, cmp_isN, cmp_isnotN, cmp_isB, cmp_isnotB, bin_add, bin_sub, bin_mul, bin_fdiv, bin_mod, bin_pow, add_int, subt_int, add_l, add_t, mod_int, sub_l, sub_t, slc_l, slc_t, bndR_nil, bndR_1, at_0, at_1, at_2, len_l, len_t, none_n, none_i, none_b, none_t, none_l, isi_ii, isi_bi, isi_ib, isi_bb, isi_t, isTupD_t, isTupD_l, isTupD_i, isTupD_n, isTupD_b, max_l, tuple_l, tuple_t, list_l, list_t, int_i, all_l, any_l, sum_l]
    refine (m145 rf43.df (by rfl) h145 33 hs).mono fun w s1 h => ?_
    obtain ⟨hc, Q, C, ms, a, b, rfl, hB, hP⟩ := h
    simp -implicitDefEqProofs [wp_ok, wp_bind, wp_calm, startE, evSs, evS, evAnd, evOr, evC, evE, evL, evT, views, pures, walks, wipeE, bind_ok, bind_exc, wcalm_ok, biD, cmp_eq_int, cmp_ne_int, view_d, view_bor, view_loc, pure_d, boolR_d, dR_some, dR_none, retW_d, retW_loc, retW_fn, finF_ret, finF_nx, eltR_d, asgW_nm, nameW_d, nameW_loc, nameW_fn, flO_some, asgW_tu, asgT_nm, asgT_tu, asgT_tul, asgT_tt, asgTs_nil, asgTs_cons, biR_1, biR_bor, biR_2, biR_scr, isiR_d, itO_some, itR_1, itR_bor, itR_2, itD_seq, itD_rng1, itD_rng2, it_zip_tt, it_zip_tl, it_zip_lt, it_zip_ll, it_enum_t, it_enum_l, items_l, items_t, cmpW_dd, cmpW_bd, cmpW_db, cmp_lt, cmp_gt, ltD_int, cmp_le, cmp_ge, cmp_isN, cmp_isnotN, cmp_isB, cmp_isnotB, bin_add, bin_sub, bin_mul, bin_fdiv, bin_mod, bin_pow, add_int, subt_int, add_l, add_t, mod_int, sub_l, sub_t, slc_l, slc_t, bndR_nil, bndR_1, at_0, at_1, at_2, len_l, len_t, none_n, none_i, none_b, none_t, none_l, isi_ii, isi_bi, isi_ib, isi_bb, isi_t, isTupD_t, isTupD_l, isTupD_i, isTupD_n, isTupD_b, max_l, tuple_l, tuple_t, list_l, list_t, int_i, all_l, any_l, sum_l]
    refine (m146 rf43 h146 32 hB hP hc).mono fun w s2 h => ?_
    obtain ⟨hc, rfl⟩ := h
    simp -implicitDefEqProofs [wp_ok, wp_bind, wp_calm, startE, evSs, evS, evAnd, evOr, evC, evE, evL, evT, views, pures, walks, wipeE, bind_ok, bind_exc, wcalm_ok, biD, cmp_eq_int, cmp_ne_int, view_d, view_bor, view_loc, pure_d, boolR_d, dR_some, dR_none, retW_d, retW_loc, retW_fn, finF_ret, finF_nx, eltR_d, asgW_nm, nameW_d, nameW_loc, nameW_fn, flO_some, asgW_tu, asgT_nm, asgT_tu, asgT_tul, asgT_tt, asgTs_nil, asgTs_cons, biR_1, biR_bor, biR_2, biR_scr, isiR_d, itO_some, itR_1, itR_bor, itR_2, itD_seq, itD_rng1, itD_rng2, it_zip_tt, it_zip_tl, it_zip_lt, it_zip_ll, it_enum_t, it_enum_l, items_l, items_t, cmpW_dd, cmpW_bd, cmpW_db, cmp_lt, cmp_gt, ltD_int, cmp_le, cmp_ge, cmp_isN, cmp_isnotN, cmp_isB, cmp_isnotB, bin_add, bin_sub, bin_mul, bin_fdiv, bin_mod, bin_pow, add_int, subt_int, add_l, add_t, mod_int, sub_l, sub_t, slc_l, slc_t, bndR_nil, bndR_1, at_0, at_1, at_2, len_l, len_t, none_n, none_i, none_b, none_t, none_l, isi_ii, isi_bi, isi_ib, isi_bb, isi_t, isTupD_t, isTupD_l, isTupD_i, isTupD_n, isTupD_b, max_l, tuple_l, tuple_t, list_l, list_t, int_i, all_l, any_l, sum_l, hc]
  · obtain ⟨hc, j, rfl⟩ := h
    simp -implicitDefEqProofs [wp_ok, wp_bind, wp_calm, startE, evSs, evS, evAnd, evOr, evC, evE, evL, evT, views, pures, walks, wipeE, bind_ok, bind_exc, wcalm_ok, biD, cmp_eq_int, cmp_ne_int, view_d, view_bor, view_loc, pure_d, boolR_d, dR_some, dR_none, retW_d, retW_loc, retW_fn, finF_ret, finF_nx, eltR_d, asgW_nm, nameW_d, nameW_loc, nameW_fn, flO_some, asgW_tu, asgT_nm, asgT_tu, asgT_tul, asgT_tt, asgTs_nil, asgTs_cons, biR_1, biR_bor, biR_2, biR_scr, isiR_d, itO_some, itR_1, itR_bor, itR_2, itD_seq, itD_rng1, itD_rng2, it_zip_tt, it_zip_tl, it_zip_lt, it_zip_ll, it_enum_t, it_enum_l, items_l, items_t, cmpW_dd, cmpW_bd, cmpW_db, cmp_lt, cmp_gt, ltD_int, cmp_le, cmp_ge, cmp_isN, cmp_isnotN, cmp_isB, cmp_isnotB, bin_add, bin_sub, bin_mul, bin_fdiv, bin_mod, bin_pow, add_int, subt_int, add_l, add_t, mod_int, sub_l, sub_t, slc_l, slc_t, bndR_nil, bndR_1, at_0, at_1, at_2, len_l, len_t, none_n, none_i, none_b, none_t, none_l, isi_ii, isi_bi, isi_ib, isi_bb, isi_t, isTupD_t, isTupD_l, isTupD_i, isTupD_n, isTupD_b, max_l, tuple_l, tuple_t, list_l, list_t, int_i, all_l, any_l, sum_l, econst]
end Lw

set_option Elab.async false
set_option linter.all false
set_option maxRecDepth 100000
open PySem PySem.W PyProof.Rows
set_option maxRecDepth 100000 in
set_option maxHeartbeats 0 in
theorem PySem.Challenge.cw_latticewaits_k43_whole_paces_and_times_k_holds : PySem.Challenge.rw_latticewaits_k43_whole_paces_and_times_k.Holds := by
  w_on; o_law; k_head; (case hw => w_witness2)
  k_fill
  refine LamX.walk_ofTs (l := PySem.Challenge.rw_latticewaits_k43_whole_paces_and_times_k) (n := 63) (k := 40) (x := "script") (CX := fun w => L2N.CX PySem.Challenge.rw_latticewaits_k43_whole_paces_and_times_k.prog w) rfl (by decide) rfl ⟨rfl, by decide, by decide⟩ (fun w h Y => PySem.W.km_in_of Y) ?F (fun w H s e s' z => Lw.cx_false z)
  case F =>
    intro w mg fa h Y KX G hmg
    have D1 := by
      refine' Lw.defK (x := "is_whole") (st := Lw.s1) KX ?a1 ?l1 ?c1 ?k1
      (case a1 => k_is); (case l1 => k_is); (case c1 => k_is); (case k1 => k_is)
    have D2 := by
      refine' Lw.defK (x := "is_tuple_of") (st := Lw.s2) KX ?a2 ?l2 ?c2 ?k2
      (case a2 => k_is); (case l2 => k_is); (case c2 => k_is); (case k2 => k_is)
    have D3 := by
      refine' Lw.defK (x := "are_whole") (st := Lw.s3) KX ?a3 ?l3 ?c3 ?k3
      (case a3 => k_is); (case l3 => k_is); (case c3 => k_is); (case k3 => k_is)
    have D5 := by
      refine' Lw.defK (x := "ascends") (st := Lw.s5) KX ?a5 ?l5 ?c5 ?k5
      (case a5 => k_is); (case l5 => k_is); (case c5 => k_is); (case k5 => k_is)
    have D4 := by
      refine' Lw.defK (x := "fits_need") (st := Lw.s4) KX ?a4 ?l4 ?c4 ?k4
      (case a4 => k_is); (case l4 => k_is); (case c4 => k_is); (case k4 => k_is)
    have D6 := by
      refine' Lw.defK (x := "fits_book") (st := Lw.s6) KX ?a6 ?l6 ?c6 ?k6
      (case a6 => k_is); (case l6 => k_is); (case c6 => k_is); (case k6 => k_is)
    have D23 := by
      refine' Lw.defK (x := "need_book") (st := Lw.s23) KX ?a23 ?l23 ?c23 ?k23
      (case a23 => k_is); (case l23 => k_is); (case c23 => k_is); (case k23 => k_is)
    have D134 := by
      refine' Lw.defK (x := "need_quantity") (st := Lw.s134) KX ?a134 ?l134 ?c134 ?k134
      (case a134 => k_is); (case l134 => k_is); (case c134 => k_is); (case k134 => k_is)
    have D129 := by
      refine' Lw.defK (x := "moment_of") (st := Lw.s129) KX ?a129 ?l129 ?c129 ?k129
      (case a129 => k_is); (case l129 => k_is); (case c129 => k_is); (case k129 => k_is)
    have D130 := by
      refine' Lw.defK (x := "lag_of") (st := Lw.s130) KX ?a130 ?l130 ?c130 ?k130
      (case a130 => k_is); (case l130 => k_is); (case c130 => k_is); (case k130 => k_is)
    have D132 := by
      refine' Lw.defK (x := "fits_pace") (st := Lw.s132) KX ?a132 ?l132 ?c132 ?k132
      (case a132 => k_is); (case l132 => k_is); (case c132 => k_is); (case k132 => k_is)
    have D131 := by
      refine' Lw.defK (x := "users_of") (st := Lw.s131) KX ?a131 ?l131 ?c131 ?k131
      (case a131 => k_is); (case l131 => k_is); (case c131 => k_is); (case k131 => k_is)
    have D135 := by
      refine' Lw.defK (x := "kept_by") (st := Lw.s135) KX ?a135 ?l135 ?c135 ?k135
      (case a135 => k_is); (case l135 => k_is); (case c135 => k_is); (case k135 => k_is)
    have D133 := by
      refine' Lw.defK (x := "need_pace") (st := Lw.s133) KX ?a133 ?l133 ?c133 ?k133
      (case a133 => k_is); (case l133 => k_is); (case c133 => k_is); (case k133 => k_is)
    have D139 := by
      refine' Lw.defK (x := "is_pace") (st := Lw.s139) KX ?a139 ?l139 ?c139 ?k139
      (case a139 => k_is); (case l139 => k_is); (case c139 => k_is); (case k139 => k_is)
    have D140 := by
      refine' Lw.defK (x := "lags_of") (st := Lw.s140) KX ?a140 ?l140 ?c140 ?k140
      (case a140 => k_is); (case l140 => k_is); (case c140 => k_is); (case k140 => k_is)
    have D143 := by
      refine' Lw.defK (x := "kept_for") (st := Lw.s143) KX ?a143 ?l143 ?c143 ?k143
      (case a143 => k_is); (case l143 => k_is); (case c143 => k_is); (case k143 => k_is)
    have D54 := by
      refine' Lw.defK (x := "_law_cup") (st := Lw.s54) KX ?a54 ?l54 ?c54 ?k54
      (case a54 => k_is); (case l54 => k_is); (case c54 => k_is); (case k54 => k_is)
    have D27 := by
      refine' Lw.defK (x := "_law_roll") (st := Lw.s27) KX ?a27 ?l27 ?c27 ?k27
      (case a27 => k_is); (case l27 => k_is); (case c27 => k_is); (case k27 => k_is)
    have D29 := by
      refine' Lw.defK (x := "_law_some") (st := Lw.s29) KX ?a29 ?l29 ?c29 ?k29
      (case a29 => k_is); (case l29 => k_is); (case c29 => k_is); (case k29 => k_is)
    have D81 := by
      refine' Lw.defK (x := "_law_less") (st := Lw.s81) KX ?a81 ?l81 ?c81 ?k81
      (case a81 => k_is); (case l81 => k_is); (case c81 => k_is); (case k81 => k_is)
    have D82 := by
      refine' Lw.defK (x := "_law_is_point") (st := Lw.s82) KX ?a82 ?l82 ?c82 ?k82
      (case a82 => k_is); (case l82 => k_is); (case c82 => k_is); (case k82 => k_is)
    have D84 := by
      refine' Lw.defK (x := "_law_needed") (st := Lw.s84) KX ?a84 ?l84 ?c84 ?k84
      (case a84 => k_is); (case l84 => k_is); (case c84 => k_is); (case k84 => k_is)
    have D83 := by
      refine' Lw.defK (x := "_law_places") (st := Lw.s83) KX ?a83 ?l83 ?c83 ?k83
      (case a83 => k_is); (case l83 => k_is); (case c83 => k_is); (case k83 => k_is)
    have D30 := by
      refine' Lw.defK (x := "_law_offset") (st := Lw.s30) KX ?a30 ?l30 ?c30 ?k30
      (case a30 => k_is); (case l30 => k_is); (case c30 => k_is); (case k30 => k_is)
    have D31 := by
      refine' Lw.defK (x := "_law_need") (st := Lw.s31) KX ?a31 ?l31 ?c31 ?k31
      (case a31 => k_is); (case l31 => k_is); (case c31 => k_is); (case k31 => k_is)
    have D86 := by
      refine' Lw.defK (x := "_law_sides") (st := Lw.s86) KX ?a86 ?l86 ?c86 ?k86
      (case a86 => k_is); (case l86 => k_is); (case c86 => k_is); (case k86 => k_is)
    have D571 := by
      refine' Lw.defK (x := "_law_word") (st := Lw.s571) KX ?a571 ?l571 ?c571 ?k571
      (case a571 => k_is); (case l571 => k_is); (case c571 => k_is); (case k571 => k_is)
    have D136 := by
      refine' Lw.defK (x := "_law_moment") (st := Lw.s136) KX ?a136 ?l136 ?c136 ?k136
      (case a136 => k_is); (case l136 => k_is); (case c136 => k_is); (case k136 => k_is)
    have D137 := by
      refine' Lw.defK (x := "_law_lags") (st := Lw.s137) KX ?a137 ?l137 ?c137 ?k137
      (case a137 => k_is); (case l137 => k_is); (case c137 => k_is); (case k137 => k_is)
    have D138 := by
      refine' Lw.defK (x := "_law_paced") (st := Lw.s138) KX ?a138 ?l138 ?c138 ?k138
      (case a138 => k_is); (case l138 => k_is); (case c138 => k_is); (case k138 => k_is)
    have D145 := by
      refine' Lw.defK (x := "_law_paced_book") (st := Lw.s145) KX ?a145 ?l145 ?c145 ?k145
      (case a145 => k_is); (case l145 => k_is); (case c145 => k_is); (case k145 => k_is)
    have D144 := by
      refine' Lw.defK (x := "_law_kept") (st := Lw.s144) KX ?a144 ?l144 ?c144 ?k144
      (case a144 => k_is); (case l144 => k_is); (case c144 => k_is); (case k144 => k_is)
    have D148 := by
      refine' Lw.defK (x := "_law_hb") (st := Lw.s148) KX ?a148 ?l148 ?c148 ?k148
      (case a148 => k_is); (case l148 => k_is); (case c148 => k_is); (case k148 => k_is)
    have D147 := by
      refine' Lw.defK (x := "_law_b") (st := Lw.s147) KX ?a147 ?l147 ?c147 ?k147
      (case a147 => k_is); (case l147 => k_is); (case c147 => k_is); (case k147 => k_is)
    have D141 := by
      refine' Lw.defK (x := "_law_near") (st := Lw.s141) KX ?a141 ?l141 ?c141 ?k141
      (case a141 => k_is); (case l141 => k_is); (case c141 => k_is); (case k141 => k_is)
    have D142 := by
      refine' Lw.defK (x := "_law_is_pace") (st := Lw.s142) KX ?a142 ?l142 ?c142 ?k142
      (case a142 => k_is); (case l142 => k_is); (case c142 => k_is); (case k142 => k_is)
    have D146 := by
      refine' Lw.defK (x := "_law_right") (st := Lw.s146) KX ?a146 ?l146 ?c146 ?k146
      (case a146 => k_is); (case l146 => k_is); (case c146 => k_is); (case k146 => k_is)
    have D572 := by
      refine' Lw.defK (x := "law") (st := Lw.s572) KX ?a572 ?l572 ?c572 ?k572
      (case a572 => k_is); (case l572 => k_is); (case c572 => k_is); (case k572 => k_is)
    have elaw := hmg.symm.trans (PySem.W.mg_of KX G D572.ns)
    cases elaw
    have st : Lw.TSt ⟨_, mg, (⟨Lw.Tb, Lw.P, [(346, ("law" : Str) ++ ".<locals>." ++ "<lambda>")], none⟩ : Lw.TabX)⟩ := Lw.tst_of KX G (by kernel_rfl) (by kernel_rfl) (by kernel_rfl) (by kernel_rfl) (by kernel_rfl)
    obtain ⟨oc, kV, dc, pm, ct, an, od, sl, lk⟩ := D572.ex
    refine Lw.law_at (T := (⟨Lw.Tb, Lw.P, [(346, ("law" : Str) ++ ".<locals>." ++ "<lambda>")], none⟩ : Lw.TabX)) (cs := [(348, 346)]) (k := 39) (f0 := 572) (x0 := "law") ?hT ?nT ?C ?hbs hmg lk (fun s v => .of_eq rfl) ?F ?D ?mir
    case hT => exact fun p hp => PySem.W.km_tabs_of Y p.2 (by simp at hp ⊢; rcases hp with rfl <;> simp)
    case nT => exact fun p hp => by simp at hp; rcases hp with rfl <;> kernel_rfl
    case C => exact fun p hp => by simp at hp; rcases hp with rfl <;> exact PySem.W.codeHd_of_K KX (by kernel_rfl)
    case hbs => exact fun p hp => by simp at hp; rcases hp with rfl <;> exact ⟨_, by simp; rfl⟩
    case mir => exact Lw.law_mirror
    case D => exact fun base hK hN hTB => D572.okL KX G Lw.bd572 Lw.sc572 rfl rfl rfl (hTB (348, 346) (by simp)) List.mem_cons_self (fun q hq hq1 => by have e := List.mem_singleton.mp hq; rw [e]) Lw.ck572
    case F =>
      refine fun base hK hN hTB => ⟨st, fun f x hx => Lw.AllP.mem (l := Lw.Tb.fnm) (p := fun q => Lw.DefOk _ mg (⟨Lw.Tb, Lw.P, [(346, ("law" : Str) ++ ".<locals>." ++ "<lambda>")], none⟩ : Lw.TabX) base q.1 q.2) ?_ (f, x) hx, fun f x hx => Lw.AllP.mem (l := Lw.Tb.lfn) (p := fun q => Lw.LamOkD _ mg (⟨Lw.Tb, Lw.P, [(346, ("law" : Str) ++ ".<locals>." ++ "<lambda>")], none⟩ : Lw.TabX) q.1 q.2) ?_ (f, x) hx, rfl⟩
      · exact ⟨⟨_, D1.ok KX G Lw.bd1 Lw.sc1 rfl rfl rfl Lw.ck1⟩, ⟨_, D2.ok KX G Lw.bd2 Lw.sc2 rfl rfl rfl Lw.ck2⟩, ⟨_, D3.ok KX G Lw.bd3 Lw.sc3 rfl rfl rfl Lw.ck3⟩, ⟨_, D5.ok KX G Lw.bd5 Lw.sc5 rfl rfl rfl Lw.ck5⟩, ⟨_, D4.ok KX G Lw.bd4 Lw.sc4 rfl rfl rfl Lw.ck4⟩, ⟨_, D6.ok KX G Lw.bd6 Lw.sc6 rfl rfl rfl Lw.ck6⟩, ⟨_, D23.ok KX G Lw.bd23 Lw.sc23 rfl rfl rfl Lw.ck23⟩, ⟨_, D134.ok KX G Lw.bd134 Lw.sc134 rfl rfl rfl Lw.ck134⟩, ⟨_, D129.ok KX G Lw.bd129 Lw.sc129 rfl rfl rfl Lw.ck129⟩, ⟨_, D130.ok KX G Lw.bd130 Lw.sc130 rfl rfl rfl Lw.ck130⟩, ⟨_, D132.ok KX G Lw.bd132 Lw.sc132 rfl rfl rfl Lw.ck132⟩, ⟨_, D131.ok KX G Lw.bd131 Lw.sc131 rfl rfl rfl Lw.ck131⟩, ⟨_, D135.ok KX G Lw.bd135 Lw.sc135 rfl rfl rfl Lw.ck135⟩, ⟨_, D133.ok KX G Lw.bd133 Lw.sc133 rfl rfl rfl Lw.ck133⟩, ⟨_, D139.ok KX G Lw.bd139 Lw.sc139 rfl rfl rfl Lw.ck139⟩, ⟨_, D140.ok KX G Lw.bd140 Lw.sc140 rfl rfl rfl Lw.ck140⟩, ⟨_, D143.ok KX G Lw.bd143 Lw.sc143 rfl rfl rfl Lw.ck143⟩, ⟨_, D54.ok KX G Lw.bd54 Lw.sc54 rfl rfl rfl Lw.ck54⟩, ⟨_, D27.ok KX G Lw.bd27 Lw.sc27 rfl rfl rfl Lw.ck27⟩, ⟨_, D29.ok KX G Lw.bd29 Lw.sc29 rfl rfl rfl Lw.ck29⟩, ⟨_, D81.ok KX G Lw.bd81 Lw.sc81 rfl rfl rfl Lw.ck81⟩, ⟨_, D82.ok KX G Lw.bd82 Lw.sc82 rfl rfl rfl Lw.ck82⟩, ⟨_, D84.ok KX G Lw.bd84 Lw.sc84 rfl rfl rfl Lw.ck84⟩, ⟨_, D83.ok KX G Lw.bd83 Lw.sc83 rfl rfl rfl Lw.ck83⟩, ⟨_, D30.ok KX G Lw.bd30 Lw.sc30 rfl rfl rfl Lw.ck30⟩, ⟨_, D31.ok KX G Lw.bd31 Lw.sc31 rfl rfl rfl Lw.ck31⟩, ⟨_, D86.ok KX G Lw.bd86 Lw.sc86 rfl rfl rfl Lw.ck86⟩, ⟨_, D136.ok KX G Lw.bd136 Lw.sc136 rfl rfl rfl Lw.ck136⟩, ⟨_, D137.ok KX G Lw.bd137 Lw.sc137 rfl rfl rfl Lw.ck137⟩, ⟨_, D138.ok KX G Lw.bd138 Lw.sc138 rfl rfl rfl Lw.ck138⟩, ⟨_, D145.ok KX G Lw.bd145 Lw.sc145 rfl rfl rfl Lw.ck145⟩, ⟨_, D144.ok KX G Lw.bd144 Lw.sc144 rfl rfl rfl Lw.ck144⟩, ⟨_, D148.ok KX G Lw.bd148 Lw.sc148 rfl rfl rfl Lw.ck148⟩, ⟨_, D147.ok KX G Lw.bd147 Lw.sc147 rfl rfl rfl Lw.ck147⟩, ⟨_, D141.ok KX G Lw.bd141 Lw.sc141 rfl rfl rfl Lw.ck141⟩, ⟨_, D142.ok KX G Lw.bd142 Lw.sc142 rfl rfl rfl Lw.ck142⟩, ⟨_, D146.ok KX G Lw.bd146 Lw.sc146 rfl rfl rfl Lw.ck146⟩, ⟨_, D572.okL KX G Lw.bd572 Lw.sc572 rfl rfl rfl (hTB (348, 346) (by simp)) List.mem_cons_self (fun q hq hq1 => by have e := List.mem_singleton.mp hq; rw [e]) Lw.ck572⟩, trivial⟩
      · exact ⟨D571.okC KX G Lw.bd571 Lw.sc571 rfl rfl rfl Lw.ck571, trivial⟩


