import PyProof.Rows.All
import Wide.All
import OpenK.AllK
import Wide.FinOn
import PySem.Str
import PySem.PyData
import PySem.Builtin.Tuple.Common
import HandS.ForMost
import HandS.Walk
import KE.KeyNested
import HandS.TupAny
import HandS.TupMul
import HandS.TupLe
import HandS.Flow
import HandS.Conv
import HandS.Deep
import HandS.Zip
import HandS.IsInst
import HandS.Wide
import HandS.Style
import HandS.TupLen
import HandS.SortOrd
import HandS.TupSets
import KE.KEqDict
import KE.KSortTup
import HandS.SortInts
import KE.KDictCopyH
import PyProof.Rows.SortShellAny
import KE.KDictSum
import PyProof.TupleOfSeq
import HandS.SetFor
import KE.KDictPairs
import HandS.Comp
import HandS.CallLocal
import HandS.Codes
import KE.GoesMore
import PyProof.Draws
import HandS.Iter
import KE.KDictWalk
import HandS.TryOnly
import PyProof.StrBlock
import HandS.Text
import HandS.Strs
import HandS.EndBits
import PySem.Challenge.RW_poolrows_k09_known_nets
section
set_option autoImplicit false
namespace Pu
open PySem

/-- a value without the heap -/
inductive D where
  | non | bl (b : Bool) | int (i : Int) | str (s : Str)
  | tup (xs : List D) | lst (xs : List D)
  /-- a dict whose keys are tuples; one whose keys are texts: keys and values by turns -/
  | dt (ks vs : List D) | dk (ks : List Str) (vs : List D)
  /-- the script; the law's row; a def; a caught error -/
  | scr (ns : List Int) | row | fn (g : Nat) | err (c : Nat) (fs : List D)
  /-- a tuple of ints that is known to have no dict (its methods may be called) -/
  | ntp (ns : List Int)
  deriving Inhabited

mutual
def eqB : D → D → Bool
  | .non, .non => true
  | .bl a, .bl b => a == b
  | .bl a, .int j => (if a then 1 else 0) == j
  | .int i, .bl b => i == (if b then 1 else 0)
  | .int i, .int j => i == j
  | .str x, .str y => x == y
  | .tup xs, .tup ys => eqBs xs ys
  | .lst xs, .lst ys => eqBs xs ys
  | _, _ => false
def eqBs : List D → List D → Bool
  | [], [] => true
  | x :: xs, y :: ys => eqB x y && eqBs xs ys
  | _, _ => false
end
mutual
/-- None, bools, ints, texts, tuples and lists of such -/
def plain : D → Bool
  | .non => true | .bl _ => true | .int _ => true | .str _ => true
  | .tup xs => plains xs
  | .lst xs => plains xs
  | _ => false
def plains : List D → Bool
  | [] => true
  | x :: xs => plain x && plains xs
end
mutual
def dep : D → Nat
  | .tup xs => deps xs + 1
  | .lst xs => deps xs + 1
  | _ => 0
def deps : List D → Nat
  | [] => 0
  | x :: xs => max (dep x) (deps xs)
end
/-- == of both is told -/
def eqOk (x y : D) : Bool := plain x && plain y && decide (dep x ≤ 60) && decide (dep y ≤ 60)
mutual
/-- order of ints, and of tuples of such -/
def cmpD : D → D → Ordering
  | .int i, .int j => compare i j
  | .tup xs, .tup ys => cmpDs xs ys
  | _, _ => .eq
def cmpDs : List D → List D → Ordering
  | [], [] => .eq
  | [], _ :: _ => .lt
  | _ :: _, [] => .gt
  | x :: xs, y :: ys => match cmpD x y with
    | .eq => cmpDs xs ys
    | .lt => .lt
    | .gt => .gt
end
mutual
/-- the order of both is told -/
def ordOk : D → D → Bool
  | .int _, .int _ => true
  | .tup xs, .tup ys => ordOks xs ys
  | _, _ => false
def ordOks : List D → List D → Bool
  | x :: xs, y :: ys => ordOk x y && ordOks xs ys
  | _, _ => true
end
def leD (x y : D) : Bool := cmpD x y != .gt
/-- the kind of what is sorted: ints; tuples with an int, with a tuple ahead -/
def sk1 : D → Nat
  | .int _ => 1
  | .tup (.int _ :: _) => 2
  | .tup (.tup _ :: _) => 3
  | _ => 0
/-- all pairs can be compared -/
def ordAll (xs : List D) : Bool := (xs.all fun x => xs.all fun y => ordOk x y) && decide (deps xs ≤ 20) && ((xs.all fun x => sk1 x == 1) || (xs.all fun x => sk1 x == 2) || (xs.all fun x => sk1 x == 3))
def dedupD : List D → List D
  | [] => []
  | x :: xs => if xs.any (eqB x) then dedupD xs else x :: dedupD xs

inductive Out (α : Type) where
  | ok (a : α) (r : List D)
  | exc (c : Nat) (fs : List D) (r : List D)
  | stuck
abbrev M (α : Type) := List D → Out α
def ret {α : Type} (a : α) : M α := fun r => .ok a r
def halt {α : Type} : M α := fun _ => .stuck
def Out.bind {α β : Type} (x : Out α) (f : α → M β) : Out β := match x with
  | .ok a r => f a r
  | .exc c fs r => .exc c fs r
  | .stuck => .stuck
def bnd {α β : Type} (x : M α) (f : α → M β) : M β := fun r => (x r).bind f
def lft {α : Type} (f : List D → Option α) : M α := fun r => match f r with
  | some a => .ok a r
  | none => .stuck
def asB : D → M Bool
  | .bl b => ret b
  | _ => halt

inductive Op1 where
  | neg | notB | len | abs | sum | max1 | min1 | tupleOf | listOf | listRange | tupRange | sorted | sortedSet | sortedKeys | toInt | toStr | rev
  | isInt | isBool | isTup | isStr | isList | isTupList | dictOf
  /-- no operation of the program's: a tuple without a dict as a tuple; tuple(x), a display that are such -/
  | asT | tupleN | dispN
  deriving DecidableEq
inductive Op2 where
  | add | sub | mul | fdiv | mod | pow | eq | ne | lt | le | gt | ge | isIn | notIn | is | isNot
  | idx | max2 | min2 | index | count | join
  deriving DecidableEq
inductive Op3 where
  | slice | getd | replace
  deriving DecidableEq
inductive ItK where
  | val | range1 | range2 | enum | zip | keys
  deriving DecidableEq
inductive Tg where
  | slot (i : Nat)
  | tup (ts : List Tg)
inductive E where
  | var (i : Nat) | non | bl (b : Bool) | int (i : Int) | str (s : Str) | cst (x : Str) (d : D)
  | tup (es : List E) | lst (es : List E)
  | o1 (o : Op1) (a : E) | o2 (o : Op2) (a b : E) | o3 (o : Op3) (a b c : E)
  | chain (o p : Op2) (a b c : E)
  | and (a b : E) | or (a b : E) | orT (a b : E) | ite (t a b : E)
  | call (g : Nat) (es : List E) | calle (f : E) (gs : List (Str × Nat)) (es : List E)
  | comp (elt : E) (t : Tg) (k : ItK) (a b : E) (c : E) (own : List Nat)
  | dnew (nested : Bool) | ddisp (ks : List Str) (es : List E)
  | fld (i : Nat) (k : Nat) | ix2 (i : Nat) (a b : E)
inductive S where
  | expr (e : E)
  | asg (t : Tg) (e : E)
  | own (i : Nat) (e : E)
  | own2 (i : Nat) (e : E)
  | par (ts : List (Bool × Nat)) (es : List E)
  | app (i : Nat) (e : E)
  | seti (i : Nat) (k e : E)
  | seti2 (i : Nat) (a b e : E)
  | aug (i : Nat) (o : Op2) (e : E)
  | popTo (j i : Nat)
  | frz (i : Nat)
  | retE (e : E)
  | ifS (c : E) (a b : List S)
  | whileS (c : E) (b : List S)
  | forS (t : Tg) (k : ItK) (a b : E) (body : List S)
  | brk | cont | pass
  | raise (c : Nat) (es : List E)
  | tryS (body : List S) (c : Nat) (i : Nat) (h : List S)
structure FD where
  np : Nat
  ns : Nat
  body : List S

inductive Slot where
  | none | val (d : D) | own (d : D) | own2 (d : D)
  deriving Inhabited
abbrev Env := List Slot
/-- a slot's value that may be handed on; one that is only looked at -/
def rdV (ρ : Env) (i : Nat) : M D := match ρ[i]? with
  | some (.val d) => ret d
  | _ => halt
def rdA (ρ : Env) (i : Nat) : M D := match ρ[i]? with
  | some (.val d) => ret d
  | some (.own (.dk _ _)) => halt
  | some (.own d) => ret d
  | _ => halt
def opn (a : E) (ρ : Env) (m : M D) : M D := match a with
  | .var i => rdA ρ i
  | _ => m
mutual
def setTg : Tg → D → Env → Option Env
  | .slot i, d, ρ => if i < ρ.length then some (ρ.set i (.val d)) else none
  | .tup ts, .tup ds, ρ => setTgs ts ds ρ
  | .tup ts, .lst ds, ρ => setTgs ts ds ρ
  | .tup _, _, _ => none
def setTgs : List Tg → List D → Env → Option Env
  | [], [], ρ => some ρ
  | t :: ts, d :: ds, ρ => match setTg t d ρ with
    | some ρ' => setTgs ts ds ρ'
    | none => none
  | _, _, _ => none
end
def wipeE (ρ : Env) : List Nat → Env
  | [] => ρ
  | i :: is => (wipeE ρ is).set i .none

def mulOk (i j : Int) : Bool := decide (i.natAbs.log2 + j.natAbs.log2 < 1000000)
def divOk (j : Int) : Bool := decide (j ≠ 0) && decide (j.natAbs.log2 < 9000)
def lenMax : Nat := 1000000
def sizeOk (n : Nat) : Bool := decide (n ≤ lenMax)
def ints? : List D → Option (List Int)
  | [] => some []
  | .int i :: r => (ints? r).map (i :: ·)
  | _ :: _ => none
def rangeD (a b : Int) : List D := (List.range (b - a).toNat).map fun k => .int (a + (k : Nat))
def rngOk (a b : Int) : Bool := decide (-1000000 ≤ a) && decide (a ≤ 1000000) && decide (-1000000 ≤ b) && decide (b ≤ 1000000)
mutual
/-- what may stand in a key -/
def hsh : D → Bool
  | .non => true | .bl _ => true | .int _ => true | .str _ => true
  | .tup xs => hshs xs
  | _ => false
def hshs : List D → Bool
  | [] => true
  | x :: xs => hsh x && hshs xs
end
def keyOk : D → Bool
  | .tup xs => hshs xs && decide (deps xs ≤ 6)
  | _ => false
/-- the place of a key -/
def keyAt (ks : List D) (k : D) : Option Nat := ks.findIdx? fun x => eqB x k
def getI {α : Type} (xs : List α) (i : Int) : Option α := if 0 ≤ i then xs[i.toNat]? else if -(xs.length : Int) ≤ i then xs[(i + xs.length).toNat]? else none
def setI {α : Type} (xs : List α) (i : Int) (x : α) : Option (List α) :=
  if 0 ≤ i then (if i < xs.length then some (xs.set i.toNat x) else none) else if -(xs.length : Int) ≤ i then some (xs.set (i + xs.length).toNat x) else none
def cutI (n : Nat) (d : Nat) : D → Option Nat
  | .non => some d
  | .int i => if i < 0 then some (i + n).toNat else some (min i.toNat n)
  | _ => none
def cutL {α : Type} (xs : List α) (lo hi : D) : Option (List α) := match cutI xs.length 0 lo, cutI xs.length xs.length hi with
  | some a, some b => some ((xs.drop a).take (b - a))
  | _, _ => none
def best (gt : Int → Int → Bool) : Int → List Int → Int
  | m, [] => m
  | m, x :: r => best gt (if gt x m then x else m) r

mutual
/-- hash(d) is told: ints, tuples of such -/
def intOnly : D → Bool
  | .int i => decide (0 ≤ i) && decide (i < 1000000)
  | .tup xs => intOnlys xs
  | _ => false
def intOnlys : List D → Bool
  | [] => true
  | x :: xs => intOnly x && intOnlys xs
end
mutual
def hashD : D → Int
  | .int i => i
  | .tup xs => reduceHash (Builtin.Tuple.tupleHashOf (hashDs xs))
  | _ => 0
def hashDs : List D → List Int
  | [] => []
  | x :: xs => hashD x :: hashDs xs
end
def nodupI : List Int → Bool
  | [] => true
  | i :: is => !is.contains i && nodupI is
def nodupK : List D → Bool
  | [] => true
  | k :: ks => !ks.any (eqB k) && nodupK ks
def pairL : List D → Option (List D × List D)
  | [] => some ([], [])
  | p :: r => match p, pairL r with
    | .tup [k, v], some (ks, vs) => if keyOk k then some (k :: ks, v :: vs) else none
    | _, _ => none
/-- d[k] = v for each pair in turn -/
def putD (ks vs : List D) (k v : D) : List D × List D := match keyAt ks k with
  | some j => (ks, vs.set j v)
  | none => (ks ++ [k], vs ++ [v])
def negD : D → Option D | .int i => some (.int (-i)) | _ => none
def notD : D → Option D | .bl b => some (.bl (!b)) | _ => none
def lenD : D → Option D
  | .lst xs => some (.int xs.length)
  | .tup xs => some (.int xs.length)
  | .dt ks _ => some (.int ks.length)
  | .str s => some (.int s.length)
  | .scr ns => some (.int ns.length)
  | _ => none
def absD : D → Option D | .int i => some (.int (if i < 0 then -i else i)) | _ => none
def sumD : D → Option D
  | .lst xs => (ints? xs).map fun l => .int l.sum
  | .tup xs => (ints? xs).map fun l => .int l.sum
  | _ => none
def maxL : List Int → Option D
  | [] => none
  | a :: r => some (.int (best (fun x m => decide (x > m)) a r))
def minL : List Int → Option D
  | [] => none
  | a :: r => some (.int (best (fun x m => decide (x < m)) a r))
def maxD : D → Option D
  | .lst xs => (ints? xs).bind maxL
  | .tup xs => (ints? xs).bind maxL
  | _ => none
def minD : D → Option D
  | .lst xs => (ints? xs).bind minL
  | .tup xs => (ints? xs).bind minL
  | _ => none
def tupD : D → Option D
  | .lst xs => some (.tup xs)
  | .tup xs => some (.tup xs)
  | _ => none
def listD : D → Option D
  | .lst xs => some (.lst xs)
  | .tup xs => some (.lst xs)
  | _ => none
def lrngD : D → Option D | .int n => if rngOk 0 n then some (.lst (rangeD 0 n)) else none | _ => none
def trngD : D → Option D | .int n => if rngOk 0 n then some (.tup (rangeD 0 n)) else none | _ => none
def insD (x : D) : List D → List D
  | [] => [x]
  | y :: ys => if leD x y then x :: y :: ys else y :: insD x ys
def isort : List D → List D
  | [] => []
  | x :: xs => insD x (isort xs)
def sortL (xs : List D) : Option D := if ordAll xs then some (.lst (isort xs)) else none
def sortedD : D → Option D
  | .lst xs => sortL xs
  | .tup xs => sortL xs
  | _ => none
def isI : D → Bool
  | .int _ => true
  | _ => false
def ssetL (xs : List D) : Option D := if xs.all isI && decide (xs.length ≤ 60) then sortL (dedupD xs) else none
/-- a pair of ints below 64 -/
def isP64 : D → Bool
  | .tup [.int a, .int b] => decide (0 ≤ a) && decide (a < 64) && decide (0 ≤ b) && decide (b < 64)
  | _ => false
mutual
/-- ints, tuples of such -/
def numD : D → Bool
  | .int _ => true
  | .tup xs => numDs xs
  | _ => false
def numDs : List D → Bool
  | [] => true
  | x :: xs => numD x && numDs xs
end
def nestI (d : D) : Bool := keyOk d && numD d
def ssetN (xs : List D) : Option D := if xs.all nestI && decide (xs.length ≤ 60) then sortL (dedupD xs) else none
def ssetP (xs : List D) : Option D := if xs.all isP64 && decide (xs.length ≤ 60) then sortL (dedupD xs) else ssetN xs
def ssetD : D → Option D
  | .lst xs => if xs.all isI then ssetL xs else ssetP xs
  | .tup xs => ssetL xs
  | _ => none
def skeysD : D → Option D
  | .dt ks _ => sortL ks
  | _ => none
def intD : D → Option D
  | .int i => some (.int i)
  | .bl b => some (.int (if b then 1 else 0))
  | .str a => match a.cps.toList with
    | [ch] => if 48 ≤ ch ∧ ch ≤ 57 then some (.int ((ch - 48 : Nat) : Int)) else none
    | _ => none
  | _ => none
def strD : D → Option D
  | .int i => if 0 ≤ i ∧ i ≤ 9 then some (.str ⟨#[48 + i.toNat]⟩) else none
  | _ => none
def revD : D → Option D
  | .lst xs => some (.lst xs.reverse)
  | .tup xs => some (.tup xs.reverse)
  | _ => none
/-- the type that isinstance looks at: 0 None, 1 bool, 2 int, 3 str, 4 tuple, 5 list, 6 dict -/
def tyD : D → Option Nat
  | .non => some 0 | .bl _ => some 1 | .int _ => some 2 | .str _ => some 3 | .tup _ => some 4 | .lst _ => some 5
  | .dt _ _ => some 6 | .dk _ _ => some 6
  | _ => none
def isA (l : List Nat) (x : D) : Option D := (tyD x).map fun t => .bl (l.contains t)
/-- .. against (tuple, list): not told of dicts -/
def isTL (x : D) : Option D := match x with
  | .dt _ _ => none | .dk _ _ => none
  | _ => isA [4, 5] x
def dictD : D → Option D
  | .dt ks vs => if ks.all intOnly && nodupI (ks.map hashD) then some (.dt ks vs) else none
  | .lst ps => if sizeOk ps.length then match pairL ps with
    | some (ks, vs) => if nodupK ks then some (.dt ks vs) else none
    | none => none
    else none
  | _ => none

def asTD : D → Option D
  | .ntp ns => some (.tup (ns.map .int))
  | .tup xs => some (.tup xs)
  | .non => some .non
  | .int i => some (.int i)
  | _ => none
def tupND : D → Option D
  | .lst xs => (ints? xs).map .ntp
  | _ => none
def dispND : D → Option D
  | .tup xs => (ints? xs).map .ntp
  | _ => none
def op1 (o : Op1) (x : D) : Option D := match o with
  | .neg => negD x | .notB => notD x | .len => lenD x | .abs => absD x | .sum => sumD x | .max1 => maxD x | .min1 => minD x
  | .tupleOf => tupD x | .listOf => listD x | .listRange => lrngD x | .tupRange => trngD x
  | .sorted => sortedD x | .sortedSet => ssetD x | .sortedKeys => skeysD x
  | .toInt => intD x | .toStr => strD x | .rev => revD x
  | .isInt => isA [1, 2] x | .isBool => isA [1] x | .isTup => isA [4] x | .isStr => isA [3] x | .isList => isA [5] x | .isTupList => isTL x
  | .dictOf => dictD x
  | .asT => asTD x | .tupleN => tupND x | .dispN => dispND x

def addD : D → D → Option D
  | .int i, .int j => some (.int (i + j))
  | .lst xs, .lst ys => if sizeOk (xs.length + ys.length) then some (.lst (xs ++ ys)) else none
  | .tup xs, .tup ys => if sizeOk (xs.length + ys.length) then some (.tup (xs ++ ys)) else none
  | .str a, .str b => if sizeOk (a.length + b.length) then some (.str (a ++ b)) else none
  | _, _ => none
def subD : D → D → Option D | .int i, .int j => some (.int (i - j)) | _, _ => none
def repOk (n : Nat) (k : Int) : Bool := decide (k ≤ 1000) && decide (-1000 ≤ k) && decide (n ≤ 1000)
def mulD : D → D → Option D
  | .int i, .int j => if mulOk i j then some (.int (i * j)) else none
  | .lst xs, .int k => if repOk xs.length k then some (.lst (List.replicate k.toNat xs).flatten) else none
  | .tup xs, .int k => if repOk xs.length k then some (.tup (List.replicate k.toNat xs).flatten) else none
  | _, _ => none
def fdivD : D → D → Option D | .int i, .int j => if divOk j then some (.int (i.fdiv j)) else none | _, _ => none
def modD : D → D → Option D | .int i, .int j => if j ≠ 0 then some (.int (i.fmod j)) else none | _, _ => none
def powD : D → D → Option D
  | .int i, .int j => if decide (0 ≤ j) && decide (j ≤ 1000) && decide (i.natAbs < 2 ^ 64) then some (.int (i ^ j.toNat)) else none
  | _, _ => none
def eqD (x y : D) : Option Bool := if eqOk x y then some (eqB x y) else none
def neD : D → D → Option D
  | .dt ks _, .dt [] [] => some (.bl (!ks.isEmpty))
  | x, y => (eqD x y).map fun b => .bl (!b)
def ltD : D → D → Option D | .int i, .int j => some (.bl (decide (i < j))) | _, _ => none
def gtD : D → D → Option D | .int i, .int j => some (.bl (decide (j < i))) | _, _ => none
def geD : D → D → Option D | .int i, .int j => some (.bl (decide (j ≤ i))) | _, _ => none
def leqD : D → D → Option D
  | .int i, .int j => some (.bl (decide (i ≤ j)))
  | .tup xs, .tup ys => if ordOks xs ys && eqOk (.tup xs) (.tup ys) then some (.bl (cmpDs xs ys != .gt)) else none
  | _, _ => none
def inD (x : D) : D → Option Bool
  | .lst ys => if eqOk x (.lst ys) then some (ys.any fun z => eqB z x) else none
  | .tup ys => if eqOk x (.tup ys) then some (ys.any fun z => eqB z x) else none
  | .dt ks _ => if keyOk x then some (keyAt ks x).isSome else none
  | .str z => match x with
    | .str a => match a.cps.toList with
      | [ch] => some (decide (ch ∈ z.cps.toList))
      | _ => none
    | _ => none
  | _ => none
def isD : D → D → Option Bool
  | .bl a, .bl b => some (a == b)
  | .non, .non => some true
  | _, .non => some false
  | _, _ => none
def idxD (R : List D) : D → D → Option D
  | .lst xs, .int i => getI xs i
  | .tup xs, .int i => getI xs i
  | .dt ks vs, k => if keyOk k then (keyAt ks k).bind fun j => vs[j]? else none
  | .dk ks vs, .str k => (ks.findIdx? (· == k)).bind fun j => vs[j]?
  | .row, .int i => getI R i
  | .scr ns, .int i => (getI ns i).map .int
  | _, _ => none
def max2D : D → D → Option D | .int i, .int j => some (.int (if j > i then j else i)) | _, _ => none
def min2D : D → D → Option D | .int i, .int j => some (.int (if j < i then j else i)) | _, _ => none
def indexD (x y : D) : Option D := match x, y with
  | .ntp ns, .int i => (ns.findIdx? fun z => z == i).map fun j => .int (j : Nat)
  | _, _ => none
/-- texts with another between them -/
def joinS (a : Str) : List Str → Str
  | [] => Str.empty
  | [x] => x
  | x :: y :: r => x ++ a ++ joinS a (y :: r)
def strs? : List D → Option (List Str)
  | [] => some []
  | .str x :: r => (strs? r).map (x :: ·)
  | _ :: _ => none
def joinD (x y : D) : Option D := match x, y with
  | .str a, .lst ds => (strs? ds).bind fun ys => if sizeOk ((ys.map (·.length)).sum + ys.length * a.length) then some (.str (joinS a ys)) else none
  | _, _ => none
def op2 (R : List D) (o : Op2) (x y : D) : Option D := match o with
  | .add => addD x y | .sub => subD x y | .mul => mulD x y | .fdiv => fdivD x y | .mod => modD x y | .pow => powD x y
  | .eq => (eqD x y).map .bl | .ne => neD x y | .lt => ltD x y | .le => leqD x y | .gt => gtD x y | .ge => geD x y
  | .isIn => (inD x y).map .bl | .notIn => (inD x y).map fun b => .bl (!b)
  | .is => (isD x y).map .bl | .isNot => (isD x y).map fun b => .bl (!b)
  | .idx => idxD R x y | .max2 => max2D x y | .min2 => min2D x y | .index => indexD x y
  | .count => none | .join => joinD x y

def sliceD (x y z : D) : Option D := match x with
  | .lst xs => (cutL xs y z).map .lst
  | .tup xs => (cutL xs y z).map .tup
  | .str s => (cutL s.cps.toList y z).map fun l => .str ⟨l.toArray⟩
  | _ => none
def getdD (x y z : D) : Option D := match x with
  | .dt ks vs => if keyOk y then some (((keyAt ks y).bind fun j => vs[j]?).getD z) else none
  | _ => none
def op3 (o : Op3) (x y z : D) : Option D := match o with
  | .slice => sliceD x y z
  | .getd => getdD x y z
  | .replace => none

/-- what is walked -/
def items (k : ItK) (x y : D) : Option (List D) := match k, x, y with
  | .val, .lst xs, _ => some xs
  | .val, .tup xs, _ => some xs
  | .range1, .int n, _ => if rngOk 0 n then some (rangeD 0 n) else none
  | .range2, .int a, .int b => if rngOk a b then some (rangeD a b) else none
  | .enum, .lst xs, _ => some (xs.mapIdx fun i x => .tup [.int (i : Nat), x])
  | .enum, .tup xs, _ => some (xs.mapIdx fun i x => .tup [.int (i : Nat), x])
  | .zip, .lst xs, .lst ys => some (List.zipWith (fun a b => .tup [a, b]) xs ys)
  | .zip, .tup xs, .tup ys => some (List.zipWith (fun a b => .tup [a, b]) xs ys)
  | .keys, .dt ks _, _ => some ks
  | _, _, _ => none

def cmpL (f : D → M (Option D)) : List D → M (List D)
  | [] => ret []
  | d :: ds => bnd (f d) fun o => bnd (cmpL f ds) fun ys => match o with
    | some y => ret (y :: ys)
    | none => ret ys
def tru : D → Option Bool
  | .non => some false
  | .lst xs => some (!xs.isEmpty)
  | _ => none

abbrev Cf := Nat → List D → M D
mutual
def evE (cf : Cf) : E → Env → M D
  | .var i, ρ => rdV ρ i
  | .non, _ => ret .non
  | .bl b, _ => ret (.bl b)
  | .int i, _ => ret (.int i)
  | .str s, _ => ret (.str s)
  | .cst _ d, _ => ret d
  | .tup es, ρ => bnd (evEs cf es ρ) fun ds => ret (.tup ds)
  | .lst es, ρ => bnd (evEs cf es ρ) fun ds => ret (.lst ds)
  | .o1 o a, ρ => bnd (opn a ρ (evE cf a ρ)) fun x => lft fun _ => op1 o x
  | .o2 o a b, ρ => bnd (opn a ρ (evE cf a ρ)) fun x => bnd (opn b ρ (evE cf b ρ)) fun y => lft fun R => op2 R o x y
  | .o3 o a b c, ρ => bnd (opn a ρ (evE cf a ρ)) fun x => bnd (opn b ρ (evE cf b ρ)) fun y => bnd (opn c ρ (evE cf c ρ)) fun z => lft fun _ => op3 o x y z
  | .chain o p a b c, ρ => bnd (opn a ρ (evE cf a ρ)) fun x => bnd (opn b ρ (evE cf b ρ)) fun y => bnd (bnd (lft fun R => op2 R o x y) asB) fun t =>
      if t then bnd (opn c ρ (evE cf c ρ)) fun z => lft fun R => op2 R p y z else ret (.bl false)
  | .and a b, ρ => bnd (bnd (evE cf a ρ) asB) fun t => if t then evE cf b ρ else ret (.bl false)
  | .or a b, ρ => bnd (bnd (evE cf a ρ) asB) fun t => if t then ret (.bl true) else evE cf b ρ
  | .orT a b, ρ => bnd (evE cf a ρ) fun x => bnd (lft fun _ => tru x) fun t => if t then ret x else evE cf b ρ
  | .ite t a b, ρ => bnd (bnd (evE cf t ρ) asB) fun k => if k then evE cf a ρ else evE cf b ρ
  | .call g es, ρ => bnd (evEs cf es ρ) fun ds => cf g ds
  | .calle f gs es, ρ => bnd (evE cf f ρ) fun x => match x with
    | .fn g => if gs.any (fun p => p.2 == g) then bnd (evEs cf es ρ) fun ds => cf g ds else halt
    | _ => halt
  | .ix2 i a b, ρ => bnd (evE cf a ρ) fun x => bnd (evE cf b ρ) fun y => match ρ[i]?, x, y with
    | some (.own2 (.lst rs)), .int p, .int q => match getI rs p with
      | some (.lst xs) => lft fun _ => getI xs q
      | _ => halt
    | _, _, _ => halt
  | .comp elt t k a b c own, ρ => bnd (opn a ρ (evE cf a ρ)) fun x => bnd (opn b ρ (evE cf b ρ)) fun y => bnd (lft fun _ => items k x y) fun ds =>
      if sizeOk ds.length then bnd (cmpL (fun d => match setTg t d (wipeE ρ own) with
        | some ρ' => bnd (bnd (evE cf c ρ') asB) fun keep => if keep then bnd (evE cf elt ρ') fun y => ret (some y) else ret none
        | none => halt) ds) fun ys => ret (.lst ys)
      else halt
  | .dnew nested, _ => ret (if nested then .dt [] [] else .dk [] [])
  | .ddisp ks es, ρ => bnd (evEs cf es ρ) fun ds => ret (.dk ks ds)
  | .fld i k, ρ => bnd (rdV ρ i) fun x => match x with
    | .err _ fs => lft fun _ => fs[k]?
    | _ => halt
def evEs (cf : Cf) : List E → Env → M (List D)
  | [], _ => ret []
  | e :: es, ρ => bnd (evE cf e ρ) fun d => bnd (evEs cf es ρ) fun ds => ret (d :: ds)
end

/-- how a statement ends -/
inductive Fl where
  | nx (ρ : Env) | rt (d : D) | bk (ρ : Env) | ct (ρ : Env)
abbrev Wh := (Env → M Bool) → (Env → M Fl) → Env → M Fl
def forL (f : D → Env → M Fl) : List D → Env → M Fl
  | [], ρ => ret (.nx ρ)
  | d :: ds, ρ => bnd (f d ρ) fun fl => match fl with
    | .nx ρ' => forL f ds ρ'
    | .ct ρ' => forL f ds ρ'
    | .bk ρ' => ret (.nx ρ')
    | .rt d => ret (.rt d)
def setSlot (ρ : Env) (i : Nat) (s : Slot) : M Fl := if i < ρ.length then ret (.nx (ρ.set i s)) else halt
def freshE : E → Bool
  | .lst _ => true
  | .comp .. => true
  | .dnew _ => true
  | .o2 .add _ _ => true
  | .o2 .mul _ _ => true
  | .o1 .listOf _ => true
  | .o1 .listRange _ => true
  | .o1 .sorted _ => true
  | .o1 .sortedSet _ => true
  | _ => false
def ownable : D → Bool
  | .lst _ => true
  | .dt _ _ => true
  | .dk _ _ => true
  | _ => false
def setPar : List (Bool × Nat) → List D → Env → Option Env
  | [], [], ρ => some ρ
  | (o, i) :: ts, d :: ds, ρ => if i < ρ.length then (if o then (if ownable d then setPar ts ds (ρ.set i (.own d)) else none) else setPar ts ds (ρ.set i (.val d))) else none
  | _, _, _ => none
mutual
def exS (cf : Cf) (wh : Wh) : S → Env → M Fl
  | .expr e, ρ => bnd (evE cf e ρ) fun _ => ret (.nx ρ)
  | .asg t e, ρ => bnd (evE cf e ρ) fun d => match setTg t d ρ with
    | some ρ' => ret (.nx ρ')
    | none => halt
  | .own i e, ρ => if freshE e then bnd (evE cf e ρ) fun d => if ownable d then setSlot ρ i (.own d) else halt else halt
  | .own2 i e, ρ => match e with
    | .comp .. => bnd (evE cf e ρ) fun d => match d with
      | .lst rs => if rs.all fun r => match r with | .lst _ => true | _ => false then setSlot ρ i (.own2 d) else halt
      | _ => halt
    | _ => halt
  | .seti2 i a b e, ρ => bnd (evE cf e ρ) fun d => bnd (evE cf a ρ) fun x => bnd (evE cf b ρ) fun y => match ρ[i]?, x, y with
    | some (.own2 (.lst rs)), .int p, .int q => match getI rs p with
      | some (.lst xs) => match setI xs q d with
        | some ys => match setI rs p (.lst ys) with
          | some rs' => setSlot ρ i (.own2 (.lst rs'))
          | none => halt
        | none => halt
      | _ => halt
    | _, _, _ => halt
  | .par ts es, ρ => bnd (evEs cf es ρ) fun ds => match setPar ts ds ρ with
    | some ρ' => ret (.nx ρ')
    | none => halt
  | .app i e, ρ => bnd (evE cf e ρ) fun d => match ρ[i]? with
    | some (.own (.lst xs)) => if sizeOk (xs.length + 1) then setSlot ρ i (.own (.lst (xs ++ [d]))) else halt
    | _ => halt
  | .seti i k e, ρ => bnd (evE cf e ρ) fun d => bnd (evE cf k ρ) fun kd => match ρ[i]?, kd with
    | some (.own (.lst xs)), .int j => match setI xs j d with
      | some ys => setSlot ρ i (.own (.lst ys))
      | none => halt
    | some (.own (.dt ks vs)), kd => if keyOk kd && sizeOk (ks.length + 1) then setSlot ρ i (.own (.dt (putD ks vs kd d).1 (putD ks vs kd d).2)) else halt
    | some (.val .row), .int j => fun R => match setI R j d with
      | some R' => .ok (.nx ρ) R'
      | none => .stuck
    | _, _ => halt
  | .aug i o e, ρ => bnd (rdV ρ i) fun x => bnd (evE cf e ρ) fun y => match x, y with
    | .int m, .int n => bnd (lft fun R => op2 R o (.int m) (.int n)) fun z => setSlot ρ i (.val z)
    | _, _ => halt
  | .popTo j i, ρ => match ρ[i]? with
    | some (.own (.lst xs)) => match xs.getLast? with
      | some d => if i < ρ.length && j < ρ.length then ret (.nx ((ρ.set i (.own (.lst xs.dropLast))).set j (.val d))) else halt
      | none => halt
    | _ => halt
  | .frz i, ρ => match ρ[i]? with
    | some (.own d) => ret (.nx (ρ.set i (.val d)))
    | some (.own2 d) => ret (.nx (ρ.set i (.val d)))
    | _ => ret (.nx ρ)
  | .retE e, ρ => bnd (evE cf e ρ) fun d => ret (.rt d)
  | .ifS c a b, ρ => bnd (bnd (evE cf c ρ) asB) fun t => if t then exSs cf wh a ρ else exSs cf wh b ρ
  | .whileS c b, ρ => wh (fun ρ => bnd (evE cf c ρ) asB) (fun ρ => exSs cf wh b ρ) ρ
  | .forS t k a b body, ρ => bnd (evE cf a ρ) fun x => bnd (evE cf b ρ) fun y => bnd (lft fun _ => items k x y) fun ds =>
      forL (fun d ρ => match setTg t d ρ with
        | some ρ' => exSs cf wh body ρ'
        | none => halt) ds ρ
  | .brk, ρ => ret (.bk ρ)
  | .cont, ρ => ret (.ct ρ)
  | .pass, ρ => ret (.nx ρ)
  | .raise c es, ρ => bnd (evEs cf es ρ) fun ds R => .exc c ds R
  | .tryS _ _ _ _, _ => halt
def exSs (cf : Cf) (wh : Wh) : List S → Env → M Fl
  | [], ρ => ret (.nx ρ)
  | s :: ss, ρ => bnd (exS cf wh s ρ) fun fl => match fl with
    | .nx ρ' => exSs cf wh ss ρ'
    | o => ret o
end

/-- a call: the body at the parameters' values -/
def runF (cf : Cf) (wh : Wh) (fd : FD) (ds : List D) : M D :=
  if ds.length = fd.np then bnd (exSs cf wh fd.body (ds.map .val ++ List.replicate (fd.ns - fd.np) .none)) fun fl => match fl with
    | .rt d => ret d
    | .nx _ => ret .non
    | _ => halt
  else halt
def callN (P : Nat → Option FD) (wh : Wh) : Nat → Cf
  | 0, _, _ => halt
  | n + 1, g, ds => match P g with
    | some fd => runF (callN P wh n) wh fd ds
    | none => halt

/-- k turns at most -/
def whF : Nat → Wh
  | 0, _, _, _ => halt
  | k + 1, c, b, ρ => bnd (c ρ) fun t => if t then bnd (b ρ) fun fl => match fl with
      | .nx ρ' => whF k c b ρ'
      | .ct ρ' => whF k c b ρ'
      | .bk ρ' => ret (.nx ρ')
      | .rt d => ret (.rt d)
    else ret (.nx ρ)
def Out.isStuck {α : Type} : Out α → Bool
  | .stuck => true
  | _ => false
open Classical in
noncomputable def whP : Wh := fun c b ρ R => if h : ∃ k, (whF k c b ρ R).isStuck = false then whF (Classical.choose h) c b ρ R else .stuck
end Pu
end

section
set_option autoImplicit false
set_option linter.all false
set_option maxRecDepth 100000
set_option maxHeartbeats 2000000
set_option Elab.async false
namespace Pu
open PySem PySem.Spec PyProof.Rows L2

/-- what is fixed: the written part, the program, the world, where each def stands, where the row stands -/
structure Ct where
  K : PySem.W.Frag
  P : Program
  w : World
  fa : Nat → Addr
  ar : Addr

def StrOk (s : Str) : Prop := PyData.strOk s = true ∧ s.length ≤ 1000000

mutual
/-- a hashable value as a nested key -/
def toNK : D → NestedKey
  | .bl b => .num (if b then 1 else 0)
  | .int i => .num i
  | .str s => .text s
  | .tup xs => .tup (toNKs xs)
  | _ => .none
def toNKs : List D → List NestedKey
  | [] => []
  | x :: xs => toNK x :: toNKs xs
end

/-- the object o stands at a -/
def isObjAt (a : Addr) (o : Obj) : HO := .ext fun h => h.get? a = some o

/-- a dict with nested keys: its object stands at a in G; keys and values by R -/
def DtAt (c : Ct) (G : Hp) (RK RV : List V → Prop) (ks : List D) (a : Addr) : Prop :=
  ∃ (o : Obj) (es : Array DictEntry) (ep : Nat) (xs : List (NestedKey × Addr × Value)) (us : List V),
    G a = some (isObjAt a o) ∧ o.ExactDict ∧ o.data = .dict es ep ∧ (a == sysModules) = false ∧ es.toList = xs.map (entryOfKey (nestedKind c.P c.w)) ∧ (xs.map (·.1)).Nodup ∧
    toNKs ks = xs.map (·.1) ∧ ks.all keyOk = true ∧ RK (xs.map fun x => V.ref x.2.1) ∧ RV us ∧ Vals us (xs.map (·.2.2)) ∧ ks.length ≤ 1000001

/-- a tuple that is known to have no dict -/
def NTup (F : Hp) (a : Addr) (xs : List V) : Prop := ∃ o : Obj, F a = some (.frz o (.tup xs)) ∧ o.dict = none
mutual
/-- the value v is the data d, in the heap F -/
def RelD (c : Ct) (F : Hp) : D → V → Prop
  | .non, v => v = .non
  | .bl b, v => v = .bl b
  | .int i, v => v = .int i
  | .str s, v => v = .str s ∧ StrOk s
  | .tup ds, v => ∃ a xs, v = .ref a ∧ SqT c.K F a xs ∧ RelDs c F ds xs
  | .lst ds, v => ∃ a xs, v = .ref a ∧ F a = some (.lst xs) ∧ RelDs c F ds xs
  | .dt ks vs, v => ∃ a, v = .ref a ∧ DtAt c F (fun xs => RelDs c F ks xs) (fun xs => RelDs c F vs xs) ks a
  | .dk ks vs, v => ∃ a xs, v = .ref a ∧ F a = some (.dK (List.zip (ks.map Sum.inr) xs)) ∧ xs.length = ks.length ∧ RelDs c F vs xs
  | .scr ns, v => ∃ a, v = .ref a ∧ SqL c.K F a (ns.map V.int)
  | .row, v => v = .ref c.ar
  | .fn g, v => v = .ref (c.fa g)
  | .err _ _, _ => False
  | .ntp ns, v => ∃ a, v = .ref a ∧ NTup F a (ns.map V.int)
def RelDs (c : Ct) (F : Hp) : List D → List V → Prop
  | [], [] => True
  | d :: ds, x :: xs => RelD c F d x ∧ RelDs c F ds xs
  | _, _ => False
end

def Sub (F H : Hp) : Prop := ∀ a o, F a = some o → H a = some o
theorem Sub.refl {F : Hp} : Sub F F := fun _ _ h => h
theorem Sub.trans {F G H : Hp} (h : Sub F G) (k : Sub G H) : Sub F H := fun a o e => k a o (h a o e)
theorem Sub.upd {F H : Hp} {a : Addr} {o : HO} (h : Sub F H) (hn : F a = none) : Sub F (upd H a o) := fun b u e => by
  rw [upd_ne (fun z => by subst z; rw [hn] at e; cases e)]
  exact h b u e
theorem Sub.upd2 {F H : Hp} {a : Addr} {o : HO} (h : Sub F H) : Sub (L2.upd F a o) (L2.upd H a o) := fun b u e => by
  unfold L2.upd at e ⊢
  split
  · rename_i hb; rw [if_pos hb] at e; exact e
  · rename_i hb; rw [if_neg hb] at e; exact h b u e
theorem Sub.self {F : Hp} {a : Addr} {o : HO} (hn : F a = none) : Sub F (L2.upd F a o) := Sub.refl.upd hn
theorem SqL.sub {K : PySem.W.Frag} {F H : Hp} {a : Addr} {xs : List V} (s : Sub F H) (h : SqL K F a xs) : SqL K H a xs := by
  rcases h with (h | ⟨o, h⟩) | h
  · exact .inl (.inl (s _ _ h))
  · exact .inl (.inr ⟨o, s _ _ h⟩)
  · exact .inr h
theorem NTup.sub {F H : Hp} {a : Addr} {xs : List V} (s : Sub F H) (h : NTup F a xs) : NTup H a xs := h.imp fun _ q => ⟨s _ _ q.1, q.2⟩
theorem SqT.sub {K : PySem.W.Frag} {F H : Hp} {a : Addr} {xs : List V} (s : Sub F H) (h : SqT K F a xs) : SqT K H a xs := by
  rcases h with (h | ⟨o, h⟩) | h
  · exact .inl (.inl (s _ _ h))
  · exact .inl (.inr ⟨o, s _ _ h⟩)
  · exact .inr h
theorem DtAt.imp {c : Ct} {G G' : Hp} {RK RK' RV RV' : List V → Prop} {ks : List D} {a : Addr} (h : DtAt c G RK RV ks a) (hg : ∀ o, G a = some o → G' a = some o)
    (hk : ∀ xs, RK xs → RK' xs) (hv : ∀ xs, RV xs → RV' xs) : DtAt c G' RK' RV' ks a := by
  obtain ⟨o, es, ep, xs, us, h1, h2, h3, h4, h5, h6, h7, h8, h9, h10, h11, h12⟩ := h
  exact ⟨o, es, ep, xs, us, hg _ h1, h2, h3, h4, h5, h6, h7, h8, hk _ h9, hv _ h10, h11, h12⟩
mutual
theorem RelD.mono {c : Ct} {F F' : Hp} (s : Sub F F') : ∀ (d : D) (v : V), RelD c F d v → RelD c F' d v
  | .non, _, h => h
  | .bl _, _, h => h
  | .int _, _, h => h
  | .str _, _, h => h
  | .tup ds, _, h => by
    simp only [RelD] at h ⊢
    obtain ⟨a, xs, e, q, r⟩ := h
    exact ⟨a, xs, e, SqT.sub s q, RelDs.mono s ds xs r⟩
  | .lst ds, _, h => by
    simp only [RelD] at h ⊢
    obtain ⟨a, xs, e, q, r⟩ := h
    exact ⟨a, xs, e, s _ _ q, RelDs.mono s ds xs r⟩
  | .dt ks vs, _, h => by
    simp only [RelD] at h ⊢
    obtain ⟨a, e, q⟩ := h
    exact ⟨a, e, q.imp (fun o k => s _ _ k) (fun xs k => RelDs.mono s ks xs k) (fun xs k => RelDs.mono s vs xs k)⟩
  | .dk ks vs, _, h => by
    simp only [RelD] at h ⊢
    obtain ⟨a, xs, e, q, l, r⟩ := h
    exact ⟨a, xs, e, s _ _ q, l, RelDs.mono s vs xs r⟩
  | .scr ns, _, h => by
    simp only [RelD] at h ⊢
    obtain ⟨a, e, q⟩ := h
    exact ⟨a, e, SqL.sub s q⟩
  | .row, _, h => h
  | .fn _, _, h => h
  | .err _ _, _, h => h
  | .ntp _, _, h => by
    simp only [RelD] at h ⊢
    obtain ⟨a, e, q⟩ := h
    exact ⟨a, e, q.sub s⟩
theorem RelDs.mono {c : Ct} {F F' : Hp} (s : Sub F F') : ∀ (ds : List D) (xs : List V), RelDs c F ds xs → RelDs c F' ds xs
  | [], [], _ => by simp only [RelDs]
  | [], _ :: _, h => by simp only [RelDs] at h
  | _ :: _, [], h => by simp only [RelDs] at h
  | d :: ds, x :: xs, h => by
    simp only [RelDs] at h ⊢
    exact ⟨RelD.mono s d x h.1, RelDs.mono s ds xs h.2⟩
end
theorem RelDs.length {c : Ct} {F : Hp} : ∀ {ds : List D} {xs : List V}, RelDs c F ds xs → xs.length = ds.length
  | [], [], _ => rfl
  | [], _ :: _, h => by simp only [RelDs] at h
  | _ :: _, [], h => by simp only [RelDs] at h
  | d :: ds, x :: xs, h => by
    simp only [RelDs] at h
    simp [RelDs.length h.2]
theorem RelDs.get {c : Ct} {F : Hp} : ∀ {ds : List D} {xs : List V} {i : Nat} {d : D}, RelDs c F ds xs → ds[i]? = some d → ∃ x, xs[i]? = some x ∧ RelD c F d x
  | [], [], _, _, _, e => by simp at e
  | [], _ :: _, _, _, h, _ => by simp only [RelDs] at h
  | _ :: _, [], _, _, h, _ => by simp only [RelDs] at h
  | d :: ds, x :: xs, 0, d', h, e => by
    simp only [RelDs] at h
    simp at e; subst e
    exact ⟨x, rfl, h.1⟩
  | d :: ds, x :: xs, i + 1, d', h, e => by
    simp only [RelDs] at h
    simpa using RelDs.get h.2 (by simpa using e)
theorem RelDs.of_get {c : Ct} {F : Hp} : ∀ {ds : List D} {xs : List V}, xs.length = ds.length → (∀ (i : Nat) (d : D) (x : V), ds[i]? = some d → xs[i]? = some x → RelD c F d x) → RelDs c F ds xs
  | [], [], _, _ => by simp only [RelDs]
  | [], _ :: _, h, _ => by simp at h
  | _ :: _, [], h, _ => by simp at h
  | d :: ds, x :: xs, h, k => by
    simp only [RelDs]
    exact ⟨k 0 d x rfl rfl, RelDs.of_get (by simpa using h) fun i d' x' e1 e2 => k (i + 1) d' x' (by simpa using e1) (by simpa using e2)⟩
theorem RelDs.append {c : Ct} {F : Hp} : ∀ {ds es : List D} {xs ys : List V}, RelDs c F ds xs → RelDs c F es ys → RelDs c F (ds ++ es) (xs ++ ys)
  | [], _, [], _, _, k => k
  | [], _, _ :: _, _, h, _ => by simp only [RelDs] at h
  | _ :: _, _, [], _, h, _ => by simp only [RelDs] at h
  | d :: ds, es, x :: xs, ys, h, k => by
    simp only [RelDs] at h
    simp only [List.cons_append, RelDs]
    exact ⟨h.1, RelDs.append h.2 k⟩
theorem RelDs.one {c : Ct} {F : Hp} {d : D} {x : V} (h : RelD c F d x) : RelDs c F [d] [x] := by
  simp only [RelDs]; exact ⟨h, trivial⟩
theorem RelDs.take {c : Ct} {F : Hp} : ∀ (n : Nat) {ds : List D} {xs : List V}, RelDs c F ds xs → RelDs c F (ds.take n) (xs.take n)
  | 0, _, _, _ => by simp only [List.take_zero, RelDs]
  | _ + 1, [], [], _ => by simp only [List.take_nil, RelDs]
  | _ + 1, [], _ :: _, h => by simp only [RelDs] at h
  | _ + 1, _ :: _, [], h => by simp only [RelDs] at h
  | n + 1, d :: ds, x :: xs, h => by
    simp only [RelDs] at h
    simp only [List.take_succ_cons, RelDs]
    exact ⟨h.1, RelDs.take n h.2⟩
theorem RelDs.drop {c : Ct} {F : Hp} : ∀ (n : Nat) {ds : List D} {xs : List V}, RelDs c F ds xs → RelDs c F (ds.drop n) (xs.drop n)
  | 0, _, _, h => h
  | _ + 1, [], [], _ => by simp only [List.drop_nil, RelDs]
  | _ + 1, [], _ :: _, h => by simp only [RelDs] at h
  | _ + 1, _ :: _, [], h => by simp only [RelDs] at h
  | n + 1, d :: ds, x :: xs, h => by
    simp only [RelDs] at h
    exact RelDs.drop n h.2
theorem RelDs.set {c : Ct} {F : Hp} {d : D} {x : V} (h : RelD c F d x) : ∀ {ds : List D} {xs : List V} (i : Nat), RelDs c F ds xs → RelDs c F (ds.set i d) (xs.set i x)
  | [], [], _, k => k
  | [], _ :: _, _, k => by simp only [RelDs] at k
  | _ :: _, [], _, k => by simp only [RelDs] at k
  | d' :: ds, x' :: xs, 0, k => by
    simp only [RelDs] at k
    simp only [List.set_cons_zero, RelDs]
    exact ⟨h, k.2⟩
  | d' :: ds, x' :: xs, i + 1, k => by
    simp only [RelDs] at k
    simp only [List.set_cons_succ, RelDs]
    exact ⟨k.1, RelDs.set h i k.2⟩
theorem RelDs.reverse {c : Ct} {F : Hp} : ∀ {ds : List D} {xs : List V}, RelDs c F ds xs → RelDs c F ds.reverse xs.reverse
  | [], [], k => k
  | [], _ :: _, k => by simp only [RelDs] at k
  | _ :: _, [], k => by simp only [RelDs] at k
  | d :: ds, x :: xs, k => by
    simp only [RelDs] at k
    simp only [List.reverse_cons]
    exact RelDs.append (RelDs.reverse k.2) (RelDs.one k.1)
theorem RelDs.rep {c : Ct} {F : Hp} {ds : List D} {xs : List V} (h : RelDs c F ds xs) : ∀ n : Nat, RelDs c F (List.replicate n ds).flatten (List.replicate n xs).flatten
  | 0 => by simp only [List.replicate_zero, List.flatten_nil, RelDs]
  | n + 1 => by
    simp only [List.replicate_succ, List.flatten_cons]
    exact RelDs.append h (RelDs.rep h n)
theorem RelDs.nil_iff {c : Ct} {F : Hp} {ds : List D} {xs : List V} (h : RelDs c F ds xs) : xs = [] ↔ ds = [] := by
  have := h.length
  constructor
  · intro e; subst e; exact List.eq_nil_of_length_eq_zero (by simpa using this.symm)
  · intro e; subst e; exact List.eq_nil_of_length_eq_zero (by simpa using this)
theorem RelDs.ints {c : Ct} {F : Hp} : ∀ {ds : List D} {xs : List V} {l : List Int}, RelDs c F ds xs → ints? ds = some l → xs = l.map V.int
  | [], [], l, _, e => by simp only [ints?, Option.some.injEq] at e; subst e; rfl
  | [], _ :: _, _, h, _ => by simp only [RelDs] at h
  | _ :: _, [], _, h, _ => by simp only [RelDs] at h
  | d :: ds, x :: xs, l, h, e => by
    simp only [RelDs] at h
    cases d <;> simp only [ints?, reduceCtorEq] at e
    rename_i i
    cases hl : ints? ds with
    | none => rw [hl] at e; cases e
    | some l' =>
      rw [hl] at e
      simp only [Option.map_some, Option.some.injEq] at e
      subst e
      have h1 : x = V.int i := h.1
      rw [h1, RelDs.ints h.2 hl, List.map_cons]
theorem RelDs.of_ints {c : Ct} {F : Hp} : ∀ (l : List Int), RelDs c F (l.map D.int) (l.map V.int)
  | [] => by simp only [List.map_nil, RelDs]
  | i :: l => by
    simp only [List.map_cons, RelDs]
    exact ⟨by simp only [RelD], RelDs.of_ints l⟩

def Top (c : Ct) (F H : Hp) : D → V → Prop
  | .lst ds, v => ∃ a xs, v = .ref a ∧ H a = some (.lst xs) ∧ RelDs c F ds xs
  | .dt ks vs, v => ∃ a, v = .ref a ∧ DtAt c H (fun xs => RelDs c F ks xs) (fun xs => RelDs c F vs xs) ks a
  | d, v => RelD c F d v
theorem RelD.top {c : Ct} {F H : Hp} (s : Sub F H) : ∀ {d : D} {v : V}, RelD c F d v → Top c F H d v := by
  intro d v h
  cases d <;> first
    | exact h
    | skip
  · simp only [RelD] at h
    obtain ⟨a, xs, e, q, r⟩ := h
    exact ⟨a, xs, e, s _ _ q, r⟩
  · simp only [RelD] at h
    obtain ⟨a, e, q⟩ := h
    exact ⟨a, e, q.imp (fun o k => s _ _ k) (fun _ k => k) (fun _ k => k)⟩
/-- an object of one's own: a list, a dict that may be changed -/
def OwnD (c : Ct) (F H : Hp) : D → Addr → Prop
  | .lst ds, a => ∃ xs, H a = some (.lst xs) ∧ RelDs c F ds xs
  | .dt ks vs, a => DtAt c H (fun xs => RelDs c F ks xs) (fun xs => RelDs c F vs xs) ks a
  | .dk ks vs, a => ∃ xs, H a = some (.dK (List.zip (ks.map Sum.inr) xs)) ∧ xs.length = ks.length ∧ RelDs c F vs xs
  | _, _ => False
theorem OwnD.there {c : Ct} {F H : Hp} {d : D} {a : Addr} (h : OwnD c F H d a) : ∃ o, H a = some o := by
  cases d <;> try exact False.elim h
  · obtain ⟨xs, e, _⟩ := h; exact ⟨_, e⟩
  · obtain ⟨o, es, ep, xs, us, e, _⟩ := h; exact ⟨_, e⟩
  · obtain ⟨xs, e, _⟩ := h; exact ⟨_, e⟩
theorem OwnD.mono {c : Ct} {F F' H H' : Hp} {d : D} {a : Addr} (s : Sub F F') (k : ∀ o, H a = some o → H' a = some o) (h : OwnD c F H d a) : OwnD c F' H' d a := by
  cases d <;> try exact False.elim h
  · obtain ⟨xs, e, r⟩ := h; exact ⟨xs, k _ e, RelDs.mono s _ _ r⟩
  · exact DtAt.imp h k (fun xs q => RelDs.mono s _ xs q) (fun xs q => RelDs.mono s _ xs q)
  · obtain ⟨xs, e, l, r⟩ := h; exact ⟨xs, k _ e, l, RelDs.mono s _ _ r⟩
theorem OwnD.top {c : Ct} {F H : Hp} {d : D} {a : Addr} (hd : ∀ ks vs, d ≠ .dk ks vs) (h : OwnD c F H d a) : Top c F H d (.ref a) := by
  cases d <;> try exact False.elim h
  · obtain ⟨xs, e, r⟩ := h; exact ⟨a, xs, rfl, e, r⟩
  · exact ⟨a, rfl, h⟩
  · exact absurd rfl (hd _ _)
/-- frozen: handed into F -/
theorem OwnD.freeze {c : Ct} {F H : Hp} {d : D} {a : Addr} {o : HO} (hn : F a = none) (ho : H a = some o) (h : OwnD c F H d a) : RelD c (upd F a o) d (.ref a) := by
  have s : Sub F (upd F a o) := Sub.self hn
  cases d <;> try exact False.elim h
  · obtain ⟨xs, e, r⟩ := h
    rw [ho] at e; cases e
    simp only [RelD]
    exact ⟨a, xs, rfl, upd_same, RelDs.mono s _ _ r⟩
  · simp only [RelD]
    exact ⟨a, rfl, DtAt.imp h (fun u q => by rw [ho] at q; cases q; exact upd_same) (fun xs q => RelDs.mono s _ xs q) (fun xs q => RelDs.mono s _ xs q)⟩
  · obtain ⟨xs, e, l, r⟩ := h
    rw [ho] at e; cases e
    simp only [RelD]
    exact ⟨a, xs, rfl, upd_same, l, RelDs.mono s _ _ r⟩

def RowR (c : Ct) (F H : Hp) (R : List D) : Prop := ∃ xs, H c.ar = some (.lst xs) ∧ RelDs c F R xs ∧ F c.ar = none
/-- from F, H to F', H': all is kept but the row's list; F grows by new objects alone -/
structure Ext (c : Ct) (F H F' H' : Hp) : Prop where
  f : Sub F F'
  h : ∀ a o, H a = some o → a ≠ c.ar → H' a = some o
  n : ∀ a o, F' a = some o → F a = some o ∨ H a = none
  s : Sub F' H'
theorem Ext.refl {c : Ct} {F H : Hp} (s : Sub F H) : Ext c F H F H := ⟨Sub.refl, fun _ _ e _ => e, fun _ _ e => .inl e, s⟩
theorem Ext.trans {c : Ct} {F H F' H' F'' H'' : Hp} {R : List D} (a : Ext c F H F' H') (b : Ext c F' H' F'' H'') (r : RowR c F' H' R) : Ext c F H F'' H'' where
  f := a.f.trans b.f
  h := fun x o e hx => b.h x o (a.h x o e hx) hx
  n := fun x o e => by
    rcases b.n x o e with e' | e'
    · exact a.n x o e'
    · cases q : H x with
      | none => exact .inr rfl
      | some u =>
        by_cases hx : x = c.ar
        · subst hx
          obtain ⟨_, z, _⟩ := r
          rw [z] at e'; cases e'
        · rw [a.h x u q hx] at e'; cases e'
  s := b.s
theorem RowR.mono {c : Ct} {F H : Hp} {R : List D} {F' : Hp} (r : RowR c F H R) (f : Sub F F') (n : F' c.ar = none) : RowR c F' H R := by
  obtain ⟨xs, e, q, _⟩ := r
  exact ⟨xs, e, RelDs.mono f _ _ q, n⟩
/-- a new object, kept out of F -/
theorem Ext.beside {c : Ct} {F H : Hp} {p : Addr} {o : HO} (s : Sub F H) (hp : H p = none) : Ext c F H F (upd H p o) :=
  ⟨Sub.refl, fun a u e _ => by rw [upd_ne (ne_of_none e hp)]; exact e, fun _ _ e => .inl e, s.upd (by
    cases q : F p with
    | none => rfl
    | some u => rw [s p u q] at hp; cases hp)⟩
/-- .. handed into F -/
theorem Ext.add {c : Ct} {F H : Hp} {p : Addr} {o : HO} (s : Sub F H) (hp : H p = none) : Ext c F H (upd F p o) (upd H p o) := by
  have hf : F p = none := by
    cases q : F p with
    | none => rfl
    | some u => rw [s p u q] at hp; cases hp
  refine ⟨Sub.self hf, fun a u e _ => by rw [upd_ne (ne_of_none e hp)]; exact e, fun a u e => ?_, s.upd2⟩
  by_cases hb : a = p
  · subst hb; exact .inr hp
  · rw [upd_ne hb] at e; exact .inl e
theorem RowR.add {c : Ct} {F H : Hp} {R : List D} {p : Addr} {o : HO} (s : Sub F H) (hp : H p = none) (r : RowR c F H R) : RowR c (upd F p o) (upd H p o) R := by
  obtain ⟨xs, e, q, n⟩ := r
  have hne : c.ar ≠ p := ne_of_none e hp
  have hf : F p = none := by
    cases q : F p with
    | none => rfl
    | some u => rw [s p u q] at hp; cases hp
  exact ⟨xs, by rw [upd_ne hne]; exact e, RelDs.mono (Sub.self hf) _ _ q, by rw [upd_ne hne]; exact n⟩
theorem RowR.beside {c : Ct} {F H : Hp} {R : List D} {p : Addr} {o : HO} (hp : H p = none) (r : RowR c F H R) : RowR c F (upd H p o) R := by
  obtain ⟨xs, e, q, n⟩ := r
  exact ⟨xs, by rw [upd_ne (ne_of_none e hp)]; exact e, q, n⟩
theorem Sub.none {F H : Hp} {p : Addr} (s : Sub F H) (hp : H p = none) : F p = none := by
  cases q : F p with
  | none => rfl
  | some u => rw [s p u q] at hp; cases hp
end Pu
end

section
set_option autoImplicit false
set_option linter.all false
set_option maxRecDepth 100000
set_option maxHeartbeats 4000000
set_option Elab.async false
namespace Pu
open PySem PySem.Spec PyProof.Rows L2

def bnames : List Str := ["isinstance", "int", "bool", "tuple", "str", "list", "len", "abs", "sum", "max", "min", "sorted", "set", "range", "enumerate", "zip", "dict"]
/-- the context of a body of the pure layer -/
structure Cok (X : Cx) (c : Ct) : Prop where
  K : X.K = c.K
  P : X.prog = c.P
  w : X.w = c.w
  calm : X.calm = true
  nd : X.N.Nodup
  un : X.A.units + 100 < cLine
  bl : ∀ x ∈ bnames, X.mg x = none
/-- what is wanted of a result d: handed on; or, an object of one's own, kept out of F -/
def Res (c : Ct) (F H : Hp) (R : List D) (d : D) (Q : VK) : Prop := ∀ F' H' v, Ext c F H F' H' → RowR c F' H' R → RelD c F' d v → Q v H'
def ResF (c : Ct) (F H : Hp) (R : List D) (d : D) (Q : VK) : Prop := ∀ F' H' a, Ext c F H F' H' → RowR c F' H' R → OwnD c F' H' d a → F' a = none → a ≠ c.ar → H a = none → Q (.ref a) H'
def ResG (c : Ct) (F H : Hp) (R : List D) (d : D) (Q : VK) : Prop := if ownable d then ResF c F H R d Q else Res c F H R d Q
theorem Res.fresh {c : Ct} {F H : Hp} {R : List D} {d : D} {Q : VK} (h : Res c F H R d Q) : ResF c F H R d Q := by
  intro F' H' a ex hr ow hn hne hH
  obtain ⟨o, ho⟩ := ow.there
  refine h (upd F' a o) H' _ ⟨ex.f.trans (Sub.self hn), ex.h, fun x u e => ?_, fun x u e => ?_⟩ (hr.mono (Sub.self hn) ?_) (ow.freeze hn ho)
  · by_cases hx : x = a
    · subst hx; exact .inr hH
    · rw [upd_ne hx] at e; exact ex.n x u e
  · by_cases hx : x = a
    · subst hx; rw [upd_same] at e; cases e; exact ho
    · rw [upd_ne hx] at e; exact ex.s x u e
  · rw [upd_ne (Ne.symm hne)]
    obtain ⟨_, _, _, n⟩ := hr
    exact n
theorem Res.gen {c : Ct} {F H : Hp} {R : List D} {d : D} {Q : VK} (h : Res c F H R d Q) : ResG c F H R d Q := by
  unfold ResG
  split
  · exact h.fresh
  · exact h
theorem Res.here {c : Ct} {F H : Hp} {R : List D} {d : D} {v : V} {Q : VK} (h : Res c F H R d Q) (s : Sub F H) (r : RowR c F H R) (q : RelD c F d v) : Q v H := h F H v (Ext.refl s) r q
theorem ResG.here {c : Ct} {F H : Hp} {R : List D} {d : D} {v : V} {Q : VK} (h : ResG c F H R d Q) (hd : ownable d = false) (s : Sub F H) (r : RowR c F H R) (q : RelD c F d v) : Q v H := by
  unfold ResG at h
  rw [hd] at h
  exact Res.here h s r q
/-- a new list -/
theorem ResG.lst {c : Ct} {F H : Hp} {R : List D} {ds : List D} {xs : List V} {Q : VK} (h : ResG c F H R (.lst ds) Q) (s : Sub F H) (r : RowR c F H R) (q : RelDs c F ds xs) : ∀ p, H p = none → Q (.ref p) (upd H p (.lst xs)) := by
  intro p hp
  have h : ResF c F H R (.lst ds) Q := h
  refine h F (upd H p (.lst xs)) p (Ext.beside s hp) (r.beside hp) ⟨xs, upd_same, q⟩ (s.none hp) ?_ hp
  rintro rfl
  obtain ⟨_, e, _⟩ := r
  rw [hp] at e; cases e
/-- a new tuple -/
theorem Res.tup {c : Ct} {F H : Hp} {R : List D} {ds : List D} {xs : List V} {Q : VK} (h : Res c F H R (.tup ds) Q) (s : Sub F H) (r : RowR c F H R) (q : RelDs c F ds xs) : ∀ p, H p = none → Q (.ref p) (upd H p (.tup xs)) := by
  intro p hp
  refine h (upd F p (.tup xs)) (upd H p (.tup xs)) _ (Ext.add s hp) (r.add s hp) ?_
  simp only [RelD]
  exact ⟨p, xs, rfl, SqT.of upd_same, RelDs.mono (Sub.self (s.none hp)) _ _ q⟩
theorem Res.bl {c : Ct} {F H : Hp} {R : List D} {b : Bool} {Q : VK} (h : ResG c F H R (.bl b) Q) (s : Sub F H) (r : RowR c F H R) : Q (.bl b) H := h.here rfl s r (by simp only [RelD])
theorem Res.int {c : Ct} {F H : Hp} {R : List D} {i : Int} {Q : VK} (h : ResG c F H R (.int i) Q) (s : Sub F H) (r : RowR c F H R) : Q (.int i) H := h.here rfl s r (by simp only [RelD])

/-- two operands -/
def P2 (c : Ct) (f : List D → D → D → Option D) : R2 := fun x y H Q => ∃ F dx dy R d, Sub F H ∧ RowR c F H R ∧ Top c F H dx x ∧ Top c F H dy y ∧ f R dx dy = some d ∧ ResG c F H R d Q
/-- one operand -/
def P1 (c : Ct) (f : D → Option D) : List V → Hp → VK → Prop := fun vs H Q => ∃ F x dx R d, vs = [x] ∧ Sub F H ∧ RowR c F H R ∧ Top c F H dx x ∧ f dx = some d ∧ ResG c F H R d Q
def P22 (c : Ct) (f : D → D → Option D) : List V → Hp → VK → Prop := fun vs H Q => ∃ F x y dx dy R d, vs = [x, y] ∧ Sub F H ∧ RowR c F H R ∧ Top c F H dx x ∧ Top c F H dy y ∧ f dx dy = some d ∧ ResG c F H R d Q

theorem sizeOk_le {n : Nat} (h : sizeOk n = true) : n ≤ sizeLine := by
  have h : n ≤ 1000000 := of_decide_eq_true h
  rw [sizeLine_eq]; omega
section
variable {X : Cx} {c : Ct}
theorem sq {K : PySem.W.Frag} {F H : Hp} {a : Addr} {xs : List V} (s : Sub F H) (h : SqT K F a xs) : SqT K H a xs := SqT.sub s h

theorem od_sub (C : Cok X c) : OpR X (binaryOp .Sub) (P2 c fun _ => subD) := by
  intro pins s σ H x y v u Q I rx ry h
  obtain ⟨F, dx, dy, R, d, hs, hr, tx, ty, e, q⟩ := h
  dsimp only at e; unfold subD at e
  split at e
  · cases e
    cases (show x = _ from tx); cases (show y = _ from ty)
    exact op_sub pins s σ H _ _ v u Q I rx ry ⟨_, _, rfl, rfl, Res.int q hs hr⟩
  · cases e
theorem od_add (C : Cok X c) : OpR X (binaryOp .Add) (P2 c fun _ => addD) := by
  intro pins s σ H x y v u Q I rx ry h
  obtain ⟨F, dx, dy, R, d, hs, hr, tx, ty, e, q⟩ := h
  dsimp only at e; unfold addD at e
  split at e
  · cases e
    cases (show x = _ from tx); cases (show y = _ from ty)
    exact op_add pins s σ H _ _ v u Q I rx ry ⟨_, _, rfl, rfl, Res.int q hs hr⟩
  · split at e
    · rename_i hz
      cases e
      obtain ⟨a, xs, rfl, ha, ra⟩ := tx
      obtain ⟨b, ys, rfl, hb, rb⟩ := ty
      refine op_cat pins s σ H _ _ v u Q I rx ry ⟨a, b, xs, ys, rfl, rfl, ha, hb, ?_, ResG.lst q hs hr (RelDs.append ra rb)⟩
      rw [ra.length, rb.length]; exact sizeOk_le hz
    · cases e
  · split at e
    · rename_i xs' ys' hz
      cases e
      simp only [Top, RelD] at tx ty
      obtain ⟨a, xs, rfl, ha, ra⟩ := tx
      obtain ⟨b, ys, rfl, hb, rb⟩ := ty
      refine op_catA pins s σ H _ _ v u Q I rx ry ⟨a, b, xs, ys, rfl, rfl, by rw [C.K]; exact sq hs ha, by rw [C.K]; exact sq hs hb, ?_, fun e => ?_, fun _ e => ?_, fun _ _ => ?_⟩
      · rw [ra.length, rb.length]; exact sizeOk_le hz
      · subst e
        have e2 : xs' = [] := (RelDs.nil_iff ra).mp rfl
        subst e2
        exact q.here rfl hs hr (by simp only [RelD]; exact ⟨b, ys, rfl, hb, rb⟩)
      · subst e
        have e2 : ys' = [] := (RelDs.nil_iff rb).mp rfl
        subst e2
        exact q.here rfl hs hr (by simp only [RelD, List.append_nil]; exact ⟨a, xs, rfl, ha, ra⟩)
      · exact Res.tup (show Res c F H R _ Q from q) hs hr (RelDs.append ra rb)
    · cases e
  · split at e
    · rename_i hz
      cases e
      obtain ⟨e1, h1⟩ := (show x = _ ∧ _ from tx); obtain ⟨e2, h2⟩ := (show y = _ ∧ _ from ty)
      subst e1 e2
      have hz' := of_decide_eq_true hz
      refine op_add_str pins s σ H _ _ v u Q I rx ry ⟨_, _, rfl, rfl, sizeOk_le hz, q.here rfl hs hr ?_⟩
      simp only [RelD]
      refine ⟨trivial, ?_, ?_⟩
      · have a1 := h1.1
        have a2 := h2.1
        unfold PyData.strOk at a1 a2 ⊢
        show (Array.all (_ ++ _) _) = true
        rw [Array.all_append, a1, a2]; rfl
      · rw [strLen_append]; exact hz'
    · cases e
  · cases e
theorem rep_le {n : Nat} {k : Int} (h : repOk n k = true) : k ≤ 1000 ∧ -1000 ≤ k ∧ n ≤ 1000 := by
  unfold repOk at h
  simp only [Bool.and_eq_true, decide_eq_true_eq] at h
  exact ⟨h.1.1, h.1.2, h.2⟩
theorem od_fdiv (C : Cok X c) : OpR X (binaryOp .FloorDiv) (P2 c fun _ => fdivD) := by
  intro pins s σ H x y v u Q I rx ry h
  obtain ⟨F, dx, dy, R, d, hs, hr, tx, ty, e, q⟩ := h
  dsimp only at e; unfold fdivD at e
  split at e
  · split at e
    · rename_i hz
      cases e
      cases (show x = _ from tx); cases (show y = _ from ty)
      obtain ⟨t, rfl⟩ := rx
      obtain ⟨t', rfl⟩ := ry
      unfold divOk at hz
      simp only [Bool.and_eq_true, decide_eq_true_eq] at hz
      exact floordiv_int hz.1 ⟨.int _, H, I.tok _, ⟨_, rfl⟩, Res.int q hs hr⟩ (.inl (PyProof.noPylong_of_log2 hz.2))
    · cases e
  · cases e
theorem od_mod (C : Cok X c) : OpR X (binaryOp .Mod) (P2 c fun _ => modD) := by
  intro pins s σ H x y v u Q I rx ry h
  obtain ⟨F, dx, dy, R, d, hs, hr, tx, ty, e, q⟩ := h
  dsimp only at e; unfold modD at e
  split at e
  · split at e
    · rename_i hz
      cases e
      cases (show x = _ from tx); cases (show y = _ from ty)
      exact op_modN pins s σ H _ _ v u Q I rx ry ⟨_, _, rfl, rfl, hz, Res.int q hs hr⟩
    · cases e
  · cases e
theorem od_pow (C : Cok X c) : OpR X (binaryOp .Pow) (P2 c fun _ => powD) := by
  intro pins s σ H x y v u Q I rx ry h
  obtain ⟨F, dx, dy, R, d, hs, hr, tx, ty, e, q⟩ := h
  dsimp only at e; unfold powD at e
  split at e
  · split at e
    · rename_i hz
      cases e
      cases (show x = _ from tx); cases (show y = _ from ty)
      simp only [Bool.and_eq_true, decide_eq_true_eq] at hz
      exact op_pow pins s σ H _ _ v u Q I rx ry ⟨_, _, rfl, rfl, ⟨hz.1.1, by omega, hz.2⟩, Res.int q hs hr⟩
    · cases e
  · cases e

theorem od_lt (C : Cok X c) : OpR X (compareOp .Lt) (P2 c fun _ => ltD) := by
  intro pins s σ H x y v u Q I rx ry h
  obtain ⟨F, dx, dy, R, d, hs, hr, tx, ty, e, q⟩ := h
  dsimp only at e; unfold ltD at e
  split at e
  · cases e
    cases (show x = _ from tx); cases (show y = _ from ty)
    exact op_lt pins s σ H _ _ v u Q I rx ry ⟨_, _, rfl, rfl, Res.bl q hs hr⟩
  · cases e
theorem od_gt (C : Cok X c) : OpR X (compareOp .Gt) (P2 c fun _ => gtD) := by
  intro pins s σ H x y v u Q I rx ry h
  obtain ⟨F, dx, dy, R, d, hs, hr, tx, ty, e, q⟩ := h
  dsimp only at e; unfold gtD at e
  split at e
  · cases e
    cases (show x = _ from tx); cases (show y = _ from ty)
    exact op_gt pins s σ H _ _ v u Q I rx ry ⟨_, _, rfl, rfl, Res.bl q hs hr⟩
  · cases e
theorem od_ge (C : Cok X c) : OpR X (compareOp .GtE) (P2 c fun _ => geD) := by
  intro pins s σ H x y v u Q I rx ry h
  obtain ⟨F, dx, dy, R, d, hs, hr, tx, ty, e, q⟩ := h
  dsimp only at e; unfold geD at e
  split at e
  · cases e
    cases (show x = _ from tx); cases (show y = _ from ty)
    exact op_ge pins s σ H _ _ v u Q I rx ry ⟨_, _, rfl, rfl, Res.bl q hs hr⟩
  · cases e
theorem top_non {F H : Hp} {d : D} {x : V} (t : Top c F H d x) : decide (x = .non) = (match d with | .non => true | _ => false) := by
  cases d <;> simp only [Top, RelD] at t
  · subst t; rfl
  · subst t; rfl
  · subst t; rfl
  · obtain ⟨rfl, _⟩ := t; rfl
  · obtain ⟨a, xs, rfl, _⟩ := t; rfl
  · obtain ⟨a, xs, rfl, _⟩ := t; rfl
  · obtain ⟨a, rfl, _⟩ := t; rfl
  · obtain ⟨a, xs, rfl, _⟩ := t; rfl
  · obtain ⟨a, rfl, _⟩ := t; rfl
  · subst t; rfl
  · subst t; rfl
  · obtain ⟨a, rfl, _⟩ := t; rfl
theorem od_is (C : Cok X c) : OpR X (compareOp .Is) (P2 c fun _ x y => (isD x y).map .bl) := by
  intro pins s σ H x y v u Q I rx ry h
  obtain ⟨F, dx, dy, R, d, hs, hr, tx, ty, e, q⟩ := h
  dsimp only at e; unfold isD at e
  split at e
  · cases e
    cases (show x = _ from tx); cases (show y = _ from ty)
    exact op_is_bl pins s σ H _ _ v u Q I rx ry ⟨_, _, rfl, rfl, by rw [← Bool.beq_eq_decide_eq]; exact Res.bl q hs hr⟩
  · cases e
    cases (show x = _ from tx); cases (show y = _ from ty)
    exact op_isN pins s σ H _ _ v u Q I rx ry ⟨rfl, Res.bl q hs hr⟩
  · rename_i hx
    cases e
    cases (show y = _ from ty)
    refine op_isN pins s σ H _ _ v u Q I rx ry ⟨rfl, ?_⟩
    rw [top_non tx]
    split
    · exact (hx rfl).elim
    · exact Res.bl q hs hr
  · cases e
theorem od_isnot (C : Cok X c) : OpR X (compareOp .IsNot) (P2 c fun _ x y => (isD x y).map fun b => .bl (!b)) := by
  intro pins s σ H x y v u Q I rx ry h
  obtain ⟨F, dx, dy, R, d, hs, hr, tx, ty, e, q⟩ := h
  dsimp only at e; unfold isD at e
  split at e
  · cases e
    cases (show x = _ from tx); cases (show y = _ from ty)
    exact op_isnot_bl pins s σ H _ _ v u Q I rx ry ⟨_, _, rfl, rfl, by rw [← Bool.beq_eq_decide_eq]; exact Res.bl q hs hr⟩
  · cases e
    cases (show x = _ from tx); cases (show y = _ from ty)
    exact op_notN pins s σ H _ _ v u Q I rx ry ⟨rfl, Res.bl q hs hr⟩
  · rename_i hx
    cases e
    cases (show y = _ from ty)
    refine op_notN pins s σ H _ _ v u Q I rx ry ⟨rfl, ?_⟩
    rw [top_non tx]
    split
    · exact (hx rfl).elim
    · exact Res.bl q hs hr
  · cases e
end
end Pu
end

section
set_option autoImplicit false
set_option linter.all false
set_option maxRecDepth 100000
set_option maxHeartbeats 4000000
set_option Elab.async false
namespace Pu
open PySem PySem.Spec PyProof.Rows L2
open PySem.AutoSeq1 (wpAny_loadPart')

theorem tuple_mulSame (l : Addr) (items : Array Value) (n : Nat) (dd : Option Addr) (sl : Array (Option Value)) (x : Int) (u : Tok) (c0 : (decide (x < -(2 ^ 63)) || decide (x ≥ 2 ^ 63)) = false) (c1 : (items.isEmpty || x == 1) = true) :
    Meets (Builtin.«tuple.__mul__» ⟨[.ref l, .int x u], []⟩) (fun _ R s => s.heap.get? l = some { cls := .type "tuple", dict := dd, data := .seq items n, slots := sl } ∧ R (.ok (.ret (.ref l))) s) :=
  .of_wp fun prog w A R s h => by
    obtain ⟨hp, g, d, tk, os⟩ := s
    obtain ⟨hl, h⟩ := h
    have f1 := AutoSeq1.idx_int
    wp_walk using wpAny_loadPart' hl
    repeat (first
      | (refine wpAny_ite_false (decide_eq_false (by rw [c0]; exact Bool.false_ne_true)) ?_; wp_walk using wpAny_loadPart' hl)
      | (refine wpAny_ite_true (decide_eq_true c1) ?_; wp_walk using wpAny_loadPart' hl))
    exact ⟨_, rfl, h⟩
theorem tuple_mulNone (l : Addr) (items : Array Value) (n : Nat) (dd : Option Addr) (sl : Array (Option Value)) (x : Int) (u : Tok) (c0 : (decide (x < -(2 ^ 63)) || decide (x ≥ 2 ^ 63)) = false) (c1 : (items.isEmpty || x == 1) = false) (c2 : (decide (x ≤ 0) || items.isEmpty) = true) :
    Meets (Builtin.«tuple.__mul__» ⟨[.ref l, .int x u], []⟩) (fun _ R s => s.heap.get? l = some { cls := .type "tuple", dict := dd, data := .seq items n, slots := sl } ∧
      R (.ok (.ret (Value.ref s.heap.objs.size))) { s with heap := s.heap.push { cls := Value.type "tuple", data := Data.seq #[] }, toks := s.toks }) :=
  .of_wp fun prog w A R s h => by
    obtain ⟨hp, g, d, tk, os⟩ := s
    obtain ⟨hl, h⟩ := h
    have f1 := AutoSeq1.idx_int
    wp_walk using wpAny_loadPart' hl
    repeat (first
      | (refine wpAny_ite_false (decide_eq_false (by rw [c0]; exact Bool.false_ne_true)) ?_; wp_walk using wpAny_loadPart' hl)
      | (refine wpAny_ite_false (decide_eq_false (by rw [c1]; exact Bool.false_ne_true)) ?_; wp_walk using wpAny_loadPart' hl)
      | (refine wpAny_ite_true (decide_eq_true c2) ?_; wp_walk using wpAny_loadPart' hl))
    exact ⟨_, rfl, h⟩

section
variable {X : Cx} {c : Ct}
theorem od_mul (C : Cok X c) : OpR X (binaryOp .Mult) (P2 c fun _ => mulD) := by
  intro pins s σ H x y v u Q I rx ry h
  obtain ⟨F, dx, dy, R, d, hs, hr, tx, ty, e, q⟩ := h
  dsimp only at e; unfold mulD at e
  split at e
  · split at e
    · rename_i hz
      cases e
      cases (show x = _ from tx); cases (show y = _ from ty)
      exact op_mulW pins s σ H _ _ v u Q I rx ry ⟨_, _, rfl, rfl, (by unfold mulOk at hz; have hz := of_decide_eq_true hz; exact hz), Res.int q hs hr⟩
    · cases e
  · split at e
    · rename_i hz
      cases e
      obtain ⟨a, xs, rfl, ha, ra⟩ := tx
      cases (show y = _ from ty)
      obtain ⟨h1, h2, h3⟩ := rep_le hz
      refine op_rep pins s σ H _ _ v u Q I rx ry ⟨a, _, xs, rfl, rfl, ha, by omega, by omega, ?_, ResG.lst q hs hr (RelDs.rep ra _)⟩
      rw [ra.length, sizeLine_eq]
      exact Nat.le_trans (Nat.mul_le_mul h3 (show _ ≤ 1000 by omega)) (by decide)
    · cases e
  · split at e
    · rename_i ds k hz
      cases e
      simp only [Top, RelD] at tx
      obtain ⟨a, xs, rfl, ha, ra⟩ := tx
      cases (show y = _ from ty)
      obtain ⟨h1, h2, h3⟩ := rep_le hz
      have hT : SqT X.K H a xs := by rw [C.K]; exact sq hs ha
      have hl := ra.length
      have c0 : (decide (k < -(2 ^ 63)) || decide (k ≥ 2 ^ 63)) = false := by
        rw [decide_eq_false (by omega), decide_eq_false (by omega)] <;> rfl
      by_cases hk : xs = [] ∨ k = 1
      · cases rx
        obtain ⟨t, rfl⟩ := ry
        obtain ⟨its, r, ⟨⟨cls, dd, data, sl⟩, ho, hc, n, hd⟩, hss⟩ := I.tuple hT
        simp only at hc hd
        subst hc hd
        have c1 : (its.toArray.isEmpty || k == 1) = true := by
          rcases hk with e | e
          · subst e; cases r; rfl
          · subst e; simp
        refine wpAny_binaryOp_repeat_ref (T := "tuple") (U := "int") (by decide) ⟨_, ho, rfl⟩ (fun s' => typeIs_int s' k t) noFill_tuple_mul PySem.F.fills_int_mul PySem.F.slot_int_rmul repeat_tuple PySem.F.slot_int_index.lookup
          (call_meets PySem.F.slot_int_rmul (typeIs_int s k t) PySem.F.entry_int_rmul (PySem.F.args_int_rmul_2 _ _) (int_rmul_tuple k t a its.toArray n dd sl)
            ⟨ho, rfl, ⟨_, ho, rfl⟩, call_meets PySem.F.slot_tuple_mul ⟨_, ho, rfl⟩ PySem.F.entry_tuple_mul (PySem.F.args_tuple_mul_2 _ _) (tuple_mulSame a its.toArray n dd sl k t c0 c1) ⟨ho, ?_⟩⟩)
        refine ⟨.ref a, H, I, rfl, q.here rfl hs hr ?_⟩
        have ed : (List.replicate k.toNat ds).flatten = ds := by
          rcases hk with e | e
          · subst e
            have := (RelDs.nil_iff ra).mp rfl
            subst this
            simp
          · subst e; simp
        rw [ed]
        simp only [RelD]
        exact ⟨a, xs, rfl, ha, ra⟩
      · by_cases h0 : k ≤ 0
        · cases rx
          obtain ⟨t, rfl⟩ := ry
          obtain ⟨its, r, ⟨⟨cls, dd, data, sl⟩, ho, hc, n, hd⟩, hss⟩ := I.tuple hT
          simp only at hc hd
          subst hc hd
          have hi : its.toArray.isEmpty = false := by
            cases its with
            | nil => cases r; exact absurd (.inl rfl) hk
            | cons a b => rfl
          have c1 : (its.toArray.isEmpty || k == 1) = false := by
            rw [hi, Bool.false_or]
            exact beq_eq_false_iff_ne.mpr fun e => hk (.inr e)
          have c2 : (decide (k ≤ 0) || its.toArray.isEmpty) = true := by rw [decide_eq_true h0, Bool.true_or]
          refine wpAny_binaryOp_repeat_ref (T := "tuple") (U := "int") (by decide) ⟨_, ho, rfl⟩ (fun s' => typeIs_int s' k t) noFill_tuple_mul PySem.F.fills_int_mul PySem.F.slot_int_rmul repeat_tuple PySem.F.slot_int_index.lookup
            (call_meets PySem.F.slot_int_rmul (typeIs_int s k t) PySem.F.entry_int_rmul (PySem.F.args_int_rmul_2 _ _) (int_rmul_tuple k t a its.toArray n dd sl)
              ⟨ho, rfl, ⟨_, ho, rfl⟩, call_meets PySem.F.slot_tuple_mul ⟨_, ho, rfl⟩ PySem.F.entry_tuple_mul (PySem.F.args_tuple_mul_2 _ _) (tuple_mulNone a its.toArray n dd sl k t c0 c1 c2) ⟨ho, ?_⟩⟩)
          have ed : (List.replicate k.toNat ds).flatten = [] := by
            have : k.toNat = 0 := by omega
            rw [this]; rfl
          rw [ed] at q
          have fin := Res.tup (show Res c F H R _ Q from q) hs hr (xs := []) (by simp only [RelDs]) _ (I.hok.fresh (Nat.le_refl _))
          refine ⟨.ref s.heap.objs.size, _, I.laid (t' := s.toks) (o := .tup []) (fun b ob q => Heap.get?_push_of_some _ q) (Nat.le_refl _) ?_, rfl, fin⟩
          exact ⟨Nat.zero_le _, [], .nil, IsTup.new _ _⟩
        · refine op_repT pins s σ H _ _ v u Q I rx ry ⟨a, k, xs, rfl, rfl, hT, fun e => hk (.inl e), by have : k ≠ 1 := fun e => hk (.inr e); omega, h1, by omega, Res.tup (show Res c F H R _ Q from q) hs hr (RelDs.rep ra _)⟩
    · cases e
  · cases e

mutual
def toPy : D → PyData
  | .bl b => .bool b
  | .int i => .int i
  | .str s => .str s
  | .tup xs => .tuple (toPys xs)
  | .lst xs => .list (toPys xs)
  | _ => .none
def toPys : List D → List PyData
  | [] => []
  | x :: xs => toPy x :: toPys xs
end
mutual
theorem dp_of {F H : Hp} (s : Sub F H) : ∀ (d : D) (v : V), RelD c F d v → plain d = true → Dp c.K H v (toPy d)
  | .non, v, h, _ => by cases (show v = _ from h); exact .non
  | .bl b, v, h, _ => by cases (show v = _ from h); exact .bl b
  | .int i, v, h, _ => by cases (show v = _ from h); exact .int i
  | .str x, v, h, _ => by obtain ⟨rfl, _⟩ := (show v = _ ∧ _ from h); exact .str x
  | .tup ds, v, h, p => by
    simp only [RelD] at h
    obtain ⟨a, xs, rfl, q, r⟩ := h
    exact .tup (sq s q) (dps_of s ds xs r (by simpa only [plain] using p))
  | .lst ds, v, h, p => by
    simp only [RelD] at h
    obtain ⟨a, xs, rfl, q, r⟩ := h
    exact .lst (SqL.of (s _ _ q)) (dps_of s ds xs r (by simpa only [plain] using p))
  | .dt _ _, _, _, p => by simp [plain] at p
  | .dk _ _, _, _, p => by simp [plain] at p
  | .scr _, _, _, p => by simp [plain] at p
  | .row, _, _, p => by simp [plain] at p
  | .fn _, _, _, p => by simp [plain] at p
  | .err _ _, _, _, p => by simp [plain] at p
  | .ntp _, _, _, p => by simp [plain] at p
theorem dps_of {F H : Hp} (s : Sub F H) : ∀ (ds : List D) (xs : List V), RelDs c F ds xs → plains ds = true → DpAll c.K H xs (toPys ds)
  | [], [], _, _ => .nil
  | [], _ :: _, h, _ => by simp only [RelDs] at h
  | _ :: _, [], h, _ => by simp only [RelDs] at h
  | d :: ds, x :: xs, h, p => by
    simp only [RelDs] at h
    simp only [plains, Bool.and_eq_true] at p
    exact .cons (dp_of s d x h.1 p.1) (dps_of s ds xs h.2 p.2)
end
mutual
theorem lay_of {F : Hp} : ∀ (d : D) (v : V), RelD c F d v → plain d = true → (toPy d).canLay0 = true
  | .non, _, _, _ => by simp [toPy, PyData.canLay0]
  | .bl b, _, _, _ => by simp [toPy, PyData.canLay0]
  | .int i, _, _, _ => by simp [toPy, PyData.canLay0]
  | .str x, v, h, _ => by
    obtain ⟨_, h⟩ := (show v = _ ∧ _ from h)
    simp only [toPy, PyData.canLay0]
    exact h.1
  | .tup ds, v, h, p => by
    simp only [RelD] at h
    obtain ⟨a, xs, rfl, q, r⟩ := h
    simp only [toPy, PyData.canLay0]
    exact lays_of ds xs r (by simpa only [plain] using p)
  | .lst ds, v, h, p => by
    simp only [RelD] at h
    obtain ⟨a, xs, rfl, q, r⟩ := h
    simp only [toPy, PyData.canLay0]
    exact lays_of ds xs r (by simpa only [plain] using p)
  | .dt _ _, _, _, p => by simp [plain] at p
  | .dk _ _, _, _, p => by simp [plain] at p
  | .scr _, _, _, p => by simp [plain] at p
  | .row, _, _, p => by simp [plain] at p
  | .fn _, _, _, p => by simp [plain] at p
  | .err _ _, _, _, p => by simp [plain] at p
  | .ntp _, _, _, p => by simp [plain] at p
theorem lays_of {F : Hp} : ∀ (ds : List D) (xs : List V), RelDs c F ds xs → plains ds = true → PyData.canLayAll0 (toPys ds) = true
  | [], [], _, _ => by simp [toPys, PyData.canLayAll0]
  | [], _ :: _, h, _ => by simp only [RelDs] at h
  | _ :: _, [], h, _ => by simp only [RelDs] at h
  | d :: ds, x :: xs, h, p => by
    simp only [RelDs] at h
    simp only [plains, Bool.and_eq_true] at p
    simp only [toPys, PyData.canLayAll0, Bool.and_eq_true]
    exact ⟨lay_of d x h.1 p.1, lays_of ds xs h.2 p.2⟩
end
mutual
theorem dep_py : ∀ d : D, plain d = true → (toPy d).depth = dep d
  | .non, _ => by simp [toPy, PyData.depth, dep]
  | .bl b, _ => by simp [toPy, PyData.depth, dep]
  | .int i, _ => by simp [toPy, PyData.depth, dep]
  | .str x, _ => by simp [toPy, PyData.depth, dep]
  | .tup ds, p => by simp only [toPy, PyData.depth, dep]; rw [deps_py ds (by simpa only [plain] using p)]
  | .lst ds, p => by simp only [toPy, PyData.depth, dep]; rw [deps_py ds (by simpa only [plain] using p)]
  | .dt _ _, p => by simp [plain] at p
  | .dk _ _, p => by simp [plain] at p
  | .scr _, p => by simp [plain] at p
  | .row, p => by simp [plain] at p
  | .fn _, p => by simp [plain] at p
  | .err _ _, p => by simp [plain] at p
  | .ntp _, p => by simp [plain] at p
theorem deps_py : ∀ ds : List D, plains ds = true → PyData.depthAll (toPys ds) = deps ds
  | [], _ => by simp [toPys, PyData.depthAll, deps]
  | d :: ds, p => by
    simp only [plains, Bool.and_eq_true] at p
    simp only [toPys, PyData.depthAll, deps]
    rw [dep_py d p.1, deps_py ds p.2]
end
mutual
theorem eqv_py : ∀ x y : D, plain x = true → plain y = true → PyData.eqv (toPy x) (toPy y) = eqB x y
  | x, y, px, py => by
    cases x <;> cases y <;> first
      | (simp only [plain, Bool.false_eq_true] at px; done)
      | (simp only [plain, Bool.false_eq_true] at py; done)
      | (simp only [toPy, PyData.eqv, eqB]; done)
      | skip
    · simp only [toPy, PyData.eqv, eqB]
      exact eqvs_py _ _ (by simpa only [plain] using px) (by simpa only [plain] using py)
    · simp only [toPy, PyData.eqv, eqB]
      exact eqvs_py _ _ (by simpa only [plain] using px) (by simpa only [plain] using py)
theorem eqvs_py : ∀ xs ys : List D, plains xs = true → plains ys = true → PyData.eqvAll (toPys xs) (toPys ys) = eqBs xs ys
  | [], [], _, _ => by simp [toPys, PyData.eqvAll, eqBs]
  | [], _ :: _, _, _ => by simp [toPys, PyData.eqvAll, eqBs]
  | _ :: _, [], _, _ => by simp [toPys, PyData.eqvAll, eqBs]
  | x :: xs, y :: ys, px, py => by
    simp only [plains, Bool.and_eq_true] at px py
    simp only [toPys, PyData.eqvAll, eqBs]
    rw [eqv_py x y px.1 py.1, eqvs_py xs ys px.2 py.2]
end
/-- what a told == asks -/
theorem top_dp {F H : Hp} (s : Sub F H) {d : D} {v : V} (t : Top c F H d v) (p : plain d = true) (hd : dep d ≤ 60) : Dp c.K H v (toPy d) ∧ SeqAt.shaped (toPy d) = true := by
  have key : ∀ {G : Hp}, RelD c G d v → Sub G H → Dp c.K H v (toPy d) ∧ SeqAt.shaped (toPy d) = true := fun {G} r sg => by
    refine ⟨dp_of sg d v r p, ?_⟩
    unfold SeqAt.shaped
    rw [lay_of d v r p, dep_py d p, decide_eq_true (by omega)]; rfl
  cases d <;> first
    | exact key t s
    | skip
  · obtain ⟨a, xs, rfl, ha, ra⟩ := t
    refine ⟨.lst (SqL.of ha) (dps_of s _ xs ra (by simpa only [plain] using p)), ?_⟩
    unfold SeqAt.shaped
    have e := dep_py _ p
    rw [e, decide_eq_true (by omega)]
    simp only [toPy, PyData.canLay0, Bool.and_true]
    exact lays_of _ xs ra (by simpa only [plain] using p)
  · simp [plain] at p
theorem eqOk_of {x y : D} (h : eqOk x y = true) : plain x = true ∧ plain y = true ∧ dep x ≤ 60 ∧ dep y ≤ 60 := by
  unfold eqOk at h
  simp only [Bool.and_eq_true, decide_eq_true_eq] at h
  exact ⟨h.1.1.1, h.1.1.2, h.1.2, h.2⟩
theorem od_eq (C : Cok X c) : OpR X (compareOp .Eq) (P2 c fun _ x y => (eqD x y).map .bl) := by
  intro pins s σ H x y v u Q I rx ry h
  obtain ⟨F, dx, dy, R, d, hs, hr, tx, ty, e, q⟩ := h
  dsimp only at e; unfold eqD at e
  split at e
  · rename_i hz
    cases e
    obtain ⟨p1, p2, l1, l2⟩ := eqOk_of hz
    obtain ⟨a1, a2⟩ := top_dp hs tx p1 l1
    obtain ⟨b1, b2⟩ := top_dp hs ty p2 l2
    refine op_eqD (by have := C.un; omega) pins s σ H x y v u Q I rx ry ⟨toPy dx, toPy dy, by rw [C.K]; exact a1, by rw [C.K]; exact b1, a2, b2, ?_⟩
    rw [eqv_py dx dy p1 p2]
    exact Res.bl q hs hr
  · cases e
end
end Pu
end

section
set_option autoImplicit false
set_option linter.all false
set_option maxRecDepth 100000
set_option maxHeartbeats 4000000
set_option Elab.async false
namespace Pu
open PySem PySem.Spec PyProof.Rows L2

theorem cmpI {i j : Int} : (compare i j == .eq) = (i == j) ∧ (compare i j != .gt) = decide (i ≤ j) ∧ (compare i j == .lt) = decide (i < j) := by
  show ((compareOfLessAndEq i j == .eq) = _) ∧ _ ∧ _
  unfold compareOfLessAndEq
  refine ⟨?_, ?_, ?_⟩
  · by_cases h : i < j
    · rw [if_pos h]; have : i ≠ j := by omega
      simp [this]
    · rw [if_neg h]
      by_cases e : i = j
      · simp [e]
      · simp [e]
  · show (compareOfLessAndEq i j != .gt) = _
    unfold compareOfLessAndEq
    by_cases h : i < j
    · rw [if_pos h]; rw [decide_eq_true (by omega)]; rfl
    · rw [if_neg h]
      by_cases e : i = j
      · subst e; simp
      · rw [if_neg e, decide_eq_false (by omega)]; rfl
  · show (compareOfLessAndEq i j == .lt) = _
    unfold compareOfLessAndEq
    by_cases h : i < j
    · rw [if_pos h]; rw [decide_eq_true h]; rfl
    · rw [if_neg h, decide_eq_false h]
      by_cases e : i = j
      · subst e; simp
      · rw [if_neg e]; rfl
mutual
theorem cmp_eq : ∀ x y : D, ordOk x y = true → (cmpD x y == .eq) = eqB x y
  | x, y, h => by
    cases x <;> cases y <;> first
      | (simp only [ordOk, Bool.false_eq_true] at h; done)
      | skip
    · simp only [cmpD, eqB]; exact cmpI.1
    · simp only [cmpD, eqB]; exact cmps_eq _ _ (by simpa only [ordOk] using h)
theorem cmps_eq : ∀ xs ys : List D, ordOks xs ys = true → (cmpDs xs ys == .eq) = eqBs xs ys
  | [], [], _ => by simp [cmpDs, eqBs]
  | [], _ :: _, _ => by simp [cmpDs, eqBs]
  | _ :: _, [], _ => by simp [cmpDs, eqBs]
  | x :: xs, y :: ys, h => by
    simp only [ordOks, Bool.and_eq_true] at h
    have a := cmp_eq x y h.1
    have b := cmps_eq xs ys h.2
    simp only [cmpDs, eqBs]
    rw [← a, ← b]
    cases cmpD x y <;> rfl
end
theorem ordOks_get : ∀ {xs ys : List D}, ordOks xs ys = true → ∀ (j : Nat) (x y : D), xs[j]? = some x → ys[j]? = some y → ordOk x y = true
  | [], _, _, j, x, y, h1, _ => by simp at h1
  | _ :: _, [], _, j, x, y, _, h2 => by simp at h2
  | a :: xs, b :: ys, h, j, x, y, h1, h2 => by
    simp only [ordOks, Bool.and_eq_true] at h
    cases j with
    | zero => simp at h1 h2; subst h1 h2; exact h.1
    | succ j => exact ordOks_get h.2 j x y (by simpa using h1) (by simpa using h2)
/-- the walk along two tuples, from place i on -/
theorem lex_le (xs ys : List D) (e r : Nat → Bool) (z : Bool) : ∀ (xs' ys' : List D) (i : Nat), (∀ j x y, xs'[j]? = some x → ys'[j]? = some y → e (i + j) = eqB x y ∧ (eqB x y = false → r (i + j) = (cmpD x y != .gt))) →
    z = decide (xs'.length ≤ ys'.length) → ordOks xs' ys' = true → Ob.lexAt e r z i (min xs'.length ys'.length) = (cmpDs xs' ys' != .gt)
  | [], [], i, _, hz, _ => by subst hz; rfl
  | [], y :: ys', i, _, hz, _ => by subst hz; simp [Ob.lexAt_zero, cmpDs]
  | x :: xs', [], i, _, hz, _ => by subst hz; simp [Ob.lexAt_zero, cmpDs]
  | x :: xs', y :: ys', i, h, hz, ho => by
    simp only [ordOks, Bool.and_eq_true] at ho
    have h0 := h 0 x y rfl rfl
    have em : min (x :: xs').length (y :: ys').length = min xs'.length ys'.length + 1 := by simp only [List.length_cons]; omega
    rw [em, Ob.lexAt_succ]
    have c := cmp_eq x y ho.1
    simp only [Nat.add_zero] at h0
    cases he : eqB x y with
    | true =>
      rw [h0.1, he, if_pos rfl]
      rw [he] at c
      have c' : cmpD x y = .eq := beq_iff_eq.mp c
      have ih := lex_le xs ys e r z xs' ys' (i + 1) (fun j a b ha hb => by
        have := h (j + 1) a b (by simpa using ha) (by simpa using hb)
        rw [show i + (j + 1) = i + 1 + j by omega] at this
        exact this) (by rw [hz]; simp) ho.2
      rw [ih]
      simp only [cmpDs, c']
    | false =>
      rw [h0.1, he, if_neg Bool.false_ne_true, h0.2 he]
      rw [he] at c
      simp only [cmpDs]
      cases hc : cmpD x y with
      | eq => rw [hc] at c; cases c
      | lt => rfl
      | gt => rfl
theorem lex_lt (xs ys : List D) (e r : Nat → Bool) (z : Bool) : ∀ (xs' ys' : List D) (i : Nat), (∀ j x y, xs'[j]? = some x → ys'[j]? = some y → e (i + j) = eqB x y ∧ (eqB x y = false → r (i + j) = (cmpD x y == .lt))) →
    z = decide (xs'.length < ys'.length) → ordOks xs' ys' = true → Ob.lexAt e r z i (min xs'.length ys'.length) = (cmpDs xs' ys' == .lt)
  | [], [], i, _, hz, _ => by subst hz; rfl
  | [], y :: ys', i, _, hz, _ => by subst hz; simp [Ob.lexAt_zero, cmpDs]
  | x :: xs', [], i, _, hz, _ => by subst hz; simp [Ob.lexAt_zero, cmpDs]
  | x :: xs', y :: ys', i, h, hz, ho => by
    simp only [ordOks, Bool.and_eq_true] at ho
    have h0 := h 0 x y rfl rfl
    have em : min (x :: xs').length (y :: ys').length = min xs'.length ys'.length + 1 := by simp only [List.length_cons]; omega
    rw [em, Ob.lexAt_succ]
    have c := cmp_eq x y ho.1
    simp only [Nat.add_zero] at h0
    cases he : eqB x y with
    | true =>
      rw [h0.1, he, if_pos rfl]
      rw [he] at c
      have c' : cmpD x y = .eq := beq_iff_eq.mp c
      have ih := lex_lt xs ys e r z xs' ys' (i + 1) (fun j a b ha hb => by
        have := h (j + 1) a b (by simpa using ha) (by simpa using hb)
        rw [show i + (j + 1) = i + 1 + j by omega] at this
        exact this) (by rw [hz]; simp) ho.2
      rw [ih]
      simp only [cmpDs, c']
    | false =>
      rw [h0.1, he, if_neg Bool.false_ne_true, h0.2 he]
      rw [he] at c
      simp only [cmpDs]
      cases hc : cmpD x y with
      | eq => rw [hc] at c; cases c
      | lt => rfl
      | gt => rfl
theorem plains_get : ∀ {xs : List D}, plains xs = true → ∀ (j : Nat) (x : D), xs[j]? = some x → plain x = true
  | [], _, j, x, h => by simp at h
  | a :: xs, p, j, x, h => by
    simp only [plains, Bool.and_eq_true] at p
    cases j with
    | zero => simp at h; subst h; exact p.1
    | succ j => exact plains_get p.2 j x (by simpa using h)
theorem deps_get : ∀ {xs : List D} {n : Nat}, deps xs ≤ n → ∀ (j : Nat) (x : D), xs[j]? = some x → dep x ≤ n
  | [], _, _, j, x, h => by simp at h
  | a :: xs, n, p, j, x, h => by
    simp only [deps] at p
    cases j with
    | zero => simp at h; subst h; omega
    | succ j => exact deps_get (xs := xs) (n := n) (by omega) j x (by simpa using h)
section
variable {X : Cx} {c : Ct} {pins : List (Addr × Obj)} {σ : L2.St} {H : Hp} {s : Shared}
/-- == of two related values -/
theorem rel_eqAt (C : Cok X c) (I : Inv X pins σ H s) {F : Hp} (hs : Sub F H) {d e : D} {x y : V} {u v : Value} (rd : RelD c F d x) (re : RelD c F e y) (ru : RelV x u) (rv : RelV y v) (pd : plain d = true) (pe : plain e = true)
    {A : Around} (hu : A.units + dep d < cLine) : SeqAt.EqAt A s u v (eqB d e) := by
  have a := dp_of hs d x rd pd
  have b := dp_of hs e y re pe
  rw [← C.K] at a b
  obtain ⟨as, r1⟩ := Dp.reads I _ x u a ru
  obtain ⟨bs, r2⟩ := Dp.reads I _ y v b rv
  have := SeqAt.eqAt_reads (toPy d) (toPy e) A s u v as bs r1 r2 (lay_of d x rd pd) (lay_of e y re pe) (by rw [dep_py d pd]; exact Nat.lt_of_le_of_lt (Nat.add_le_add_left (Nat.min_le_left _ _) _) hu)
  rw [eqv_py d e pd pe] at this
  exact this
theorem in1_units (A : Around) : A.in1.units = A.units + 1 := by first | rfl | simp
/-- the order of two related values -/
theorem rel_ord (C : Cok X c) (I : Inv X pins σ H s) {F : Hp} (hs : Sub F H) (lt : Bool) : ∀ (n : Nat) (d e : D) (x y : V) (u v : Value) (A : Around), dep d ≤ n → RelD c F d x → RelD c F e y → RelV x u → RelV y v → plain d = true → plain e = true → ordOk d e = true →
    A.units + n < cLine → (if lt then Ob.RcOp .Lt A s u v (cmpD d e == .lt) else Ob.RcOp .LtE A s u v (cmpD d e != .gt)) := by
  intro n
  induction n with
  | zero =>
    intro d e x y u v A hn rd re ru rv pd pe ho hu
    cases d <;> cases e <;> first
      | (simp only [ordOk, Bool.false_eq_true] at ho; done)
      | skip
    · cases (show x = _ from rd); cases (show y = _ from re)
      obtain ⟨t, rfl⟩ := ru
      obtain ⟨t', rfl⟩ := rv
      simp only [cmpD]
      rw [cmpI.2.1, cmpI.2.2]
      split
      · exact Ob.RcOp.lt_int _ _ _ _
      · exact Ob.RcOp.le_int _ _ _ _
    · simp only [dep] at hn; omega
  | succ n ih =>
    intro d e x y u v A hn rd re ru rv pd pe ho hu
    cases d <;> cases e <;> first
      | (simp only [ordOk, Bool.false_eq_true] at ho; done)
      | skip
    · cases (show x = _ from rd); cases (show y = _ from re)
      obtain ⟨t, rfl⟩ := ru
      obtain ⟨t', rfl⟩ := rv
      simp only [cmpD]
      rw [cmpI.2.1, cmpI.2.2]
      split
      · exact Ob.RcOp.lt_int _ _ _ _
      · exact Ob.RcOp.le_int _ _ _ _
    · rename_i ds es
      simp only [RelD] at rd re
      obtain ⟨a, xs, rfl, qa, ra⟩ := rd
      obtain ⟨b, ys, rfl, qb, rb⟩ := re
      cases ru; cases rv
      have ta : SqT X.K H a xs := by rw [C.K]; exact sq hs qa
      have tb : SqT X.K H b ys := by rw [C.K]; exact sq hs qb
      obtain ⟨its, r1, p1, _⟩ := I.tuple ta
      obtain ⟨its2, r2, p2, _⟩ := I.tuple tb
      have e1 : its.toArray.size = ds.length := by rw [List.size_toArray, ← r1.length]; exact ra.length
      have e2 : its2.toArray.size = es.length := by rw [List.size_toArray, ← r2.length]; exact rb.length
      simp only [plain] at pd pe
      simp only [ordOk] at ho
      simp only [dep] at hn
      have hd : deps ds ≤ n := by omega
      -- the pairs at place j
      have at_ : ∀ j (h1 : j < its.toArray.size) (h2 : j < its2.toArray.size), ∃ dj ej xj yj, ds[j]? = some dj ∧ es[j]? = some ej ∧ RelD c F dj xj ∧ RelD c F ej yj ∧ RelV xj its.toArray[j] ∧ RelV yj its2.toArray[j] ∧
          plain dj = true ∧ plain ej = true ∧ ordOk dj ej = true ∧ dep dj ≤ n := by
        intro j h1 h2
        have l1 : j < ds.length := by omega
        have l2 : j < es.length := by omega
        obtain ⟨xj, hx, rx⟩ := ra.get (List.getElem?_eq_getElem l1)
        obtain ⟨yj, hy, ry⟩ := rb.get (List.getElem?_eq_getElem l2)
        obtain ⟨uj, hu1, ru1⟩ := r1.get hx
        obtain ⟨vj, hv1, rv1⟩ := r2.get hy
        have eu : its.toArray[j] = uj := by
          have := (List.getElem?_eq_some_iff.mp hu1).2
          simpa using this
        have ev : its2.toArray[j] = vj := by
          have := (List.getElem?_eq_some_iff.mp hv1).2
          simpa using this
        exact ⟨_, _, xj, yj, List.getElem?_eq_getElem l1, List.getElem?_eq_getElem l2, rx, ry, by rw [eu]; exact ru1, by rw [ev]; exact rv1, plains_get pd j _ (List.getElem?_eq_getElem l1), plains_get pe j _ (List.getElem?_eq_getElem l2),
          ordOks_get ho j _ _ (List.getElem?_eq_getElem l1) (List.getElem?_eq_getElem l2), deps_get hd j _ (List.getElem?_eq_getElem l1)⟩
      have hu1 : A.units < cLine := by omega
      have hu2 : A.in1.units + n < cLine := by rw [in1_units]; omega
      cases lt with
      | true =>
        show Ob.RcOp .Lt A s (.ref a) (.ref b) (cmpDs ds es == .lt)
        have R := Ob.RcOp.tuples_lt (A := A) (s := s) (e := fun j => eqB (ds.getD j .non) (es.getD j .non)) (r := fun j => cmpD (ds.getD j .non) (es.getD j .non) == .lt) p1 p2 hu1 (fun j h1 h2 => by
          obtain ⟨dj, ej, xj, yj, g1, g2, rx, ry, ru1, rv1, pj, qj, oj, nj⟩ := at_ j h1 h2
          simp only [List.getD_eq_getElem?_getD, g1, g2, Option.getD_some]
          exact rel_eqAt C I hs rx ry ru1 rv1 pj qj (by omega)) (fun j h1 h2 _ => by
          obtain ⟨dj, ej, xj, yj, g1, g2, rx, ry, ru1, rv1, pj, qj, oj, nj⟩ := at_ j h1 h2
          simp only [List.getD_eq_getElem?_getD, g1, g2, Option.getD_some]
          have := ih dj ej xj yj _ _ A.in1 nj rx ry ru1 rv1 pj qj oj hu2
          rw [if_pos rfl] at this
          exact this)
        rw [e1, e2, lex_lt ds es _ _ _ ds es 0 (fun j p q g1 g2 => by
          simp only [Nat.zero_add, List.getD_eq_getElem?_getD, g1, g2, Option.getD_some]
          exact ⟨trivial, fun _ => trivial⟩) rfl ho] at R
        exact R
      | false =>
        show Ob.RcOp .LtE A s (.ref a) (.ref b) (cmpDs ds es != .gt)
        have R := Ob.RcOp.tuples_le (A := A) (s := s) (e := fun j => eqB (ds.getD j .non) (es.getD j .non)) (r := fun j => cmpD (ds.getD j .non) (es.getD j .non) != .gt) p1 p2 hu1 (fun j h1 h2 => by
          obtain ⟨dj, ej, xj, yj, g1, g2, rx, ry, ru1, rv1, pj, qj, oj, nj⟩ := at_ j h1 h2
          simp only [List.getD_eq_getElem?_getD, g1, g2, Option.getD_some]
          exact rel_eqAt C I hs rx ry ru1 rv1 pj qj (by omega)) (fun j h1 h2 _ => by
          obtain ⟨dj, ej, xj, yj, g1, g2, rx, ry, ru1, rv1, pj, qj, oj, nj⟩ := at_ j h1 h2
          simp only [List.getD_eq_getElem?_getD, g1, g2, Option.getD_some]
          have := ih dj ej xj yj _ _ A.in1 nj rx ry ru1 rv1 pj qj oj hu2
          rw [if_neg Bool.false_ne_true] at this
          exact this)
        rw [e1, e2, lex_le ds es _ _ _ ds es 0 (fun j p q g1 g2 => by
          simp only [Nat.zero_add, List.getD_eq_getElem?_getD, g1, g2, Option.getD_some]
          exact ⟨trivial, fun _ => trivial⟩) rfl ho] at R
        exact R
end
section
variable {X : Cx} {c : Ct}
theorem od_le (C : Cok X c) : OpR X (compareOp .LtE) (P2 c fun _ => leqD) := by
  intro pins s σ H x y v u Q I rx ry h
  obtain ⟨F, dx, dy, R, d, hs, hr, tx, ty, e, q⟩ := h
  dsimp only at e; unfold leqD at e
  split at e
  · cases e
    cases (show x = _ from tx); cases (show y = _ from ty)
    exact op_le pins s σ H _ _ v u Q I rx ry ⟨_, _, rfl, rfl, Res.bl q hs hr⟩
  · split at e
    · rename_i xs ys hz
      cases e
      rw [Bool.and_eq_true] at hz
      obtain ⟨p1, p2, l1, l2⟩ := eqOk_of hz.2
      have Z := rel_ord C I hs false (dep (.tup xs)) (.tup xs) (.tup ys) x y v u X.A (Nat.le_refl _) tx ty rx ry p1 p2 (by simp only [ordOk]; exact hz.1) (by have := C.un; omega)
      rw [if_neg Bool.false_ne_true] at Z
      have z : wpAny (model X.prog X.w) X.A (compareOp .LtE v u) (EP X pins σ Q) X.xe s := Z X.prog X.w X.xe (EP X pins σ Q) ⟨.bl _, H, I, rfl, Res.bl q hs hr⟩
      exact z
    · cases e
  · cases e
end
end Pu
end

section
set_option autoImplicit false
set_option linter.all false
set_option maxRecDepth 100000
set_option maxHeartbeats 4000000
set_option Elab.async false
namespace Pu
open PySem PySem.Spec PyProof.Rows L2

mutual
theorem nk_beq : ∀ x y : D, hsh x = true → hsh y = true → NestedKey.beq (toNK x) (toNK y) = eqB x y
  | x, y, hx, hy => by
    cases x <;> cases y <;> first
      | (simp only [hsh, Bool.false_eq_true] at hx; done)
      | (simp only [hsh, Bool.false_eq_true] at hy; done)
      | (simp only [toNK, NestedKey.beq, eqB]; done)
      | skip
    · rename_i a b
      simp only [toNK, NestedKey.beq, eqB]
      cases a <;> cases b <;> rfl
    · rename_i a j
      simp only [toNK, NestedKey.beq, eqB]
      rfl
    · rename_i i b
      simp only [toNK, NestedKey.beq, eqB]
      rfl
    · rename_i i j
      simp only [toNK, NestedKey.beq, eqB]
      rfl
    · rename_i a b
      simp only [toNK, NestedKey.beq, eqB]
      rfl
    · simp only [toNK, NestedKey.beq, eqB]
      exact nks_beq _ _ (by simpa only [hsh] using hx) (by simpa only [hsh] using hy)
theorem nks_beq : ∀ xs ys : List D, hshs xs = true → hshs ys = true → NestedKey.beqAll (toNKs xs) (toNKs ys) = eqBs xs ys
  | [], [], _, _ => by simp [toNKs, NestedKey.beqAll, eqBs]
  | [], _ :: _, _, _ => by simp [toNKs, NestedKey.beqAll, eqBs]
  | _ :: _, [], _, _ => by simp [toNKs, NestedKey.beqAll, eqBs]
  | x :: xs, y :: ys, hx, hy => by
    simp only [hshs, Bool.and_eq_true] at hx hy
    simp only [toNKs, NestedKey.beqAll, eqBs]
    rw [nk_beq x y hx.1 hy.1, nks_beq xs ys hx.2 hy.2]
end
mutual
theorem nk_depth : ∀ d : D, hsh d = true → (toNK d).depth = dep d
  | .non, _ => by simp [toNK, NestedKey.depth, dep]
  | .bl b, _ => by simp [toNK, NestedKey.depth, dep]
  | .int i, _ => by simp [toNK, NestedKey.depth, dep]
  | .str x, _ => by simp [toNK, NestedKey.depth, dep]
  | .tup ds, p => by simp only [toNK, NestedKey.depth, dep]; rw [nks_depth ds (by simpa only [hsh] using p)]
  | .lst _, p => by simp [hsh] at p
  | .dt _ _, p => by simp [hsh] at p
  | .dk _ _, p => by simp [hsh] at p
  | .scr _, p => by simp [hsh] at p
  | .row, p => by simp [hsh] at p
  | .fn _, p => by simp [hsh] at p
  | .err _ _, p => by simp [hsh] at p
  | .ntp _, p => by simp [hsh] at p
theorem nks_depth : ∀ ds : List D, hshs ds = true → NestedKey.depthAll (toNKs ds) = deps ds
  | [], _ => by simp [toNKs, NestedKey.depthAll, deps]
  | d :: ds, p => by
    simp only [hshs, Bool.and_eq_true] at p
    simp only [toNKs, NestedKey.depthAll, deps]
    rw [nk_depth d p.1, nks_depth ds p.2]
end
theorem keyOk_hsh {d : D} (h : keyOk d = true) : hsh d = true ∧ dep d ≤ 7 := by
  cases d <;> simp only [keyOk, Bool.false_eq_true, Bool.and_eq_true, decide_eq_true_eq] at h
  simp only [hsh, dep]
  exact ⟨h.1, by omega⟩
theorem toNKs_map : ∀ ks : List D, toNKs ks = ks.map toNK
  | [] => by simp [toNKs]
  | k :: ks => by simp [toNKs, toNKs_map ks]
section
variable {X : Cx} {c : Ct} {pins : List (Addr × Obj)} {σ : L2.St} {H : Hp} {s : Shared}
mutual
theorem nk_of (C : Cok X c) (I : Inv X pins σ H s) {F : Hp} (hs : Sub F H) : ∀ (d : D) (v : V) (u : Value), RelD c F d v → hsh d = true → RelV v u → NestedIs s.heap (toNK d) u
  | .non, _, _, h, _, r => by cases (show _ = _ from h); cases r; exact .none
  | .bl b, _, _, h, _, r => by cases (show _ = _ from h); cases r; exact .bool rfl
  | .int i, _, _, h, _, r => by cases (show _ = _ from h); obtain ⟨t, rfl⟩ := r; exact .int i t
  | .str x, v, _, h, _, r => by obtain ⟨rfl, _⟩ := (show v = _ ∧ _ from h); obtain ⟨t, rfl⟩ := r; exact .text x t
  | .tup ds, _, _, h, p, r => by
    simp only [RelD] at h
    obtain ⟨a, xs, rfl, q, ra⟩ := h
    cases r
    have ta : SqT X.K H a xs := by rw [C.K]; exact sq hs q
    obtain ⟨its, r1, ⟨o, ho, hc, n, hd⟩, _⟩ := I.tuple ta
    simp only [toNK]
    exact .tup ho hc hd (by simpa using nks_of C I hs ds xs its ra (by simpa only [hsh] using p) r1)
  | .lst _, _, _, _, p, _ => by simp [hsh] at p
  | .dt _ _, _, _, _, p, _ => by simp [hsh] at p
  | .dk _ _, _, _, _, p, _ => by simp [hsh] at p
  | .scr _, _, _, _, p, _ => by simp [hsh] at p
  | .row, _, _, _, p, _ => by simp [hsh] at p
  | .fn _, _, _, _, p, _ => by simp [hsh] at p
  | .err _ _, _, _, _, p, _ => by simp [hsh] at p
  | .ntp _, _, _, _, p, _ => by simp [hsh] at p
theorem nks_of (C : Cok X c) (I : Inv X pins σ H s) {F : Hp} (hs : Sub F H) : ∀ (ds : List D) (vs : List V) (us : List Value), RelDs c F ds vs → hshs ds = true → Vals vs us → NestedAll s.heap (toNKs ds) us
  | [], [], _, _, _, r => by cases r; simp only [toNKs]; exact .nil
  | [], _ :: _, _, h, _, _ => by simp only [RelDs] at h
  | _ :: _, [], _, h, _, _ => by simp only [RelDs] at h
  | d :: ds, v :: vs, _, h, p, r => by
    simp only [RelDs] at h
    simp only [hshs, Bool.and_eq_true] at p
    cases r with
    | cons r1 r2 =>
      simp only [toNKs]
      exact .cons (nk_of C I hs d v _ h.1 p.1 r1) (nks_of C I hs ds vs _ h.2 p.2 r2)
end
/-- a key, as the library's dicts want it -/
theorem key_is (C : Cok X c) (I : Inv X pins σ H s) {F : Hp} (hs : Sub F H) {d : D} {v : V} {u : Value} (h : RelD c F d v) (k : keyOk d = true) (r : RelV v u) : ∃ a, v = .ref a ∧ u = .ref a ∧ (nestedKind X.prog X.w).is s.heap (toNK d) a := by
  obtain ⟨h1, h2⟩ := keyOk_hsh k
  have n := nk_of C I hs d v u h h1 r
  cases d <;> simp only [keyOk, Bool.false_eq_true] at k
  simp only [RelD] at h
  obtain ⟨a, xs, rfl, _⟩ := h
  cases r
  exact ⟨a, rfl, rfl, n, by rw [nk_depth _ h1]; omega⟩
/-- a dict, as the library has it -/
theorem dt_heap (C : Cok X c) (I : Inv X pins σ H s) {F : Hp} (hs : Sub F H) {ks : List D} {RV : List V → Prop} {a : Addr} (h : DtAt c H (fun xs => RelDs c F ks xs) RV ks a) :
    ∃ (o : Obj) (es : Array DictEntry) (ep : Nat) (xs : List (NestedKey × Addr × Value)) (us : List V), (a == sysModules) = false ∧ s.heap.DictOfH (nestedKind X.prog X.w) a xs ∧ toNKs ks = xs.map (·.1) ∧ ks.all keyOk = true ∧ RelDs c F ks (xs.map fun x => V.ref x.2.1) ∧
      RV us ∧ Vals us (xs.map (·.2.2)) ∧ ks.length ≤ 1000001 ∧ H a = some (isObjAt a o) ∧ s.heap.get? a = some o ∧ o.ExactDict ∧ o.data = .dict es ep ∧ es.toList = xs.map (entryOfKey (nestedKind X.prog X.w)) ∧ (xs.map (·.1)).Nodup := by
  obtain ⟨o, es, ep, xs, us, h1, h2, h3, h4, h5, h6, h7, h8, h9, h10, h11, h12⟩ := h
  have ho : s.heap.get? a = some o := (show ObjOk X.prog X.w H s.heap a (isObjAt a o) from I.hok a _ h1).1
  have h5' : es.toList = xs.map (entryOfKey (nestedKind X.prog X.w)) := by rw [C.P, C.w]; exact h5
  refine ⟨o, es, ep, xs, us, h4, ⟨o, es, ep, ho, h2, h3, h5', fun x hx => ?_, h6⟩, h7, h8, h9, h10, h11, h12, h1, ho, h2, h3, h5', h6⟩
  obtain ⟨j, hj⟩ := List.mem_iff_getElem?.mp hx
  have hl : ks.length = xs.length := by
    have := congrArg List.length h7
    rw [toNKs_map] at this
    simpa using this
  have hjl : j < ks.length := by rw [hl]; exact (List.getElem?_eq_some_iff.mp hj).1
  obtain ⟨v, hv, rv⟩ := h9.get (List.getElem?_eq_getElem hjl)
  rw [List.getElem?_map, hj] at hv
  cases hv
  have hk : keyOk ks[j] = true := List.all_eq_true.mp h8 _ (List.getElem_mem hjl)
  obtain ⟨b, e1, e2, n⟩ := key_is C I hs rv hk (show RelV (V.ref x.2.1) (Value.ref x.2.1) from rfl)
  cases e1
  have e : toNK ks[j] = x.1 := by
    have e := congrArg (fun l => l[j]?) h7
    simp only [toNKs_map, List.getElem?_map, hj, List.getElem?_eq_getElem hjl, Option.map_some] at e
    exact Option.some.inj e
  rw [e] at n
  exact n
/-- the place of a key, both ways -/
theorem atKey_keyAt {xs : List (NestedKey × Addr × Value)} : ∀ {ks : List D} {k : D}, toNKs ks = xs.map (·.1) → ks.all keyOk = true → keyOk k = true → atKey xs (toNK k) = (keyAt ks k).bind fun j => xs[j]?.map (·.2) := by
  induction xs with
  | nil =>
    intro ks k e _ _
    cases ks with
    | nil => rfl
    | cons a b => simp [toNKs] at e
  | cons x xs ih =>
    intro ks k e hk hkk
    cases ks with
    | nil => simp [toNKs] at e
    | cons a ks =>
      simp only [toNKs, List.map_cons, List.cons.injEq] at e
      simp only [List.all_cons, Bool.and_eq_true] at hk
      have b := nk_beq a k (keyOk_hsh hk.1).1 (keyOk_hsh hkk).1
      rw [← NestedKey.decide_eq] at b
      have ih := ih e.2 hk.2 hkk
      unfold atKey keyAt at ih ⊢
      rw [List.find?_cons, List.findIdx?_cons]
      rw [← e.1, b]
      cases he : eqB a k with
      | true => simp
      | false =>
        simp only [Bool.false_eq_true, if_false]
        rw [ih]
        cases ks.findIdx? fun x => eqB x k with
        | none => rfl
        | some j => simp
theorem getI_atI {α : Type} (xs : List α) (i : Int) {v : α} (h : getI xs i = some v) : atI xs i = some v := by
  unfold getI at h
  unfold atI ixN
  by_cases h0 : 0 ≤ i
  · rw [if_pos h0] at h ⊢
    have hl : i.toNat < xs.length := (List.getElem?_eq_some_iff.mp h).1
    rw [if_pos (by omega)]
    exact h
  · rw [if_neg h0] at h ⊢
    split at h
    · rename_i h1
      rw [if_pos h1]
      exact h
    · cases h
theorem getI_map {α β : Type} (f : α → β) (xs : List α) (i : Int) : getI (xs.map f) i = (getI xs i).map f := by
  unfold getI
  rw [List.length_map]
  split
  · simp
  · split
    · simp
    · rfl
theorem getI_rel {F : Hp} {ds : List D} {xs : List V} {i : Int} {d : D} (r : RelDs c F ds xs) (h : getI ds i = some d) : ∃ x, getI xs i = some x ∧ RelD c F d x := by
  unfold getI at h ⊢
  rw [r.length]
  split at h
  · rename_i h0
    rw [if_pos h0]
    exact r.get h
  · rename_i h0
    rw [if_neg h0]
    split at h
    · rename_i h1
      rw [if_pos h1]
      exact r.get h
    · cases h
end
section
variable {X : Cx} {c : Ct}
/-- what is in a container, as contains tells it -/
theorem contains_heap {prog : Program} {w : World} {K : Type} [DecidableEq K] {knd : HeapKind prog w K} {A : Around} {E : Value → Shared → Prop} {s : Shared} {d a : Addr} {xs : List (K × Addr × Value)} {k : K} {Q : Bool → Shared → Prop} (hu : knd.room A.in1) (hkey : knd.is s.heap k a) (hd : (d == sysModules) = false) (hm : s.heap.DictOfH knd d xs)
    (h : Q (atKey xs k).isSome { s with toks := s.toks + knd.draws k }) : wpAny (model prog w) A (contains (.ref d) (.ref a)) Q E s := by
  unfold contains
  try with_reducible refine wpAny_holding ?_
  refine wpAny_bind (wpAny_specialOf hm.typeIs slot_dict_contains.lookup ?_)
  show wpAny _ _ (if (some (Value.builtin "dict.__contains__") == some Value.none) = true then _ else _) _ E s
  rw [if_neg (by rw [beq_builtin_none]; exact Bool.false_ne_true)]
  refine wpAny_bind (wpAny_callSpecialUnlessNone?_slot (name := Str.ofString "__contains__") hm.typeIs slot_dict_contains
    (wpAny_call_entry slot_dict_contains hm.typeIs entry_dict_contains ?_ (args_dict_contains _ _)))
  show wpAny _ _ (dictGet d (.ref a) >>= _) _ _ s
  refine wpAny_bind (wpAny_dictGet_heap hu hkey hm ?_)
  cases hf : atKey xs k with
  | some p =>
    rw [hf] at h
    show wpAny _ _ (PySem.ret (.bool true)) _ _ _
    exact wpAny_pure ⟨_, rfl, wpAny_truthy_bool h⟩
  | none =>
    rw [hf] at h
    show wpAny _ _ (Builtin.Dict.pendingKey? d (.ref a) >>= _) _ _ _
    exact wpAny_bind (wpAny_pendingKey_other hd (wpAny_pure ⟨_, rfl, wpAny_truthy_bool h⟩))
theorem nest_room (C : Cok X c) : (nestedKind X.prog X.w).room X.A.in1 := by
  show X.A.in1.units + 8 < cLine
  rw [in1_units]; have := C.un; omega
theorem any_py : ∀ (ys : List D) (x : D), plain x = true → plains ys = true → ((toPys ys).any fun y => PyData.eqv y (toPy x)) = ys.any fun z => eqB z x
  | [], _, _, _ => rfl
  | y :: ys, x, px, py => by
    simp only [plains, Bool.and_eq_true] at py
    simp only [toPys, List.any_cons]
    rw [eqv_py y x py.1 px, any_py ys x px py.2]
/-- in, both ways -/
theorem in_core (C : Cok X c) (neg : Bool) : OpR X (compareOp (if neg then .NotIn else .In)) (P2 c fun _ x y => (inD x y).map fun b => .bl (if neg then !b else b)) := by
  intro pins s σ H x y v u Q I rx ry h
  obtain ⟨F, dx, dy, R, d, hs, hr, tx, ty, e, q⟩ := h
  dsimp only at e
  have hun := C.un
  obtain ⟨b', e2, eb⟩ := Option.map_eq_some_iff.mp e
  clear e
  subst eb
  unfold inD at e2
  split at e2
  · split at e2
    · rename_i ys hz
      cases e2
      obtain ⟨p1, p2, l1, l2⟩ := eqOk_of hz
      obtain ⟨a1, a2⟩ := top_dp hs tx p1 l1
      obtain ⟨b1, b2⟩ := top_dp hs ty p2 l2
      have py : plains ys = true := by simpa only [plain] using p2
      rw [← C.K] at a1 b1
      cases neg with
      | false =>
        refine op_inD (by omega) pins s σ H x y v u Q I rx ry ⟨toPy dx, toPys ys, a1, b1, a2, b2, ?_⟩
        rw [any_py ys dx p1 py]
        exact Res.bl q hs hr
      | true =>
        refine op_notInD (by omega) pins s σ H x y v u Q I rx ry ⟨toPy dx, toPys ys, a1, b1, a2, b2, ?_⟩
        rw [any_py ys dx p1 py]
        exact Res.bl q hs hr
    · cases e2
  · split at e2
    · rename_i ys hz
      cases e2
      obtain ⟨p1, p2, l1, l2⟩ := eqOk_of hz
      obtain ⟨a1, a2⟩ := top_dp hs tx p1 l1
      obtain ⟨b1, b2⟩ := top_dp hs ty p2 l2
      have py : plains ys = true := by simpa only [plain] using p2
      rw [← C.K] at a1 b1
      obtain ⟨as, r1⟩ := Dp.reads I _ x v a1 rx
      obtain ⟨bs, r2⟩ := Dp.reads I _ y u b1 ry
      have hd : (toPy dx).depth ≤ 60 := by rw [dep_py _ p1]; exact l1
      have hun2 : X.A.units + 1 + min (PyData.depthAll (toPys ys)) (toPy dx).depth < cLine := Nat.lt_of_le_of_lt (Nat.add_le_add_left (Nat.le_trans (Nat.min_le_right _ _) hd) _) (by omega)
      cases neg with
      | false =>
        refine SeqAt.in_tuple_reads r2 r1 (SeqAt.canLay_of_shaped b2) (SeqAt.canLay_of_shaped a2) hun2 ⟨.bl _, H, I, rfl, ?_⟩
        rw [any_py ys dx p1 py]
        exact Res.bl q hs hr
      | true =>
        refine SeqAt.notIn_tuple_reads r2 r1 (SeqAt.canLay_of_shaped b2) (SeqAt.canLay_of_shaped a2) hun2 ⟨.bl _, H, I, rfl, ?_⟩
        rw [any_py ys dx p1 py]
        exact Res.bl q hs hr
    · cases e2
  · split at e2
    · rename_i ks vs hk
      cases e2
      obtain ⟨a, rfl, ha⟩ := ty
      cases ry
      have tk : RelD c F dx x := by
        cases dx <;> simp only [keyOk, Bool.false_eq_true] at hk
        exact tx
      obtain ⟨b, rfl, rfl, kb⟩ := key_is C I hs tk hk rx
      obtain ⟨o, es, ep, xs, us, h1, h2, h3, h4, _⟩ := dt_heap C I hs ha
      have ek := atKey_keyAt h3 h4 hk
      have es : (atKey xs (toNK dx)).isSome = (keyAt ks dx).isSome := by
        rw [ek]
        cases hj : keyAt ks dx with
        | none => rfl
        | some j =>
          have hjl : j < ks.length := by
            unfold keyAt at hj
            exact (List.findIdx?_eq_some_iff_getElem.mp hj).1
          have hl : ks.length = xs.length := by
            have := congrArg List.length h3
            rw [toNKs_map] at this
            simpa using this
          simp [List.getElem?_eq_getElem (hl ▸ hjl : j < xs.length)]
      cases neg with
      | false =>
        show wpAny _ _ (contains (.ref a) (.ref b) >>= fun t => pure (Value.bool t)) _ _ s
        refine wpAny_bind (contains_heap (nest_room C) kb h1 h2 (wpAny_pure ⟨.bl _, H, I.tok _, rfl, ?_⟩))
        rw [es]
        exact Res.bl q hs hr
      | true =>
        show wpAny _ _ (contains (.ref a) (.ref b) >>= fun t => pure (Value.bool (!t))) _ _ s
        refine wpAny_bind (contains_heap (nest_room C) kb h1 h2 (wpAny_pure ⟨.bl _, H, I.tok _, rfl, ?_⟩))
        rw [es]
        exact Res.bl q hs hr
    · cases e2
  · split at e2
    · split at e2
      · rename_i z _ a _ ch hch
        cases e2
        obtain ⟨rfl, _⟩ := (show x = _ ∧ _ from tx)
        obtain ⟨rfl, _⟩ := (show y = _ ∧ _ from ty)
        have ea : a = ⟨#[ch]⟩ := by
          obtain ⟨cps⟩ := a
          congr 1
          exact Array.toList_inj.mp hch
        subst ea
        cases neg with
        | false => exact op_in_sign pins s σ H _ _ v u Q I rx ry ⟨ch, z, rfl, rfl, Res.bl q hs hr⟩
        | true => exact op_notIn_sign pins s σ H _ _ v u Q I rx ry ⟨ch, z, rfl, rfl, Res.bl q hs hr⟩
      · cases e2
    · cases e2
  · cases e2
theorem od_in (C : Cok X c) : OpR X (compareOp .In) (P2 c fun _ x y => (inD x y).map .bl) := in_core C false
theorem od_notin (C : Cok X c) : OpR X (compareOp .NotIn) (P2 c fun _ x y => (inD x y).map fun b => .bl (!b)) := in_core C true
end
end Pu
end

section
set_option autoImplicit false
set_option linter.all false
set_option maxRecDepth 100000
set_option maxHeartbeats 4000000
set_option Elab.async false
namespace Pu
open PySem PySem.Spec PyProof.Rows L2

/-- two operands; the result is handed on -/
def P2s (c : Ct) (f : List D → D → D → Option D) : R2 := fun x y H Q => ∃ F dx dy R d, Sub F H ∧ RowR c F H R ∧ Top c F H dx x ∧ Top c F H dy y ∧ f R dx dy = some d ∧ Res c F H R d Q
theorem valV_zip : ∀ {ks : List Str} {xs : List V} {k : Str} {j : Nat} {z : V}, ks.findIdx? (· == k) = some j → xs[j]? = some z → valV (List.zip (ks.map Sum.inr) xs) (Sum.inr k : Key) = some z
  | [], _, _, _, _, h, _ => by simp at h
  | k0 :: ks, [], _, _, _, _, hz => by simp at hz
  | k0 :: ks, x :: xs, k, j, z, h, hz => by
    rw [List.findIdx?_cons] at h
    unfold valV
    simp only [List.map_cons, List.zip_cons_cons, List.find?_cons]
    by_cases hk : k0 = k
    · subst hk
      simp at h; subst h
      simp at hz; subst hz
      simp
    · have h1 : (k0 == k) = false := by simpa using hk
      rw [h1] at h
      simp only [Bool.false_eq_true, if_false, Option.map_eq_some_iff] at h
      obtain ⟨i, hi, rfl⟩ := h
      have h2 : decide ((Sum.inr k0 : Key) = Sum.inr k) = false := by simpa using hk
      rw [h2]
      exact valV_zip hi (by simpa using hz)
section
variable {prog : Program} {w : World} {A : Around} {E : Value → Shared → Prop} {s : Shared}
theorem adjust_rev (n : Nat) : Builtin.Slice.sliceAdjust none none (-1) (n : Int) = ((n : Int) - 1, -1) := by
  unfold Builtin.Slice.sliceAdjust
  simp
theorem places_rev (n : Nat) : Builtin.Slice.slicePlaces ((n : Int) - 1) (-1) (-1) = n := by
  unfold Builtin.Slice.slicePlaces
  have h1 : ¬ ((-1 : Int) > 0) := by omega
  simp only [h1, if_false]
  rw [show (- -1 : Int) = 1 by decide, Int.ediv_one]
  split <;> omega
theorem pick_rev (xs : Array Value) : ((List.range xs.size).filterMap fun (m : Nat) => xs[((xs.size : Int) - 1 + (m : Int) * (-1)).toNat]?).toArray = xs.toList.reverse.toArray := by
  congr 1
  have e : ∀ m ∈ List.range xs.size, xs[((xs.size : Int) - 1 + (m : Int) * (-1)).toNat]? = xs.toList.reverse[m]? := by
    intro m hm
    have hm := List.mem_range.mp hm
    have e1 : ((xs.size : Int) - 1 + (m : Int) * (-1)).toNat = xs.size - 1 - m := by omega
    rw [e1, List.getElem?_reverse (by simpa using hm), ← Array.getElem?_toList]
    simp
  have e2 : (List.range xs.size).filterMap (fun (m : Nat) => xs[((xs.size : Int) - 1 + (m : Int) * (-1)).toNat]?) = (List.range xs.size).filterMap (fun m => xs.toList.reverse[m]?) := by
    have : ∀ l : List Nat, (∀ m ∈ l, m ∈ List.range xs.size) → l.filterMap (fun (m : Nat) => xs[((xs.size : Int) - 1 + (m : Int) * (-1)).toNat]?) = l.filterMap (fun m => xs.toList.reverse[m]?) := by
      intro l
      induction l with
      | nil => intro _; rfl
      | cons a l ih =>
        intro h
        rw [List.filterMap_cons, List.filterMap_cons, e a (h a List.mem_cons_self), ih fun m hm => h m (List.mem_cons_of_mem _ hm)]
    exact this _ fun _ h => h
  rw [e2]
  have e3 : xs.size = xs.toList.reverse.length := by simp
  rw [e3]
  generalize xs.toList.reverse = l
  induction l with
  | nil => rfl
  | cons a l ih =>
    rw [List.length_cons, List.range_succ_eq_map]
    simp only [List.filterMap_cons, List.getElem?_cons_zero, List.filterMap_map]
    exact congrArg _ ih
theorem sliceApplied_rev {sl : Addr} {vk : Value} {n : Nat} {Q : Int × Int × Nat → Shared → Prop} (hs : s.heap.IsSliceOf sl .none .none vk) (pk : IsPart vk (some (-1)))
    (h : Q ((n : Int) - 1, -1, n) s) : wpAny (model prog w) A (Builtin.Slice.sliceApplied (.ref sl) (pure (n : Int))) Q E s := by
  obtain ⟨os, hos, hcs, hds⟩ := id hs
  unfold Builtin.Slice.sliceApplied Builtin.Slice.sliceFields
  refine wpAny_bind (wpAny_bind (wpAny_field hos hds (x := .none) rfl (wpAny_bind (wpAny_field hos hds (x := .none) rfl (wpAny_bind (wpAny_field hos hds (x := vk) rfl (wpAny_pure ?_)))))))
  refine wpAny_bind (HT.slicePart_ pk ?_)
  show wpAny _ _ (if ((-1 : Int) == 0) = true then _ else _) _ _ s
  rw [if_neg (by decide)]
  refine wpAny_bind (slicePart_none (wpAny_bind (slicePart_none (wpAny_bind (wpAny_pure ?_)))))
  show wpAny _ _ (match Builtin.Slice.sliceAdjust none none (-1) (n : Int) with | (lo, hi) => pure (lo, (-1 : Int), Builtin.Slice.slicePlaces lo hi (-1))) _ _ s
  rw [adjust_rev]
  show wpAny _ _ (pure ((n : Int) - 1, (-1 : Int), Builtin.Slice.slicePlaces ((n : Int) - 1) (-1) (-1))) _ _ s
  rw [places_rev]
  exact wpAny_pure h
theorem getItem_tuple_rev {t sl : Addr} {items : Array Value} {vk : Value} {Q : Value → Shared → Prop} (ht : IsTup s.heap t items) (hs : s.heap.IsSliceOf sl .none .none vk) (pk : IsPart vk (some (-1)))
    (h : Q (.ref s.heap.objs.size) { s with heap := s.heap.push { cls := .type "tuple", data := .seq items.toList.reverse.toArray } })
    (hsz : items.size ≤ sizeLine) : wpAny (model prog w) A (getItem (.ref t) (.ref sl)) Q E s := by
  have htake : PySem.sizeOk (.seq items.toList.reverse.toArray) := by
    show items.toList.reverse.toArray.size ≤ sizeLine
    simpa using hsz
  obtain ⟨os, hos, hcs, hds⟩ := id hs
  have hTs : s.TypeIs (.ref sl) "slice" := ⟨os, hos, hcs⟩
  unfold getItem
  try with_reducible refine wpAny_holding ?_
  first | refine wpAny_bind (wpAny_pure ?_) | skip
  refine wpAny_bind (wpAny_sequenceKey ht.typeIs (by decide) ?_)
  refine wpAny_bind (wpAny_callSpecial?_slot (name := Str.ofString "__getitem__") ht.typeIs PyProof.Rows.slot_tuple_getitem
    (wpAny_call_entry PyProof.Rows.slot_tuple_getitem ht.typeIs entry_tuple_getitem ?_ (args_tuple_getitem _ _)))
  show wpAny _ _ (Builtin.Tuple.tupleItemsOf (.ref t) >>= _) _ _ s
  refine wpAny_bind (tupleItemsOf_ ht ?_)
  refine wpAny_bind (wpAny_typeOf hTs ?_)
  rw [if_pos (by decide)]
  refine wpAny_bind (sliceApplied_rev hs pk ?_)
  show wpAny _ _ (if ((((items.size : Int) - 1) == 0 && (-1 : Int) == 1 && items.size == items.size) = true) then _ else _) _ _ s
  rw [if_neg (by simp), pick_rev]
  first
    | exact wpAny_bind (m := Builtin.Tuple.tupleExact _) (wpAny_newObj_type (wpAny_pure ⟨_, rfl, wpAny_pure h⟩) htake)
    | exact wpAny_bind (m := Builtin.Tuple.tupleExact _) (wpAny_newObj_type (wpAny_bind (wpAny_pure (wpAny_pure ⟨_, rfl, wpAny_pure h⟩))) htake)
    | exact wpAny_bind (wpAny_bind (m := Builtin.Tuple.tupleExact _) (wpAny_newObj_type (wpAny_pure (wpAny_pure ⟨_, rfl, wpAny_pure h⟩)) htake))
    | exact wpAny_bind (wpAny_bind (m := Builtin.Tuple.tupleExact _) (wpAny_newObj_type (wpAny_pure ⟨_, rfl, wpAny_pure h⟩) htake))
end
section
variable {X : Cx} {c : Ct}
theorem od_idx (C : Cok X c) : IxR X (P2s c idxD) := by
  intro value slice pins s σ H x y v u Q I rx ry h hsub
  obtain ⟨F, dx, dy, R, d, hs, hr, tx, ty, e, q⟩ := h
  unfold idxD at e
  split at e
  · obtain ⟨a, xs, rfl, ha, ra⟩ := tx
    cases (show y = _ from ty)
    obtain ⟨z, hz, rz⟩ := getI_rel ra e
    exact ix_list value slice pins s σ H _ _ v u Q I rx ry ⟨a, xs, _, z, rfl, rfl, SqL.of ha, getI_atI _ _ hz, q.here hs hr rz⟩ hsub
  · simp only [Top, RelD] at tx
    obtain ⟨a, xs, rfl, ha, ra⟩ := tx
    cases (show y = _ from ty)
    obtain ⟨z, hz, rz⟩ := getI_rel ra e
    exact ix_tup value slice pins s σ H _ _ v u Q I rx ry ⟨a, xs, _, z, rfl, rfl, by rw [C.K]; exact sq hs ha, getI_atI _ _ hz, q.here hs hr rz⟩ hsub
  · split at e
    · rename_i ks vs hk
      obtain ⟨j, hj, hv⟩ := Option.bind_eq_some_iff.mp e
      obtain ⟨a, rfl, ha⟩ := tx
      cases rx
      have tk : RelD c F dy y := by
        cases dy <;> simp only [keyOk, Bool.false_eq_true] at hk
        exact ty
      obtain ⟨b, rfl, rfl, kb⟩ := key_is C I hs tk hk ry
      obtain ⟨o, es, ep, xs, us, h1, h2, h3, h4, h5, h6, h7, _⟩ := dt_heap C I hs ha
      have ek := atKey_keyAt h3 h4 hk
      rw [hj] at ek
      obtain ⟨z, hz, rz⟩ := RelDs.get h6 hv
      obtain ⟨w, hw, rw'⟩ := h7.get hz
      rw [List.getElem?_map] at hw
      obtain ⟨p, hp, ep⟩ := Option.map_eq_some_iff.mp hw
      have ek2 : atKey xs (toNK dy) = some p.2 := by rw [ek]; show (xs[j]?).map _ = _; rw [hp]; rfl
      refine tail_any (T := "dict") h2.typeIs PySem.F.slot_dict_getitem.lookup (wpAny_getItem_heap (nest_room C) kb h2 ek2 ?_) hsub
      rw [ep]
      exact ⟨z, H, I.tok _, rw', q.here hs hr rz⟩
    · cases e
  · rename_i ks vs k
    obtain ⟨j, hj, hv⟩ := Option.bind_eq_some_iff.mp e
    simp only [Top, RelD] at tx
    obtain ⟨a, xs, rfl, ha, hl, ra⟩ := tx
    cases rx
    obtain ⟨z, hz, rz⟩ := RelDs.get ra hv
    obtain ⟨rfl, _⟩ := (show y = .str k ∧ _ from ty)
    have hun := C.un
    have g : DGet H a (kV (Sum.inr k)) (some z) := .inl ⟨_, _, .inl (hs _ _ ha), rfl, (valV_zip hj hz).symm⟩
    exact tail_any (T := "dict") (dict_typeIs I g) PySem.F.slot_dict_getitem.lookup (d_getItem (by omega) I g ry fun w' s3 I3 rw' => ⟨z, H, I3, rw', q.here hs hr rz⟩) hsub
  · rename_i i
    cases (show x = _ from tx)
    cases (show y = _ from ty)
    obtain ⟨xs, ha, ra, _⟩ := hr
    obtain ⟨z, hz, rz⟩ := getI_rel ra e
    exact ix_list value slice pins s σ H _ _ v u Q I rx ry ⟨c.ar, xs, i, z, rfl, rfl, SqL.of ha, getI_atI _ _ hz, q.here hs ⟨xs, ha, ra, ‹_›⟩ rz⟩ hsub
  · rename_i ns i
    simp only [Top, RelD] at tx
    obtain ⟨a, rfl, ha⟩ := tx
    cases (show y = _ from ty)
    obtain ⟨n, hn, rfl⟩ := Option.map_eq_some_iff.mp e
    refine ix_list value slice pins s σ H _ _ v u Q I rx ry ⟨a, _, i, V.int n, rfl, rfl, by rw [C.K]; exact SqL.sub hs ha, getI_atI _ _ (by rw [getI_map, hn]; rfl), ?_⟩ hsub
    exact q.here hs hr (by simp only [RelD])
  · cases e
def partD : D → Option Int → Prop
  | .non, o => o = none
  | .int i, o => o = some i
  | _, _ => False
theorem cutI_sIx {n d k : Nat} {x : D} {o : Option Int} (p : partD x o) (h : cutI n d x = some k) : HT.sIx n d o = k := by
  cases x <;> simp only [partD] at p
  · subst p; simp only [cutI, Option.some.injEq] at h; subst h; rfl
  · subst p
    unfold cutI at h
    unfold HT.sIx
    dsimp only at h ⊢
    split at h
    · rename_i hi; rw [if_pos hi]; simpa using h
    · rename_i hi; rw [if_neg hi]; simpa using h
theorem cutL_cutV {F : Hp} {ds es : List D} {xs : List V} {lo hi : D} {l h : Option Int} (r : RelDs c F ds xs) (pl : partD lo l) (ph : partD hi h) (e : cutL ds lo hi = some es) :
    RelDs c F es (cutV xs l h) ∧ (HT.sIx xs.length 0 l = 0 ∧ HT.sIx xs.length xs.length h = xs.length → es = ds) := by
  unfold cutL at e
  split at e
  · rename_i a b ha hb
    cases e
    have h1 := cutI_sIx pl ha
    have h2 := cutI_sIx ph hb
    rw [← r.length] at h1 h2
    unfold cutV
    rw [h1, h2]
    refine ⟨(r.drop a).take (b - a), ?_⟩
    rintro ⟨rfl, rfl⟩
    rw [r.length]; simp
  · cases e
theorem strOk_sub {z : Str} {es : List Nat} (h : PyData.strOk z = true) (hs : ∀ x ∈ es, x ∈ z.cps.toList) : PyData.strOk ⟨es.toArray⟩ = true := by
  unfold PyData.strOk at h ⊢
  rw [← Array.all_toList, List.all_eq_true] at h ⊢
  exact fun x hx => h x (hs x (by simpa using hx))
theorem cutL_cutS {z : Str} {es : List Nat} {lo hi : D} {l h : Option Int} (pl : partD lo l) (ph : partD hi h) (e : cutL z.cps.toList lo hi = some es) : cutS z l h = ⟨es.toArray⟩ ∧ ∀ x ∈ es, x ∈ z.cps.toList := by
  unfold cutL at e
  split at e
  · rename_i a b ha hb
    cases e
    have h1 := cutI_sIx pl ha
    have h2 := cutI_sIx ph hb
    have hz : z.cps.toList.length = z.length := Array.length_toList
    rw [hz] at h1 h2
    unfold cutS
    rw [h1, h2]
    exact ⟨rfl, fun x hx => List.mem_of_mem_drop (List.mem_of_mem_take hx)⟩
  · cases e
/-- a slice -/
def P3s (c : Ct) : V → Option Int → Option Int → Hp → VK → Prop := fun x l h H Q => ∃ F dx dl dh R d, Sub F H ∧ RowR c F H R ∧ Top c F H dx x ∧ partD dl l ∧ partD dh h ∧ sliceD dx dl dh = some d ∧ ResG c F H R d Q
theorem od_slice (C : Cok X c) : SlR X (P3s c) := by
  intro pins s σ H x v vl vu lo hi sl Q I rx hs pl pu h
  obtain ⟨F, dx, dl, dh, R, d, hsub, hr, tx, p1, p2, e, q⟩ := h
  unfold sliceD at e
  split at e
  · obtain ⟨es, ee, rfl⟩ := Option.map_eq_some_iff.mp e
    obtain ⟨a, xs, rfl, ha, ra⟩ := tx
    obtain ⟨k1, _⟩ := cutL_cutV ra p1 p2 ee
    exact sl_list pins s σ H _ v vl vu lo hi sl Q I rx hs pl pu ⟨a, xs, rfl, SqL.of ha, ResG.lst q hsub hr k1⟩
  · obtain ⟨es, ee, rfl⟩ := Option.map_eq_some_iff.mp e
    simp only [Top, RelD] at tx
    obtain ⟨a, xs, rfl, ha, ra⟩ := tx
    obtain ⟨k1, k2⟩ := cutL_cutV ra p1 p2 ee
    refine sl_tupA pins s σ H _ v vl vu lo hi sl Q I rx hs pl pu ⟨a, xs, rfl, by rw [C.K]; exact sq hsub ha, fun hw => ?_, fun _ => ?_⟩
    · have e2 := k2 hw
      subst e2
      exact q.here rfl hsub hr (by simp only [RelD]; exact ⟨a, xs, rfl, ha, ra⟩)
    · exact Res.tup (show Res c F H R _ Q from q) hsub hr k1
  · obtain ⟨es, ee, rfl⟩ := Option.map_eq_some_iff.mp e
    obtain ⟨rfl, h1, h2⟩ := (show x = _ ∧ _ from tx)
    rename_i st
    obtain ⟨k1, k2⟩ := cutL_cutS p1 p2 ee
    refine sl_str pins s σ H _ v vl vu lo hi sl Q I rx hs pl pu ⟨st, rfl, Nat.le_trans h2 (by rw [sizeLine_eq]; omega), ?_⟩
    rw [k1]
    exact q.here rfl hsub hr (by simp only [RelD]; exact ⟨trivial, strOk_sub h1 k2, Nat.le_trans (by rw [← k1]; exact cutS_length st lo hi) h2⟩)
  · cases e
/-- e[::-1], of lists and tuples -/
def tRevD (c : Ct) (te : TE) : TE := fun σ H Q => te σ H fun x H1 => ∃ F dx R d, Sub F H1 ∧ RowR c F H1 R ∧ Top c F H1 dx x ∧ revD dx = some d ∧ ResG c F H1 R d Q
theorem pe_revD (C : Cok X c) {e : Expr} {te : TE} {k : Nat} {p1 p2 p3 pos : Pos} (he : PE X e te) : PE X (.Subscript e (.Slice none none (some (.UnaryOp .USub (.Constant (.int 1) k p1) p2)) p3) pos) (tRevD c te) := by
  refine ⟨fun pins s σ H Q I h => ?_⟩
  refine Subscript_ (thn (he.run pins s σ H _ I h) fun v s1 ⟨x, H1, I1, r1, q1⟩ => ?_)
  obtain ⟨F, dx, R, d, hsub, hr, tx, er, q⟩ := q1
  have hst : PO X (some (.UnaryOp .USub (.Constant (.int 1) k p1) p2)) (tPart (tUn (rU fun i => .int (-i)) (tC (.int 1)))) := po_some (pe_un un_neg pe_int)
  refine wpAny_Slice (thn (po_none.run pins s1 σ H1 (fun o H2 => o = none ∧ H2 = H1) I1 ⟨rfl, rfl⟩) fun vl s2 ⟨l, H2, I2, pl, el, e2⟩ => ?_)
  subst el e2
  refine thn (po_none.run pins s2 σ H2 (fun o H3 => o = none ∧ H3 = H2) I2 ⟨rfl, rfl⟩) fun vu s3 ⟨u, H3, I3, pu, eu, e3⟩ => ?_
  subst eu e3
  refine thn (hst.run pins s3 σ H3 (fun o H4 => o = some (-1) ∧ H4 = H3) I3 ⟨1, rfl, -1, rfl, rfl, rfl⟩) fun vs s4 ⟨o, H4, I4, ps, eo, e4⟩ => ?_
  subst eo e4
  have I5 : Inv X pins σ H4 { s4 with heap := s4.heap.push { cls := .type "slice", data := .fields #[vl, vu, vs] } } := I4.kept (t' := s4.toks) fun b ob q => Heap.get?_push_of_some _ q
  unfold revD at er
  split at er
  · cases er
    obtain ⟨a, xs, rfl, hx, ra⟩ := tx
    cases r1
    obtain ⟨its, r, ht, hz⟩ := I5.list (SqL.of hx)
    have hlen := r.length
    show wpAny (model X.prog X.w) X.A (subscriptTail e (.Slice none none (some (.UnaryOp .USub (.Constant (.int 1) k p1) p2)) p3) (.ref a) (.ref s4.heap.objs.size)) (EP X pins σ Q) X.xe { s4 with heap := s4.heap.push { cls := .type "slice", data := .fields #[vl, vu, vs] } }
    refine tail_any (ops := [.ref a, .ref s4.heap.objs.size]) ht.isList.typeIs (PySem.slot_list_getitem.lookup) ?_ (by with_unfolding_all rfl)
    refine wpAny_getItem_list_slice ht.isList (Heap.IsSliceOf.new _ vl vu vs) pl pu ps (by decide) ?_ (by rw [List.size_toArray]; omega)
    rw [PySem.W.krv_pick]
    refine ⟨.ref _, _, I5.laid (t' := s4.toks) (o := .lst xs.reverse) (fun b ob q => Heap.get?_push_of_some _ q) (Nat.le_refl _) ?_, rfl, ResG.lst q hsub hr ra.reverse _ (I5.hok.fresh (Nat.le_refl _))⟩
    exact ⟨by rw [List.length_reverse]; exact hz, _, 0, r.reverse, Heap.get?_push_size _ rfl⟩
  · cases er
    simp only [Top, RelD] at tx
    obtain ⟨a, xs, rfl, hx, ra⟩ := tx
    cases r1
    obtain ⟨its, r, ht, hz⟩ := I5.tuple (show SqT X.K H4 a xs by rw [C.K]; exact sq hsub hx)
    have hlen := r.length
    cases pl
    cases pu
    show wpAny (model X.prog X.w) X.A (subscriptTail e (.Slice none none (some (.UnaryOp .USub (.Constant (.int 1) k p1) p2)) p3) (.ref a) (.ref s4.heap.objs.size)) (EP X pins σ Q) X.xe { s4 with heap := s4.heap.push { cls := .type "slice", data := .fields #[.none, .none, vs] } }
    refine tail_any (ops := [.ref a, .ref s4.heap.objs.size]) ht.typeIs (PyProof.Rows.slot_tuple_getitem.lookup) ?_ (by with_unfolding_all rfl)
    refine getItem_tuple_rev ht (Heap.IsSliceOf.new _ .none .none vs) ps ?_ (by rw [List.size_toArray]; omega)
    refine ⟨.ref _, _, I5.laid (t' := s4.toks) (o := .tup xs.reverse) (fun b ob q => Heap.get?_push_of_some _ q) (Nat.le_refl _) ?_, rfl, Res.tup (show Res c F H4 R _ Q from q) hsub hr ra.reverse _ (I5.hok.fresh (Nat.le_refl _))⟩
    exact ⟨by rw [List.length_reverse]; exact hz, _, r.reverse, _, Heap.get?_push_size _ rfl, rfl, 0, rfl⟩
  · cases er
end
end Pu
end

section
set_option autoImplicit false
set_option linter.all false
set_option maxRecDepth 100000
set_option maxHeartbeats 4000000
set_option Elab.async false
namespace Pu
open PySem PySem.Spec PyProof.Rows L2

section
variable {prog : Program} {w : World} {A : Around} {E : Value → Shared → Prop} {s : Shared} {t : Addr} {its : List Value} {ns : List Int}
theorem iter_tup {items : Array Value} {Q : Value → Shared → Prop} (ht : IsTup s.heap t items)
    (h : ∀ s₂ : Shared, s₂ = { s with heap := s.heap.push { cls := .type "tuple_iterator", data := .fields #[.ref t, .int 0 0] } } →
      (s₂.heap.IsTupleIter s.heap.objs.size t 0 ∧ s₂.heap.IsTuple t items) → (∀ b ∈ [s.heap.objs.size, t], b < s₂.heap.objs.size) → t ≠ s.heap.objs.size → Q (.ref s.heap.objs.size) s₂) :
    wpAny (model prog w) A (pyIter (.ref t)) Q E s := by
  have hlt : t < s.heap.objs.size := by obtain ⟨_, e, _⟩ := ht; exact Heap.lt_size e
  have ht' : s.heap.IsTuple t items := ht
  refine wpAny_pyIter_tuple ht' (h _ rfl ⟨⟨_, Heap.get?_push_size _ rfl, rfl, rfl⟩, ht'.push _⟩ (fun b hb => ?_) (Nat.ne_of_lt hlt))
  show b < (s.heap.push _).objs.size
  rw [Heap.size_push]
  rcases List.mem_cons.mp hb with rfl | hb
  · exact Nat.lt_succ_self _
  · rcases List.mem_cons.mp hb with rfl | hb
    · exact Nat.lt_succ_of_lt hlt
    · cases hb
theorem old_tup {o : Obj} {h' : Heap} (hk : ∀ b u, b ∉ [s.heap.objs.size] → (s.heap.push o).get? b = some u → h'.get? b = some u) :
    ∀ b o, s.heap.get? b = some o → h'.get? b = some o := fun b o e => by
  refine hk b o (fun hm => ?_) (Heap.get?_push_of_some _ e)
  rcases List.mem_cons.mp hm with e1 | hm
  · exact absurd (e1 ▸ Heap.lt_size e) (Nat.lt_irrefl _)
  · cases hm
theorem sum_tup {Q : Value → Shared → Prop} (hh : A.handled = none) (hl : IsTup s.heap t its.toArray) (hi : IntsAre its ns)
    (h : ∀ h' tk t', (∀ b o, s.heap.get? b = some o → h'.get? b = some o) → Q (.int ns.sum t') { s with heap := h', toks := tk }) : wpAny (model prog w) A (call (.builtin "sum") [.ref t]) Q E s := by
  obtain ⟨xs, e⟩ := hi.allInts.items
  have hn : numsOf (intItems xs).toList = ns := by rw [← e]; exact hi.numsOf
  rw [nums_intItems] at hn
  rw [e] at hl
  refine call_sum_walkG (iter_tup hl fun s₂ e st hfp hlI => ?_)
  subst e
  refine ⟨_, _, _, _, _, _, numAt xs, rfl, Walks.tuple (A := A.in1) hh _ t hlI (intItems xs), st, hfp, (fun _ _ => intItems_at), fun h' tk t' hk => ?_⟩
  have := h h' tk t' (old_tup hk)
  have e2 : preSum (numAt xs) (intItems xs).size = ns.sum := by
    rw [show (intItems xs).size = xs.size by simp [intItems], preSum_eq, List.take_of_length_le (by simp), hn]
  rw [e2]; exact this
theorem max_tup {Q : Value → Shared → Prop} (hh : A.handled = none) (hl : IsTup s.heap t its.toArray) (hi : IntsAre its ns) (hne : 0 < ns.length)
    (h : ∀ h' tk M t', (∀ b o, s.heap.get? b = some o → h'.get? b = some o) → M ∈ ns → (∀ a, a ∈ ns → a ≤ M) → Q (.int M t') { s with heap := h', toks := tk }) : wpAny (model prog w) A (call (.builtin "max") [.ref t]) Q E s := by
  obtain ⟨xs, e⟩ := hi.allInts.items
  have hn : numsOf (intItems xs).toList = ns := by rw [← e]; exact hi.numsOf
  rw [nums_intItems] at hn
  subst hn
  rw [e] at hl
  have hsz : 0 < xs.size := by simpa using hne
  refine call_max_walk (iter_tup hl fun s₂ e st hfp hlI => ?_)
  subst e
  refine ⟨_, _, _, _, _, _, _, rfl, Walks.tuple (A := A.in1) hh _ t hlI (intItems xs), st, hfp, by simpa [intItems] using hsz, CmpOf.ints_gt (numAt xs) (fun _ _ => intItems_at), fun v h' tk hP hk => ?_⟩
  have hP : (intItems xs)[argBest (fun i j => decide (numAt xs i > numAt xs j)) (xs.size - 1)]? = some v := by simpa [intItems] using hP
  obtain ⟨t, rfl⟩ := intItems_at hP
  obtain ⟨h1, h2⟩ := argBest_gt (numAt xs) (xs.size - 1)
  refine h h' tk _ t (old_tup hk) ?_ fun a ha => ?_
  · rw [numAt_eq]; exact PySem.getD_mem (by rw [List.length_map, Array.length_toList]; omega)
  · obtain ⟨j, hj, rfl⟩ := mem_getD ha
    rw [List.length_map, Array.length_toList] at hj
    rw [← numAt_eq]; exact h2 j (by omega)
theorem min_tup {Q : Value → Shared → Prop} (hh : A.handled = none) (hl : IsTup s.heap t its.toArray) (hi : IntsAre its ns) (hne : 0 < ns.length)
    (h : ∀ h' tk M t', (∀ b o, s.heap.get? b = some o → h'.get? b = some o) → M ∈ ns → (∀ a, a ∈ ns → M ≤ a) → Q (.int M t') { s with heap := h', toks := tk }) : wpAny (model prog w) A (call (.builtin "min") [.ref t]) Q E s := by
  obtain ⟨xs, e⟩ := hi.allInts.items
  have hn : numsOf (intItems xs).toList = ns := by rw [← e]; exact hi.numsOf
  rw [nums_intItems] at hn
  subst hn
  rw [e] at hl
  have hsz : 0 < xs.size := by simpa using hne
  refine call_min_walk (iter_tup hl fun s₂ e st hfp hlI => ?_)
  subst e
  refine ⟨_, _, _, _, _, _, _, rfl, Walks.tuple (A := A.in1) hh _ t hlI (intItems xs), st, hfp, by simpa [intItems] using hsz, CmpOf.ints_lt (numAt xs) (fun _ _ => intItems_at), fun v h' tk hP hk => ?_⟩
  have hP : (intItems xs)[argBest (fun i j => decide (numAt xs i < numAt xs j)) (xs.size - 1)]? = some v := by simpa [intItems] using hP
  obtain ⟨t, rfl⟩ := intItems_at hP
  obtain ⟨h1, h2⟩ := argBest_lt (numAt xs) (xs.size - 1)
  refine h h' tk _ t (old_tup hk) ?_ fun a ha => ?_
  · rw [numAt_eq]; exact PySem.getD_mem (by rw [List.length_map, Array.length_toList]; omega)
  · obtain ⟨j, hj, rfl⟩ := mem_getD ha
    rw [List.length_map, Array.length_toList] at hj
    rw [← numAt_eq]; exact h2 j (by omega)
end

theorem best_gt : ∀ (l : List Int) (m : Int), best (fun x m => decide (x > m)) m l ∈ m :: l ∧ ∀ a, a ∈ m :: l → a ≤ best (fun x m => decide (x > m)) m l
  | [], m => by simp [best]
  | x :: l, m => by
    unfold best
    by_cases h : x > m
    · simp only [h, decide_true, if_true]
      obtain ⟨h1, h2⟩ := best_gt l x
      refine ⟨List.mem_cons_of_mem _ h1, fun a ha => ?_⟩
      rcases List.mem_cons.mp ha with rfl | ha
      · have := h2 x List.mem_cons_self; omega
      · exact h2 a ha
    · simp only [h, decide_false, Bool.false_eq_true, if_false]
      obtain ⟨h1, h2⟩ := best_gt l m
      refine ⟨?_, fun a ha => ?_⟩
      · rcases List.mem_cons.mp h1 with e | e
        · rw [e]; exact List.mem_cons_self
        · exact List.mem_cons_of_mem _ (List.mem_cons_of_mem _ e)
      · rcases List.mem_cons.mp ha with rfl | ha
        · exact h2 a List.mem_cons_self
        · rcases List.mem_cons.mp ha with rfl | ha
          · have := h2 m List.mem_cons_self; omega
          · exact h2 a (List.mem_cons_of_mem _ ha)
theorem best_lt : ∀ (l : List Int) (m : Int), best (fun x m => decide (x < m)) m l ∈ m :: l ∧ ∀ a, a ∈ m :: l → best (fun x m => decide (x < m)) m l ≤ a
  | [], m => by simp [best]
  | x :: l, m => by
    unfold best
    by_cases h : x < m
    · simp only [h, decide_true, if_true]
      obtain ⟨h1, h2⟩ := best_lt l x
      refine ⟨List.mem_cons_of_mem _ h1, fun a ha => ?_⟩
      rcases List.mem_cons.mp ha with rfl | ha
      · have := h2 x List.mem_cons_self; omega
      · exact h2 a ha
    · simp only [h, decide_false, Bool.false_eq_true, if_false]
      obtain ⟨h1, h2⟩ := best_lt l m
      refine ⟨?_, fun a ha => ?_⟩
      · rcases List.mem_cons.mp h1 with e | e
        · rw [e]; exact List.mem_cons_self
        · exact List.mem_cons_of_mem _ (List.mem_cons_of_mem _ e)
      · rcases List.mem_cons.mp ha with rfl | ha
        · exact h2 a List.mem_cons_self
        · rcases List.mem_cons.mp ha with rfl | ha
          · have := h2 m List.mem_cons_self; omega
          · exact h2 a (List.mem_cons_of_mem _ ha)

section
variable {X : Cx} {c : Ct}
def U1 (c : Ct) (f : D → Option D) : V → Hp → VK → Prop := fun x H Q => P1 c f [x] H Q
theorem ud_neg (C : Cok X c) : UnR X (unaryOp .USub) (U1 c negD) := by
  intro pins s σ H x v Q I rx h
  obtain ⟨F, x', dx, R, d, e1, hs, hr, tx, e, q⟩ := h
  cases e1
  unfold negD at e
  split at e
  · cases e
    cases (show x = _ from tx)
    exact un_neg pins s σ H _ v Q I rx ⟨_, rfl, Res.int q hs hr⟩
  · cases e
theorem cd_len (C : Cok X c) : CallR X (.builtin "len") (P1 c lenD) := by
  intro pins s σ H vs us Q I r h
  obtain ⟨F, x, dx, R, d, rfl, hs, hr, tx, e, q⟩ := h
  unfold lenD at e
  split at e
  · cases e
    obtain ⟨a, xs, rfl, ha, ra⟩ := tx
    refine call_len_seq pins s σ H _ us Q I r ⟨a, xs, rfl, .inl (SqL.of ha), ?_⟩
    rw [ra.length]; exact Res.int q hs hr
  · cases e
    simp only [Top, RelD] at tx
    obtain ⟨a, xs, rfl, ha, ra⟩ := tx
    refine call_len_seq pins s σ H _ us Q I r ⟨a, xs, rfl, .inr (by rw [C.K]; exact sq hs ha), ?_⟩
    rw [ra.length]; exact Res.int q hs hr
  · rename_i ks vs
    cases e
    obtain ⟨a, rfl, ha⟩ := tx
    obtain ⟨u, rfl, ru⟩ := vals1 r
    cases ru
    obtain ⟨o, es, ep, xs, us, h1, h2, h3, h4, h5, h6, h7, h8, _⟩ := dt_heap C I hs ha
    have hl : ks.length = xs.length := by
      have := congrArg List.length h3
      rw [toNKs_map, List.length_map, List.length_map] at this
      exact this
    rw [hl] at q h8
    exact call_len_dictH h1 h2 (by omega) ⟨.int _, H, I.tok _, ⟨_, rfl⟩, Res.int q hs hr⟩
  · cases e
    obtain ⟨e1, h1⟩ := (show x = _ ∧ _ from tx)
    subst e1
    refine call_len_str pins s σ H _ us Q I r ⟨_, rfl, ?_, Res.int q hs hr⟩
    have := h1.2
    rw [sizeLine_eq]; omega
  · cases e
    simp only [Top, RelD] at tx
    obtain ⟨a, rfl, ha⟩ := tx
    refine call_len_seq pins s σ H _ us Q I r ⟨a, _, rfl, .inl (by rw [C.K]; exact SqL.sub hs ha), ?_⟩
    rw [List.length_map]; exact Res.int q hs hr
  · cases e
theorem cd_abs (C : Cok X c) : CallR X (.builtin "abs") (P1 c absD) := by
  intro pins s σ H vs us Q I r h
  obtain ⟨F, x, dx, R, d, rfl, hs, hr, tx, e, q⟩ := h
  unfold absD at e
  split at e
  · cases e
    cases (show x = _ from tx)
    exact call_abs pins s σ H _ us Q I r ⟨_, rfl, Res.int q hs hr⟩
  · cases e
theorem figure {a : Str} {ch : Nat} (h : a.cps.toList = [ch]) (h1 : 48 ≤ ch) (h2 : ch ≤ 57) : PySem.intText? a = some ((ch - 48 : Nat) : Int) ∧ a.length = 1 := by
  have ea : a = ⟨#[ch]⟩ := by
    obtain ⟨cps⟩ := a
    congr 1
    exact Array.toList_inj.mp h
  subst ea
  refine ⟨?_, rfl⟩
  have : ch = 48 ∨ ch = 49 ∨ ch = 50 ∨ ch = 51 ∨ ch = 52 ∨ ch = 53 ∨ ch = 54 ∨ ch = 55 ∨ ch = 56 ∨ ch = 57 := by omega
  rcases this with rfl | rfl | rfl | rfl | rfl | rfl | rfl | rfl | rfl | rfl <;> kernel_rfl
theorem figure_str {n : Nat} (h : n ≤ 9) : (Str.ofString (toString (n : Int))) = ⟨#[48 + (n : Int).toNat]⟩ ∧ (n : Int).natAbs.log2 < 1920 ∧ PyData.strOk ⟨#[48 + (n : Int).toNat]⟩ = true := by
  have : n = 0 ∨ n = 1 ∨ n = 2 ∨ n = 3 ∨ n = 4 ∨ n = 5 ∨ n = 6 ∨ n = 7 ∨ n = 8 ∨ n = 9 := by omega
  rcases this with rfl | rfl | rfl | rfl | rfl | rfl | rfl | rfl | rfl | rfl <;> exact ⟨by decide +kernel, by decide +kernel, by decide +kernel⟩
theorem cd_int (C : Cok X c) : CallR X (.type "int") (P1 c intD) := by
  intro pins s σ H vs us Q I r h
  obtain ⟨F, x, dx, R, d, rfl, hs, hr, tx, e, q⟩ := h
  unfold intD at e
  split at e
  · cases e
    cases (show x = _ from tx)
    exact call_int1 pins s σ H _ us Q I r (.inl ⟨_, rfl, Res.int q hs hr⟩)
  · cases e
    cases (show x = _ from tx)
    exact call_int1 pins s σ H _ us Q I r (.inr ⟨_, rfl, Res.int q hs hr⟩)
  · rename_i a
    split at e
    · rename_i ch hch
      split at e
      · rename_i hr2
        cases e
        obtain ⟨rfl, _⟩ := (show x = _ ∧ _ from tx)
        obtain ⟨e1, e2⟩ := figure hch hr2.1 hr2.2
        exact call_int_str pins s σ H _ us Q I r ⟨a, _, rfl, e1, by omega, Res.int q hs hr⟩
      · cases e
    · cases e
  · cases e
/-- str(x) of a figure -/
theorem cd_str (C : Cok X c) : CallR X (.type "str") (P1 c strD) := by
  intro pins s σ H vs us Q I r h
  obtain ⟨F, x, dx, R, d, rfl, hs, hr, tx, e, q⟩ := h
  unfold strD at e
  split at e
  · rename_i i
    split at e
    · rename_i hi
      cases e
      cases (show x = _ from tx)
      obtain ⟨n, rfl⟩ : ∃ n : Nat, i = (n : Int) := ⟨i.toNat, by omega⟩
      have hn : n ≤ 9 := by omega
      obtain ⟨e1, e2, e3⟩ := figure_str hn
      refine call_str_int pins s σ H _ us Q I r ⟨_, rfl, e2, ?_⟩
      rw [e1]
      exact q.here rfl hs hr (by simp only [RelD]; exact ⟨trivial, e3, by show 1 ≤ 1000000; decide⟩)
    · cases e
  · cases e
theorem cd_max2 (C : Cok X c) : CallR X (.builtin "max") (P22 c max2D) := by
  intro pins s σ H vs us Q I r h
  obtain ⟨F, x, y, dx, dy, R, d, rfl, hs, hr, tx, ty, e, q⟩ := h
  unfold max2D at e
  split at e
  · cases e
    cases (show x = _ from tx); cases (show y = _ from ty)
    exact call_max2 C.calm pins s σ H _ us Q I r ⟨_, _, rfl, Res.int q hs hr⟩
  · cases e
theorem cd_min2 (C : Cok X c) : CallR X (.builtin "min") (P22 c min2D) := by
  intro pins s σ H vs us Q I r h
  obtain ⟨F, x, y, dx, dy, R, d, rfl, hs, hr, tx, ty, e, q⟩ := h
  unfold min2D at e
  split at e
  · cases e
    cases (show x = _ from tx); cases (show y = _ from ty)
    exact call_min2 C.calm pins s σ H _ us Q I r ⟨_, _, rfl, Res.int q hs hr⟩
  · cases e
theorem cd_sum (C : Cok X c) : CallR X (.builtin "sum") (P1 c sumD) := by
  intro pins s σ H vs us Q I r h
  obtain ⟨F, x, dx, R, d, rfl, hs, hr, tx, e, q⟩ := h
  unfold sumD at e
  split at e
  · obtain ⟨l, hl, rfl⟩ := Option.map_eq_some_iff.mp e
    obtain ⟨a, xs, rfl, ha, ra⟩ := tx
    have ex := ra.ints hl
    subst ex
    exact cr_sum C.calm pins s σ H _ us Q I r ⟨a, l, rfl, SqL.of ha, Res.int q hs hr⟩
  · obtain ⟨l, hl, rfl⟩ := Option.map_eq_some_iff.mp e
    simp only [Top, RelD] at tx
    obtain ⟨a, xs, rfl, ha, ra⟩ := tx
    have ex := ra.ints hl
    subst ex
    obtain ⟨its, rv, ht, _⟩ := I.tuple (show SqT X.K H a _ by rw [C.K]; exact sq hs ha)
    rw [Vals.ref1 r]
    exact sum_tup (I.ok.hd C.calm) ht rv.ints fun h' tk t' hk => ⟨.int _, H, I.kept hk, ⟨_, rfl⟩, Res.int q hs hr⟩
  · cases e
theorem max_uniq {l : List Int} {d : D} (h : maxL l = some d) : 0 < l.length ∧ ∀ m, m ∈ l → (∀ y, y ∈ l → y ≤ m) → d = .int m := by
  cases l with
  | nil => cases h
  | cons a r =>
    cases h
    refine ⟨by simp, fun m hm h => ?_⟩
    obtain ⟨h1, h2⟩ := best_gt r a
    have := h2 m hm
    have := h _ h1
    congr 1; omega
theorem min_uniq {l : List Int} {d : D} (h : minL l = some d) : 0 < l.length ∧ ∀ m, m ∈ l → (∀ y, y ∈ l → m ≤ y) → d = .int m := by
  cases l with
  | nil => cases h
  | cons a r =>
    cases h
    refine ⟨by simp, fun m hm h => ?_⟩
    obtain ⟨h1, h2⟩ := best_lt r a
    have := h2 m hm
    have := h _ h1
    congr 1; omega
theorem cd_max (C : Cok X c) : CallR X (.builtin "max") (P1 c maxD) := by
  intro pins s σ H vs us Q I r h
  obtain ⟨F, x, dx, R, d, rfl, hs, hr, tx, e, q⟩ := h
  unfold maxD at e
  split at e
  · obtain ⟨l, hl, e⟩ := Option.bind_eq_some_iff.mp e
    obtain ⟨h1, h2⟩ := max_uniq e
    obtain ⟨a, xs, rfl, ha, ra⟩ := tx
    have ex := ra.ints hl
    subst ex
    refine cr_max C.calm pins s σ H _ us Q I r ⟨a, l, rfl, SqL.of ha, h1, fun m hm hy => ?_⟩
    cases h2 m hm hy
    exact Res.int q hs hr
  · obtain ⟨l, hl, e⟩ := Option.bind_eq_some_iff.mp e
    obtain ⟨h1, h2⟩ := max_uniq e
    simp only [Top, RelD] at tx
    obtain ⟨a, xs, rfl, ha, ra⟩ := tx
    have ex := ra.ints hl
    subst ex
    obtain ⟨its, rv, ht, _⟩ := I.tuple (show SqT X.K H a _ by rw [C.K]; exact sq hs ha)
    rw [Vals.ref1 r]
    refine max_tup (I.ok.hd C.calm) ht rv.ints h1 fun h' tk m t' hk hm hy => ⟨.int m, H, I.kept hk, ⟨_, rfl⟩, ?_⟩
    cases h2 m hm hy
    exact Res.int q hs hr
  · cases e
theorem cd_min (C : Cok X c) : CallR X (.builtin "min") (P1 c minD) := by
  intro pins s σ H vs us Q I r h
  obtain ⟨F, x, dx, R, d, rfl, hs, hr, tx, e, q⟩ := h
  unfold minD at e
  split at e
  · obtain ⟨l, hl, e⟩ := Option.bind_eq_some_iff.mp e
    obtain ⟨h1, h2⟩ := min_uniq e
    obtain ⟨a, xs, rfl, ha, ra⟩ := tx
    have ex := ra.ints hl
    subst ex
    refine cr_min C.calm pins s σ H _ us Q I r ⟨a, l, rfl, SqL.of ha, h1, fun m hm hy => ?_⟩
    cases h2 m hm hy
    exact Res.int q hs hr
  · obtain ⟨l, hl, e⟩ := Option.bind_eq_some_iff.mp e
    obtain ⟨h1, h2⟩ := min_uniq e
    simp only [Top, RelD] at tx
    obtain ⟨a, xs, rfl, ha, ra⟩ := tx
    have ex := ra.ints hl
    subst ex
    obtain ⟨its, rv, ht, _⟩ := I.tuple (show SqT X.K H a _ by rw [C.K]; exact sq hs ha)
    rw [Vals.ref1 r]
    refine min_tup (I.ok.hd C.calm) ht rv.ints h1 fun h' tk m t' hk hm hy => ⟨.int m, H, I.kept hk, ⟨_, rfl⟩, ?_⟩
    cases h2 m hm hy
    exact Res.int q hs hr
  · cases e
theorem cd_tuple (C : Cok X c) : CallR X (.type "tuple") (P1 c tupD) := by
  intro pins s σ H vs us Q I r h
  obtain ⟨F, x, dx, R, d, rfl, hs, hr, tx, e, q⟩ := h
  unfold tupD at e
  split at e
  · cases e
    obtain ⟨a, xs, rfl, ha, ra⟩ := tx
    exact call_tuple_of pins s σ H _ us Q I r ⟨a, xs, rfl, .inl ⟨SqL.of ha, Res.tup (show Res c F H R _ Q from q) hs hr ra⟩⟩
  · cases e
    simp only [Top, RelD] at tx
    obtain ⟨a, xs, rfl, ha, ra⟩ := tx
    refine call_tuple_of pins s σ H _ us Q I r ⟨a, xs, rfl, .inr ⟨by rw [C.K]; exact sq hs ha, q.here rfl hs hr ?_⟩⟩
    simp only [RelD]; exact ⟨a, xs, rfl, ha, ra⟩
  · cases e
theorem cd_list (C : Cok X c) : CallR X (.type "list") (P1 c listD) := by
  intro pins s σ H vs us Q I r h
  obtain ⟨F, x, dx, R, d, rfl, hs, hr, tx, e, q⟩ := h
  unfold listD at e
  split at e
  · cases e
    obtain ⟨a, xs, rfl, ha, ra⟩ := tx
    exact call_list_of pins s σ H _ us Q I r ⟨a, xs, rfl, .inl (SqL.of ha), ResG.lst q hs hr ra⟩
  · cases e
    simp only [Top, RelD] at tx
    obtain ⟨a, xs, rfl, ha, ra⟩ := tx
    exact call_list_of pins s σ H _ us Q I r ⟨a, xs, rfl, .inr (by rw [C.K]; exact sq hs ha), ResG.lst q hs hr ra⟩
  · cases e
end
end Pu
end

section
set_option autoImplicit false
set_option linter.all false
set_option maxRecDepth 100000
set_option maxHeartbeats 4000000
set_option Elab.async false
namespace Pu
open PySem PySem.Spec PyProof.Rows L2
section
variable {X : Cx} {c : Ct}
theorem neD_cases {x y d : D} (h : neD x y = some d) : (∃ ks vs, x = .dt ks vs ∧ y = .dt [] [] ∧ d = .bl (!ks.isEmpty)) ∨ ∃ b, eqD x y = some b ∧ d = .bl (!b) := by
  unfold neD at h
  split at h
  · rename_i ks vs
    cases h
    exact .inl ⟨_, _, rfl, rfl, rfl⟩
  · obtain ⟨b, e, eb⟩ := Option.map_eq_some_iff.mp h
    exact .inr ⟨b, e, eb.symm⟩
theorem pu_samePairs {P : Program} {w : World} {A : Around} {E : Value → Shared → Prop} {s : Shared} {nm : String} {a b : Addr} {oa ob : Obj} {es es' : Array DictEntry} {ep ep' : Nat} {Q : Bool → Shared → Prop} (ha : (a == sysModules) = false) (hb : (b == sysModules) = false) (hoa : s.heap.get? a = some oa) (hda : oa.data = .dict es ep) (hob : s.heap.get? b = some ob) (hdb : ob.data = .dict es' ep') (h0 : es'.size = 0) (h : Q (es.size == 0) s) :
    wpAny (model P w) A (Builtin.Dict.samePairs nm a b) Q E s := by
  unfold Builtin.Dict.samePairs Builtin.Dict.showsAll
  rw [if_neg (show ¬ (a == sysModules) = true by rw [ha]; exact Bool.false_ne_true), if_neg (show ¬ (b == sysModules) = true by rw [hb]; exact Bool.false_ne_true)]
  refine wpAny_bind (wpAny_pure (wpAny_bind (wpAny_pure ?_)))
  refine wpAny_bind (wpAny_dictEntries hoa hda ?_)
  dsimp only
  refine wpAny_bind (wpAny_dictEntries hob hdb ?_)
  by_cases hsz : es.size = 0
  · have h' : Q true s := by simpa [hsz] using h
    rw [if_neg (by rw [hsz, h0]; simp)]
    refine wpAny_bind (wpAny_dictEpoch hoa hda ?_)
    refine wpAny_bind ?_
    rw [Std.Legacy.Range.forIn_eq_forIn_range']
    simp only [Std.Legacy.Range.size, Nat.sub_zero, Nat.add_sub_cancel, Nat.div_one]
    rw [hsz]
    exact wpAny_pure (wpAny_pure h')
  · rw [if_pos (by rw [h0]; simpa using hsz)]
    have hbf : (es.size == 0) = false := by simpa using hsz
    rw [hbf] at h
    exact wpAny_bind (wpAny_rule (wpAny_pure h))
theorem od_ne (C : Cok X c) : OpR X (compareOp .NotEq) (P2 c fun _ => neD) := by
  intro pins s σ H x y v u Q I rx ry h
  obtain ⟨F, dx, dy, R, d, hs, hr, tx, ty, e, q⟩ := h
  rcases neD_cases e with ⟨ks, vs, rfl, rfl, rfl⟩ | ⟨b', e2, rfl⟩
  · obtain ⟨a, rfl, hd⟩ := tx
    obtain ⟨b, rfl, hd'⟩ := ty
    cases rx; cases ry
    obtain ⟨o1, es, ep, xs, us, n1, g1, k1, k2, k3, _, _, k4, k5, k6, k7, k8, k9, _⟩ := dt_heap C I hs hd
    obtain ⟨o2, es', ep', xs', us', n2, g2, l1, l2, l3, _, _, l4, l5, l6, l7, l8, l9, _⟩ := dt_heap C I hs hd'
    have hl : ks.length = xs.length := by
      have := congrArg List.length k1
      rw [toNKs_map] at this
      simpa using this
    have hl' : xs'.length = 0 := by
      have := congrArg List.length l1
      rw [toNKs_map] at this
      simpa using this.symm
    have hz : es.size = ks.length := by rw [← Array.length_toList, k9, List.length_map, hl]
    have hz' : es'.size = 0 := by rw [← Array.length_toList, l9, List.length_map, hl']
    refine wpAny_richCompare_same_room (op := .NotEq) g1.typeIs g2.typeIs PySem.F.slot_dict_ne (wpAny_call_entry PySem.F.slot_dict_ne g1.typeIs PySem.F.entry_dict_ne ?_ (PySem.F.args_dict_ne_2 _ _)) (by have := C.un; omega)
    show wpAny _ _ (Builtin.Dict.dictSlotArgs "__ne__" ⟨[.ref a, .ref b], []⟩ >>= _) _ _ s
    refine wpAny_bind ?_
    unfold Builtin.Dict.dictSlotArgs
    refine wpAny_bind (wpAny_notOrdered_dict g1.typeIs ?_)
    show wpAny _ _ (pure (Value.ref a, Value.ref b)) _ _ s
    refine wpAny_pure ?_
    refine wpAny_bind (wpAny_isInstance (T := "dict") g2.typeIs PySem.F.sub_dict_dict ?_)
    simp only [Bool.not_true, Bool.false_eq_true, if_false]
    refine wpAny_bind (wpAny_pure (wpAny_bind (wpAny_pure ?_)))
    refine wpAny_bind (pu_samePairs n1 n2 k6 k8 l6 l8 hz' ?_)
    refine wpAny_pure ⟨_, rfl, ?_, ?_⟩
    · exact fun x => nomatch x
    · have hb : ((es.size == 0) == false) = !ks.isEmpty := by rw [hz]; cases ks <;> rfl
      rw [hb]
      exact ⟨.bl (!ks.isEmpty), H, I, rfl, Res.bl q hs hr⟩
  · unfold eqD at e2
    split at e2
    · rename_i hz
      cases e2
      obtain ⟨p1, p2, l1, l2⟩ := eqOk_of hz
      obtain ⟨a1, a2⟩ := top_dp hs tx p1 l1
      obtain ⟨b1, b2⟩ := top_dp hs ty p2 l2
      refine op_neD (by have := C.un; omega) pins s σ H x y v u Q I rx ry ⟨toPy dx, toPy dy, by rw [C.K]; exact a1, by rw [C.K]; exact b1, a2, b2, ?_⟩
      rw [eqv_py dx dy p1 p2]
      exact Res.bl q hs hr
    · cases e2

def tyName : Nat → String
  | 0 => "NoneType" | 1 => "bool" | 2 => "int" | 3 => "str" | 4 => "tuple" | 5 => "list" | _ => "dict"
theorem tyx_of {F H : Hp} {d : D} {x : V} {t : Nat} (hs : Sub F H) (h : Top c F H d x) (e : tyD d = some t) (hdt : ∀ ks vs, d ≠ .dt ks vs) : TyX c.K H x (.type (tyName t)) := by
  cases d <;> simp only [tyD, Option.some.injEq, reduceCtorEq] at e
  · subst e; cases (show x = _ from h); exact .base .non
  · subst e; cases (show x = _ from h); exact .base (.bl _)
  · subst e; cases (show x = _ from h); exact .base (.int _)
  · subst e; cases (show x = _ ∧ _ from h).1; exact .base (.str _)
  · subst e
    simp only [Top, RelD] at h
    obtain ⟨a, xs, rfl, ha, _⟩ := h
    rcases sq hs ha with (ha | ⟨o, ha⟩) | ha
    · exact .base (.tup ha)
    · exact .fTuple ha
    · obtain ⟨o, its, n, ha, hc, _⟩ := ha; exact .kTuple ha hc
  · subst e
    obtain ⟨a, xs, rfl, ha, _⟩ := h
    exact .base (.lst ha)
  · exact absurd rfl (hdt _ _)
  · subst e
    simp only [Top, RelD] at h
    obtain ⟨a, xs, rfl, ha, _⟩ := h
    exact .base (.dK (hs _ _ ha))
def kInt (t : Nat) : kitB (tyName t) "int" = some ([1, 2].contains (min t 6)) := by
  match t with
  | 0 => decide +kernel
  | 1 => decide +kernel
  | 2 => decide +kernel
  | 3 => decide +kernel
  | 4 => decide +kernel
  | 5 => decide +kernel
  | n + 6 =>
    have : min (n + 6) 6 = 6 := by omega
    rw [this]
    show kitB "dict" "int" = _
    decide +kernel
def kBool (t : Nat) : kitB (tyName t) "bool" = some ([1].contains (min t 6)) := by
  match t with
  | 0 => decide +kernel
  | 1 => decide +kernel
  | 2 => decide +kernel
  | 3 => decide +kernel
  | 4 => decide +kernel
  | 5 => decide +kernel
  | n + 6 =>
    have : min (n + 6) 6 = 6 := by omega
    rw [this]
    show kitB "dict" "bool" = _
    decide +kernel
def kTupl (t : Nat) : kitB (tyName t) "tuple" = some ([4].contains (min t 6)) := by
  match t with
  | 0 => decide +kernel
  | 1 => decide +kernel
  | 2 => decide +kernel
  | 3 => decide +kernel
  | 4 => decide +kernel
  | 5 => decide +kernel
  | n + 6 =>
    have : min (n + 6) 6 = 6 := by omega
    rw [this]
    show kitB "dict" "tuple" = _
    decide +kernel
def kStr (t : Nat) : kitB (tyName t) "str" = some ([3].contains (min t 6)) := by
  match t with
  | 0 => decide +kernel
  | 1 => decide +kernel
  | 2 => decide +kernel
  | 3 => decide +kernel
  | 4 => decide +kernel
  | 5 => decide +kernel
  | n + 6 =>
    have : min (n + 6) 6 = 6 := by omega
    rw [this]
    show kitB "dict" "str" = _
    decide +kernel
def kLst (t : Nat) : kitB (tyName t) "list" = some ([5].contains (min t 6)) := by
  match t with
  | 0 => decide +kernel
  | 1 => decide +kernel
  | 2 => decide +kernel
  | 3 => decide +kernel
  | 4 => decide +kernel
  | 5 => decide +kernel
  | n + 6 =>
    have : min (n + 6) 6 = 6 := by omega
    rw [this]
    show kitB "dict" "list" = _
    decide +kernel
theorem tyD_le {d : D} {t : Nat} (h : tyD d = some t) : min t 6 = t := by
  cases d <;> simp only [tyD, Option.some.injEq, reduceCtorEq] at h <;> (subst h; rfl)
/-- isinstance(x, T) -/
def PIs (c : Ct) (T : String) (f : D → Option D) : List V → Hp → VK → Prop := fun vs H Q => ∃ F x dx R d, vs = [x, .ty T] ∧ Sub F H ∧ RowR c F H R ∧ Top c F H dx x ∧ f dx = some d ∧ Res c F H R d Q
theorem cd_isi (C : Cok X c) {T : String} {l : List Nat} (hk : ∀ t, kitB (tyName t) T = some (l.contains (min t 6))) : CallR X (.builtin "isinstance") (PIs c T (isA l)) := by
  intro pins s σ H vs us Q I r h
  obtain ⟨F, x, dx, R, d, rfl, hs, hr, tx, e, q⟩ := h
  obtain ⟨t, ht, rfl⟩ := Option.map_eq_some_iff.mp e
  have hkt := hk t
  rw [tyD_le ht] at hkt
  by_cases hdt : ∃ ks vs, dx = .dt ks vs
  · obtain ⟨ks, vs, rfl⟩ := hdt
    cases ht
    obtain ⟨a, rfl, ha⟩ := tx
    obtain ⟨u1, u2, rfl, r1, r2⟩ := vals2 r
    cases (show u1 = Value.ref a from r1)
    have e2 := ClsV.eq (.ty T) r2
    subst e2
    obtain ⟨o, es, ep, xs, us, h1, h2, _⟩ := ha
    exact PySem.W.kia_one PySem.W.kitx_dict I.kIn ⟨o, (I.hok a _ h1).1, h2.1⟩ (kit_ty hkt) (fun z => nomatch z) fun tk => ⟨.bl _, H, I.tok tk, rfl, q.here hs hr (by simp only [RelD])⟩
  refine call_isi pins s σ H _ us Q I r ⟨x, .ty T, _, _, l.contains t, rfl, .ty T, by rw [C.K]; exact tyx_of hs tx ht fun ks vs e => hdt ⟨ks, vs, e⟩, kit_ty hkt, q.here hs hr (by simp only [RelD])⟩
/-- isinstance(x, (tuple, list)), the pair just laid -/
def PIt (c : Ct) : List V → Hp → VK → Prop := fun vs H Q => ∃ F x p dx R d, vs = [x, .ref p] ∧ H p = some (.tup [.ty "tuple", .ty "list"]) ∧ Sub F H ∧ RowR c F H R ∧ Top c F H dx x ∧ isTL dx = some d ∧ Res c F H R d Q
theorem cd_isiT (C : Cok X c) : CallR X (.builtin "isinstance") (PIt c) := by
  intro pins s σ H vs us Q I r h
  obtain ⟨F, x, p, dx, R, d, rfl, hp, hs, hr, tx, e, q⟩ := h
  have hdt : (∀ ks vs, dx ≠ .dt ks vs) ∧ isA [4, 5] dx = some d := by
    cases dx <;> first | exact ⟨(by intro ks vs z; cases z), e⟩ | (exact absurd (show (none : Option D) = some d from e) (by simp))
  replace e := hdt.2
  obtain ⟨t, ht, rfl⟩ := Option.map_eq_some_iff.mp e
  have h1 := kTupl t
  have h2 := kLst t
  rw [tyD_le ht] at h1 h2
  refine call_isiT pins s σ H _ us Q I r ⟨x, p, _, _, _, [4, 5].contains t, rfl, hp, .cons (.ty _) (.cons (.ty _) .nil), by rw [C.K]; exact tyx_of hs tx ht hdt.1, ?_, q.here hs hr (by simp only [RelD])⟩
  refine kitAny_cons (kit_ty h1) (fun hb => kitAny_cons (kit_ty h2) (fun hb2 => ?_) fun hb2 => ?_) fun hb => ?_
  · have e : [4, 5].contains t = false := by
      simp only [List.contains_cons, List.contains_nil, Bool.or_false] at hb hb2 ⊢
      rw [hb, hb2]; rfl
    rw [e]; exact kitAny_nil
  · simp only [List.contains_cons, List.contains_nil, Bool.or_false] at hb hb2 ⊢
    rw [hb2]; simp
  · simp only [List.contains_cons, List.contains_nil, Bool.or_false] at hb ⊢
    rw [hb]; simp
end
end Pu
end

section
set_option autoImplicit false
set_option linter.all false
set_option maxRecDepth 100000
set_option maxHeartbeats 4000000
set_option Elab.async false
namespace Pu
open PySem PySem.Spec PyProof.Rows L2

theorem cmpI_swap (i j : Int) : compare j i = (compare i j).swap := by
  have h1 := (cmpI (i := i) (j := j))
  have h2 := (cmpI (i := j) (j := i))
  cases ha : compare i j <;> cases hb : compare j i <;> rw [ha] at h1 <;> rw [hb] at h2 <;> first
    | rfl
    | (exfalso
       obtain ⟨e1, e2, e3⟩ := h1
       obtain ⟨f1, f2, f3⟩ := h2
       simp at e1 e2 e3 f1 f2 f3
       omega)
mutual
theorem cmp_swap : ∀ x y : D, ordOk x y = true → cmpD y x = (cmpD x y).swap
  | .int i, y, h => by
    cases y <;> simp only [ordOk, Bool.false_eq_true] at h
    simp only [cmpD]
    exact cmpI_swap _ _
  | .tup xs, y, h => by
    cases y <;> simp only [ordOk, Bool.false_eq_true] at h
    simp only [cmpD]
    exact cmps_swap _ _ h
  | .non, y, h => by simp [ordOk] at h
  | .bl _, y, h => by simp [ordOk] at h
  | .str _, y, h => by simp [ordOk] at h
  | .lst _, y, h => by simp [ordOk] at h
  | .dt _ _, y, h => by simp [ordOk] at h
  | .dk _ _, y, h => by simp [ordOk] at h
  | .scr _, y, h => by simp [ordOk] at h
  | .row, y, h => by simp [ordOk] at h
  | .fn _, y, h => by simp [ordOk] at h
  | .err _ _, y, h => by simp [ordOk] at h
  | .ntp _, y, h => by simp [ordOk] at h
theorem cmps_swap : ∀ xs ys : List D, ordOks xs ys = true → cmpDs ys xs = (cmpDs xs ys).swap
  | [], [], _ => rfl
  | [], _ :: _, _ => rfl
  | _ :: _, [], _ => rfl
  | x :: xs, y :: ys, h => by
    simp only [ordOks, Bool.and_eq_true] at h
    simp only [cmpDs]
    rw [cmp_swap x y h.1]
    cases cmpD x y with
    | eq => exact cmps_swap xs ys h.2
    | lt => rfl
    | gt => rfl
end
theorem cmpI_trans {i j k : Int} (h1 : compare i j ≠ .gt) (h2 : compare j k ≠ .gt) : compare i k ≠ .gt ∧ (compare i k = .eq → compare i j = .eq ∧ compare j k = .eq) := by
  have a1 := (cmpI (i := i) (j := j))
  have a2 := (cmpI (i := j) (j := k))
  have a3 := (cmpI (i := i) (j := k))
  have b1 : i ≤ j := by
    have := a1.2.1
    cases hc : compare i j <;> rw [hc] at this h1 <;> first | exact absurd rfl h1 | exact of_decide_eq_true this.symm
  have b2 : j ≤ k := by
    have := a2.2.1
    cases hc : compare j k <;> rw [hc] at this h2 <;> first | exact absurd rfl h2 | exact of_decide_eq_true this.symm
  have b3 : (compare i k != .gt) = true := by rw [a3.2.1]; exact decide_eq_true (by omega)
  refine ⟨by simpa using b3, fun h => ?_⟩
  have e : i = k := by
    have := a3.1
    rw [h] at this
    exact eq_of_beq (this.symm)
  have e1 : i = j := by omega
  have e2 : j = k := by omega
  subst e1; subst e2
  exact ⟨h, h⟩
mutual
theorem eqB_eq : ∀ x y : D, ordOk x y = true → eqB x y = true → x = y
  | .int i, y, h, e => by
    cases y <;> simp only [ordOk, Bool.false_eq_true] at h
    simp only [eqB] at e
    rw [eq_of_beq e]
  | .tup xs, y, h, e => by
    cases y <;> simp only [ordOk, Bool.false_eq_true] at h
    simp only [eqB] at e
    rw [eqBs_eq _ _ h e]
  | .non, y, h, _ => by simp [ordOk] at h
  | .bl _, y, h, _ => by simp [ordOk] at h
  | .str _, y, h, _ => by simp [ordOk] at h
  | .lst _, y, h, _ => by simp [ordOk] at h
  | .dt _ _, y, h, _ => by simp [ordOk] at h
  | .dk _ _, y, h, _ => by simp [ordOk] at h
  | .scr _, y, h, _ => by simp [ordOk] at h
  | .row, y, h, _ => by simp [ordOk] at h
  | .fn _, y, h, _ => by simp [ordOk] at h
  | .err _ _, y, h, _ => by simp [ordOk] at h
  | .ntp _, y, h, _ => by simp [ordOk] at h
theorem eqBs_eq : ∀ xs ys : List D, ordOks xs ys = true → eqBs xs ys = true → xs = ys
  | [], [], _, _ => rfl
  | [], _ :: _, _, e => by simp [eqBs] at e
  | _ :: _, [], _, e => by simp [eqBs] at e
  | x :: xs, y :: ys, h, e => by
    simp only [ordOks, Bool.and_eq_true] at h
    simp only [eqBs, Bool.and_eq_true] at e
    rw [eqB_eq x y h.1 e.1, eqBs_eq xs ys h.2 e.2]
end
theorem cmp_same {x y : D} (h : ordOk x y = true) (e : cmpD x y = .eq) : x = y := by
  refine eqB_eq x y h ?_
  rw [← cmp_eq x y h, e]; rfl
mutual
theorem cmp_trans : ∀ x y z : D, ordOk x y = true → ordOk y z = true → ordOk x z = true → cmpD x y ≠ .gt → cmpD y z ≠ .gt → cmpD x z ≠ .gt ∧ (cmpD x z = .eq → cmpD x y = .eq ∧ cmpD y z = .eq)
  | .int i, y, z, h1, h2, h3, a, b => by
    cases y <;> simp only [ordOk, Bool.false_eq_true] at h1
    cases z <;> simp only [ordOk, Bool.false_eq_true] at h2
    simp only [cmpD] at a b ⊢
    exact cmpI_trans a b
  | .tup xs, y, z, h1, h2, h3, a, b => by
    cases y <;> simp only [ordOk, Bool.false_eq_true] at h1
    cases z <;> simp only [ordOk, Bool.false_eq_true] at h2
    simp only [ordOk] at h3
    simp only [cmpD] at a b ⊢
    exact cmps_trans _ _ _ h1 h2 h3 a b
  | .non, y, z, h, _, _, _, _ => by simp [ordOk] at h
  | .bl _, y, z, h, _, _, _, _ => by simp [ordOk] at h
  | .str _, y, z, h, _, _, _, _ => by simp [ordOk] at h
  | .lst _, y, z, h, _, _, _, _ => by simp [ordOk] at h
  | .dt _ _, y, z, h, _, _, _, _ => by simp [ordOk] at h
  | .dk _ _, y, z, h, _, _, _, _ => by simp [ordOk] at h
  | .scr _, y, z, h, _, _, _, _ => by simp [ordOk] at h
  | .row, y, z, h, _, _, _, _ => by simp [ordOk] at h
  | .fn _, y, z, h, _, _, _, _ => by simp [ordOk] at h
  | .err _ _, y, z, h, _, _, _, _ => by simp [ordOk] at h
  | .ntp _, y, z, h, _, _, _, _ => by simp [ordOk] at h
theorem cmps_trans : ∀ xs ys zs : List D, ordOks xs ys = true → ordOks ys zs = true → ordOks xs zs = true → cmpDs xs ys ≠ .gt → cmpDs ys zs ≠ .gt → cmpDs xs zs ≠ .gt ∧ (cmpDs xs zs = .eq → cmpDs xs ys = .eq ∧ cmpDs ys zs = .eq)
  | [], [], [], _, _, _, _, _ => by simp [cmpDs]
  | [], [], _ :: _, _, _, _, _, _ => by simp [cmpDs]
  | [], _ :: _, [], _, _, _, _, h => by simp [cmpDs] at h
  | [], _ :: _, _ :: _, _, _, _, _, _ => by simp [cmpDs]
  | _ :: _, [], _, _, _, _, h, _ => by simp [cmpDs] at h
  | _ :: _, _ :: _, [], _, _, _, _, h => by simp [cmpDs] at h
  | x :: xs, y :: ys, z :: zs, h1, h2, h3, a, b => by
    simp only [ordOks, Bool.and_eq_true] at h1 h2 h3
    simp only [cmpDs] at a b ⊢
    cases hxy : cmpD x y with
    | gt => rw [hxy] at a; exact absurd rfl a
    | lt =>
      cases hyz : cmpD y z with
      | gt => rw [hyz] at b; exact absurd rfl b
      | lt =>
        obtain ⟨t1, t2⟩ := cmp_trans x y z h1.1 h2.1 h3.1 (by rw [hxy]; simp) (by rw [hyz]; simp)
        cases hxz : cmpD x z with
        | gt => exact absurd hxz t1
        | lt => simp
        | eq => have := (t2 hxz).1; rw [hxy] at this; cases this
      | eq =>
        obtain ⟨t1, t2⟩ := cmp_trans x y z h1.1 h2.1 h3.1 (by rw [hxy]; simp) (by rw [hyz]; simp)
        cases hxz : cmpD x z with
        | gt => exact absurd hxz t1
        | lt => simp
        | eq => have := (t2 hxz).1; rw [hxy] at this; cases this
    | eq =>
      rw [hxy] at a
      cases hyz : cmpD y z with
      | gt => rw [hyz] at b; exact absurd rfl b
      | lt =>
        obtain ⟨t1, t2⟩ := cmp_trans x y z h1.1 h2.1 h3.1 (by rw [hxy]; simp) (by rw [hyz]; simp)
        cases hxz : cmpD x z with
        | gt => exact absurd hxz t1
        | lt => simp
        | eq => have := (t2 hxz).2; rw [hyz] at this; cases this
      | eq =>
        rw [hyz] at b
        have e : cmpD x z = .eq := by
          rw [cmp_same h1.1 hxy]; exact hyz
        rw [e]
        exact cmps_trans xs ys zs h1.2 h2.2 h3.2 a b
end

theorem le_total {x y : D} (h : ordOk x y = true) : leD x y = true ∨ leD y x = true := by
  unfold leD
  rw [cmp_swap x y h]
  cases cmpD x y <;> simp
theorem le_trans {x y z : D} (h1 : ordOk x y = true) (h2 : ordOk y z = true) (h3 : ordOk x z = true) (a : leD x y = true) (b : leD y z = true) : leD x z = true := by
  unfold leD at a b ⊢
  have := (cmp_trans x y z h1 h2 h3 (by simpa using a) (by simpa using b)).1
  simpa using this
theorem le_anti {x y : D} (h : ordOk x y = true) (a : leD x y = true) (b : leD y x = true) : x = y := by
  unfold leD at a b
  rw [cmp_swap x y h] at b
  refine cmp_same h ?_
  cases hc : cmpD x y <;> rw [hc] at a b <;> simp_all [Ordering.swap]
def AllOrd (xs : List D) : Prop := ∀ x ∈ xs, ∀ y ∈ xs, ordOk x y = true
theorem ins_perm (x : D) : ∀ ys : List D, (insD x ys).Perm (x :: ys)
  | [] => List.Perm.refl _
  | y :: ys => by
    unfold insD
    split
    · exact List.Perm.refl _
    · exact ((ins_perm x ys).cons y).trans (List.Perm.swap x y ys)
theorem isort_perm : ∀ xs : List D, (isort xs).Perm xs
  | [] => List.Perm.refl _
  | x :: xs => (ins_perm x _).trans ((isort_perm xs).cons x)
theorem ins_sorted {x : D} : ∀ {ys : List D}, AllOrd (x :: ys) → ys.Pairwise (fun a b => leD a b = true) → (insD x ys).Pairwise fun a b => leD a b = true
  | [], _, _ => List.pairwise_singleton _ _
  | y :: ys, h, s => by
    unfold insD
    obtain ⟨s1, s2⟩ := List.pairwise_cons.mp s
    have hx : ∀ z ∈ y :: ys, ordOk x z = true := fun z hz => h x List.mem_cons_self z (List.mem_cons_of_mem _ hz)
    split
    · rename_i hle
      refine List.pairwise_cons.mpr ⟨fun z hz => ?_, s⟩
      rcases List.mem_cons.mp hz with rfl | hz
      · exact hle
      · exact le_trans (hx y List.mem_cons_self) (h y (by simp) z (by simp [hz])) (hx z (List.mem_cons_of_mem _ hz)) hle (s1 z hz)
    · rename_i hle
      refine List.pairwise_cons.mpr ⟨fun z hz => ?_, ins_sorted (fun a ha b hb => h a ?_ b ?_) s2⟩
      · rcases List.mem_cons.mp ((ins_perm x ys).mem_iff.mp hz) with rfl | hz
        · rcases le_total (h y (by simp) z (by simp)) with k | k
          · exact k
          · exact absurd k hle
        · exact s1 z hz
      · rcases List.mem_cons.mp ha with rfl | ha
        · simp
        · simp [ha]
      · rcases List.mem_cons.mp hb with rfl | hb
        · simp
        · simp [hb]
theorem isort_sorted : ∀ {xs : List D}, AllOrd xs → (isort xs).Pairwise fun a b => leD a b = true
  | [], _ => List.Pairwise.nil
  | x :: xs, h => by
    refine ins_sorted (fun a ha b hb => h a ?_ b ?_) (isort_sorted fun a ha b hb => h a (List.mem_cons_of_mem _ ha) b (List.mem_cons_of_mem _ hb))
    · rcases List.mem_cons.mp ha with rfl | ha
      · simp
      · exact List.mem_cons_of_mem _ ((isort_perm xs).mem_iff.mp ha)
    · rcases List.mem_cons.mp hb with rfl | hb
      · simp
      · exact List.mem_cons_of_mem _ ((isort_perm xs).mem_iff.mp hb)
theorem sorted_uniq : ∀ {xs ys : List D}, AllOrd xs → xs.Perm ys → xs.Pairwise (fun a b => leD a b = true) → ys.Pairwise (fun a b => leD a b = true) → xs = ys
  | [], ys, _, p, _, _ => (List.nil_perm.mp p).symm ▸ rfl
  | x :: xs, [], _, p, _, _ => by simpa using p.length_eq
  | x :: xs, y :: ys, h, p, s, t => by
    obtain ⟨s1, s2⟩ := List.pairwise_cons.mp s
    obtain ⟨t1, t2⟩ := List.pairwise_cons.mp t
    have hy : y ∈ x :: xs := p.mem_iff.mpr List.mem_cons_self
    have hx : x ∈ y :: ys := p.mem_iff.mp List.mem_cons_self
    have e : x = y := by
      rcases List.mem_cons.mp hy with e | hy'
      · exact e.symm
      · rcases List.mem_cons.mp hx with e | hx'
        · exact e
        · exact le_anti (h x List.mem_cons_self y hy) (s1 y hy') (t1 x hx')
    subst e
    rw [sorted_uniq (fun a ha b hb => h a (List.mem_cons_of_mem _ ha) b (List.mem_cons_of_mem _ hb)) (List.Perm.cons_inv p) s2 t2]
end Pu
end

section
set_option autoImplicit false
set_option linter.all false
set_option maxRecDepth 100000
set_option maxHeartbeats 4000000
set_option Elab.async false
namespace Pu
open PySem PySem.Spec PyProof.Rows L2

mutual
theorem plain_ord : ∀ d : D, ordOk d d = true → plain d = true
  | .int _, _ => rfl
  | .tup xs, h => by
    simp only [ordOk] at h
    simp only [plain]
    exact plains_ord xs h
  | .non, h => by simp [ordOk] at h
  | .bl _, h => by simp [ordOk] at h
  | .str _, h => by simp [ordOk] at h
  | .lst _, h => by simp [ordOk] at h
  | .dt _ _, h => by simp [ordOk] at h
  | .dk _ _, h => by simp [ordOk] at h
  | .scr _, h => by simp [ordOk] at h
  | .row, h => by simp [ordOk] at h
  | .fn _, h => by simp [ordOk] at h
  | .err _ _, h => by simp [ordOk] at h
  | .ntp _, h => by simp [ordOk] at h
theorem plains_ord : ∀ xs : List D, ordOks xs xs = true → plains xs = true
  | [], _ => rfl
  | x :: xs, h => by
    simp only [ordOks, Bool.and_eq_true] at h
    simp only [plains, Bool.and_eq_true]
    exact ⟨plain_ord x h.1, plains_ord xs h.2⟩
end
section
variable {X : Cx} {c : Ct} {pins : List (Addr × Obj)} {σ : L2.St} {H : Hp} {s : Shared}
/-- the turns of a tuple's comparison -/
theorem katlex (C : Cok X c) (I : Inv X pins σ H s) {F : Hp} (hs : Sub F H) {A : Around} (hu : A.units + 20 < cLine) {b fin : Bool} {Q : Bool → Shared → Prop} : ∀ (ds es : List D) (xs ys : List V) (us ws : List Value) (i : Nat), RelDs c F ds xs → RelDs c F es ys → Vals xs us → Vals ys ws →
    plains ds = true → plains es = true → ordOks ds es = true → deps ds ≤ 20 → deps es ≤ 20 → fin = decide (ds.length < es.length) → (b = true → i = 0 → (∀ d ∈ ds.head?, ∃ m, d = .int m) ∧ ∀ d ∈ es.head?, ∃ m, d = .int m) →
    Q (cmpDs ds es == .lt) s → PySem.W.KatLex X.prog X.w A b fin Q (us.zip ws) i s
  | [], [], _, _, us, ws, i, rd, re, ru, rw', _, _, _, _, _, hf, _, q => by
    rw [List.eq_nil_of_length_eq_zero (rd.length : _ = 0)] at ru
    cases ru
    exact PySem.W.kat_nil (by rw [hf]; exact q)
  | [], e :: es, _, _, us, ws, i, rd, re, ru, rw', _, _, _, _, _, hf, _, q => by
    rw [List.eq_nil_of_length_eq_zero (rd.length : _ = 0)] at ru
    cases ru
    refine PySem.W.kat_nil ?_
    have e1 : (cmpDs [] (e :: es) == Ordering.lt) = decide (([] : List D).length < (e :: es).length) := by simp only [cmpDs]; rfl
    rw [hf, ← e1]; exact q
  | d :: ds, [], _, _, us, ws, i, rd, re, ru, rw', _, _, _, _, _, hf, _, q => by
    rw [List.eq_nil_of_length_eq_zero (re.length : _ = 0)] at rw'
    cases rw'
    rw [List.zip_nil_right]
    refine PySem.W.kat_nil ?_
    have e1 : (cmpDs (d :: ds) [] == Ordering.lt) = decide ((d :: ds).length < ([] : List D).length) := by simp only [cmpDs]; rfl
    rw [hf, ← e1]; exact q
  | d :: ds, e :: es, [], _, _, _, _, rd, _, _, _, _, _, _, _, _, _, _, _ => by simp only [RelDs] at rd
  | d :: ds, e :: es, _ :: _, [], _, _, _, _, re, _, _, _, _, _, _, _, _, _, _ => by simp only [RelDs] at re
  | d :: ds, e :: es, x :: xs, y :: ys, us, ws, i, rd, re, ru, rw', pd, pe, ho, hd, he, hf, hb, q => by
    cases ru with
    | cons u1 u2 =>
      cases rw' with
      | cons w1 w2 =>
        rename_i u us w ws
        simp only [RelDs] at rd re
        simp only [plains, Bool.and_eq_true] at pd pe
        simp only [ordOks, Bool.and_eq_true] at ho
        simp only [deps] at hd he
        have hd1 : dep d ≤ 20 := by omega
        have he1 : dep e ≤ 20 := by omega
        have hc := cmp_eq d e ho.1
        rw [List.zip_cons_cons]
        refine PySem.W.kat_cons (rel_eqAt C I hs rd.1 re.1 u1 w1 pd.1 pe.1 (by omega) X.prog X.w _ _ ?_)
        refine PySem.W.kat_go (fun h1 => ?_) (fun h1 => ?_)
        · rw [h1] at hc
          have hc : cmpD d e = .eq := by simpa using hc
          refine PySem.W.kat_yes (katlex C I hs hu ds es xs ys us ws (i + 1) rd.2 re.2 u2 w2 pd.2 pe.2 ho.2 (by omega) (by omega) (by rw [hf]; simp) (fun _ z => by cases z) ?_)
          simpa only [cmpDs, hc] using q
        · rw [h1] at hc
          have q' : Q (cmpD d e == .lt) s := by
            have e1 : (cmpDs (d :: ds) (e :: es) == .lt) = (cmpD d e == .lt) := by
              simp only [cmpDs]
              cases hx : cmpD d e with
              | eq => rw [hx] at hc; cases hc
              | lt => rfl
              | gt => rfl
            rw [e1] at q; exact q
          refine PySem.W.kat_no ?_
          by_cases hz : b = true ∧ i = 0
          · obtain ⟨rfl, rfl⟩ := hz
            obtain ⟨k1, k2⟩ := hb rfl rfl
            obtain ⟨m, rfl⟩ := k1 d (by simp)
            obtain ⟨n, rfl⟩ := k2 e (by simp)
            cases (show x = _ from rd.1)
            cases (show y = _ from re.1)
            obtain ⟨t1, rfl⟩ := u1
            obtain ⟨t2, rfl⟩ := w1
            refine oneLt_int ?_
            rw [← (cmpI (i := m) (j := n)).2.2]
            exact q'
          · have e0 : (b && i == 0) = false := by
              cases b with
              | false => rfl
              | true =>
                have : i ≠ 0 := fun z => hz ⟨rfl, z⟩
                simp [this]
            rw [e0]
            have r := rel_ord C I hs true 20 d e x y u w A hd1 rd.1 re.1 u1 w1 pd.1 pe.1 ho.1 hu
            rw [if_pos rfl] at r
            exact PySem.W.kat_one _ _ (r X.prog X.w _ _ q')

theorem ordOk_of {xs : List D} (h : AllOrd xs) {x : D} (hx : x ∈ xs) : plain x = true := plain_ord x (h x hx x hx)
/-- what the items of a list stand for -/
structure Stands (c : Ct) (F : Hp) (xs : List D) (vs : List Value) (k : Value → D) : Prop where
  map : xs = vs.map k
  rel : ∀ v ∈ vs, ∃ u, RelV u v ∧ RelD c F (k v) u
theorem deps_mem {xs : List D} {n : Nat} (h : deps xs ≤ n) {x : D} (hx : x ∈ xs) : dep x ≤ n := by
  obtain ⟨j, hj⟩ := List.mem_iff_getElem?.mp hx
  exact deps_get h j x hj
/-- tuples of one kind may be sorted -/
theorem sortable (C : Cok X c) (I : Inv X pins σ H s) {F : Hp} (hs : Sub F H) {xs : List D} {vs : List Value} {k : Value → D} (S : Stands c F xs vs k) (ho : AllOrd xs) (hd : deps xs ≤ 20) (h2 : 2 ≤ vs.length) (t : Nat) (ht : t = 2 ∨ t = 3) (hk : ∀ x ∈ xs, sk1 x = t)
    {h₁ : Heap} {a : Addr} {tk : Nat} {A : Around} (keep : ∀ b o, s.heap.get? b = some o → b ≠ a ∧ h₁.get? b = some o) (hu : A.units + 20 < cLine) :
    SrtO.SortableO X.prog X.w A { s with heap := h₁, toks := tk } a vs fun v u => cmpD (k v) (k u) == .lt := by
  intro h' kp
  have I' : Inv X pins σ H { s with heap := h', toks := tk } := I.kept fun b o e => kp b o (keep b o e).1 (keep b o e).2
  have hmem : ∀ v ∈ vs, k v ∈ xs := fun v hv => by rw [S.map]; exact List.mem_map_of_mem hv
  -- each item's tuple
  have tup : ∀ v ∈ vs, ∃ (ds : List D) (p : Addr) (ys : List V) (its : List Value), k v = .tup ds ∧ v = .ref p ∧ RelDs c F ds ys ∧ Vals ys its ∧ IsTup h' p its.toArray := fun v hv => by
    obtain ⟨u, ru, rd⟩ := S.rel v hv
    have hkk := hk _ (hmem v hv)
    cases hkv : k v <;> rw [hkv] at hkk rd <;> first
      | (simp only [sk1] at hkk; omega)
      | skip
    rename_i ds
    simp only [RelD] at rd
    obtain ⟨p, ys, rfl, hp, ry⟩ := rd
    cases ru
    obtain ⟨its, rv, it, _⟩ := I'.tuple (show SqT X.K H p ys by rw [C.K]; exact sq hs hp)
    exact ⟨ds, p, ys, its, rfl, rfl, ry, rv, it⟩
  -- the firsts
  have firsts : ∀ l : List Value, (∀ v ∈ l, v ∈ vs) → ∃ fs : List Value, PySem.W.KatTups h' l fs ∧ fs.length = l.length ∧ ∀ f ∈ fs, PySem.W.Looks (model X.prog X.w) h' (typeOf f) (.type (if t = 2 then "int" else "tuple")) := by
    intro l
    induction l with
    | nil => intro _; exact ⟨[], PySem.W.KatTups.nil, rfl, fun f hf => by cases hf⟩
    | cons v l ih =>
      intro hl
      obtain ⟨fs, f1, f2, f3⟩ := ih fun u hu => hl u (List.mem_cons_of_mem _ hu)
      have hv := hl v List.mem_cons_self
      obtain ⟨ds, p, ys, its, e1, rfl, ry, rv, o, ho', hc, n, hda⟩ := tup v hv
      have hkk := hk _ (hmem _ hv)
      rw [e1] at hkk
      cases ds with
      | nil => simp only [sk1] at hkk; omega
      | cons d ds =>
        cases ys with
        | nil => simp only [RelDs] at ry
        | cons y ys =>
          cases rv with
          | cons r1 r2 =>
            rename_i f its
            simp only [RelDs] at ry
            refine ⟨f :: fs, PySem.W.KatTups.cons ho' hc hda (by simp) f1, by simp [f2], fun g hg => ?_⟩
            rcases List.mem_cons.mp hg with rfl | hg
            · cases d <;> first
                | (simp only [sk1] at hkk; omega)
                | skip
              · simp only [sk1] at hkk
                subst hkk
                cases (show y = _ from ry.1)
                obtain ⟨tt, rfl⟩ := r1
                exact PySem.W.Looks.now
              · simp only [sk1] at hkk
                subst hkk
                have rd := ry.1
                simp only [RelD] at rd
                obtain ⟨q, zs, rfl, hq, rz⟩ := rd
                cases r1
                obtain ⟨its2, rv2, ⟨o2, ho2, hc2, _⟩, _⟩ := I'.tuple (show SqT X.K H q zs by rw [C.K]; exact sq hs hq)
                have hl : PySem.W.Looks (model X.prog X.w) h' (typeOf (.ref q)) o2.cls := (PySem.W.Looks.ld ho2).andThen .now
                rw [hc2] at hl
                exact hl
            · exact f3 g hg
  obtain ⟨fs, f1, f2, f3⟩ := firsts vs fun v hv => hv
  refine ⟨tuples' (Value.type (if t = 2 then "int" else "tuple") != Value.type "tuple"), fun Q E hq => PySem.W.kat_kind f1 (by omega) f3 (by rcases ht with rfl | rfl <;> rfl) hq, fun p q hp hq => ?_⟩
  obtain ⟨ds, a1, ys, its, e1, v1, ry, rv, o1, g1, hc1, n1, d1⟩ := tup p.1 hp
  obtain ⟨es, a2, zs, jts, e2, v2, rz, rw', o2, g2, hc2, n2, d2⟩ := tup q.1 hq
  have m1 := hmem _ hp
  have m2 := hmem _ hq
  have hoo := ho _ m1 _ m2
  have hp1 := ordOk_of ho m1
  have hp2 := ordOk_of ho m2
  have hd1 := deps_mem hd m1
  have hd2 := deps_mem hd m2
  have k1 := hk _ m1
  have k2 := hk _ m2
  show wpAny (model X.prog X.w) A (keyLt' _ p.1 q.1) (fun r s' => s' = _ ∧ r = (cmpD (k p.1) (k q.1) == .lt)) (fun _ _ => False) _
  rw [e1, e2]
  rw [e1] at hoo hp1 hd1 k1 m1
  rw [e2] at hoo hp2 hd2 k2 m2
  simp only [ordOk] at hoo
  simp only [plain] at hp1 hp2
  simp only [dep] at hd1 hd2
  rw [v1, v2]
  refine PySem.W.kat_lt g1 d1 g2 d2 ?_
  have hz : decide (its.toArray.size < jts.toArray.size) = decide (ds.length < es.length) := by
    have l1 := rv.length
    have l2 := rw'.length
    have l3 := ry.length
    have l4 := rz.length
    simp only [List.size_toArray]
    rw [← l1, ← l2, l3, l4]
  rw [hz]
  refine katlex C I' hs hu ds es ys zs its jts 0 ry rz rv rw' hp1 hp2 hoo (by omega) (by omega) rfl (fun hb _ => ?_) ⟨rfl, by simp only [cmpD]⟩
  have t2 : t = 2 := by
    rcases ht with rfl | rfl
    · rfl
    · simp at hb
  subst t2
  refine ⟨fun d hd => ?_, fun d hd => ?_⟩
  · cases ds with
    | nil => cases hd
    | cons d0 ds =>
      simp at hd; subst hd
      cases d0 <;> simp only [sk1] at k1 <;> first | exact ⟨_, rfl⟩ | omega
  · cases es with
    | nil => cases hd
    | cons d0 ds =>
      simp at hd; subst hd
      cases d0 <;> simp only [sk1] at k2 <;> first | exact ⟨_, rfl⟩ | omega
end
end Pu
end

section
set_option autoImplicit false
set_option linter.all false
set_option maxRecDepth 100000
set_option maxHeartbeats 4000000
set_option Elab.async false
namespace Pu
open PySem PySem.Spec PyProof.Rows L2
section
variable {X : Cx} {c : Ct} {pins : List (Addr × Obj)} {σ : L2.St} {H : Hp} {s : Shared}
mutual
theorem rel_uniq (C : Cok X c) (I : Inv X pins σ H s) {F : Hp} (hs : Sub F H) : ∀ (d e : D) (u : V), ordOk d e = true → RelD c F d u → RelD c F e u → d = e
  | .int i, e, u, h, r, q => by
    cases e <;> simp only [ordOk, Bool.false_eq_true] at h
    cases (show u = _ from r)
    cases (show V.int i = _ from q)
    rfl
  | .tup ds, e, u, h, r, q => by
    cases e <;> simp only [ordOk, Bool.false_eq_true] at h
    simp only [RelD] at r q
    obtain ⟨a, xs, rfl, h1, h2⟩ := r
    obtain ⟨b, ys, e, h3, h4⟩ := q
    cases e
    have e := I.tuple_inj (show SqT X.K H a xs by rw [C.K]; exact sq hs h1) (show SqT X.K H a ys by rw [C.K]; exact sq hs h3)
    subst e
    rw [rels_uniq C I hs _ _ xs h h2 h4]
  | .non, e, _, h, _, _ => by simp [ordOk] at h
  | .bl _, e, _, h, _, _ => by simp [ordOk] at h
  | .str _, e, _, h, _, _ => by simp [ordOk] at h
  | .lst _, e, _, h, _, _ => by simp [ordOk] at h
  | .dt _ _, e, _, h, _, _ => by simp [ordOk] at h
  | .dk _ _, e, _, h, _, _ => by simp [ordOk] at h
  | .scr _, e, _, h, _, _ => by simp [ordOk] at h
  | .row, e, _, h, _, _ => by simp [ordOk] at h
  | .fn _, e, _, h, _, _ => by simp [ordOk] at h
  | .err _ _, e, _, h, _, _ => by simp [ordOk] at h
  | .ntp _, e, _, h, _, _ => by simp [ordOk] at h
theorem rels_uniq (C : Cok X c) (I : Inv X pins σ H s) {F : Hp} (hs : Sub F H) : ∀ (ds es : List D) (us : List V), ordOks ds es = true → RelDs c F ds us → RelDs c F es us → ds = es
  | [], [], _, _, _, _ => rfl
  | [], e :: es, us, _, r, q => by
    have := r.length; have := q.length; simp_all
  | d :: ds, [], us, _, r, q => by
    have := r.length; have := q.length; simp_all
  | d :: ds, e :: es, [], _, r, _ => by simp only [RelDs] at r
  | d :: ds, e :: es, u :: us, h, r, q => by
    simp only [ordOks, Bool.and_eq_true] at h
    simp only [RelDs] at r q
    rw [rel_uniq C I hs d e u h.1 r.1 q.1, rels_uniq C I hs ds es us h.2 r.2 q.2]
end
theorem vals_at {us : List V} {vs : List Value} (r : Vals us vs) {i : Nat} {v : Value} (h : vs[i]? = some v) : ∃ u, us[i]? = some u ∧ RelV u v := by
  have hl : i < us.length := by rw [r.length]; exact (List.getElem?_eq_some_iff.mp h).1
  obtain ⟨w, hw, rw'⟩ := r.get (List.getElem?_eq_getElem hl)
  rw [h] at hw; cases hw
  exact ⟨_, List.getElem?_eq_getElem hl, rw'⟩
open Classical in
/-- each value stands for one thing -/
theorem stands (C : Cok X c) (I : Inv X pins σ H s) {F : Hp} (hs : Sub F H) {xs : List D} {us : List V} {vs : List Value} (ra : RelDs c F xs us) (rv : Vals us vs) (ho : AllOrd xs) : ∃ k : Value → D, Stands c F xs vs k ∧ ((∀ v, k v ∈ xs) ∨ ∀ v, k v = .non) := by
  let k : Value → D := fun v => if h : ∃ d, d ∈ xs ∧ ∃ u, RelV u v ∧ RelD c F d u then Classical.choose h else xs.headD .non
  have hl : xs.length = vs.length := by rw [← ra.length, rv.length]
  have key : ∀ (i : Nat) (v : Value), vs[i]? = some v → xs[i]? = some (k v) ∧ ∃ u, RelV u v ∧ RelD c F (k v) u := by
    intro i v hv
    obtain ⟨u, hu, ru⟩ := vals_at rv hv
    have hi : i < xs.length := by rw [hl]; exact (List.getElem?_eq_some_iff.mp hv).1
    obtain ⟨u', hu', rd⟩ := ra.get (List.getElem?_eq_getElem hi)
    rw [hu] at hu'; cases hu'
    have ex : ∃ d, d ∈ xs ∧ ∃ u, RelV u v ∧ RelD c F d u := ⟨_, List.getElem_mem hi, u, ru, rd⟩
    have hk : k v = Classical.choose ex := dif_pos ex
    obtain ⟨m, w, rw', rd'⟩ := Classical.choose_spec ex
    have e := RelV.inj rw' ru
    subst e
    have := rel_uniq C I hs _ _ _ (ho _ m _ (List.getElem_mem hi)) rd' rd
    rw [hk]
    refine ⟨by rw [List.getElem?_eq_getElem hi, this], w, ru, ?_⟩
    rw [this]; exact rd
  refine ⟨k, ⟨?_, fun v hv => ?_⟩, ?_⟩
  · refine List.ext_getElem? fun i => ?_
    rw [List.getElem?_map]
    cases hv : vs[i]? with
    | none =>
      rw [List.getElem?_eq_none_iff] at hv
      rw [List.getElem?_eq_none (by omega)]; rfl
    | some v => rw [(key i v hv).1]; rfl
  · obtain ⟨i, hi⟩ := List.mem_iff_getElem?.mp hv
    exact (key i v hi).2
  · cases xs with
    | nil => exact .inr fun v => dif_neg fun ⟨d, hd, _⟩ => by cases hd
    | cons x xs =>
      refine .inl fun v => ?_
      by_cases h : ∃ d, d ∈ x :: xs ∧ ∃ u, RelV u v ∧ RelD c F d u
      · have hk : k v = Classical.choose h := dif_pos h
        rw [hk]; exact (Classical.choose_spec h).1
      · have hk : k v = x := dif_neg h
        rw [hk]; exact List.mem_cons_self
theorem swo_of {xs : List D} {k : Value → D} (ho : AllOrd xs) (hk : (∀ v, k v ∈ xs) ∨ ∀ v, k v = .non) : SrtO.Swo fun v u => cmpD (k v) (k u) == .lt := by
  rcases hk with hk | hk
  · refine ⟨fun x y h => ?_, fun x y z h1 h2 => ?_⟩
    · have h : cmpD (k x) (k y) = .lt := by simpa using h
      rw [cmp_swap _ _ (ho _ (hk x) _ (hk y)), h]; rfl
    · have a : leD (k x) (k y) = true := by
        unfold leD
        rw [cmp_swap _ _ (ho _ (hk y) _ (hk x))]
        cases hc : cmpD (k y) (k x) <;> rw [hc] at h1 <;> first | rfl | cases h1
      have b : leD (k y) (k z) = true := by
        unfold leD
        rw [cmp_swap _ _ (ho _ (hk z) _ (hk y))]
        cases hc : cmpD (k z) (k y) <;> rw [hc] at h2 <;> first | rfl | cases h2
      have := le_trans (ho _ (hk x) _ (hk y)) (ho _ (hk y) _ (hk z)) (ho _ (hk x) _ (hk z)) a b
      unfold leD at this
      rw [cmp_swap _ _ (ho _ (hk x) _ (hk z))]
      cases hc : cmpD (k x) (k z) <;> rw [hc] at this <;> first | rfl | cases this
  · refine ⟨fun x y h => ?_, fun x y z h1 h2 => ?_⟩
    · rw [hk, hk] at h; cases h
    · show (cmpD (k z) (k x) == .lt) = false
      rw [hk, hk]; rfl
theorem rel_list {F : Hp} {k : Value → D} : ∀ {out : List Value}, (∀ v ∈ out, ∃ u, RelV u v ∧ RelD c F (k v) u) → ∃ us, Vals us out ∧ RelDs c F (out.map k) us
  | [], _ => ⟨[], .nil, by simp only [List.map_nil, RelDs]⟩
  | v :: out, h => by
    obtain ⟨u, r1, r2⟩ := h v List.mem_cons_self
    obtain ⟨us, r3, r4⟩ := rel_list (out := out) fun w hw => h w (List.mem_cons_of_mem _ hw)
    exact ⟨u :: us, .cons r1 r3, by simp only [List.map_cons, RelDs]; exact ⟨r2, r4⟩⟩
theorem ordAll_of {xs : List D} (h : ordAll xs = true) : AllOrd xs ∧ deps xs ≤ 20 ∧ ((∀ x ∈ xs, sk1 x = 1) ∨ (∀ x ∈ xs, sk1 x = 2) ∨ ∀ x ∈ xs, sk1 x = 3) := by
  unfold ordAll at h
  simp only [Bool.and_eq_true, Bool.or_eq_true, List.all_eq_true, decide_eq_true_eq, beq_iff_eq] at h
  obtain ⟨⟨h1, h2⟩, h3⟩ := h
  exact ⟨h1, h2, by rcases h3 with (h3 | h3) | h3 <;> simp_all⟩
theorem ints_of_sk {xs : List D} (h : ∀ x ∈ xs, sk1 x = 1) : ∃ ns, ints? xs = some ns ∧ xs = ns.map D.int := by
  induction xs with
  | nil => exact ⟨[], rfl, rfl⟩
  | cons x xs ih =>
    obtain ⟨ns, h1, h2⟩ := ih fun y hy => h y (List.mem_cons_of_mem _ hy)
    have hx := h x List.mem_cons_self
    obtain ⟨i, rfl⟩ : ∃ i, x = .int i := by
      unfold sk1 at hx
      split at hx <;> first
        | exact ⟨_, rfl⟩
        | omega
    exact ⟨i :: ns, by simp [ints?, h1], by rw [h2]; rfl⟩
/-- list.sort of what stands for xs -/
theorem sort_rel (C : Cok X c) (I : Inv X pins σ H s) {F : Hp} (hs : Sub F H) {xs : List D} {us : List V} {vs : List Value} (ra : RelDs c F xs us) (rv : Vals us vs) (h : ordAll xs = true) {h₁ : Heap} {a : Addr} {tk n : Nat} {A : Around} {E : Value → Shared → Prop} {R : PySem.Fin → Shared → Prop}
    (keep : ∀ b o, s.heap.get? b = some o → b ≠ a ∧ h₁.get? b = some o) (ha : h₁.get? a = some (seqObj "list" vs.toArray n)) (hz : vs.length ≤ sizeLine) (hu : A.units + 20 < cLine)
    (k : ∀ (out : List Value) (us' : List V), Vals us' out → RelDs c F (isort xs) us' → out.length = vs.length → R (.done (.ret .none)) { s with heap := sortedHeap h₁ a vs out.toArray, toks := tk }) :
    wpAny (model X.prog X.w) A (Builtin.«list.sort» ⟨[.ref a], []⟩) R E { s with heap := h₁, toks := tk } := by
  obtain ⟨ho, hd, hk⟩ := ordAll_of h
  have done_tup : ∀ t, (t = 2 ∨ t = 3) → (∀ x ∈ xs, sk1 x = t) → wpAny (model X.prog X.w) A (Builtin.«list.sort» ⟨[.ref a], []⟩) R E { s with heap := h₁, toks := tk } := by
    intro t ht hkt
    obtain ⟨g, S, hg⟩ := stands C I hs ra rv ho
    refine SrtO.list_sort_ord (s := { s with heap := h₁, toks := tk }) (swo_of ho hg) ha hz (fun h2 => sortable C I hs S ho hd h2 t ht hkt keep hu) fun out hs' hb => ?_
    have hp : out.Perm vs := hb.perm
    obtain ⟨us', r1, r2⟩ := rel_list (c := c) (F := F) (k := g) (out := out) fun v hv => S.rel v (hp.mem_iff.mp hv)
    have e : out.map g = isort xs := by
      have p1 : (out.map g).Perm xs := by rw [S.map]; exact hp.map g
      refine sorted_uniq (fun x hx y hy => ho x (p1.mem_iff.mp hx) y (p1.mem_iff.mp hy)) (p1.trans (isort_perm xs).symm) ?_ (isort_sorted ho)
      rw [List.pairwise_map]
      refine List.Pairwise.imp_of_mem (fun {x y} hx hy hxy => ?_) hs'
      have m1 := p1.mem_iff.mp (List.mem_map_of_mem (f := g) hx)
      have m2 := p1.mem_iff.mp (List.mem_map_of_mem (f := g) hy)
      have hxy : (cmpD (g y) (g x) == .lt) = false := hxy
      unfold leD
      rw [cmp_swap _ _ (ho _ m2 _ m1)]
      cases hc : cmpD (g y) (g x) <;> rw [hc] at hxy <;> first | rfl | cases hxy
    rw [e] at r2
    exact k out us' r1 r2 hp.length_eq
  rcases hk with hk | hk | hk
  · obtain ⟨ns, h1, h2⟩ := ints_of_sk hk
    have e := ra.ints h1
    subst e
    refine list_sort_treeAny (s := { s with heap := h₁, toks := tk }) ha rv.ints hz fun out ns' i1 i2 i3 => ?_
    have e : ns'.map D.int = isort xs := by
      have p1 : (ns'.map D.int).Perm xs := by rw [h2]; exact i2.map _
      refine sorted_uniq (fun x hx y hy => ho x (p1.mem_iff.mp hx) y (p1.mem_iff.mp hy)) (p1.trans (isort_perm xs).symm) ?_ (isort_sorted ho)
      rw [List.pairwise_map]
      refine i3.imp fun {x y} hxy => ?_
      have := (cmpI (i := x) (j := y)).2.1
      unfold leD
      simp only [cmpD]
      rw [this]; exact decide_eq_true hxy
    have l1 := i1.length
    have l2 := rv.ints.length
    have := k out.toList (ns'.map V.int) (vals_of_ints i1) (by rw [← e]; exact RelDs.of_ints ns') (by
      have := i2.length_eq
      omega)
    simpa using this
  · exact done_tup 2 (.inl rfl) hk
  · exact done_tup 3 (.inr rfl) hk
/-- sorted(x), x any source of the items -/
theorem pu_sorted (C : Cok X c) (I : Inv X pins σ H s) {F : Hp} (hs : Sub F H) {R0 : List D} (hr : RowR c F H R0) {xs : List D} {us : List V} {vs : List Value} (ra : RelDs c F xs us) (rv : Vals us vs) (ho : ordAll xs = true) {x : Value} {Q : VK}
    (hcol : ∀ {R : List Value → Shared → Prop}, (∀ (g : Heap) (tk : Nat), (∀ b o, s.heap.get? b = some o → g.get? b = some o) → R vs { s with heap := g, toks := tk }) → wpAny (model X.prog X.w) X.A.in1 (collect x) R X.xe s) (hz : vs.length ≤ sizeLine)
    (q : ResG c F H R0 (.lst (isort xs)) Q) : wpAny (model X.prog X.w) X.A (call (.builtin "sorted") [x]) (EP X pins σ Q) X.xe s := by
  refine Calls.call_function_entry kind_sorted plain_sorted entry_sorted (args_sorted1 _) ?_
  unfold Builtin.«sorted»
  refine wpAny_bind (m := checkCount "sorted" 1 1 _) (wpAny_pure ?_)
  refine wpAny_bind (hcol fun g tk hk => ?_)
  refine wpAny_bind (wpAny_newList ?_ hz)
  have hun := C.un
  have hoL : (g.push (seqObj "list" vs.toArray 0)).get? g.objs.size = some (seqObj "list" vs.toArray 0) := Heap.get?_push_size _ rfl
  have keep : ∀ b o, s.heap.get? b = some o → b ≠ g.objs.size ∧ (g.push (seqObj "list" vs.toArray 0)).get? b = some o := fun b o e => ⟨Nat.ne_of_lt (Heap.lt_size (hk b o e)), Heap.get?_push_of_some _ (hk b o e)⟩
  show wpAny _ _ _ _ _ { s with heap := g.push (seqObj "list" vs.toArray 0), toks := tk }
  refine wpAny_bind (wpAny_holding (wpAny_call_entry slot_list_sort ⟨_, hoL, rfl⟩ entry_list_sort (sort_rel C I hs ra rv ho keep hoL hz (by rw [in1_units, in1_units]; omega) fun out us' r1 r2 hl => ⟨_, rfl, ?_⟩) (args_list_sort _)))
  refine wpAny_pure ⟨_, rfl, ?_⟩
  obtain ⟨e1, he1⟩ := sortedHeap_at (out := out.toArray) hoL
  have I1 : Inv X pins σ H { s with heap := g, toks := tk } := I.kept hk
  have kk : ∀ b o, g.get? b = some o → (sortedHeap (g.push (seqObj "list" vs.toArray 0)) g.objs.size vs out.toArray).get? b = some o := fun b o e => by
    have e' := Heap.get?_push_of_some (seqObj "list" vs.toArray 0) e
    rw [sortedHeap_old (Nat.ne_of_lt (Heap.lt_size e)) (Heap.lt_size e')]; exact e'
  exact ⟨.ref g.objs.size, _, I1.laid (t' := tk) (o := .lst us') kk (Nat.le_refl _) ⟨by rw [r1.length, hl]; exact hz, out, e1, r1, he1⟩, rfl, ResG.lst q hs hr r2 _ (I1.hok.fresh (Nat.le_refl _))⟩
end
end Pu
end

section
set_option autoImplicit false
set_option linter.all false
set_option maxRecDepth 100000
set_option maxHeartbeats 4000000
set_option Elab.async false
namespace Pu
open PySem PySem.Spec PyProof.Rows L2
section
variable {X : Cx} {c : Ct}
theorem sortL_of {xs : List D} {d : D} (h : sortL xs = some d) : ordAll xs = true ∧ d = .lst (isort xs) := by
  unfold sortL at h
  split at h
  · rename_i ho; cases h; exact ⟨ho, rfl⟩
  · cases h
theorem cd_sorted (C : Cok X c) : CallR X (.builtin "sorted") (P1 c sortedD) := by
  intro pins s σ H vs us Q I r h
  obtain ⟨F, x, dx, R, d, rfl, hs, hr, tx, e, q⟩ := h
  unfold sortedD at e
  split at e
  · obtain ⟨ho, rfl⟩ := sortL_of e
    obtain ⟨a, xs, rfl, ha, ra⟩ := tx
    rw [Vals.ref1 r]
    obtain ⟨its, rv, pl, hz⟩ := I.list (SqL.of ha)
    obtain ⟨o, h1, h2, n, h3⟩ := pl.isList
    exact pu_sorted C I hs hr ra rv ho (fun {R'} k => wpAny_collect_seq a (.inl rfl) h1 h2 h3 (fun g hk => k g s.toks hk) (by rw [List.size_toArray, ← rv.length]; exact hz)) (by rw [← rv.length]; exact hz) q
  · obtain ⟨ho, rfl⟩ := sortL_of e
    simp only [Top, RelD] at tx
    obtain ⟨a, xs, rfl, ha, ra⟩ := tx
    rw [Vals.ref1 r]
    obtain ⟨its, rv, ⟨o, h1, h2, n, h3⟩, hz⟩ := I.tuple (show SqT X.K H a xs by rw [C.K]; exact sq hs ha)
    exact pu_sorted C I hs hr ra rv ho (fun {R'} k => wpAny_collect_seq a (.inr rfl) h1 h2 h3 (fun g hk => k g s.toks hk) (by rw [List.size_toArray, ← rv.length]; exact hz)) (by rw [← rv.length]; exact hz) q
  · cases e

def viewO (p a : Addr) : HO := .ext fun h => PySem.W.KdlKeysView h p a
theorem viewO_ok {P : Program} {w : World} {H : Hp} {h : Heap} {p a : Addr} (e : h.get? p = some { cls := .type "dict_keys", data := .fields #[.ref a] }) : ObjOk P w H h p (viewO p a) :=
  ⟨⟨_, e, rfl, rfl⟩, ⟨_, e⟩, fun h1 h2 k q => let ⟨o, ho, x⟩ := k; ⟨o, q o ho, x⟩⟩
theorem pu_meets_keys {P : Program} {w : World} (d : Addr) (hd : (d == sysModules) = false) :
    MeetsIn P w (Builtin.«dict.keys» ⟨[.ref d], []⟩) (fun _ Z s => s.TypeIs (.ref d) "dict" ∧ Z (.ok (.ret (.ref s.heap.objs.size))) { s with heap := s.heap.push { cls := .type "dict_keys", data := .fields #[.ref d] } }) :=
  .of_wp fun A Z s ⟨ht, k⟩ => by
    refine wpAny_bind ?_
    unfold Builtin.Dict.noArgs
    refine wpAny_bind (wpAny_notOrdered_dict ht (wpAny_pure ?_))
    show wpAny _ _ (Builtin.Dict.showsAll d >>= _) _ _ s
    unfold Builtin.Dict.showsAll
    rw [if_neg (by rw [hd]; exact Bool.false_ne_true)]
    exact wpAny_bind (wpAny_pure (wpAny_bind (wpAny_newObj_type (wpAny_pure ⟨_, rfl, k⟩))))
def tKeysV (c : Ct) (te : TE) : TE := fun σ H Q => te σ H fun x H1 => ∃ F a ks vs, x = .ref a ∧ Sub F H1 ∧ DtAt c H1 (fun xs => RelDs c F ks xs) (fun xs => RelDs c F vs xs) ks a ∧ ∀ p, H1 p = none → Q (.ref p) (upd H1 p (viewO p a))
theorem pe_keysV (C : Cok X c) {o : Expr} {te : TE} {ap cp : Pos} (ho : PE X o te) (hb : attributeBase o "keys" X.env (eval o X.env) = eval o X.env) (hl : (ap.endLine == cp.line) = true) : PE X (.Call (.Attribute o "keys" ap) [] [] cp) (tKeysV c te) := by
  refine ⟨fun pins s σ H Q I h => ?_⟩
  refine wpAny_Call_method0_late hb hl (thn (ho.run pins s σ H _ I h) fun v s1 ⟨x, H1, I1, r1, q1⟩ => ?_)
  obtain ⟨F, a, ks, vs, rfl, hs, hd, q⟩ := q1
  cases r1
  obtain ⟨o', es, ep, xs, us, h1, h2, h3, h4, h5, h6, h7, h8, h9, h10, h11, h12, _⟩ := dt_heap C I1 hs hd
  refine ⟨"dict", "dict.keys", PySem.F.plainAttrs_dict, PySem.F.slot_dict_keys, PySem.F.type_dict_keys, h2.typeIs, fun b e => by cases e; exact ⟨o', h10, h11.2.1⟩, Calls.callWith_builtin rfl (PySem.evalArgs_none ?_)⟩
  exact call_meetsIn PySem.F.slot_dict_keys h2.typeIs PySem.F.entry_dict_keys (PySem.F.args_dict_keys_1 _) (pu_meets_keys a h1) ⟨h2.typeIs, .ref s1.heap.objs.size, _, I1.laid (t' := s1.toks) (o := viewO s1.heap.objs.size a) (fun _ _ q => Heap.get?_push_of_some _ q) (Nat.le_refl _) (viewO_ok (Heap.get?_push_size _ rfl)), rfl, q _ (I1.hok.fresh (Nat.le_refl _))⟩
def PKs (c : Ct) : List V → Hp → VK → Prop := fun vs H Q => ∃ F p a ks ws R d, vs = [.ref p] ∧ H p = some (viewO p a) ∧ Sub F H ∧ RowR c F H R ∧ DtAt c H (fun xs => RelDs c F ks xs) (fun xs => RelDs c F ws xs) ks a ∧ sortL ks = some d ∧ ResG c F H R d Q
theorem cd_sortKeys (C : Cok X c) : CallR X (.builtin "sorted") (PKs c) := by
  intro pins s σ H vs us Q I r h
  obtain ⟨F, p, a, ks, ws, R, d, rfl, hp, hs, hr, hd, e, q⟩ := h
  obtain ⟨ho, rfl⟩ := sortL_of e
  rw [Vals.ref1 r]
  obtain ⟨o', es, ep, xs, us', h1, h2, h3, h4, h5, h6, h7, h8, h9, h10, h11, h12, h13, h14⟩ := dt_heap C I hs hd
  have hl : ks.length = xs.length := by
    have := congrArg List.length h3
    rw [toNKs_map] at this
    simpa using this
  have hv : PySem.W.KdlKeysView s.heap p a := (I.hok p _ hp).1
  have hes : es.size = xs.length := by rw [← Array.length_toList, h13, List.length_map]
  have hz : xs.length ≤ sizeLine := by rw [sizeLine_eq]; omega
  have rv : ∀ ys : List (NestedKey × Addr × Value), Vals (ys.map fun x => V.ref x.2.1) (ys.map fun x => Value.ref x.2.1) := by
    intro ys
    induction ys with
    | nil => exact .nil
    | cons y ys ih => exact .cons rfl ih
  refine pu_sorted C I hs hr h5 (rv xs) ho (fun {R'} k => ?_) (by rw [List.length_map]; exact hz) q
  refine PySem.W.kdu_collect (A := X.A.in1) (PySem.KdlSrc.rawKeys (r := p) (d := a) (es := es) (ep := ep)) (show X.A.in1.handled = none from I.ok.hd C.calm) ⟨hv, o', h10, h11, h12⟩ (by rw [hes]; exact hz) fun g tk acc hk hi => ?_
  have e1 : acc.toList = xs.map fun x => Value.ref x.2.1 := by
    refine List.ext_getElem? fun i => ?_
    rw [List.getElem?_map]
    obtain ⟨hi1, hi2⟩ := hi
    cases hv' : acc.toList[i]? with
    | none =>
      rw [List.getElem?_eq_none_iff, Array.length_toList, hi1, hes] at hv'
      rw [List.getElem?_eq_none (by omega)]; rfl
    | some v =>
      rw [Array.getElem?_toList] at hv'
      obtain ⟨hlt, rfl⟩ := hi2 i v hv'
      have hx : i < xs.length := by omega
      have := congrArg (fun l => l[i]?) h13
      rw [Array.getElem?_toList, List.getElem?_map, Array.getElem?_eq_getElem hlt, List.getElem?_eq_getElem hx] at this
      have e2 : es[i] = entryOfKey (nestedKind X.prog X.w) xs[i] := Option.some.inj this
      rw [e2, List.getElem?_eq_getElem hx]; rfl
  rw [e1]
  exact k g tk hk
end
end Pu
end

section
set_option autoImplicit false
set_option linter.all false
set_option maxRecDepth 100000
set_option maxHeartbeats 4000000
set_option Elab.async false
namespace Pu.Ns
open PySem PySem.Spec PyProof.Rows L2
mutual
/-- ints and tuples of such -/
def numK : NestedKey → Bool
  | .num _ => true
  | .tup ks => numKs ks
  | _ => false
def numKs : List NestedKey → Bool
  | [] => true
  | k :: ks => numK k && numKs ks
end
structure At (h : Heap) (k : NestedKey) (a : Addr) : Prop where
  is : NestedIs h k (.ref a)
  dep : k.depth ≤ 8
  num : numK k = true
section
variable (P : Program) (w : World)
/-- the question m is answered by b, and nothing is changed -/
def Says (m : Sem Bool) (b : Bool) (s : Shared) : Prop := ∀ (A : Around) (E : Value → Shared → Prop) (Q : Bool → Shared → Prop), Q b s → wpAny (model P w) A m Q E s
end
section
variable {P : Program} {w : World}
theorem says_pure {b : Bool} {s : Shared} : Says P w (pure b) b s := fun A E Q hq => wpAny_pure hq
theorem class_flat {n : Nat} {v : Value} (h : carriedByValue v = true) : ofAClassStatement n v = pure false := by
  cases v <;> first | (cases n <;> rfl) | cases h
theorem class_tup {n : Nat} {s : Shared} {b : Addr} {o : Obj} {vs : Array Value} {z : Nat} (ho : s.heap.get? b = some o) (hc : o.cls = .type "tuple") (hd : o.data = .seq vs z) (hv : ∀ v ∈ vs.toList, Says P w (ofAClassStatement n v) false s) :
    Says P w (ofAClassStatement (n + 1) (.ref b)) false s := fun A E Q hq => by
  unfold ofAClassStatement
  refine wpAny_bind (wpAny_typeOf (T := "tuple") ⟨o, ho, hc⟩ ?_)
  dsimp only
  simp only [show (("tuple" : String) == "tuple") = true from by decide, if_true, Bool.not_true, Bool.false_eq_true, if_false]
  try refine wpAny_bind (wpAny_pure ?_)
  try simp only [Bool.not_true, Bool.false_eq_true, if_false]
  refine wpAny_bind (m := seqItems? (.ref b)) (wpAny_seqItems ho hd ?_)
  dsimp only
  refine wpAny_bind ?_
  show wpAny _ _ (forIn vs _ _) _ _ s
  rw [← Array.forIn_toList]
  refine wpAny_forIn_list _ (fun left r u => (r.1 = none ∧ u = s) ∧ ∀ v ∈ left, Says P w (ofAClassStatement n v) false s) _ ?_ ?_ _ _ ⟨⟨rfl, rfl⟩, hv⟩
  · rintro v left r u ⟨⟨hr, rfl⟩, hl⟩
    refine wpAny_bind (hl v List.mem_cons_self _ _ _ ?_)
    simp only [Bool.false_eq_true, if_false]
    exact wpAny_pure ⟨⟨rfl, rfl⟩, fun y hy => hl y (List.mem_cons_of_mem _ hy)⟩
  · rintro ⟨r1, r2⟩ u ⟨⟨hr, rfl⟩, _⟩
    dsimp only at hr
    rw [hr]
    exact wpAny_pure hq
theorem hash_tup {n : Nat} {s : Shared} {b : Addr} {o : Obj} {vs : Array Value} {z : Nat} (ho : s.heap.get? b = some o) (hc : o.cls = .type "tuple") (hd : o.data = .seq vs z) (hv : ∀ v ∈ vs.toList, Says P w (hashByValue n v) true s) :
    Says P w (hashByValue (n + 1) (.ref b)) true s := fun A E Q hq => by
  unfold hashByValue
  refine wpAny_bind (wpAny_specialOf (T := "tuple") ⟨o, ho, hc⟩ F.slot_tuple_hash.lookup ?_)
  refine wpAny_bind (m := seqItems? (.ref b)) (wpAny_seqItems ho hd ?_)
  refine wpAny_bind ?_
  show wpAny _ _ (forIn vs _ _) _ _ s
  rw [← Array.forIn_toList]
  refine wpAny_forIn_list _ (fun left r u => (r.1 = none ∧ u = s) ∧ ∀ v ∈ left, Says P w (hashByValue n v) true s) _ ?_ ?_ _ _ ⟨⟨rfl, rfl⟩, hv⟩
  · rintro v left r u ⟨⟨hr, rfl⟩, hl⟩
    refine wpAny_bind (hl v List.mem_cons_self _ _ _ ?_)
    simp only [Bool.not_true, Bool.false_eq_true, if_false]
    exact wpAny_pure ⟨⟨rfl, rfl⟩, fun y hy => hl y (List.mem_cons_of_mem _ hy)⟩
  · rintro ⟨r1, r2⟩ u ⟨⟨hr, rfl⟩, _⟩
    dsimp only at hr
    rw [hr]
    exact wpAny_pure hq
mutual
theorem class_key : ∀ (k : NestedKey) (v : Value) (n : Nat) (s : Shared), NestedIs s.heap k v → k.depth ≤ n → Says P w (ofAClassStatement n v) false s
  | .none, _, n, s, x, _ => by cases x; rw [class_flat rfl]; exact says_pure
  | .num i, _, n, s, x, _ => by cases x <;> (rw [class_flat rfl]; exact says_pure)
  | .text y, _, n, s, x, _ => by cases x; rw [class_flat rfl]; exact says_pure
  | .tup ks, _, n, s, x, hn => by
    cases x with
    | tup hg hc hd hk =>
      simp only [NestedKey.depth] at hn
      obtain ⟨q, rfl⟩ : ∃ q, n = q + 1 := ⟨n - 1, by omega⟩
      exact class_tup hg hc hd (class_keys ks _ q s hk (by omega))
theorem class_keys : ∀ (ks : List NestedKey) (vs : List Value) (n : Nat) (s : Shared), NestedAll s.heap ks vs → NestedKey.depthAll ks ≤ n → ∀ v ∈ vs, Says P w (ofAClassStatement n v) false s
  | [], _, n, s, x, _ => by cases x; exact fun v hv => by cases hv
  | k :: ks, _, n, s, x, hn => by
    cases x with
    | cons x1 x2 =>
      simp only [NestedKey.depthAll] at hn
      intro v hv
      rcases List.mem_cons.mp hv with e | hv
      · subst e; exact class_key k _ n s x1 (by omega)
      · exact class_keys ks _ n s x2 (by omega) v hv
end
mutual
theorem hash_key : ∀ (k : NestedKey) (v : Value) (n : Nat) (s : Shared), NestedIs s.heap k v → numK k = true → k.depth ≤ n → Says P w (hashByValue n v) true s
  | .none, _, n, s, x, h, _ => by simp [numK] at h
  | .num i, _, n, s, x, _, _ => by cases x <;> (cases n <;> exact says_pure)
  | .text y, _, n, s, x, h, _ => by simp [numK] at h
  | .tup ks, _, n, s, x, h, hn => by
    cases x with
    | tup hg hc hd hk =>
      simp only [NestedKey.depth] at hn
      rw [numK] at h
      obtain ⟨q, rfl⟩ : ∃ q, n = q + 1 := ⟨n - 1, by omega⟩
      exact hash_tup hg hc hd (hash_keys ks _ q s hk h (by omega))
theorem hash_keys : ∀ (ks : List NestedKey) (vs : List Value) (n : Nat) (s : Shared), NestedAll s.heap ks vs → numKs ks = true → NestedKey.depthAll ks ≤ n → ∀ v ∈ vs, Says P w (hashByValue n v) true s
  | [], _, n, s, x, _, _ => by cases x; exact fun v hv => by cases hv
  | k :: ks, _, n, s, x, h, hn => by
    cases x with
    | cons x1 x2 =>
      simp only [NestedKey.depthAll] at hn
      rw [numKs, Bool.and_eq_true] at h
      intro v hv
      rcases List.mem_cons.mp hv with e | hv
      · subst e; exact hash_key k _ n s x1 h.1 (by omega)
      · exact hash_keys ks _ n s x2 h.2 (by omega) v hv
end
theorem At.class {s : Shared} {k : NestedKey} {a : Addr} (x : At s.heap k a) : Says P w (ofAClassStatement 8 (.ref a)) false s := class_key k _ 8 s x.is x.dep
theorem At.byVal {s : Shared} {k : NestedKey} {a : Addr} (x : At s.heap k a) : Says P w (hashByValue 8 (.ref a)) true s := hash_key k _ 8 s x.is x.num x.dep
theorem At.quiet {s : Shared} {k : NestedKey} {a : Addr} (x : At s.heap k a) : Says P w (eqIsQuiet 8 (.ref a)) true s := quiet_key k _ 8 s x.is x.dep
theorem At.same {s : Shared} {A : Around} {k j : NestedKey} {a b : Addr} (hu : A.units + 8 < cLine) (x : At s.heap k a) (y : At s.heap j b) {E : Value → Shared → Prop} {Q : Bool → Shared → Prop} (hq : Q (decide (k = j)) s) : wpAny (model P w) A (eqBool (.ref a) (.ref b)) Q E s :=
  (nestedKind P w).eqBool (show (nestedKind P w).room A from hu) (show (nestedKind P w).is s.heap k a from ⟨x.is, x.dep⟩) (show (nestedKind P w).is s.heap j b from ⟨y.is, y.dep⟩) hq
/-- nothing of the table is shown by a search -/
theorem unseen {s : Shared} {k : NestedKey} {b : Addr} (x : At s.heap k b) {ys : List Value} (hy : ∀ y ∈ ys, ∃ j c, y = Value.ref c ∧ At s.heap j c) : Says P w (searchCouldBeSeen (.ref b) ys) false s := fun A E Q hq => by
  unfold searchCouldBeSeen
  refine wpAny_bind ?_
  refine wpAny_forIn_list _ (fun left r u => (r.1 = none ∧ u = s) ∧ ∀ y ∈ left, ∃ j c, y = Value.ref c ∧ At s.heap j c) _ ?_ ?_ _ _ ⟨⟨rfl, rfl⟩, hy⟩
  · rintro v left r u ⟨⟨hr, rfl⟩, hl⟩
    obtain ⟨j, c, rfl, hc⟩ := hl v List.mem_cons_self
    have more : ∀ y ∈ left, ∃ j c, y = Value.ref c ∧ At u.heap j c := fun y hy => hl y (List.mem_cons_of_mem _ hy)
    dsimp only
    by_cases hbc : (b == c || (carriedByValue (.ref b) && carriedByValue (.ref c))) = true
    · exact wp_if_pos hbc (wpAny_pure ⟨⟨rfl, rfl⟩, more⟩)
    · refine wp_if_neg hbc (wpAny_bind (x.quiet _ _ _ ?_))
      simp only [Bool.not_true, Bool.false_eq_true, if_false]
      refine wpAny_bind (hc.quiet _ _ _ ?_)
      simp only [Bool.not_true, Bool.false_eq_true, if_false]
      refine wpAny_bind (x.class _ _ _ ?_)
      simp only [Bool.false_eq_true, if_false]
      refine wpAny_bind (hc.class _ _ _ ?_)
      simp only [Bool.false_eq_true, if_false]
      exact wpAny_pure ⟨⟨rfl, rfl⟩, more⟩
  · rintro ⟨r1, r2⟩ u ⟨⟨hr, rfl⟩, _⟩
    dsimp only at hr
    rw [hr]
    exact wpAny_pure hq
end
end Pu.Ns
end

section
set_option autoImplicit false
set_option linter.all false
set_option maxRecDepth 100000
set_option maxHeartbeats 4000000
set_option Elab.async false
namespace Pu.Ns
open PySem PySem.Spec PyProof.Rows L2
abbrev Mem := Addr × NestedKey
/-- the table's rows: hash, member -/
def rws (w : World) (L : List Mem) : List (Int × Value) := L.map fun p => (p.2.hash w, Value.ref p.1)
/-- the set at a has the members L, in the order of its table -/
structure SetN (w : World) (h : Heap) (a : Addr) (L : List Mem) (es : Array (Int × Value)) (ep : Nat) (t : SetTable) : Prop where
  obj : ∃ o, h.get? a = some o ∧ o.ExactSet ∧ o.data = .set es ep t
  row : es.toList = rws w L
  tb : TabOk t (L.map fun p => p.2.hash w)
  uniq : (L.map (·.2)).Nodup
  key : ∀ p ∈ L, At h p.2 p.1
  pln : t.plain = true
  ld : w.params.followText "set-order" = true ∨ t.led = true
  rm : L.length * 5 < t.mask * 3
  lt : L.length < 64
/-- the c-th place that a search for h looks at -/
def pb (t : SetTable) (h : Int) (c : Nat) : SetTable.Probe := nth t.mask (t.probeStart h) c
theorem pb_on (t : SetTable) (h : Int) (c q : Nat) : nth t.mask (pb t h c) q = pb t h (c + q) := (nth_add t.mask c _ q).symm
theorem adv_dummy {m : Nat} : ∀ (c : Nat) (p : SetTable.Probe), p.dummy = none → (nth m p c).dummy = none
  | 0, p, h => h
  | c + 1, p, h => adv_dummy c (adv m p) (by unfold adv; split <;> exact h)
theorem pb_dummy (t : SetTable) (h : Int) (c : Nat) : (pb t h c).dummy = none := adv_dummy c _ rfl
section
variable {P : Program} {w : World} {A : Around} {E : Value → Shared → Prop} {s : Shared} {a : Addr} {L : List Mem} {es : Array (Int × Value)} {ep : Nat} {t : SetTable}
theorem rws_len {L : List Mem} (h : es.toList = rws w L) : es.size = L.length := by
  have e : es.toList.length = (rws w L).length := by rw [h]
  simpa [rws] using e
theorem SetN.cnt (S : SetN w s.heap a L es ep t) : es.size = L.length := rws_len S.row
theorem fits_of (hd : t.dummies = #[]) (hp : t.place.size = es.size) (hm : es.size ≤ t.mask) : t.fits es.size = true := by
  unfold SetTable.fits SetTable.fill
  rw [hd]
  simp [hp, hm]
theorem SetN.fit (S : SetN w s.heap a L es ep t) : t.fits es.size = true := by
  have h1 := S.tb.sz
  have h2 := S.cnt
  have h3 := S.rm
  rw [List.length_map] at h1
  exact fits_of S.tb.dm (by omega) (by omega)
theorem row_at {L : List Mem} (h : es.toList = rws w L) {i : Nat} {p : Mem} (hp : L[i]? = some p) : es[i]? = some (p.2.hash w, Value.ref p.1) := by
  rw [← Array.getElem?_toList, h, rws, List.getElem?_map, hp]
  rfl
theorem SetN.noGiving (S : SetN w s.heap a L es ep t) : ¬ t.gaveWay = true := by
  unfold SetTable.gaveWay
  rw [mask_odd S.tb.mok]
  decide
theorem same_block (t : SetTable) : t.sameMemory t.moves t.mask = some true := if_pos (beq_self_eq_true _)
/-- the search, from the c-th place on -/
theorem seek (S : SetN w s.heap a L es ep t) {x : Addr} {k : NestedKey} (hx : At s.heap k x) (hu : A.units + 8 < cLine) {K : Nat} (hKf : K < 10 * SetTable.turns t.mask)
    (hK : way t.mask (k.hash w) K ∉ t.place.toList) (hKb : ∀ c, c < K → way t.mask (k.hash w) c ∈ t.place.toList) {Q : SetFound → Shared → Prop}
    (yes : k ∈ L.map (·.2) → Q (.there none) s) (no : k ∉ L.map (·.2) → Q (.free (way t.mask (k.hash w) K) false) s) :
    ∀ (f c : Nat) (stand : Option SetTable.Probe), stand.getD (t.probeStart (k.hash w)) = pb t (k.hash w) c → c ≤ K → K - c < f →
      (∀ (i : Nat) p, L[i]? = some p → p.2 = k → ∃ c', c ≤ c' ∧ c' < K ∧ t.place.toList[i]? = some (way t.mask (k.hash w) c')) →
      wpAny (model P w) A (setSearchFrom a (.ref x) (k.hash w) true f stand) Q E s
  | 0, c, stand, _, _, hf, _ => by omega
  | f + 1, c, stand, hst, hc, hf, ahead => by
    obtain ⟨o, ho, hex, hd⟩ := S.obj
    have hfit := S.fit
    rw [setSearchFrom_succ]
    refine wpAny_bind (wpAny_setState_of ho hd hfit ?_)
    dsimp only
    refine wp_if_neg S.noGiving ?_
    try refine wpAny_bind (wpAny_pure ?_)
    have jq : ∀ q, (nth t.mask (pb t (k.hash w) c) q).j = way t.mask (k.hash w) (c + q) := fun q => by rw [pb_on]; rfl
    have hcK : c + (K - c) = K := by omega
    have hat : ∀ (i : Nat) (p : Mem), L[i]? = some p → (es[i]?.map (·.1)).getD 0 = p.2.hash w := fun i p hp => by rw [row_at S.row hp]; rfl
    have two := go_spec t S.tb.ris S.tb.dm (fun i => (es[i]?.map (·.1)).getD 0) (k.hash w) (10 * SetTable.turns t.mask) (K - c) (pb t (k.hash w) c) (pb_dummy _ _ _) (by omega)
      (fun q hq => by rw [jq]; exact hKb _ (by omega)) (by rw [jq, hcK]; exact hK)
    have gone : ∀ (c' i : Nat) (p : Mem), c ≤ c' → L[i]? = some p → p.2 = k → t.place.toList[i]? = some (way t.mask (k.hash w) c') → (∀ (k' i' : Nat), k' = c' - c → t.place.toList[i']? = some (nth t.mask (pb t (k.hash w) c) k').j → (es[i']?.map (·.1)).getD 0 ≠ k.hash w) → False := fun c' i p h1 hp hk h2 h3 =>
      h3 _ i rfl (by rw [jq, show c + (c' - c) = c' by omega]; exact h2) (by rw [hat i p hp, hk])
    rcases two with ⟨q, i, hq, hi, hh, passed, pr⟩ | ⟨passed, pr⟩
    · rw [jq] at hi
      have pr2 : t.probe (fun i => (es[i]?.map (·.1)).getD 0) (k.hash w) (stand.getD (t.probeStart (k.hash w))) = some (.candidate (way t.mask (k.hash w) (c + q)) i (pb t (k.hash w) (c + (q + 1)))) := by
        rw [hst, ← jq, ← pb_on]
        exact pr
      rw [pr2]
      dsimp only
      have hil : i < L.length := by
        have h1 := (List.getElem?_eq_some_iff.mp hi).1
        have h2 := S.tb.sz
        rw [List.length_map] at h2
        rw [Array.length_toList] at h1
        omega
      obtain ⟨p, hp⟩ : ∃ p, L[i]? = some p := ⟨_, List.getElem?_eq_getElem hil⟩
      have hpL : p ∈ L := List.mem_of_getElem? hp
      have look : wpAny (model P w) A (searchRest a (.ref x) (k.hash w) true f es t (way t.mask (k.hash w) (c + q)) i (pb t (k.hash w) (c + (q + 1)))) Q E s := by
        unfold searchRest
        rw [row_at S.row hp]
        dsimp only
        refine wpAny_bind (wpAny_holding ((S.key p hpL).same hu hx ?_))
        refine wpAny_bind (wpAny_setState_of ho hd hfit ?_)
        dsimp only
        by_cases e : p.2 = k
        · exact wp_if_pos (by simp [e]) (wpAny_pure (yes (List.mem_map.mpr ⟨p, hpL, e⟩)))
        · refine wp_if_neg (by simp [e]) ?_
          try refine wpAny_bind (wpAny_pure ?_)
          rw [same_block]
          dsimp only
          have live : t.slot (way t.mask (k.hash w) (c + q)) = .live i := slot_live S.tb.ris hi
          simp only [if_true, live, row_at S.row hp]
          refine wpAny_bind (wpAny_isSame_ref_self (wpAny_bind (wpAny_pure ?_)))
          simp only [if_true]
          refine wp_if_neg (by simp [e]) (seek S hx hu hKf hK hKb yes no f (c + (q + 1)) _ rfl (by omega) (by omega) fun i0 p0 h0 e0 => ?_)
          obtain ⟨c', a1, a2, a3⟩ := ahead i0 p0 h0 e0
          refine ⟨c', ?_, a2, a3⟩
          rcases Nat.lt_trichotomy c' (c + q) with z | z | z
          · exact (gone c' i0 p0 a1 h0 e0 a3 fun k' i' ek => passed k' i' (by omega)).elim
          · rw [z] at a3
            have l2 := slot_live S.tb.ris a3
            rw [live] at l2
            injection l2 with l2
            rw [← l2, hp] at h0
            exact absurd ((congrArg Prod.snd (Option.some.inj h0)).trans e0) e
          · omega
      by_cases hl : t.led = true
      · refine wp_if_neg (by simp [hl]) ?_
        try refine wpAny_bind (wpAny_pure ?_)
        exact look
      · refine wp_if_pos (by simp [hl]) (wpAny_bind (unseen hx (fun y hy => ?_) _ _ _ ?_))
        · obtain ⟨r, hr, er⟩ := List.mem_map.mp hy
          have hr2 : r ∈ es.toList := by
            have : r ∈ es ∧ r.1 = k.hash w := by simpa using hr
            simpa using this.1
          rw [S.row] at hr2
          obtain ⟨g, hg, eg⟩ := List.mem_map.mp hr2
          exact ⟨g.2, g.1, by rw [← er, ← eg], S.key g hg⟩
        · refine wp_if_neg (by decide) ?_
          try refine wpAny_bind (wpAny_pure ?_)
          exact look
    · have pr2 : t.probe (fun i => (es[i]?.map (·.1)).getD 0) (k.hash w) (stand.getD (t.probeStart (k.hash w))) = some (.empty (way t.mask (k.hash w) K) none) := by
        have e : way t.mask (k.hash w) K = (nth t.mask (pb t (k.hash w) c) (K - c)).j := by rw [jq, hcK]
        rw [hst, e]
        exact pr
      rw [pr2]
      dsimp only
      refine wpAny_pure (no fun hm => ?_)
      obtain ⟨p0, h0, e0⟩ := List.mem_map.mp hm
      obtain ⟨i0, hi0, ei⟩ := List.getElem_of_mem h0
      have h00 : L[i0]? = some p0 := by rw [List.getElem?_eq_getElem hi0, ei]
      obtain ⟨c', a1, a2, a3⟩ := ahead i0 p0 h00 e0
      exact gone c' i0 p0 a1 h00 e0 a3 fun k' i' ek => passed k' i' (by omega)
/-- the search as adding makes it -/
theorem seek_all (S : SetN w s.heap a L es ep t) {x : Addr} {k : NestedKey} (hx : At s.heap k x) (hu : A.units + 8 < cLine) {Q : SetFound → Shared → Prop} (yes : k ∈ L.map (·.2) → Q (.there none) s)
    (no : ∀ K, k ∉ L.map (·.2) → way t.mask (k.hash w) K ∉ t.place.toList → (∀ c, c < K → way t.mask (k.hash w) c ∈ t.place.toList) → Q (.free (way t.mask (k.hash w) K) false) s) :
    wpAny (model P w) A (setSearch a (.ref x) (k.hash w) true) Q E s := by
  have h3 := S.rm
  obtain ⟨K, k1, k2, k3⟩ := S.tb.first (by rw [List.length_map]; omega) (k.hash w)
  have k4 : 10 * SetTable.turns t.mask ≤ 1420 := by
    unfold SetTable.turns
    rcases S.tb.mok with e | e | e <;> omega
  unfold setSearch
  refine seek S hx hu k1 k2 k3 yes (fun hn => no K hn k2 k3) 100000 0 none rfl (Nat.zero_le _) (by omega) fun i p hp e => ?_
  have hh : (L.map fun p => p.2.hash w)[i]? = some (k.hash w) := by rw [List.getElem?_map, hp, ← e]; rfl
  have hil : i < t.place.toList.length := by
    have h1 := (List.getElem?_eq_some_iff.mp hp).1
    have h2 := S.tb.sz
    rw [List.length_map] at h2
    rw [Array.length_toList]
    omega
  obtain ⟨c, c1, c2⟩ := S.tb.before k2 hh (List.getElem?_eq_getElem hil)
  exact ⟨c, Nat.zero_le _, c1, by rw [List.getElem?_eq_getElem hil, c2]⟩
end
end Pu.Ns
end

section
set_option autoImplicit false
set_option linter.all false
set_option maxRecDepth 100000
set_option maxHeartbeats 4000000
set_option Elab.async false
namespace Pu.Ns
open PySem PySem.Spec PyProof.Rows L2
theorem At.keep {h h' : Heap} {k : NestedKey} {b : Addr} (x : At h k b) (hk : ∀ c o, h.get? c = some o → h'.get? c = some o) : At h' k b := ⟨NestedIs.at (fun c o vs n e _ => hk c o e) k _ x.is, x.dep, x.num⟩
/-- members are no sets -/
theorem At.beside {h h' : Heap} {k : NestedKey} {a b : Addr} {o : Obj} {es : Array (Int × Value)} {ep : Nat} {t : SetTable} (x : At h k b) (ho : h.get? a = some o) (hd : o.data = .set es ep t) (sb : Heap.SameBut a h h') : At h' k b :=
  ⟨NestedIs.at (fun c u vs n e hu => by
    refine (sb.2 c fun z => ?_).trans e
    subst z
    have : u = o := Option.some.inj (e.symm.trans ho)
    rw [this, hd] at hu
    cases hu) k _ x.is, x.dep, x.num⟩
theorem SetN.keep {w : World} {h h' : Heap} {a : Addr} {L : List Mem} {es : Array (Int × Value)} {ep : Nat} {t : SetTable} (S : SetN w h a L es ep t) (ha : ∀ o, h.get? a = some o → h'.get? a = some o) (hm : ∀ p ∈ L, At h' p.2 p.1) : SetN w h' a L es ep t :=
  ⟨S.obj.imp fun o q => ⟨ha o q.1, q.2⟩, S.row, S.tb, S.uniq, hm, S.pln, S.ld, S.rm, S.lt⟩
section
variable {w : World}
theorem rws_ins (L : List Mem) (n : Nat) (p : Mem) : rws w (L.take n ++ p :: L.drop n) = (rws w L).take n ++ (p.2.hash w, Value.ref p.1) :: (rws w L).drop n := by
  simp only [rws, List.map_append, List.map_cons, List.map_take, List.map_drop]
theorem ins_perm {α : Type} (l : List α) (n : Nat) (x : α) : (l.take n ++ x :: l.drop n).Perm (x :: l) := by
  have := List.perm_middle (a := x) (l₁ := l.take n) (l₂ := l.drop n)
  rwa [List.take_append_drop] at this
theorem pick_rows (L : List Mem) (es : Array (Int × Value)) (h : es.toList = rws w L) : ∀ l : List Nat, (∀ i ∈ l, i < L.length) → l.filterMap (fun i => es[i]?) = rws w (l.filterMap fun i => L[i]?) ∧ ((l.filterMap fun i => L[i]?).map fun p => p.2.hash w) = l.map fun i => (es.map (·.1)).getD i 0
  | [], _ => ⟨rfl, rfl⟩
  | i :: l, hl => by
    have hi := hl i List.mem_cons_self
    obtain ⟨e1, e2⟩ := pick_rows L es h l fun j hj => hl j (List.mem_cons_of_mem _ hj)
    have hL : L[i]? = some L[i] := List.getElem?_eq_getElem hi
    have hE := row_at h hL
    refine ⟨?_, ?_⟩
    · rw [List.filterMap_cons_some hE, List.filterMap_cons_some hL, e1]
      rfl
    · have hg : (es.map (·.1)).getD i 0 = (L[i]).2.hash w := by
        simp [Array.getD_eq_getD_getElem?, hE]
      rw [List.filterMap_cons_some hL, List.map_cons, List.map_cons, e2, hg]
theorem pick_all {α : Type} (L : List α) : ∀ n, n ≤ L.length → (List.range n).filterMap (fun i => L[i]?) = L.take n
  | 0, _ => rfl
  | n + 1, h => by
    rw [List.range_succ, List.filterMap_append, pick_all L n (by omega), List.take_succ]
    have hg : L[n]? = some (L[n]'(by omega)) := List.getElem?_eq_getElem (by omega)
    rw [hg, List.filterMap_cons_some hg]
    rfl
/-- the rows in another order -/
theorem reorder (L : List Mem) (es : Array (Int × Value)) (order : Array Nat) (h : es.toList = rws w L) (hp : order.toList.Perm (List.range L.length)) :
    ∃ L2 : List Mem, (order.filterMap (es[·]?)).toList = rws w L2 ∧ L2.Perm L ∧ (L2.map fun p => p.2.hash w) = order.toList.map fun i => (es.map (·.1)).getD i 0 := by
  obtain ⟨e1, e2⟩ := pick_rows L es h order.toList fun i hi => List.mem_range.mp (hp.mem_iff.mp hi)
  refine ⟨order.toList.filterMap fun i => L[i]?, ?_, ?_, e2⟩
  · rw [Array.toList_filterMap]; exact e1
  · have h1 := hp.filterMap fun i => L[i]?
    rwa [pick_all L L.length (Nat.le_refl _), List.take_length] at h1
end
section
variable {P : Program} {w : World} {A : Around} {E : Value → Shared → Prop} {s : Shared} {a : Addr} {L : List Mem} {es : Array (Int × Value)} {ep : Nat} {t : SetTable}
/-- the table is laid anew, larger -/
theorem relay {o : Obj} (ho : s.heap.get? a = some o) (hex : o.ExactSet) (hd : o.data = .set es ep t) (hrow : es.toList = rws w L) (hpl : t.place.size = es.size) (hdm : t.dummies = #[]) (hmk : es.size ≤ t.mask) (hun : (L.map (·.2)).Nodup)
    (hkey : ∀ p ∈ L, At s.heap p.2 p.1) (hpn : t.plain = true) (hld : w.params.followText "set-order" = true ∨ t.led = true) (hlt : L.length < 64) {wanted M : Nat} (hM : SetTable.sizeAbove wanted = M + 1) (hMo : MaskOk M) (hM2 : M ≤ 127) (hrm : L.length * 5 < M * 3)
    {Q : Unit → Shared → Prop} (hQ : ∀ h' L' es' ep' t', Heap.SameBut a s.heap h' → SetN w h' a L' es' ep' t' → L'.Perm L → Q () { s with heap := h' }) : wpAny (model P w) A (setRelay a wanted) Q E s := by
  have hz := rws_len hrow
  obtain ⟨t', order, e, hp, T, em, el, epl, _⟩ := relaid_ok t (hs := es.map (·.1)) (wanted := wanted) (M := M) (by omega) hMo (by rw [Array.size_map, hz]; omega)
  rw [Array.size_map, hz] at hp
  obtain ⟨L2, r1, r2, r3⟩ := reorder L es order hrow hp
  rw [← r3] at T
  have hz2 := rws_len r1
  rw [r2.length_eq] at hz2
  rw [setRelay_eq]
  refine wpAny_bind (wpAny_setState_of ho hd (fits_of hdm hpl hmk) ?_)
  dsimp only
  refine wp_if_neg (by rw [sizeLine_eq]; omega) ?_
  try refine wpAny_bind (wpAny_pure ?_)
  rw [e]
  dsimp only
  refine wpAny_bind (wp_if_neg (by rw [hz2, hz]; simp) ?_)
  try refine wpAny_bind (wpAny_pure ?_)
  refine wpAny_pure ?_
  dsimp only
  have sb : Heap.SameBut a s.heap (s.heap.update a (Obj.putSet (order.filterMap (es[·]?)) t')) := Heap.SameBut.update ..
  refine wpAny_storeSet_of ho hd (hQ _ L2 (order.filterMap (es[·]?)) (ep + 1) t' sb ?_ r2) (by rw [hz2, sizeLine_eq]; omega)
  exact {
    obj := ⟨_, store_at ho hd, ⟨hex.1, hex.2.1, hex.2.2⟩, rfl⟩
    row := r1
    tb := T
    uniq := (r2.map (·.2)).nodup_iff.mpr hun
    key := fun p hpm => (hkey p (r2.mem_iff.mp hpm)).beside ho hd sb
    pln := by rw [epl]; exact hpn
    ld := by rw [el]; exact hld
    rm := by rw [r2.length_eq, em]; exact hrm
    lt := by rw [r2.length_eq]; exact hlt }
/-- a member is added, if it is not yet there -/
theorem put (S : SetN w s.heap a L es ep t) {x : Addr} {k : NestedKey} (hx : At s.heap k x) (hu : A.units + 8 < cLine) (hlt : L.length + 1 < 64) {Q : Bool → Shared → Prop}
    (hQ : ∀ b h' L' es' ep' t', Heap.SameBut a s.heap h' → SetN w h' a L' es' ep' t' → (k ∈ L.map (·.2) ∧ L' = L ∨ k ∉ L.map (·.2) ∧ L'.Perm ((x, k) :: L)) → Q b { s with heap := h' }) :
    wpAny (model P w) A (setAddHashed a (.ref x) (k.hash w)) Q E s := by
  obtain ⟨o, ho, hex, hd⟩ := S.obj
  have hz := S.cnt
  have hrm := S.rm
  have hfit := S.fit
  unfold setAddHashed
  refine wpAny_holding ?_
  rw [show (100000 : Nat) = 99999 + 1 from rfl, setAddHashedIn_succ]
  refine wpAny_bind (wpAny_setState_of ho hd hfit ?_)
  dsimp only
  refine wp_if_neg (by simp [byScan, Value.scannable]) ?_
  try refine wpAny_bind (wpAny_pure ?_)
  refine wpAny_bind (seek_all S hx hu (fun hm => ?_) fun K hm hK hb => ?_)
  · exact wpAny_pure (hQ false s.heap L es ep t (Heap.SameBut.refl a s.heap) S (.inl ⟨hm, rfl⟩))
  dsimp only
  refine wpAny_bind (wpAny_setState_of ho hd hfit ?_)
  dsimp only
  obtain ⟨q1, q2, q3, q4, q5, q6, _, _, q9⟩ := S.tb.put hK hb
  have pl1 : (t.put (way t.mask (k.hash w) K)).1.plain = true := by rw [q6]; exact S.pln
  generalize t.put (way t.mask (k.hash w) K) = pt at q1 q3 q4 q5 q9 pl1 ⊢
  obtain ⟨t1, p⟩ := pt
  dsimp only at q1 q3 q4 q5 q9 pl1 ⊢
  subst q1
  first
    | (refine wpAny_bind ?_; refine wp_if_pos pl1 ?_; refine hx.byVal _ _ _ ?_)
    | refine wp_if_pos pl1 (wpAny_bind (hx.byVal _ _ _ ?_))
  simp only [if_true]
  generalize SetTable.below t.place (way t.mask (k.hash w) K) = p at q2 q3 ⊢
  have row1 : (SetTable.insertAt es p (k.hash w, Value.ref x)).toList = rws w (L.take p ++ (x, k) :: L.drop p) := by
    rw [SetTable.toList_insertAt, rws_ins, S.row]
  have pm := ins_perm L p (x, k)
  have hashes : (L.take p ++ (x, k) :: L.drop p).map (fun p => p.2.hash w) = (L.map fun p => p.2.hash w).take p ++ k.hash w :: (L.map fun p => p.2.hash w).drop p := by
    simp only [List.map_append, List.map_cons, List.map_take, List.map_drop]
  rw [← hashes] at q3
  generalize SetTable.insertAt es p (k.hash w, Value.ref x) = es1 at row1 ⊢
  generalize L.take p ++ (x, k) :: L.drop p = L1 at pm q3 row1
  have n1 : L1.length = L.length + 1 := pm.length_eq
  have z1 := rws_len row1
  have un1 : (L1.map (·.2)).Nodup := (pm.map (·.2)).nodup_iff.mpr (List.nodup_cons.mpr ⟨hm, S.uniq⟩)
  have sb : Heap.SameBut a s.heap (s.heap.update a (Obj.putSet es1 t1)) := Heap.SameBut.update ..
  have ho1 := store_at (es' := es1) (t' := t1) ho hd
  refine wpAny_bind (wpAny_storeSet_of ho hd ?_ (by rw [z1, n1, sizeLine_eq]; omega))
  generalize s.heap.update a (Obj.putSet es1 t1) = h1 at sb ho1 ⊢
  have key1 : ∀ p ∈ L1, At h1 p.2 p.1 := fun p hp => by
    rcases List.mem_cons.mp (pm.mem_iff.mp hp) with e | e
    · rw [e]; exact hx.beside ho hd sb
    · exact (S.key p e).beside ho hd sb
  have ld1 : w.params.followText "set-order" = true ∨ t1.led = true := by rw [q5]; exact S.ld
  by_cases hf : t1.tooFull = true
  · first
      | (refine wpAny_bind ?_; refine wp_if_pos (by simp [hf]) ?_)
      | (refine wp_if_pos (by simp [hf]) ?_; refine wpAny_bind ?_)
    have full : (L.length + 1) * 5 ≥ t1.mask * 3 := by
      have h := hf
      unfold SetTable.tooFull at h
      rw [decide_eq_true_eq, q9, List.length_map] at h
      exact h
    rw [hz]
    have z2 := q3.sz
    rw [List.length_map] at z2
    have anew : ∀ M, SetTable.sizeAbove (SetTable.grown (L.length + 1)) = M + 1 → MaskOk M → M ≤ 127 → (L.length + 1) * 5 < M * 3 → (L.length + 1) ≤ t1.mask →
        wpAny (model P w) A (setRelay a (SetTable.grown (L.length + 1))) (fun _ s' => wpAny (model P w) A (pure true) Q E s') E { s with heap := h1 } := fun M g1 g2 g3 g4 g5 =>
      relay (s := { s with heap := h1 }) ho1 ⟨hex.1, hex.2.1, hex.2.2⟩ rfl row1 (by rw [z2, z1]) q3.dm (by rw [z1, n1]; exact g5) un1 key1 pl1 ld1 (by rw [n1]; exact hlt) g1 g2 g3 (by rw [n1]; exact g4) fun h2 L2 es2 ep2 t2 sb2 S2 pm2 =>
        wpAny_pure (hQ true h2 L2 es2 ep2 t2 (sb.trans sb2) S2 (.inr ⟨hm, pm2.trans pm⟩))
    rw [q4] at full
    rcases S.tb.mok with e | e | e
    · have n4 : L.length = 4 := by rw [e] at full hrm; omega
      exact anew 31 (by rw [n4, size_20]) (.inr (.inl rfl)) (by decide) (by omega) (by rw [q4, e]; omega)
    · have n18 : L.length = 18 := by rw [e] at full hrm; omega
      exact anew 127 (by rw [n18, size_76]) (.inr (.inr rfl)) (by decide) (by omega) (by rw [q4, e]; omega)
    · rw [e] at full; omega
  · first
      | refine wp_if_neg (by simp [hf]) ?_
      | (refine wpAny_bind ?_; refine wp_if_neg (by simp [hf]) ?_; refine wpAny_pure ?_)
    refine wpAny_pure (hQ true h1 L1 es1 (ep + 1) t1 sb { obj := ⟨_, ho1, ⟨hex.1, hex.2.1, hex.2.2⟩, rfl⟩, row := row1, tb := q3, uniq := un1, key := key1, pln := pl1, ld := ld1, rm := ?_, lt := by rw [n1]; exact hlt } (.inr ⟨hm, pm⟩))
    have h := hf
    unfold SetTable.tooFull at h
    rw [decide_eq_true_eq, q9, List.length_map] at h
    rw [n1]
    omega
end
end Pu.Ns
end

section
set_option autoImplicit false
set_option linter.all false
set_option maxRecDepth 100000
set_option maxHeartbeats 4000000
set_option Elab.async false
namespace Pu.Ns
open PySem PySem.Spec PyProof.Rows L2
/-- the set has taken the first i items -/
structure Taken (ks : List Mem) (i : Nat) (L : List Mem) : Prop where
  from_ : ∀ p ∈ L, p ∈ ks.take i
  all : ∀ p ∈ ks.take i, p.2 ∈ L.map (·.2)
  few : L.length ≤ i
theorem Taken.none (ks : List Mem) : Taken ks 0 [] := ⟨fun p h => (by cases h), fun p h => (by simp at h), Nat.le_refl _⟩
theorem Taken.next {ks L L' : List Mem} {i : Nat} {x : Mem} (g : Taken ks i L) (h : ks[i]? = some x) (c : x.2 ∈ L.map (·.2) ∧ L' = L ∨ x.2 ∉ L.map (·.2) ∧ L'.Perm (x :: L)) : Taken ks (i + 1) L' := by
  have ht : ks.take (i + 1) = ks.take i ++ [x] := by rw [List.take_succ, h]; rfl
  rcases c with ⟨hm, rfl⟩ | ⟨_, pm⟩
  · refine ⟨fun p hp => by rw [ht]; exact List.mem_append_left _ (g.from_ p hp), fun p hp => ?_, Nat.le_succ_of_le g.few⟩
    rw [ht, List.mem_append, List.mem_singleton] at hp
    rcases hp with z | rfl
    · exact g.all p z
    · exact hm
  · refine ⟨fun p hp => ?_, fun p hp => ?_, by rw [pm.length_eq, List.length_cons]; exact Nat.succ_le_succ g.few⟩
    · rw [ht, List.mem_append, List.mem_singleton]
      rcases List.mem_cons.mp (pm.mem_iff.mp hp) with z | z
      · exact .inr z
      · exact .inl (g.from_ p z)
    · rw [(pm.map (·.2)).mem_iff, List.map_cons, List.mem_cons]
      rw [ht, List.mem_append, List.mem_singleton] at hp
      rcases hp with z | rfl
      · exact .inr (g.all p z)
      · exact .inl rfl
/-- an empty set -/
abbrev newSet (w : World) : Obj := { cls := .type "set", dict := none, data := .set #[] 0 (.fresh 0 0 (!w.params.followText "set-order")) }
section
variable {P : Program} {w : World} {A : Around} {E : Value → Shared → Prop} {s : Shared}
theorem SetN.empty {h : Heap} {a : Addr} (ho : h.get? a = some (newSet w)) : SetN w h a [] #[] 0 (.fresh 0 0 (!w.params.followText "set-order")) where
  obj := ⟨_, ho, ⟨rfl, rfl, rfl⟩, rfl⟩
  row := rfl
  tb := ⟨List.Pairwise.nil, rfl, rfl, .inl rfl, fun x hx => (by cases hx), fun i h j hi => (by simp at hi)⟩
  uniq := List.nodup_nil
  key := fun p hp => by cases hp
  pln := rfl
  ld := by
    show _ ∨ (!w.params.followText "set-order") = true
    cases w.params.followText "set-order"
    · exact .inr rfl
    · exact .inl rfl
  rm := by show 0 * 5 < 7 * 3; decide
  lt := by show 0 < 64; decide
/-- the loop that fills the set -/
theorem fill {I : Addr} {fp wr : List Addr} {G : Array GenState → Array GenState → Prop} {n : Nat} {Pv : Nat → Value → Prop} {St : Nat → Shared → Prop} {R : Result → Shared → Prop} (W : WalksS P w A.in1 I fp wr G n Pv St) (S : Addr) (hSf : S ∉ fp) (ks : List Mem) (hn : n = ks.length) (hlt : ks.length < 64)
    (hv : ∀ i v, Pv i v → ∃ p, ks[i]? = some p ∧ v = .ref p.1) (h0 : Heap) (hk : ∀ p ∈ ks, At h0 p.2 p.1) (hS0 : h0.get? S = none) (hw0 : ∀ b ∈ wr, h0.get? b = none) (hu : A.in1.units + 8 < cLine) :
    ∀ (j i : Nat) (s : Shared), n - i = j → i ≤ n → St i s → (∀ b o, h0.get? b = some o → s.heap.get? b = some o) → (∃ L es ep t, SetN w s.heap S L es ep t ∧ Taken ks i L) →
      (∀ s' L es ep t, Moved (S :: wr) G s s' → SetN w s'.heap S L es ep t → Taken ks n L → (∀ b o, h0.get? b = some o → s'.heap.get? b = some o) → R (.ok (.ret .none)) s') →
      codeAny (model P w) A (.builtin "set.update.loop" ⟨[.ref S, .ref I], []⟩) R s := by
  have hSw : S ∉ wr := fun h => hSf (W.sub _ h)
  have more : ∀ b ∈ wr, b ∈ S :: wr := fun b hb => List.mem_cons_of_mem _ hb
  have still : ∀ {u u' : Shared}, Moved wr G u u' → (∀ b o, h0.get? b = some o → u.heap.get? b = some o) → ∀ b o, h0.get? b = some o → u'.heap.get? b = some o := fun mv old b o e =>
    mv.heap b o (fun hb => by have := hw0 b hb; rw [this] at e; cases e) (old b o e)
  intro j
  induction j with
  | zero =>
    intro i s hj hi hst old ⟨L, es, ep, t, hS, g⟩ hR
    obtain rfl : i = n := by omega
    refine codeAny_builtin F.entry_set_update_loop ?_
    rw [Around.under_plainId F.plain_set_update_loop _]
    show wpAny _ A.in1 (pyNext (.ref I) >>= _) _ _ s
    refine wpAny_bind (W.done s _ _ hst fun s' mv => ?_)
    show wpAny _ A.in1 (PySem.ret Value.none) _ _ s'
    have old' := still mv old
    exact wpAny_pure (hR s' L es ep t (mv.mono more) (hS.keep (fun o e => mv.heap S o hSw e) fun p hp => (hk p (List.mem_of_mem_take (g.from_ p hp))).keep old') g old')
  | succ j ih =>
    intro i s hj hi hst old ⟨L, es, ep, t, hS, g⟩ hR
    have hin : i < n := by omega
    refine codeAny_builtin F.entry_set_update_loop ?_
    rw [Around.under_plainId F.plain_set_update_loop _]
    show wpAny _ A.in1 (pyNext (.ref I) >>= _) _ _ s
    refine wpAny_bind (W.item i s _ _ hin hst fun v s' hP hst' mv => ?_)
    obtain ⟨p, hp, rfl⟩ := hv i v hP
    have old' := still mv old
    have hS' : SetN w s'.heap S L es ep t := hS.keep (fun o e => mv.heap S o hSw e) fun q hq => (hk q (List.mem_of_mem_take (g.from_ q hq))).keep old'
    have hx : At s'.heap p.2 p.1 := (hk p (List.mem_of_getElem? hp)).keep old'
    show wpAny _ A.in1 (holding [Value.ref p.1] (setAdd S (.ref p.1)) >>= _) _ _ s'
    refine wpAny_bind (wpAny_holding ?_)
    unfold setAdd
    refine wpAny_holding ?_
    refine wpAny_bind (pyHash_key p.2 (.ref p.1) A.in1 s' _ hx.is (by have := hx.dep; omega) ?_)
    refine put (s := { s' with toks := s'.toks + p.2.draws }) hS' hx hu (by have := g.few; omega) fun b h' L' es' ep' t' sb hS2 c => ?_
    have old2 : ∀ b o, h0.get? b = some o → h'.get? b = some o := fun b o e => (sb.2 b (fun z => by rw [z, hS0] at e; cases e)).trans (old' b o e)
    refine wpAny_pure ⟨plainId_quiet F.plain_set_update_loop _, ih (i + 1) _ (by omega) hin (W.frame _ s' _ _ hst' (Nat.le_add_right _ _) fun b hb o e => ?_) old2 ⟨L', es', ep', t', hS2, g.next hp c⟩ fun s2 L2 es2 ep2 t2 mv2 hS3 g2 old3 => ?_⟩
    · rw [sb.2 b fun h : b = S => hSf (h ▸ hb)]; exact e
    · refine hR s2 L2 es2 ep2 t2 (Moved.trans W.gtrans ((mv.mono more).then_heap (Nat.le_add_right _ _) fun b o hb e => ?_) mv2) hS3 g2 old3
      rw [sb.2 b fun h : b = S => hb (by rw [h]; exact List.mem_cons_self)]; exact e
/-- set(xs) -/
theorem call_set {l : Addr} {items : Array Value} (ks : List Mem) {Q : Value → Shared → Prop} (hh : A.handled = none) (hl : s.heap.IsList l items) (hit : items.toList = ks.map fun p => Value.ref p.1) (hk : ∀ p ∈ ks, At s.heap p.2 p.1) (hlt : ks.length < 64) (hu : A.units + 11 < cLine)
    (h : ∀ (h' : Heap) (tk : Nat) L es ep t, SetN w h' s.heap.objs.size L es ep t → Taken ks ks.length L → (∀ b o, s.heap.get? b = some o → h'.get? b = some o) → Q (.ref s.heap.objs.size) { s with heap := h', toks := tk }) :
    wpAny (model P w) A (call (.type "set") [.ref l]) Q E s := by
  have hsz : items.size = ks.length := by
    rw [← Array.length_toList, hit, List.length_map]
  have absent : ∀ b, s.heap.objs.size ≤ b → s.heap.get? b = none := fun b hb => by
    cases q : s.heap.get? b with
    | none => rfl
    | some o => exact absurd (Heap.lt_size q) (Nat.not_lt.mpr hb)
  obtain ⟨c, tl, hmro⟩ := F.called_set.mro
  have hmade := F.called_set.made
  have hsub := F.called_set.sub
  refine wpAny_call (codeAny_of_tree ?_)
  show wpAny _ _ (callAny (.type "set") _) _ _ _
  refine wpAny_pure ⟨Code.quiet_builtin _ (by decide +kernel), codeAny_builtin F.entry_type_call ?_⟩
  rw [Around.under_plain (weight_type_call_type "set" [.ref l] []) rfl]
  have h1 := F.called_set.notType
  have h2 := F.called_set.canCreate
  have hct := F.typeCall_set_1 (.ref l)
  repeat (any_goals (first | assumption | wp_step))
  have hS : (s.heap.push (newSet w)).get? s.heap.objs.size = some (newSet w) := Heap.get?_push_size _ rfl
  refine codeAny_mono (code_set_led1 (.ref l) (E := E) (Q₁ := fun obj s1 => obj = .ref s.heap.objs.size ∧ s1 = { s with heap := s.heap.push (newSet w) }) ⟨rfl, rfl⟩) fun r s1 hr => ?_
  cases r with
  | error e => exact hr
  | ok fl =>
    cases fl with
    | ret obj =>
      obtain ⟨rfl, rfl⟩ := hr
      have hT : Shared.TypeIs { s with heap := s.heap.push (newSet w) } (.ref s.heap.objs.size) "set" := ⟨_, hS, rfl⟩
      have hli := F.called_set.init.lookup
      have hbi := F.called_set.init.bind (.ref s.heap.objs.size)
      repeat (any_goals (first | assumption | wp_step))
      refine codeAny_mono (codeAny_call_builtin (R := wants (fun r s2 => r = .none ∧ ∃ h' tk L es ep t, s2 = { s with heap := h', toks := tk } ∧ SetN w h' s.heap.objs.size L es ep t ∧ Taken ks ks.length L ∧ (∀ b o, s.heap.get? b = some o → h'.get? b = some o)) E) F.called_set.init.plain F.entry_set_init (check_set_init_1 hT ?_)) fun r2 s2 hr2 => ?_
      · obtain ⟨ol, hol, hcl, nl, hdl⟩ := hl
        obtain ⟨ocls, odict, odata, oslots⟩ := ol
        simp only at hcl hdl
        subst hcl; subst hdl
        have hol' : (s.heap.push (newSet w)).get? l = some { cls := .type "list", dict := odict, data := .seq items nl, slots := oslots } := Heap.get?_push_of_some _ hol
        have hsls := F.sub_list_set
        have hslf := F.sub_list_frozenset
        have hne : (Value.type "list" == Value.type "dict") = false := by decide
        have hl1 : (s.heap.push (newSet w)).IsList l items := ⟨_, hol', rfl, nl, rfl⟩
        have hls := Heap.lt_size hol
        have hp1 : (s.heap.push (newSet w)).objs.size = s.heap.objs.size + 1 := Heap.size_push ..
        unfold Builtin.«set.__init__» noKeywords Builtin.Frozenset.updateFrom
        generalize hPI : pyIter = PI
        wp_walk
        subst hPI
        refine wpAny_pyIter_list hl1 ?_
        refine wpAny_bind (wpAny_runValue ?_)
        have hh3 : A.in1.in1.in1.handled = none := by simp [hh]
        have hval : ∀ (i : Nat) (v : Value), items[i]? = some v → ∃ p, ks[i]? = some p ∧ v = .ref p.1 := fun i v hv => by
          rw [← Array.getElem?_toList, hit, List.getElem?_map] at hv
          obtain ⟨p, e1, e2⟩ := Option.map_eq_some_iff.mp hv
          exact ⟨p, e1, e2.symm⟩
        have ne1 : l ≠ (s.heap.push (newSet w)).objs.size := by rw [hp1]; exact Nat.ne_of_lt (Nat.lt_succ_of_lt hls)
        have ne2 : s.heap.objs.size ∉ [(s.heap.push (newSet w)).objs.size, l] := by
          rw [hp1, List.mem_cons, List.mem_singleton]
          rintro (z | z)
          · exact absurd z (Nat.ne_of_lt (Nat.lt_succ_self _))
          · exact absurd z (Nat.ne_of_gt hls)
        refine fill ((Walks.list hh3 _ l ne1 items).toS) s.heap.objs.size ne2 ks hsz hlt hval s.heap hk (absent _ (Nat.le_refl _)) (fun b hb => absent b (by rw [List.mem_singleton.mp hb, hp1]; exact Nat.le_succ _)) (by show A.units + 3 + 8 < cLine; omega) (items.size - 0) 0 _ (by omega) (Nat.zero_le _)
          ⟨⟨_, Heap.get?_push_size _ rfl, rfl, rfl⟩, (hl1.push _)⟩ (fun b o e => Heap.get?_push_of_some _ (Heap.get?_push_of_some _ e)) ⟨[], #[], 0, _, SetN.empty (Heap.get?_push_of_some _ hS), Taken.none ks⟩ fun s' L es ep t mv hS' g' old => ?_
        obtain ⟨h', g2, d2, tk2, os2⟩ := s'
        have eg : g2 = s.gens := mv.gens
        have ed : d2 = s.drawn := mv.drawn
        have eo : os2 = s.os := mv.os
        subst eg ed eo
        rw [hsz] at g'
        show wpAny _ _ _ _ _ _
        refine wpAny_pure ?_
        show wpAny _ _ (PySem.ret Value.none) _ _ _
        exact wpAny_pure ⟨rfl, h', tk2, L, es, ep, t, rfl, hS', g', old⟩
      · cases r2 with
        | error e => exact hr2
        | ok fl2 =>
          cases fl2 with
          | ret r =>
            obtain ⟨rfl, h', tk, L, es, ep, t, rfl, hS', g', old⟩ := hr2
            repeat (any_goals (first | assumption | wp_step))
            exact h _ _ _ _ _ _ hS' g' old
          | _ => exact hr2.elim
    | _ => exact hr.elim
end
end Pu.Ns
end

section
set_option autoImplicit false
set_option linter.all false
set_option maxRecDepth 100000
set_option maxHeartbeats 4000000
set_option Elab.async false
namespace Pu
open PySem PySem.Spec PyProof.Rows L2
mutual
theorem num_eqB : ∀ (x y : D), numD x = true → numD y = true → (eqB x y = true ↔ x = y)
  | .int i, y, _, hy => by
    cases y <;> simp only [numD, Bool.false_eq_true] at hy <;> simp [eqB]
  | .tup xs, y, hx, hy => by
    cases y <;> simp only [numD, Bool.false_eq_true] at hy
    · simp [eqB]
    · rw [numD] at hx
      rw [eqB, num_eqBs xs _ hx hy]
      simp
  | .non, _, hx, _ => by simp [numD] at hx
  | .bl _, _, hx, _ => by simp [numD] at hx
  | .str _, _, hx, _ => by simp [numD] at hx
  | .lst _, _, hx, _ => by simp [numD] at hx
  | .dt _ _, _, hx, _ => by simp [numD] at hx
  | .dk _ _, _, hx, _ => by simp [numD] at hx
  | .scr _, _, hx, _ => by simp [numD] at hx
  | .row, _, hx, _ => by simp [numD] at hx
  | .fn _, _, hx, _ => by simp [numD] at hx
  | .err _ _, _, hx, _ => by simp [numD] at hx
  | .ntp _, _, hx, _ => by simp [numD] at hx
theorem num_eqBs : ∀ (xs ys : List D), numDs xs = true → numDs ys = true → (eqBs xs ys = true ↔ xs = ys)
  | [], [], _, _ => by simp [eqBs]
  | [], _ :: _, _, _ => by simp [eqBs]
  | _ :: _, [], _, _ => by simp [eqBs]
  | x :: xs, y :: ys, hx, hy => by
    rw [numDs, Bool.and_eq_true] at hx hy
    rw [eqBs, Bool.and_eq_true, num_eqB x y hx.1 hy.1, num_eqBs xs ys hx.2 hy.2]
    simp
end
mutual
theorem num_nk : ∀ (x y : D), numD x = true → numD y = true → toNK x = toNK y → x = y
  | .int i, y, _, hy, h => by
    cases y <;> simp only [numD, Bool.false_eq_true] at hy <;> simp only [toNK] at h
    · injection h with h; rw [h]
    · cases h
  | .tup xs, y, hx, hy, h => by
    cases y <;> simp only [numD, Bool.false_eq_true] at hy <;> simp only [toNK] at h
    · cases h
    · rw [numD] at hx
      injection h with h
      rw [num_nks xs _ hx hy h]
  | .non, _, hx, _, _ => by simp [numD] at hx
  | .bl _, _, hx, _, _ => by simp [numD] at hx
  | .str _, _, hx, _, _ => by simp [numD] at hx
  | .lst _, _, hx, _, _ => by simp [numD] at hx
  | .dt _ _, _, hx, _, _ => by simp [numD] at hx
  | .dk _ _, _, hx, _, _ => by simp [numD] at hx
  | .scr _, _, hx, _, _ => by simp [numD] at hx
  | .row, _, hx, _, _ => by simp [numD] at hx
  | .fn _, _, hx, _, _ => by simp [numD] at hx
  | .err _ _, _, hx, _, _ => by simp [numD] at hx
  | .ntp _, _, hx, _, _ => by simp [numD] at hx
theorem num_nks : ∀ (xs ys : List D), numDs xs = true → numDs ys = true → toNKs xs = toNKs ys → xs = ys
  | [], [], _, _, _ => rfl
  | [], _ :: _, _, _, h => by simp [toNKs] at h
  | _ :: _, [], _, _, h => by simp [toNKs] at h
  | x :: xs, y :: ys, hx, hy, h => by
    rw [numDs, Bool.and_eq_true] at hx hy
    simp only [toNKs, List.cons.injEq] at h
    rw [num_nk x y hx.1 hy.1 h.1, num_nks xs ys hx.2 hy.2 h.2]
end
mutual
theorem num_numK : ∀ x : D, numD x = true → Ns.numK (toNK x) = true
  | .int i, _ => by simp [toNK, Ns.numK]
  | .tup xs, h => by
    rw [numD] at h
    simp only [toNK, Ns.numK]
    exact nums_numK xs h
  | .non, hx => by simp [numD] at hx
  | .bl _, hx => by simp [numD] at hx
  | .str _, hx => by simp [numD] at hx
  | .lst _, hx => by simp [numD] at hx
  | .dt _ _, hx => by simp [numD] at hx
  | .dk _ _, hx => by simp [numD] at hx
  | .scr _, hx => by simp [numD] at hx
  | .row, hx => by simp [numD] at hx
  | .fn _, hx => by simp [numD] at hx
  | .err _ _, hx => by simp [numD] at hx
  | .ntp _, hx => by simp [numD] at hx
theorem nums_numK : ∀ xs : List D, numDs xs = true → Ns.numKs (toNKs xs) = true
  | [], _ => by simp [toNKs, Ns.numKs]
  | x :: xs, h => by
    rw [numDs, Bool.and_eq_true] at h
    simp only [toNKs, Ns.numKs, Bool.and_eq_true]
    exact ⟨num_numK x h.1, nums_numK xs h.2⟩
end
theorem num_dedup : ∀ {l : List D}, (∀ x ∈ l, numD x = true) → (∀ x, x ∈ dedupD l ↔ x ∈ l) ∧ (dedupD l).Nodup
  | [], _ => ⟨fun x => by simp [dedupD], List.nodup_nil⟩
  | y :: l, h => by
    obtain ⟨h1, h2⟩ := num_dedup (l := l) fun x hx => h x (List.mem_cons_of_mem _ hx)
    have hany : l.any (eqB y) = true ↔ y ∈ l := by
      rw [List.any_eq_true]
      constructor
      · rintro ⟨x, hx, e⟩
        rw [(num_eqB y x (h y List.mem_cons_self) (h x (List.mem_cons_of_mem _ hx))).mp e]
        exact hx
      · intro hy
        exact ⟨y, hy, (num_eqB y y (h y List.mem_cons_self) (h y List.mem_cons_self)).mpr rfl⟩
    rw [dedupD]
    by_cases hy : y ∈ l
    · rw [if_pos (hany.mpr hy)]
      refine ⟨fun x => ?_, h2⟩
      rw [h1, List.mem_cons]
      exact ⟨.inr, fun e => by rcases e with rfl | e; exact hy; exact e⟩
    · rw [if_neg fun q => hy (hany.mp q)]
      refine ⟨fun x => by rw [List.mem_cons, List.mem_cons, h1], List.nodup_cons.mpr ⟨fun q => hy ((h1 y).mp q), h2⟩⟩
theorem perm_pre {α β : Type} {f : α → β} : ∀ {vs us : List β}, vs.Perm us → ∀ l : List α, us = l.map f → ∃ l' : List α, vs = l'.map f ∧ l'.Perm l := by
  intro vs us h
  induction h with
  | nil => exact fun l e => ⟨l, e, List.Perm.refl l⟩
  | cons x _ ih =>
    intro l e
    cases l with
    | nil => cases e
    | cons y l =>
      injection e with e1 e2
      obtain ⟨l', h1, h2⟩ := ih l e2
      exact ⟨y :: l', by rw [List.map_cons, h1, e1], h2.cons y⟩
  | swap x y t =>
    intro l e
    match l, e with
    | a :: b :: l, e =>
      injection e with e1 e2
      injection e2 with e2 e3
      exact ⟨b :: a :: l, by rw [List.map_cons, List.map_cons, e1, e2, e3], List.Perm.swap a b l⟩
  | trans _ _ ih1 ih2 =>
    intro l e
    obtain ⟨l2, h1, h2⟩ := ih2 l e
    obtain ⟨l3, h3, h4⟩ := ih1 l2 h1
    exact ⟨l3, h3, h4.trans h2⟩
theorem pre_list {α β : Type} {f : α → β} {zs : List α} : ∀ {l : List β}, (∀ x ∈ l, x ∈ zs.map f) → ∃ l' : List α, l = l'.map f ∧ ∀ z ∈ l', z ∈ zs
  | [], _ => ⟨[], rfl, fun _ h => by cases h⟩
  | x :: l, h => by
    obtain ⟨l', e, h2⟩ := pre_list (l := l) fun y hy => h y (List.mem_cons_of_mem _ hy)
    obtain ⟨z, hz, ez⟩ := List.mem_map.mp (h x List.mem_cons_self)
    refine ⟨z :: l', by rw [List.map_cons, ez, e], fun y hy => ?_⟩
    rcases List.mem_cons.mp hy with rfl | hy
    · exact hz
    · exact h2 y hy
section
variable {X : Cx} {c : Ct} {pins : List (Addr × Obj)} {σ : L2.St} {H : Hp} {s : Shared}
abbrev zRef (z : Addr × D) : Value := .ref z.1
abbrev zMem (z : Addr × D) : Ns.Mem := (z.1, toNK z.2)
/-- the items of a list of keys -/
theorem keys_at (C : Cok X c) (I : Inv X pins σ H s) {F : Hp} (hs : Sub F H) : ∀ {ds : List D} {xs : List V} {us : List Value}, RelDs c F ds xs → Vals xs us → (∀ d ∈ ds, nestI d = true) → ∃ zs : List (Addr × D), us = zs.map zRef ∧ ds = zs.map (·.2) ∧ ∀ z ∈ zs, RelD c F z.2 (.ref z.1) ∧ Ns.At s.heap (toNK z.2) z.1
  | [], [], _, _, r, _ => by cases r; exact ⟨[], rfl, rfl, fun _ h => by cases h⟩
  | [], _ :: _, _, h, _, _ => by simp only [RelDs] at h
  | _ :: _, [], _, h, _, _ => by simp only [RelDs] at h
  | d :: ds, x :: xs, _, h, r, hn => by
    simp only [RelDs] at h
    cases r with
    | cons r1 r2 =>
      obtain ⟨zs, h1, h2, h3⟩ := keys_at C I hs h.2 r2 fun e he => hn e (List.mem_cons_of_mem _ he)
      have hd := hn d List.mem_cons_self
      unfold nestI at hd
      rw [Bool.and_eq_true] at hd
      obtain ⟨a, rfl, rfl, k1, k2⟩ := key_is C I hs h.1 hd.1 r1
      refine ⟨(a, d) :: zs, by rw [h1]; rfl, by rw [h2]; rfl, fun z hz => ?_⟩
      rcases List.mem_cons.mp hz with rfl | hz
      · exact ⟨h.1, k1, k2, num_numK d hd.2⟩
      · exact h3 z hz
/-- set(x), to be sorted -/
theorem pu_sortset (C : Cok X c) (I : Inv X pins σ H s) {F : Hp} (hs : Sub F H) {R0 : List D} (hr : RowR c F H R0) {ds : List D} {v : V} {u : Value} (ox : Top c F H (.lst ds) v) (ru : RelV v u) (hall : ds.all nestI = true) (hlen : ds.length ≤ 60) (ho : ordAll (dedupD ds) = true) {Q : VK} (q : ResG c F H R0 (.lst (isort (dedupD ds))) Q)
    {E : Value → Shared → Prop} (hE : E = X.xe) {Qv : Value → Shared → Prop} (k : ∀ v1 s1, wpAny (model X.prog X.w) X.A (call (.builtin "sorted") [v1]) (EP X pins σ Q) X.xe s1 → Qv v1 s1) : wpAny (model X.prog X.w) X.A (call (.type "set") [u]) Qv E s := by
  subst hE
  obtain ⟨l, xs, rfl, hl, rl⟩ := ox
  cases ru
  obtain ⟨its, rv, pl, hz⟩ := I.list (SqL.of hl)
  have hall' : ∀ d ∈ ds, nestI d = true := fun d hd => List.all_eq_true.mp hall d hd
  obtain ⟨zs, e1, e2, hzs⟩ := keys_at C I hs rl rv hall'
  have hun := C.un
  have hnum : ∀ z ∈ zs, numD z.2 = true := fun z hzz => by
    have := hall' z.2 (by rw [e2]; exact List.mem_map.mpr ⟨z, hzz, rfl⟩)
    unfold nestI at this
    exact (Bool.and_eq_true .. ▸ this).2
  have hzl : zs.length ≤ 60 := by
    have := congrArg List.length e2
    rw [List.length_map] at this
    omega
  have hh := I.ok.hd C.calm
  refine Ns.call_set (zs.map zMem) hh pl.isList (by rw [List.map_map]; exact e1) (fun p hp => ?_) (by rw [List.length_map]; omega) (by omega) fun h' tk L es ep t S g old => k _ _ ?_
  · obtain ⟨z, hz, rfl⟩ := List.mem_map.mp hp
    exact (hzs z hz).2
  obtain ⟨o, hob, hex, hd⟩ := S.obj
  have I2 : Inv X pins σ H { s with heap := h', toks := tk } := I.kept old
  have hLz := S.lt
  have hcnt := Ns.rws_len S.row
  refine Calls.call_function_entry kind_sorted plain_sorted entry_sorted (args_sorted1 _) ?_
  unfold Builtin.«sorted»
  refine wpAny_bind (m := checkCount "sorted" 1 1 _) (wpAny_pure ?_)
  refine wpAny_bind (collect_set (A := X.A.in1) hh ⟨o, hob, hex.1, hd⟩ (Ns.SetN.fit (s := { s with heap := h', toks := tk }) S) (by unfold scanBound; omega) S.tb.ris (by rw [show X.w = X.w from rfl]; exact S.ld) fun s1 vs k1 hz1 g1 o1 pm => ?_)
  have I3 : Inv X pins σ H s1 := I2.call' (ch := []) o1 (Un.kept k1) (I2.hok.kept k1) (by rw [g1]; exact I2.bare) fun _ h => nomatch h
  have hrows : es.toList.map (·.2) = L.map fun p => Value.ref p.1 := by
    rw [S.row, Ns.rws, List.map_map]; rfl
  rw [hrows] at pm
  obtain ⟨Lz, eL, hL⟩ := pre_list (f := zMem) (zs := zs) (l := L) fun p hp => List.mem_of_mem_take (g.from_ p hp)
  subst eL
  rw [List.map_map] at pm
  obtain ⟨L', ev, pL⟩ := perm_pre pm Lz rfl
  have hL' : ∀ z ∈ L', z ∈ zs := fun z hz => hL z (pL.mem_iff.mp hz)
  have rel' : RelDs c F (L'.map (·.2)) (L'.map fun z => V.ref z.1) := by
    have : ∀ l : List (Addr × D), (∀ z ∈ l, z ∈ zs) → RelDs c F (l.map (·.2)) (l.map fun z => V.ref z.1) := by
      intro l
      induction l with
      | nil => intro _; simp [RelDs]
      | cons z l ih =>
        intro h
        simp only [List.map_cons, RelDs]
        exact ⟨(hzs z (h z List.mem_cons_self)).1, ih fun y hy => h y (List.mem_cons_of_mem _ hy)⟩
    exact this L' hL'
  have val' : Vals (L'.map fun z => V.ref z.1) vs := by
    rw [ev]
    have : ∀ l : List (Addr × D), Vals (l.map fun z => V.ref z.1) (l.map ((fun p : Ns.Mem => Value.ref p.1) ∘ zMem)) := by
      intro l
      induction l with
      | nil => exact .nil
      | cons z l ih => exact .cons (show RelV (.ref z.1) (.ref z.1) from rfl) ih
    exact this L'
  have pd : (L'.map (·.2)).Perm (dedupD ds) := by
    obtain ⟨m1, m2⟩ := num_dedup (l := ds) fun x hx => by
      rw [e2] at hx
      obtain ⟨z, hz, rfl⟩ := List.mem_map.mp hx
      exact hnum z hz
    have nd : (L'.map (·.2)).Nodup := by
      have n1 : ((Lz.map zMem).map (·.2)).Nodup := S.uniq
      rw [List.map_map] at n1
      have n2 := ((pL.map ((fun x : Ns.Mem => x.2) ∘ zMem)).nodup_iff).mpr n1
      refine List.pairwise_map.mpr ((List.pairwise_map.mp n2).imp fun {a b} hab e => hab (congrArg toNK e))
    refine (List.perm_ext_iff_of_nodup nd m2).mpr fun x => ?_
    rw [m1, e2, List.mem_map, List.mem_map]
    constructor
    · rintro ⟨z, hz, rfl⟩
      exact ⟨z, hL' z hz, rfl⟩
    · rintro ⟨z, hz, rfl⟩
      have := g.all (zMem z) (by rw [List.take_length]; exact List.mem_map.mpr ⟨z, hz, rfl⟩)
      rw [List.map_map] at this
      obtain ⟨y, hy, ey⟩ := List.mem_map.mp this
      exact ⟨y, pL.mem_iff.mpr hy, num_nk y.2 z.2 (hnum y (hL y hy)) (hnum z hz) ey⟩
  have hAll := (ordAll_of ho).1
  have ho' : ordAll (L'.map (·.2)) = true := by
    unfold ordAll at ho ⊢
    simp only [Bool.and_eq_true, Bool.or_eq_true, List.all_eq_true, decide_eq_true_eq] at ho ⊢
    refine ⟨⟨fun x hx y hy => ho.1.1 x (pd.mem_iff.mp hx) y (pd.mem_iff.mp hy), ?_⟩, ?_⟩
    · have key : ∀ {a b : List D}, a.Perm b → deps a = deps b := by
        intro a b h
        induction h with
        | nil => rfl
        | cons x _ ih => simp only [deps, ih]
        | swap x y l => simp only [deps]; omega
        | trans _ _ h1 h2 => rw [h1, h2]
      rw [key pd]; exact ho.1.2
    · rcases ho.2 with (h2 | h2) | h2
      · exact .inl (.inl fun x hx => h2 x (pd.mem_iff.mp hx))
      · exact .inl (.inr fun x hx => h2 x (pd.mem_iff.mp hx))
      · exact .inr fun x hx => h2 x (pd.mem_iff.mp hx)
  have es : isort (L'.map (·.2)) = isort (dedupD ds) := by
    have hA' : AllOrd (L'.map (·.2)) := (ordAll_of ho').1
    refine sorted_uniq (fun x hx y hy => hA' x ((isort_perm _).mem_iff.mp hx) y ((isort_perm _).mem_iff.mp hy)) (((isort_perm _).trans pd).trans (isort_perm _).symm) (isort_sorted hA') (isort_sorted hAll)
  have hvl : vs.length ≤ 60 := by
    rw [ev, List.length_map, pL.length_eq]
    have := g.few
    rw [List.length_map, List.length_map] at this
    omega
  have hz2 : vs.length ≤ sizeLine := by rw [sizeLine_eq]; omega
  refine wpAny_bind (wpAny_newList ?_ hz2)
  have hoL : (s1.heap.push (seqObj "list" vs.toArray 0)).get? s1.heap.objs.size = some (seqObj "list" vs.toArray 0) := Heap.get?_push_size _ rfl
  have keep : ∀ b o, s1.heap.get? b = some o → b ≠ s1.heap.objs.size ∧ (s1.heap.push (seqObj "list" vs.toArray 0)).get? b = some o := fun b o e => ⟨Nat.ne_of_lt (Heap.lt_size e), Heap.get?_push_of_some _ e⟩
  show wpAny _ _ _ _ _ { s1 with heap := s1.heap.push (seqObj "list" vs.toArray 0), toks := s1.toks }
  refine wpAny_bind (wpAny_holding (wpAny_call_entry slot_list_sort ⟨_, hoL, rfl⟩ entry_list_sort (sort_rel C I3 hs rel' val' ho' keep hoL hz2 (by rw [in1_units, in1_units]; omega) fun out us' r1 r2 hl2 => ⟨_, rfl, ?_⟩) (args_list_sort _)))
  refine wpAny_pure ⟨_, rfl, ?_⟩
  rw [es] at r2
  obtain ⟨w1, hw1⟩ := sortedHeap_at (out := out.toArray) hoL
  have kk : ∀ b o, s1.heap.get? b = some o → (sortedHeap (s1.heap.push (seqObj "list" vs.toArray 0)) s1.heap.objs.size vs out.toArray).get? b = some o := fun b o e => by
    have e' := Heap.get?_push_of_some (seqObj "list" vs.toArray 0) e
    rw [sortedHeap_old (Nat.ne_of_lt (Heap.lt_size e)) (Heap.lt_size e')]; exact e'
  exact ⟨.ref s1.heap.objs.size, _, I3.laid (t' := s1.toks) (o := .lst us') kk (Nat.le_refl _) ⟨by rw [r1.length, hl2]; exact hz2, out, w1, r1, hw1⟩, rfl, ResG.lst q hs hr r2 _ (I3.hok.fresh (Nat.le_refl _))⟩
end
end Pu
end

section
set_option autoImplicit false
set_option linter.all false
set_option maxRecDepth 100000
set_option maxHeartbeats 16000000
set_option Elab.async false
namespace Pu
open PySem PySem.Spec PyProof.Rows L2 PySem.Calls
section
variable {P : Program} {w : World} {A : Around} {E : Value → Shared → Prop} {s : Shared}
def puS (w : World) : Obj := { cls := .type "set", dict := none, data := .set #[] 0 (.fresh 0 0 (!w.params.followText "set-order")) }
theorem pu_set_list {l : Addr} {its : Array Value} (ns : List Int) {Q : Value → Shared → Prop} (hh : A.handled = none) (hl : s.heap.IsList l its) (hit : IntsAre its.toList ns) (hb : ns.length + 1 < scanBound)
    (h : ∀ (g : Heap) (tk c : Nat), SetR w g s.heap.objs.size (fun j => decide (j ∈ ns)) c → c ≤ ns.length → (∀ b o, s.heap.get? b = some o → g.get? b = some o) → Q (.ref s.heap.objs.size) { s with heap := g, toks := tk }) :
    wpAny (model P w) A (call (.type "set") [.ref l]) Q E s := by
  have hisz : its.size = ns.length := by
    have e := IntsAre.length hit
    rwa [Array.length_toList] at e
  obtain ⟨c0, t0, hm0⟩ := F.called_set.mro
  have q1 := F.called_set.made
  have q2 := F.called_set.sub
  refine wpAny_call (codeAny_of_tree ?_)
  show wpAny _ _ (callAny (.type "set") _) _ _ _
  refine wpAny_pure ⟨Code.quiet_builtin _ (by decide +kernel), codeAny_builtin F.entry_type_call ?_⟩
  rw [Around.under_plain (weight_type_call_type "set" [.ref l] []) rfl]
  have q3 := F.called_set.notType
  have q4 := F.called_set.canCreate
  have q5 := F.typeCall_set_1 (.ref l)
  repeat (any_goals (first | assumption | wp_step))
  refine codeAny_mono (code_set_led1 (.ref l) (E := E) (Q₁ := fun ob s1 => ob = .ref s.heap.objs.size ∧ s1 = { s with heap := s.heap.push (puS w) }) ⟨rfl, rfl⟩) fun r s1 hr => ?_
  cases r with
  | error e => exact hr
  | ok fl =>
    cases fl with
    | ret ob =>
      obtain ⟨rfl, rfl⟩ := hr
      have hS : (s.heap.push (puS w)).get? s.heap.objs.size = some (puS w) := Heap.get?_push_size _ rfl
      have hT : Shared.TypeIs { s with heap := s.heap.push (puS w) } (.ref s.heap.objs.size) "set" := ⟨_, hS, rfl⟩
      have q6 := F.called_set.init.lookup
      have q7 := F.called_set.init.bind (.ref s.heap.objs.size)
      repeat (any_goals (first | assumption | wp_step))
      refine codeAny_mono (codeAny_call_builtin (R := wants (fun r s2 => r = .none ∧ ∃ g tk c, s2 = { s with heap := g, toks := tk } ∧ SetR w g s.heap.objs.size (fun j => decide (j ∈ ns)) c ∧ c ≤ ns.length ∧ (∀ b o, s.heap.get? b = some o → g.get? b = some o)) E) F.called_set.init.plain F.entry_set_init (check_set_init_1 hT ?_)) fun r2 s2 hr2 => ?_
      · obtain ⟨ol, hol, hcl, nl, hdl⟩ := hl
        obtain ⟨k1, k2, k3, k4⟩ := ol
        simp only at hcl hdl
        subst hcl hdl
        have hol2 : (s.heap.push (puS w)).get? l = some { cls := .type "list", dict := k2, data := .seq its nl, slots := k4 } := Heap.get?_push_of_some _ hol
        have q8 := F.sub_list_set
        have q9 := F.sub_list_frozenset
        have hne : (Value.type "list" == Value.type "dict") = false := by decide
        have hl1 : (s.heap.push (puS w)).IsList l its := ⟨_, hol2, rfl, nl, rfl⟩
        unfold Builtin.«set.__init__» noKeywords Builtin.Frozenset.updateFrom
        generalize hPI : pyIter = PI
        wp_walk
        subst hPI
        refine wpAny_pyIter_list hl1 ?_
        refine wpAny_bind (wpAny_runValue ?_)
        have hlS : l < s.heap.objs.size := Heap.lt_size hol
        have hh3 : A.in1.in1.in1.handled = none := by simp [hh]
        have z1 : (s.heap.push (puS w)).objs.size = s.heap.objs.size + 1 := Heap.size_push ..
        have nI : l ≠ (s.heap.push (puS w)).objs.size := by rw [z1]; exact Nat.ne_of_lt (Nat.lt_succ_of_lt hlS)
        have nS : s.heap.objs.size ∉ [(s.heap.push (puS w)).objs.size, l] := by
          rw [z1]
          simp only [List.mem_cons, List.not_mem_nil, or_false, not_or]
          exact ⟨Nat.ne_of_lt (Nat.lt_succ_self _), Nat.ne_of_gt hlS⟩
        have hv : ∀ (i : Nat) (v : Value), its[i]? = some v → ∃ k t, ns[i]? = some k ∧ v = .int k t := fun i v hi => by
          have hi' : i < ns.length := by rw [← hisz]; exact (Array.getElem?_eq_some_iff.mp hi).1
          obtain ⟨t, e⟩ := PyProof.Rows.IntsAre.int_at hit i v (by rw [Array.getElem?_toList]; exact hi)
          exact ⟨ns[i], t, List.getElem?_eq_getElem hi', by rw [e, List.getD_eq_getElem?_getD, List.getElem?_eq_getElem hi']; rfl⟩
        refine set_update_ints ((Walks.list hh3 _ l nI its).toS) s.heap.objs.size nS ns hisz hb hv (its.size - 0) 0 _ (by omega) (Nat.zero_le _) ⟨⟨_, Heap.get?_push_size _ rfl, rfl, rfl⟩, hl1.push _⟩ ⟨0, Nat.le_refl 0, setR_new_at (Heap.get?_push_of_some _ hS)⟩ ?_
        intro s3 c3 hm hc3 hS3
        obtain ⟨g3, g4, d3, t3, o3⟩ := s3
        cases (show g4 = s.gens from hm.gens)
        cases (show d3 = s.drawn from hm.drawn)
        cases (show o3 = s.os from hm.os)
        show wpAny _ _ _ _ _ _
        refine wpAny_pure ?_
        show wpAny _ _ (PySem.ret Value.none) _ _ _
        rw [hisz] at hc3
        refine wpAny_pure ⟨rfl, g3, t3, c3, rfl, hS3, hc3, fun b o e => ?_⟩
        have b0 : b < s.heap.objs.size := Heap.lt_size e
        exact hm.heap b o (by
          rw [z1]
          simp only [List.mem_cons, List.not_mem_nil, or_false, not_or]
          exact ⟨Nat.ne_of_lt b0, Nat.ne_of_lt (Nat.lt_succ_of_lt b0)⟩) (Heap.get?_push_of_some _ (Heap.get?_push_of_some _ e))
      · cases r2 with
        | error e => exact hr2
        | ok fl2 =>
          cases fl2 with
          | ret r =>
            obtain ⟨rfl, g, tk, c, rfl, k1, k2, k3⟩ := hr2
            repeat (any_goals (first | assumption | wp_step))
            exact h _ _ _ k1 k2 k3
          | _ => exact hr2.elim
    | _ => exact hr.elim
end
end Pu
end

section
set_option autoImplicit false
set_option linter.all false
set_option maxRecDepth 100000
set_option maxHeartbeats 4000000
set_option Elab.async false
namespace Pu
open PySem PySem.Spec PyProof.Rows L2
def setO (w : World) (a : Addr) (ns : List Int) : HO := .ext fun h => ∃ c, c ≤ ns.length ∧ SetR w h a (fun j => decide (j ∈ ns)) c
theorem setO_ok {P : Program} {w : World} {H : Hp} {h : Heap} {a : Addr} {ns : List Int} {c : Nat} (R : SetR w h a (fun j => decide (j ∈ ns)) c) (hc : c ≤ ns.length) : ObjOk P w H h a (setO w a ns) :=
  ⟨⟨c, hc, R⟩, let ⟨o, _, _, _, ho, _⟩ := R; ⟨o, ho⟩, fun h1 h2 k q => let ⟨c', k1, k2⟩ := k; ⟨c', k1, k2.at q⟩⟩
section
variable {X : Cx} {c : Ct}
theorem ints_all {xs : List D} (h : xs.all isI = true) : ∃ ns, ints? xs = some ns ∧ xs = ns.map D.int := by
  induction xs with
  | nil => exact ⟨[], rfl, rfl⟩
  | cons x xs ih =>
    simp only [List.all_cons, Bool.and_eq_true] at h
    obtain ⟨ns, h1, h2⟩ := ih h.2
    obtain ⟨i, rfl⟩ : ∃ i, x = .int i := by
      have := h.1
      cases x <;> first | exact ⟨_, rfl⟩ | cases this
    exact ⟨i :: ns, by simp [ints?, h1], by rw [h2]; rfl⟩
theorem eqB_ii (i n : Int) : eqB (.int i) (.int n) = (i == n) := by simp [eqB]
theorem eqB_int (i : Int) : ∀ ns : List Int, (ns.map D.int).any (eqB (.int i)) = decide (i ∈ ns)
  | [] => rfl
  | n :: ns => by
    rw [List.map_cons, List.any_cons, eqB_int i ns, eqB_ii]
    by_cases h : i = n
    · subst h; simp
    · have : (i == n) = false := by simpa using h
      rw [this]; simp [h]
theorem dedup_ints : ∀ ns : List Int, ∃ ms : List Int, dedupD (ns.map D.int) = ms.map D.int ∧ ms.Nodup ∧ ∀ k, k ∈ ms ↔ k ∈ ns
  | [] => ⟨[], rfl, List.nodup_nil, fun _ => Iff.rfl⟩
  | n :: ns => by
    obtain ⟨ms, h1, h2, h3⟩ := dedup_ints ns
    simp only [List.map_cons, dedupD]
    rw [eqB_int]
    by_cases h : n ∈ ns
    · refine ⟨ms, by simp [h, h1], h2, fun k => ?_⟩
      rw [h3, List.mem_cons]
      exact ⟨.inr, fun e => by rcases e with rfl | e; exact h; exact e⟩
    · refine ⟨n :: ms, by simp [h, h1], List.nodup_cons.mpr ⟨fun z => h ((h3 n).mp z), h2⟩, fun k => ?_⟩
      rw [List.mem_cons, List.mem_cons, h3]
/-- set(x), x a list, a tuple of ints -/
def PSt (c : Ct) (w : World) : List V → Hp → VK → Prop := fun vs H Q => ∃ F x dx ns, vs = [x] ∧ Sub F H ∧ Top c F H dx x ∧ (dx = .lst (ns.map D.int) ∨ dx = .tup (ns.map D.int)) ∧ ns.length ≤ 60 ∧ ∀ p, H p = none → Q (.ref p) (upd H p (setO w p ns))
theorem ints_map : ∀ ns : List Int, ints? (ns.map D.int) = some ns
  | [] => rfl
  | n :: ns => by simp [ints?, ints_map ns]
theorem cd_set (C : Cok X c) : CallR X (.type "set") (PSt c X.w) := by
  intro pins s σ H vs us Q I r h
  obtain ⟨F, x, dx, ns, rfl, hs, tx, hd, hl, q⟩ := h
  have hsc : ns.length + 1 < scanBound := by show ns.length + 1 < 4096; omega
  rcases hd with rfl | rfl
  · obtain ⟨a, xs, rfl, ha, ra⟩ := tx
    have e := ra.ints (ints_map ns)
    subst e
    rw [Vals.ref1 r]
    obtain ⟨its, rv, pl, hz⟩ := I.list (SqL.of ha)
    exact pu_set_list ns (I.ok.hd C.calm) pl.isList (by simpa using rv.ints) hsc fun g tk c' R hc hk => ⟨.ref s.heap.objs.size, _, I.laid (t' := tk) (o := setO X.w s.heap.objs.size ns) hk (Nat.le_refl _) (setO_ok R hc), rfl, q _ (I.hok.fresh (Nat.le_refl _))⟩
  · simp only [Top, RelD] at tx
    obtain ⟨a, xs, rfl, ha, ra⟩ := tx
    have e := ra.ints (ints_map ns)
    subst e
    rw [Vals.ref1 r]
    obtain ⟨its, rv, it, hz⟩ := I.tuple (show SqT X.K H a _ by rw [C.K]; exact sq hs ha)
    exact call_set_tupI ns (I.ok.hd C.calm) (show s.heap.IsTuple a its.toArray from it) (by simpa using rv.ints) hsc fun g tk c' R hc hk => ⟨.ref s.heap.objs.size, _, I.laid (t' := tk) (o := setO X.w s.heap.objs.size ns) hk (Nat.le_refl _) (setO_ok R hc), rfl, q _ (I.hok.fresh (Nat.le_refl _))⟩
def PSs' (c : Ct) (w : World) : List V → Hp → VK → Prop := fun vs H Q => ∃ F p ns R, vs = [V.ref p] ∧ H p = some (setO w p ns) ∧ Sub F H ∧ RowR c F H R ∧ ns.length ≤ 60 ∧ ResG c F H R (.lst (isort (dedupD (ns.map D.int)))) Q
theorem cd_sortSet (C : Cok X c) : CallR X (.builtin "sorted") (PSs' c X.w) := by
  intro pins s σ H vs us Q I r h
  obtain ⟨F, p, ns, R, rfl, hp, hs, hr, hl, q⟩ := h
  rw [Vals.ref1 r]
  obtain ⟨c', hc, SR⟩ := (I.hok p _ hp).1
  refine sorted_set SR (I.ok.hd C.calm) (by omega) fun s' d out cc ms hk hg ho hd hget hi hlt hmem hlen => ?_
  have e : ms.map D.int = isort (dedupD (ns.map D.int)) := by
    obtain ⟨ks, k1, k2, k3⟩ := dedup_ints ns
    rw [k1]
    have hoA : AllOrd (ks.map D.int) := fun x hx y hy => by
      obtain ⟨i, _, rfl⟩ := List.mem_map.mp hx
      obtain ⟨j, _, rfl⟩ := List.mem_map.mp hy
      rfl
    have pm : (ms.map D.int).Perm (ks.map D.int) := by
      refine List.Perm.map _ ?_
      refine (List.perm_ext_iff_of_nodup (hlt.imp fun h => by omega) k2).mpr fun k => ?_
      rw [hmem, k3]; simp
    refine sorted_uniq (fun x hx y hy => hoA x (pm.mem_iff.mp hx) y (pm.mem_iff.mp hy)) (pm.trans (isort_perm _).symm) ?_ (isort_sorted hoA)
    rw [List.pairwise_map]
    refine hlt.imp fun {x y} hxy => ?_
    have := (cmpI (i := x) (j := y)).2.1
    unfold leD
    simp only [cmpD]
    rw [this]; exact decide_eq_true (by omega)
  rw [← e] at q
  have hn : H d = none := I.hok.fresh hd
  have hz : out.toList.length ≤ sizeLine := by
    have := hi.length
    rw [sizeLine_eq]; omega
  have un : Un (frs X.stack) [] H (upd H d (.lst (ms.map V.int))) s.heap s'.heap := Un.laid hk hd hn
  have hok : HOk X.prog X.w (upd H d (.lst (ms.map V.int))) s'.heap := I.hok.laid hk hd ⟨by have := (vals_of_ints hi).length; omega, out.toList, cc, vals_of_ints hi, by simpa using hget⟩
  exact ⟨.ref d, _, I.call' (ch := []) ho un hok (by rw [hg]; exact I.bare) (fun _ z => nomatch z), rfl, ResG.lst q hs hr (RelDs.of_ints ms) _ hn⟩
end
end Pu
end

section
set_option autoImplicit false
set_option linter.all false
set_option maxRecDepth 100000
set_option maxHeartbeats 4000000
set_option Elab.async false
namespace Pu
open PySem PySem.Spec PyProof.Rows L2
section
variable {X : Cx} {c : Ct}
def lD (k : List Int) : D := .tup (k.map D.int)
def P64 (k : List Int) : Prop := ∃ a b : Int, k = [a, b] ∧ 0 ≤ a ∧ a < 64 ∧ 0 ≤ b ∧ b < 64
theorem p64_of {d : D} (h : isP64 d = true) : ∃ k, P64 k ∧ d = lD k := by
  unfold isP64 at h
  split at h
  · simp only [Bool.and_eq_true, decide_eq_true_eq] at h
    exact ⟨_, ⟨_, _, rfl, h.1.1.1, h.1.1.2, h.1.2, h.2⟩, rfl⟩
  · cases h
/-- the pairs' objects -/
theorem pairs_at {F : Hp} : ∀ {ds : List D} {xs : List V}, RelDs c F ds xs → (∀ d ∈ ds, isP64 d = true) → ∃ ks : List (Addr × List Int), xs = ks.map (fun p => V.ref p.1) ∧ ds = ks.map (fun p => lD p.2) ∧ (∀ p ∈ ks, SqT c.K F p.1 (p.2.map V.int)) ∧ ∀ p ∈ ks, P64 p.2
  | [], [], _, _ => ⟨[], rfl, rfl, fun _ h => (by cases h), fun _ h => (by cases h)⟩
  | [], _ :: _, h, _ => by simp only [RelDs] at h
  | _ :: _, [], h, _ => by simp only [RelDs] at h
  | d :: ds, x :: xs, h, hp => by
    simp only [RelDs] at h
    obtain ⟨ks, h1, h2, h3, h4⟩ := pairs_at h.2 fun e he => hp e (List.mem_cons_of_mem _ he)
    obtain ⟨k, hk, rfl⟩ := p64_of (hp d List.mem_cons_self)
    have hd := h.1
    simp only [lD, RelD] at hd
    obtain ⟨a, us, rfl, ha, ru⟩ := hd
    have eu : us = k.map V.int := by
      have h5 : ∀ (k : List Int) (us : List V), RelDs c F (k.map D.int) us → us = k.map V.int := by
        intro k
        induction k with
        | nil => intro us h; cases us with
          | nil => rfl
          | cons u us => simp [RelDs] at h
        | cons i k ih => intro us h; cases us with
          | nil => simp [RelDs] at h
          | cons u us =>
            simp only [List.map_cons, RelDs, RelD] at h
            rw [h.1, ih us h.2]; rfl
      exact h5 k us ru
    subst eu
    refine ⟨(a, k) :: ks, by rw [h1]; rfl, by rw [h2]; rfl, fun p hp' => ?_, fun p hp' => ?_⟩
    · rcases List.mem_cons.mp hp' with e | e
      · subst e; exact ha
      · exact h3 p e
    · rcases List.mem_cons.mp hp' with e | e
      · subst e; exact hk
      · exact h4 p e
theorem eqB_lD {k l : List Int} (hk : P64 k) (hl : P64 l) : eqB (lD k) (lD l) = true ↔ k = l := by
  obtain ⟨a, b, rfl, _⟩ := hk
  obtain ⟨a', b', rfl, _⟩ := hl
  simp [lD, eqB, eqBs]
theorem dedup_pairs : ∀ {ks : List (List Int)}, (∀ k ∈ ks, P64 k) → ∃ ms : List (List Int), dedupD (ks.map lD) = ms.map lD ∧ ms.Nodup ∧ ∀ k, k ∈ ms ↔ k ∈ ks
  | [], _ => ⟨[], rfl, List.nodup_nil, fun _ => Iff.rfl⟩
  | n :: ns, h => by
    obtain ⟨ms, h1, h2, h3⟩ := dedup_pairs (ks := ns) fun k hk => h k (List.mem_cons_of_mem _ hk)
    have hany : ((ns.map lD).any (eqB (lD n))) = true ↔ n ∈ ns := by
      rw [List.any_map, List.any_eq_true]
      constructor
      · rintro ⟨k, hk, e⟩
        have := (eqB_lD (h n List.mem_cons_self) (h k (List.mem_cons_of_mem _ hk))).mp e
        rw [this]; exact hk
      · intro hk; exact ⟨n, hk, (eqB_lD (h n List.mem_cons_self) (h n List.mem_cons_self)).mpr rfl⟩
    simp only [List.map_cons, dedupD]
    by_cases hn : n ∈ ns
    · refine ⟨ms, by rw [if_pos (hany.mpr hn), h1], h2, fun k => ?_⟩
      rw [h3, List.mem_cons]
      exact ⟨.inr, fun e => by rcases e with rfl | e; exact hn; exact e⟩
    · refine ⟨n :: ms, by rw [if_neg fun q => hn (hany.mp q), h1]; rfl, List.nodup_cons.mpr ⟨fun z => hn ((h3 n).mp z), h2⟩, fun k => ?_⟩
      rw [List.mem_cons, List.mem_cons, h3]
theorem cmp_lD {k l : List Int} (hk : P64 k) (hl : P64 l) (hne : k ≠ l) (h : TS.code 64 k ≤ TS.code 64 l) : leD (lD k) (lD l) = true := by
  obtain ⟨a, b, rfl, k1, k2, k3, k4⟩ := hk
  obtain ⟨a', b', rfl, l1, l2, l3, l4⟩ := hl
  have := pair_lt h hne ⟨k1, k2⟩ ⟨k3, k4⟩ ⟨l1, l2⟩ ⟨l3, l4⟩
  unfold leD lD
  simp only [List.map_cons, List.map_nil, cmpD, cmpDs]
  rcases this with h1 | ⟨rfl, h1⟩
  · rw [Int.compare_eq_lt.mpr h1]; rfl
  · have e : compare a a = .eq := Int.compare_eq_eq.mpr rfl
    rw [e]
    dsimp only
    rw [Int.compare_eq_lt.mpr h1]; rfl
/-- set(x): of ints, of pairs -/
def PStP (c : Ct) (P : Program) (w : World) : List V → Hp → VK → Prop := fun vs H Q => PSt c w vs H Q ∨ rSetOfT c.K P w vs H Q
theorem cd_setP (C : Cok X c) : CallR X (.type "set") (PStP c X.prog X.w) := by
  intro pins s σ H vs us Q I r h
  rcases h with h | h
  · exact cd_set C pins s σ H vs us Q I r h
  · rw [← C.K] at h
    exact cr_setOfT C.calm (by have := C.un; omega) pins s σ H vs us Q I r h
def PSsP (c : Ct) (P : Program) (w : World) : List V → Hp → VK → Prop := fun vs H Q => PSs' c w vs H Q ∨ rSortedT c.K P w vs H Q
theorem cd_sortSetP (C : Cok X c) : CallR X (.builtin "sorted") (PSsP c X.prog X.w) := by
  intro pins s σ H vs us Q I r h
  rcases h with h | h
  · exact cd_sortSet C pins s σ H vs us Q I r h
  · rw [← C.K] at h
    exact cr_sortedT C.calm pins s σ H vs us Q I r h
end
end Pu
end

section
set_option autoImplicit false
set_option linter.all false
set_option maxRecDepth 100000
set_option maxHeartbeats 4000000
set_option Elab.async false
namespace Pu
open PySem PySem.Spec PyProof.Rows L2
theorem hash_small {i : Int} (h0 : 0 ≤ i) (h1 : i < 1000000) : hashInt i = i := by
  unfold hashInt rawHash
  have e : ((i.natAbs % (2 ^ 61 - 1 : Nat) : Nat) : Int) = i := by
    rw [Nat.mod_eq_of_lt (by omega)]
    omega
  have hn : ¬ i < 0 := by omega
  have h1 : ¬ i = -1 := by omega
  have e' : ((i.natAbs : Int) % ((2 ^ 61 - 1 : Nat) : Int)) = i := by omega
  simp only [e', if_neg hn, beq_iff_eq, if_neg h1]
mutual
theorem hash_nk (w : World) : ∀ d : D, intOnly d = true → (toNK d).hash w = hashD d
  | .int i, h => by
    simp only [intOnly, Bool.and_eq_true, decide_eq_true_eq] at h
    simp only [toNK, NestedKey.hash, hashD]
    exact hash_small h.1 h.2
  | .tup xs, h => by
    simp only [intOnly] at h
    simp only [toNK, NestedKey.hash, hashD, hash_nks w xs h]
  | .non, h => by simp [intOnly] at h
  | .bl _, h => by simp [intOnly] at h
  | .str _, h => by simp [intOnly] at h
  | .lst _, h => by simp [intOnly] at h
  | .dt _ _, h => by simp [intOnly] at h
  | .dk _ _, h => by simp [intOnly] at h
  | .scr _, h => by simp [intOnly] at h
  | .row, h => by simp [intOnly] at h
  | .fn _, h => by simp [intOnly] at h
  | .err _ _, h => by simp [intOnly] at h
  | .ntp _, h => by simp [intOnly] at h
theorem hash_nks (w : World) : ∀ ds : List D, intOnlys ds = true → NestedKey.hashes w (toNKs ds) = hashDs ds
  | [], _ => by simp only [toNKs, NestedKey.hashes, hashDs]
  | d :: ds, h => by
    simp only [intOnlys, Bool.and_eq_true] at h
    simp only [toNKs, NestedKey.hashes, hashDs, hash_nk w d h.1, hash_nks w ds h.2]
end
theorem nodupI_ok : ∀ {l : List Int}, nodupI l = true → l.Nodup
  | [], _ => List.nodup_nil
  | i :: l, h => by
    rw [nodupI, Bool.and_eq_true, Bool.not_eq_true'] at h
    exact List.nodup_cons.mpr ⟨fun hm => (by rw [List.contains_iff_mem.mpr hm] at h; exact Bool.noConfusion h.1), nodupI_ok h.2⟩
theorem nodupK_ok : ∀ {ks : List D}, ks.all keyOk = true → nodupK ks = true → (toNKs ks).Nodup
  | [], _, _ => by simp [toNKs]
  | k :: ks, hk, h => by
    rw [List.all_cons, Bool.and_eq_true] at hk
    rw [nodupK, Bool.and_eq_true, Bool.not_eq_true'] at h
    simp only [toNKs]
    refine List.nodup_cons.mpr ⟨fun hm => ?_, nodupK_ok hk.2 h.2⟩
    rw [toNKs_map] at hm
    obtain ⟨x, hx, e⟩ := List.mem_map.mp hm
    have h1 := h.1
    rw [List.any_eq_false] at h1
    have h2 := nk_beq k x (keyOk_hsh hk.1).1 (keyOk_hsh (List.all_eq_true.mp hk.2 x hx)).1
    rw [e, NestedKey.beq_self] at h2
    exact h1 x hx h2.symm
section
variable {X : Cx} {c : Ct}
variable {pins : List (Addr × Obj)} {σ : L2.St} {H : Hp} {s : Shared}
theorem rel_two {F : Hp} {d1 d2 : D} : ∀ {ys : List V}, RelDs c F [d1, d2] ys → ∃ y1 y2, ys = [y1, y2] ∧ RelD c F d1 y1 ∧ RelD c F d2 y2
  | [], h => by simp [RelDs] at h
  | [_], h => by simp [RelDs] at h
  | [y1, y2], h => by
    simp only [RelDs, and_true] at h
    exact ⟨y1, y2, rfl, h.1, h.2⟩
  | _ :: _ :: _ :: _, h => by simp [RelDs] at h
theorem vals_two {y1 y2 : V} {its : List Value} (h : Vals [y1, y2] its) : ∃ u1 u2, its = [u1, u2] ∧ RelV y1 u1 ∧ RelV y2 u2 := by
  cases h with
  | cons h1 h2 =>
    cases h2 with
    | cons h2 h3 =>
      cases h3
      exact ⟨_, _, rfl, h1, h2⟩
/-- a pair of a dict's list -/
theorem pair_of (C : Cok X c) (I : Inv X pins σ H s) {F : Hp} (hs : Sub F H) {k v : D} {x : V} (r : RelD c F (.tup [k, v]) x) (hk : keyOk k = true) :
    ∃ (T a : Addr) (y2 : V) (u2 : Value), x = .ref T ∧ RelD c F k (.ref a) ∧ RelD c F v y2 ∧ RelV y2 u2 ∧ IsTup s.heap T #[.ref a, u2] ∧ (nestedKind X.prog X.w).is s.heap (toNK k) a := by
  simp only [RelD] at r
  obtain ⟨T, ys, rfl, hT, ry⟩ := r
  obtain ⟨y1, y2, rfl, r1, r2⟩ := rel_two ry
  obtain ⟨its, rv, ht, hz⟩ := I.tuple (show SqT X.K H T [y1, y2] by rw [C.K]; exact sq hs hT)
  obtain ⟨u1, u2, rfl, q1, q2⟩ := vals_two rv
  obtain ⟨a, g1, g2, g3⟩ := key_is C I hs r1 hk q1
  subst g1
  subst g2
  exact ⟨T, a, y2, u2, rfl, r1, r2, q2, ht, g3⟩
theorem pairL_cons {p : D} {ps ks vs : List D} (h : pairL (p :: ps) = some (ks, vs)) : ∃ k v ks' vs', p = .tup [k, v] ∧ pairL ps = some (ks', vs') ∧ keyOk k = true ∧ ks = k :: ks' ∧ vs = v :: vs' := by
  unfold pairL at h
  split at h
  · rename_i k v ks' vs' he
    split at h
    · rename_i hk
      cases h
      exact ⟨k, v, ks', vs', rfl, he, hk, rfl, rfl⟩
    · cases h
  · cases h
/-- the pairs of a list, taken apart -/
theorem pairs_of (C : Cok X c) (I : Inv X pins σ H s) {F : Hp} (hs : Sub F H) : ∀ {ps ks vs : List D} {xs : List V}, RelDs c F ps xs → pairL ps = some (ks, vs) →
    ∃ (Ts : List Addr) (zs : List (NestedKey × Addr × Value)) (ws : List V), xs = Ts.map V.ref ∧ zs.length = ps.length ∧ toNKs ks = zs.map (·.1) ∧ ks.all keyOk = true ∧ RelDs c F ks (zs.map fun z => V.ref z.2.1) ∧ RelDs c F vs ws ∧ Vals ws (zs.map (·.2.2)) ∧
      (∀ (i : Nat) (T : Addr) (z : NestedKey × Addr × Value), Ts[i]? = some T → zs[i]? = some z → IsTup s.heap T #[.ref z.2.1, z.2.2]) ∧ ∀ z ∈ zs, (nestedKind X.prog X.w).is s.heap z.1 z.2.1
  | [], ks, vs, xs, r, h => by
    simp only [pairL, Option.some.injEq, Prod.mk.injEq] at h
    obtain ⟨rfl, rfl⟩ := h
    cases xs with
    | cons => simp only [RelDs] at r
    | nil => exact ⟨[], [], [], rfl, rfl, by simp [toNKs], rfl, by simp only [List.map_nil, RelDs], by simp only [RelDs], .nil, fun i T z h => by simp at h, fun z h => by cases h⟩
  | p :: ps, ks, vs, xs, r, h => by
    obtain ⟨k, v, ks', vs', rfl, he, hk, rfl, rfl⟩ := pairL_cons h
    cases xs with
    | nil => simp only [RelDs] at r
    | cons x xs =>
      simp only [RelDs] at r
      obtain ⟨Ts, zs, ws, e1, e2, e3, e4, e5, e6, e7, e8, e9⟩ := pairs_of C I hs r.2 he
      obtain ⟨T, a, y2, u2, rfl, r1, r2, q2, ht, g3⟩ := pair_of C I hs r.1 hk
      refine ⟨T :: Ts, (toNK k, a, u2) :: zs, y2 :: ws, by rw [e1]; rfl, by simp [e2], by simp only [toNKs, List.map_cons, e3], by rw [List.all_cons, hk, e4]; rfl, by simp only [List.map_cons, RelDs]; exact ⟨r1, e5⟩, by simp only [RelDs]; exact ⟨r2, e6⟩, .cons q2 e7, fun i T' z' h1 h2 => ?_, fun z' hz' => ?_⟩
      · cases i with
        | zero =>
          rw [List.getElem?_cons_zero, Option.some.injEq] at h1 h2
          subst h1; subst h2; exact ht
        | succ i => exact e8 i T' z' (by simpa using h1) (by simpa using h2)
      · rcases List.mem_cons.mp hz' with e | e
        · rw [e]; exact g3
        · exact e9 z' e
theorem isObj_ok0 {P : Program} {w : World} {H : Hp} {h : Heap} {a : Addr} {o : Obj} (e : h.get? a = some o) : ObjOk P w H h a (isObjAt a o) := ⟨e, ⟨o, e⟩, fun h1 h2 p q => q o p⟩
/-- the new dict, in the heap -/
theorem dict_done (C : Cok X c) (I : Inv X pins σ H s) {F : Hp} {R ks vs : List D} {Q : VK} {zs : List (NestedKey × Addr × Value)} {ws : List V} {h' : Heap} {tk : Nat} (hs : Sub F H) (hr : RowR c F H R) (hd : h'.DictOfH (nestedKind X.prog X.w) s.heap.objs.size zs) (hk : ∀ b o, s.heap.get? b = some o → h'.get? b = some o)
    (e1 : toNKs ks = zs.map (·.1)) (e2 : ks.all keyOk = true) (e3 : RelDs c F ks (zs.map fun z => V.ref z.2.1)) (e4 : RelDs c F vs ws) (e5 : Vals ws (zs.map (·.2.2))) (e6 : ks.length ≤ 1000001) (q : ResG c F H R (.dt ks vs) Q) : EP X pins σ Q (.ref s.heap.objs.size) { s with heap := h', toks := tk } := by
  obtain ⟨o, es, ep, ho, k2, k3, k5, k6, k7⟩ := hd
  have hb : sysModules < s.heap.objs.size := I.big
  have hn : H s.heap.objs.size = none := I.hok.fresh (Nat.le_refl _)
  have q : ResF c F H R (.dt ks vs) Q := q
  refine ⟨.ref s.heap.objs.size, _, I.laid (a := s.heap.objs.size) (o := isObjAt s.heap.objs.size o) (t' := tk) hk (Nat.le_refl _) (isObj_ok0 ho), rfl, ?_⟩
  refine q F _ _ (Ext.beside hs hn) (hr.beside hn) ⟨o, es, ep, zs, ws, upd_same, k2, k3, beq_eq_false_iff_ne.mpr (Ne.symm (Nat.ne_of_lt hb)), by rw [← C.P, ← C.w]; exact k5, k7, e1, e2, e3, e4, e5, e6⟩ (hs.none hn) ?_ hn
  rintro e
  obtain ⟨_, z, _⟩ := hr
  rw [← e, hn] at z; cases z
/-- dict(a dict) -/
theorem pu_call_dict {A : Around} {E : Value → Shared → Prop} {a : Addr} {xs : List (NestedKey × Addr × Value)} {Q : Value → Shared → Prop} {P : Program} {w : World} (hu : (nestedKind P w).room A.in1.in1) (ha : (a == sysModules) = false) (hd : s.heap.DictOfH (nestedKind P w) a xs)
    (hty : ∀ x ∈ xs, Shared.TypeIs { s with heap := s.heap.push { cls := .type "dict", data := .dict #[] } } (.ref x.2.1) "tuple") (hnd : (xs.map fun x => (nestedKind P w).hash x.1).Nodup) (hsz : xs.length ≤ sizeLine) (hkn : (xs.map (·.1)).Nodup)
    (hp : (s.heap.push { cls := .type "dict", data := .dict #[] }).DictOfH (nestedKind P w) a xs)
    (h : ∀ h', h'.DictOfH (nestedKind P w) s.heap.objs.size xs → (∀ b o, s.heap.get? b = some o → h'.get? b = some o) → Q (.ref s.heap.objs.size) { s with heap := h' }) :
    wpAny (model P w) A (call (.type "dict") [.ref a]) Q E s := by
  refine callType_codes (Q₁ := fun obj s₁ => obj = .ref s.heap.objs.size ∧ s₁ = { s with heap := s.heap.push { cls := .type "dict", data := .dict #[] } }) F.kt_called_dict (F.kt_typeCall_dict_1 _) F.entry_dict_init (kt_code_dict_new _ ⟨rfl, rfl⟩) ?_
  rintro obj s₁ ⟨rfl, rfl⟩
  have hT : Shared.TypeIs { s with heap := s.heap.push { cls := .type "dict", data := .dict #[] } } (.ref s.heap.objs.size) "dict" := ⟨_, Heap.get?_push_size _ rfl, rfl⟩
  refine ⟨hT, F.args_dict_init_2 _ _, ?_⟩
  unfold Builtin.«dict.__init__»
  refine wpAny_bind ?_
  unfold Builtin.Dict.selfAndRest
  refine wpAny_bind (wpAny_notOrdered_dict hT ?_)
  show wpAny _ _ (pure (s.heap.objs.size, [Value.ref a])) _ _ _
  refine wpAny_pure ?_
  have hlt : a < s.heap.objs.size := hd.lt_size
  refine updateFrom_dictH (A := A.in1) (knd := nestedKind P w) (kvs := []) .none hu (Ne.symm (Nat.ne_of_lt hlt)) ha (Heap.DictOfH.new s.heap) hp (.inr ⟨hty, hnd⟩) (by simpa using hsz) fun h' hd' ho' hs' => ?_
  rw [storedAllH_nil_of_nodup xs hkn] at hd'
  exact ⟨rfl, h h' hd' fun b o q => (hs'.2 b (Nat.ne_of_lt (Heap.lt_size q))).trans (Heap.get?_push_of_some _ q)⟩
theorem cd_dict (C : Cok X c) : CallR X (.type "dict") (P1 c dictD) := by
  intro pins s σ H vs us Q I r h
  obtain ⟨F, x, dx, R, d, rfl, hs, hr, tx, e, q⟩ := h
  unfold dictD at e
  split at e
  · rename_i ks ws
    split at e
    · rename_i hz
      cases e
      rw [Bool.and_eq_true] at hz
      obtain ⟨a, rfl, hd⟩ := tx
      rw [Vals.ref1 r]
      obtain ⟨o, es, ep, xs, us', n1, g1, k1, k2, k3, k4, k5, k6, k7, k8, k9, k10, k11, k12⟩ := dt_heap C I hs hd
      have hl : ks.length = xs.length := by
        have := congrArg List.length k1
        rw [toNKs_map] at this
        simpa using this
      obtain ⟨o', es', ep', t1, t2, t3, t4, t5, t6⟩ := id g1
      have hkp : ∀ b ob, s.heap.get? b = some ob → (s.heap.push { cls := .type "dict", data := .dict #[] }).get? b = some ob := fun b ob q => Heap.get?_push_of_some _ q
      have hkey : ∀ x ∈ xs, Shared.TypeIs { s with heap := s.heap.push { cls := .type "dict", data := .dict #[] } } (.ref x.2.1) "tuple" := fun x hx => by
        obtain ⟨j, hj⟩ := List.mem_iff_getElem?.mp hx
        have hjl : j < ks.length := by rw [hl]; exact (List.getElem?_eq_some_iff.mp hj).1
        obtain ⟨v, hv, rv⟩ := k3.get (List.getElem?_eq_getElem hjl)
        rw [List.getElem?_map, hj] at hv
        cases hv
        have hk : keyOk ks[j] = true := List.all_eq_true.mp k2 _ (List.getElem_mem hjl)
        generalize ks[j] = kd at rv hk
        cases kd <;> simp only [keyOk, Bool.false_eq_true] at hk
        simp only [RelD] at rv
        obtain ⟨a', ys, e', hT, _⟩ := rv
        cases e'
        obtain ⟨its, _, ⟨ot, hot, hct, _⟩, _⟩ := I.tuple (show SqT X.K H x.2.1 ys by rw [C.K]; exact sq hs hT)
        exact ⟨ot, hkp _ _ hot, hct⟩
      have hnd : (xs.map fun x => (nestedKind X.prog X.w).hash x.1).Nodup := by
        have h1 := nodupI_ok hz.2
        have h2 : ks.map hashD = xs.map fun x => (nestedKind X.prog X.w).hash x.1 := by
          have h3 : ks.map hashD = (toNKs ks).map fun k => k.hash X.w := by
            rw [toNKs_map, List.map_map]
            exact List.map_congr_left fun k hk => (hash_nk X.w k (List.all_eq_true.mp hz.1 k hk)).symm
          rw [h3, k1, List.map_map]; rfl
        rw [← h2]; exact h1
      refine pu_call_dict (by show X.A.in1.in1.units + 8 < cLine; have := C.un; show X.A.units + 1 + 1 + 8 < cLine; omega) n1 g1 hkey hnd (by rw [sizeLine_eq]; omega) k12 ⟨o', es', ep', hkp _ _ t1, t2, t3, t4, fun y hy => ⟨NestedIs.at (fun b ob vs n q _ => hkp b ob q) _ _ (t5 y hy).1, (t5 y hy).2⟩, t6⟩ fun h' hd' hk' => ?_
      exact dict_done C I hs hr hd' hk' k1 k2 k3 k4 k5 k6 q
    · cases e
  · rename_i ps
    split at e
    · rename_i hsz
      have hsz := sizeOk_le hsz
      split at e
      · rename_i ks ws he
        split at e
        · rename_i hnk
          cases e
          obtain ⟨a, xs, rfl, ha, ra⟩ := tx
          rw [Vals.ref1 r]
          obtain ⟨Ts, zs, us', e1, e2, e3, e4, e5, e6, e7, e8, e9⟩ := pairs_of C I hs ra he
          subst e1
          obtain ⟨its, rv, ⟨o, n, p1, p2, p3, p4⟩, hz⟩ := I.list (SqL.of ha)
          have hTl : Ts.length = zs.length := by rw [e2, ← ra.length, List.length_map]
          have hkd : (zs.map (·.1)).Nodup := by rw [← e3]; exact nodupK_ok e4 hnk
          have hits : its = Ts.map Value.ref := by
            have : ∀ (Ts : List Addr) (its : List Value), Vals (Ts.map V.ref) its → its = Ts.map Value.ref := by
              intro Ts
              induction Ts with
              | nil => intro its h; cases h; rfl
              | cons T Ts ih => intro its h; cases h with | cons h1 h2 => cases h1; rw [ih _ h2]; rfl
            exact this Ts its rv
          have hps : ∀ (j : Nat) (k v : Value), (zs.map fun z => (Value.ref z.2.1, z.2.2))[j]? = some (k, v) → ∃ z, zs[j]? = some z ∧ k = .ref z.2.1 ∧ v = z.2.2 := fun j k v hj => by
            rw [List.getElem?_map] at hj
            obtain ⟨z, hz, e⟩ := Option.map_eq_some_iff.mp hj
            cases e
            exact ⟨z, hz, rfl, rfl⟩
          refine call_dict_pairsH (knd := nestedKind X.prog X.w) (ps := zs) (PairArg.list a its.toArray (fun j => Ts.getD j 0) (zs.map fun z => (Value.ref z.2.1, z.2.2))) (I.ok.hd C.calm) (by show X.A.units + 1 + 1 + 8 < cLine; have := C.un; omega) ⟨⟨o, n, p1, p2, p3, p4⟩, ?_, fun j k v hj => ?_⟩ ⟨by rw [List.length_map], fun i key v hi => ?_⟩ (fun h' hk z hz => ⟨NestedIs.at (fun b ob vs n q _ => hk b ob (Nat.ne_of_lt (Heap.lt_size q)) (by simp) q) _ _ (e9 z hz).1, (e9 z hz).2⟩) (by rw [List.length_map, e2]; exact hsz) fun h' tk hd' hk' => ?_
          · rw [hits, List.size_toArray, List.length_map, List.length_map, hTl]
          · obtain ⟨z, hz, rfl, rfl⟩ := hps j k v hj
            have hjT : j < Ts.length := by rw [hTl]; exact (List.getElem?_eq_some_iff.mp hz).1
            have hT : Ts[j]? = some (Ts.getD j 0) := by rw [List.getD, List.getElem?_eq_getElem hjT]; rfl
            refine ⟨?_, .inl ?_⟩
            · rw [hits]
              simp only [List.getElem?_toArray, List.getElem?_map, hT]; rfl
            · exact e8 j _ z hT hz
          · obtain ⟨z, hz, rfl, rfl⟩ := hps i key v hi
            exact ⟨z.1, z.2.1, hz, rfl⟩
          · rw [storedAllH_nil_of_nodup zs hkd] at hd'
            refine dict_done C I hs hr hd' (fun b ob q => hk' b ob (by simp) q) e3 e4 e5 e6 e7 ?_ q
            have : ks.length = zs.length := by
              have := congrArg List.length e3
              rw [toNKs_map] at this
              simpa using this
            have := of_decide_eq_true (show decide (ps.length ≤ lenMax) = true from ‹sizeOk ps.length = true›)
            unfold lenMax at this
            omega
        · cases e
      · cases e
    · cases e
  · cases e
end
end Pu
end

section
set_option autoImplicit false
set_option linter.all false
set_option maxRecDepth 100000
set_option maxHeartbeats 4000000
set_option Elab.async false
namespace Pu
open PySem PySem.Spec PyProof.Rows L2

theorem bnd_ok {α β : Type} {x : M α} {f : α → M β} {r r' : List D} {b : β} (h : bnd x f r = .ok b r') : ∃ a r1, x r = .ok a r1 ∧ f a r1 = .ok b r' := by
  unfold bnd at h
  cases hx : x r with
  | ok a r1 => rw [hx] at h; exact ⟨a, r1, rfl, h⟩
  | exc c fs r1 => rw [hx] at h; cases h
  | stuck => rw [hx] at h; cases h
theorem lft_ok {α : Type} {f : List D → Option α} {r r' : List D} {a : α} (h : lft f r = .ok a r') : f r = some a ∧ r' = r := by
  unfold lft at h
  cases hf : f r with
  | none => rw [hf] at h; cases h
  | some b => rw [hf] at h; cases h; exact ⟨rfl, rfl⟩
theorem ret_ok {α : Type} {a b : α} {r r' : List D} (h : Pu.ret a r = .ok b r') : a = b ∧ r = r' := by
  cases h; exact ⟨rfl, rfl⟩
theorem asB_ok {d : D} {b : Bool} {r r' : List D} (h : asB d r = .ok b r') : d = .bl b ∧ r' = r := by
  unfold asB at h
  cases d <;> cases h
  exact ⟨rfl, rfl⟩

/-- an address of the body's own -/
def OwnA (c : Ct) (H0 F : Hp) (a : Addr) : Prop := F a = none ∧ a ≠ c.ar ∧ H0 a = none
def SlotR (c : Ct) (H0 F H : Hp) (o : Option (Option V)) (l : List Addr) : Slot → Prop
  | .none => l = []
  | .val d => l = [] ∧ ∃ v, o = some (some v) ∧ RelD c F d v
  | .own d => ∃ a, l = [a] ∧ o = some (some (.ref a)) ∧ OwnD c F H d a ∧ OwnA c H0 F a
  | .own2 d => ∃ (a : Addr) (as : List Addr) (rs : List D), l = a :: as ∧ l.Nodup ∧ d = .lst rs ∧ o = some (some (.ref a)) ∧ H a = some (.lst (as.map V.ref)) ∧ OwnA c H0 F a ∧ as.length = rs.length ∧
      ∀ (j : Nat) (b : Addr) (r : D), as[j]? = some b → rs[j]? = some r → (∃ ds, r = .lst ds) ∧ OwnD c F H r b ∧ OwnA c H0 F b
structure StR (c : Ct) (F0 H0 F H : Hp) (σ : L2.St) (ρ : Env) (R : List D) : Prop where
  sub : Sub F H
  ext : Ext c F0 H0 F H
  len : σ.length = ρ.length
  fp : ∃ fp : Nat → List Addr, (∀ (i : Nat) (s : Slot), ρ[i]? = some s → SlotR c H0 F H σ[i]? (fp i) s) ∧ ∀ (i j : Nat) (a : Addr), i ≠ j → a ∈ fp i → a ∉ fp j
  row : RowR c F H R
section
variable {c : Ct} {F0 H0 F H F' H' : Hp} {σ : L2.St} {ρ : Env} {R R' : List D}
theorem Ext.none {a : Addr} {o : HO} (e : Ext c F H F' H') (hn : F a = none) (hs : H a = some o) : F' a = none := by
  cases q : F' a with
  | none => rfl
  | some u =>
    rcases e.n a u q with h | h
    · rw [hn] at h; cases h
    · rw [hs] at h; cases h
theorem OwnD.ext {a : Addr} {d : D} (e : Ext c F H F' H') (hr : a ≠ c.ar) (h : OwnD c F H d a) : OwnD c F' H' d a := h.mono e.f fun o q => e.h a o q hr
theorem OwnA.ext {a : Addr} {o : HO} (e : Ext c F H F' H') (hs : H a = some o) (h : OwnA c H0 F a) : OwnA c H0 F' a := ⟨e.none h.1 hs, h.2⟩
theorem SlotR.ext {o : Option (Option V)} {l : List Addr} (e : Ext c F H F' H') : ∀ {s : Slot}, SlotR c H0 F H o l s → SlotR c H0 F' H' o l s
  | .none, h => h
  | .val d, h => by
    obtain ⟨h1, v, h2, h3⟩ := h
    exact ⟨h1, v, h2, RelD.mono e.f _ _ h3⟩
  | .own d, h => by
    obtain ⟨a, h1, h2, h3, h4⟩ := h
    obtain ⟨o, ho⟩ := h3.there
    exact ⟨a, h1, h2, h3.ext e h4.2.1, h4.ext e ho⟩
  | .own2 d, h => by
    obtain ⟨a, as, rs, h1, h2, h3, h4, h5, h6, h7, h8⟩ := h
    refine ⟨a, as, rs, h1, h2, h3, h4, e.h _ _ h5 h6.2.1, h6.ext e h5, h7, fun j b r hb hr => ?_⟩
    obtain ⟨k1, k2, k3⟩ := h8 j b r hb hr
    obtain ⟨o, ho⟩ := k2.there
    exact ⟨k1, k2.ext e k3.2.1, k3.ext e ho⟩
theorem StR.step (S : StR c F0 H0 F H σ ρ R) (e : Ext c F H F' H') (r : RowR c F' H' R') : StR c F0 H0 F' H' σ ρ R' := by
  obtain ⟨fp, h1, h2⟩ := S.fp
  exact ⟨e.s, S.ext.trans e S.row, S.len, ⟨fp, fun i s hs => (h1 i s hs).ext e, h2⟩, r⟩
/-- a slot's value -/
theorem StR.val (S : StR c F0 H0 F H σ ρ R) {i : Nat} {d : D} (h : ρ[i]? = some (.val d)) : ∃ v, σ[i]? = some (some v) ∧ RelD c F d v := by
  obtain ⟨fp, h1, h2⟩ := S.fp
  exact (h1 i _ h).2
theorem StR.own (S : StR c F0 H0 F H σ ρ R) {i : Nat} {d : D} (h : ρ[i]? = some (.own d)) : ∃ a, σ[i]? = some (some (.ref a)) ∧ OwnD c F H d a ∧ OwnA c H0 F a := by
  obtain ⟨fp, h1, h2⟩ := S.fp
  obtain ⟨a, _, h3⟩ := h1 i _ h
  exact ⟨a, h3⟩
end

def Opd (c : Ct) (F H : Hp) (d : D) (v : V) : Prop := Top c F H d v ∧ ∀ a, v = .ref a → ownable d = true → a ≠ c.ar
theorem Opd.ext {c : Ct} {F H F' H' : Hp} {d : D} {v : V} (e : Ext c F H F' H') (h : Opd c F H d v) : Opd c F' H' d v := by
  refine ⟨?_, h.2⟩
  obtain ⟨t, n⟩ := h
  cases d <;> first
    | exact RelD.mono e.f _ _ t
    | skip
  · obtain ⟨a, xs, rfl, q, r⟩ := t
    exact ⟨a, xs, rfl, e.h _ _ q (n a rfl rfl), RelDs.mono e.f _ _ r⟩
  · obtain ⟨a, rfl, q⟩ := t
    exact ⟨a, rfl, q.imp (fun o k => e.h _ _ k (n a rfl rfl)) (fun xs k => RelDs.mono e.f _ xs k) (fun xs k => RelDs.mono e.f _ xs k)⟩
theorem RelD.opd {c : Ct} {F H : Hp} {R : List D} {d : D} {v : V} (s : Sub F H) (r : RowR c F H R) (h : RelD c F d v) : Opd c F H d v := by
  refine ⟨h.top s, fun a e ho => ?_⟩
  subst e
  obtain ⟨_, _, _, n⟩ := r
  rintro rfl
  cases d <;> simp only [ownable, Bool.false_eq_true] at ho
  · simp only [RelD] at h
    obtain ⟨a, xs, e, q, _⟩ := h
    cases e
    rw [n] at q; cases q
  · simp only [RelD] at h
    obtain ⟨a, e, o, es, ep, xs, us, q, _⟩ := h
    cases e
    rw [n] at q; cases q
  · simp only [RelD] at h
    obtain ⟨a, xs, e, q, _⟩ := h
    cases e
    rw [n] at q; cases q

def ResO (c : Ct) (F H : Hp) (R : List D) (d : D) (Q : VK) : Prop := ∀ F' H' v, Ext c F H F' H' → RowR c F' H' R → Opd c F' H' d v → Q v H'
theorem ResO.res {c : Ct} {F H : Hp} {R : List D} {d : D} {Q : VK} (h : ResO c F H R d Q) : Res c F H R d Q := fun F' H' v e r q => h F' H' v e r (q.opd e.s r)
section
variable {c : Ct} {F H F' H' : Hp} {R R' : List D} {d : D} {Q : VK}
theorem Res.ext (h : Res c F H R' d Q) (e : Ext c F H F' H') (r : RowR c F' H' R) : Res c F' H' R' d Q := fun F2 H2 v e2 r2 q => h F2 H2 v (e.trans e2 r) r2 q
theorem ResF.ext (h : ResF c F H R' d Q) (e : Ext c F H F' H') (r : RowR c F' H' R) : ResF c F' H' R' d Q := fun F2 H2 a e2 r2 q n1 n2 n3 => h F2 H2 a (e.trans e2 r) r2 q n1 n2 (by
  cases q : H a with
  | none => rfl
  | some o => rw [e.h a o q n2] at n3; cases n3)
theorem ResG.ext (h : ResG c F H R' d Q) (e : Ext c F H F' H') (r : RowR c F' H' R) : ResG c F' H' R' d Q := by
  unfold ResG at h ⊢
  split
  · rename_i ho; rw [if_pos ho] at h; exact ResF.ext h e r
  · rename_i ho; rw [if_neg ho] at h; exact Res.ext h e r
theorem ResO.ext (h : ResO c F H R' d Q) (e : Ext c F H F' H') (r : RowR c F' H' R) : ResO c F' H' R' d Q := fun F2 H2 v e2 r2 q => h F2 H2 v (e.trans e2 r) r2 q
end
def tE (c : Ct) (cf : Cf) (a : E) : TE := fun σ H Q => ∃ F0 H0 F ρ R d R', StR c F0 H0 F H σ ρ R ∧ evE cf a ρ R = .ok d R' ∧ Res c F H R' d Q
def tG (c : Ct) (cf : Cf) (a : E) : TE := fun σ H Q => ∃ F0 H0 F ρ R d R', StR c F0 H0 F H σ ρ R ∧ evE cf a ρ R = .ok d R' ∧ ResG c F H R' d Q
def tO (c : Ct) (cf : Cf) (a : E) : TE := fun σ H Q => ∃ F0 H0 F ρ R d R', StR c F0 H0 F H σ ρ R ∧ opn a ρ (evE cf a ρ) R = .ok d R' ∧ ResO c F H R' d Q
def tT (c : Ct) (cf : Cf) (a : E) : TT := fun σ H Q => ∃ F0 H0 F ρ R b R', StR c F0 H0 F H σ ρ R ∧ bnd (evE cf a ρ) asB R = .ok b R' ∧ ∀ F' H', Ext c F H F' H' → RowR c F' H' R' → Q b H'
def tAs (c : Ct) (cf : Cf) (as : List E) : TA := fun σ H Q => ∃ F0 H0 F ρ R ds R', StR c F0 H0 F H σ ρ R ∧ evEs cf as ρ R = .ok ds R' ∧ ∀ F' H' vs, Ext c F H F' H' → RowR c F' H' R' → RelDs c F' ds vs → Q vs H'
section
variable {X : Cx} {c : Ct} {cf : Cf} {a b : E} {e e2 : Expr} {te : TE} {pos : Pos}
theorem PE.imp {t t' : TE} (h : PE X e t) (k : ∀ σ H Q, t' σ H Q → t σ H Q) : PE X e t' := ⟨fun pins s σ H Q I q => h.run pins s σ H Q I (k σ H Q q)⟩
theorem PT.imp {t t' : TT} (h : PT X e t) (k : ∀ σ H Q, t' σ H Q → t σ H Q) : PT X e t' := ⟨fun pins s σ H Q I q => h.run pins s σ H Q I (k σ H Q q)⟩
theorem PA.imp {es : List Expr} {t t' : TA} (h : PA X es t) (k : ∀ σ H Q, t' σ H Q → t σ H Q) : PA X es t' := ⟨fun pos pins s σ H Q I q => h.run pos pins s σ H Q I (k σ H Q q)⟩
theorem PS.imp {st : Stmt} {t t' : TS} (h : PS X st t) (k : ∀ D σ H, t' D σ H → t D σ H) : PS X st t' := ⟨fun pins s σ H D I q => h.run pins s σ H D I (k D σ H q)⟩
theorem PSs.imp {st : List Stmt} {t t' : TS} (h : PSs X st t) (k : ∀ D σ H, t' D σ H → t D σ H) : PSs X st t' := ⟨fun pins s σ H D I q => h.run pins s σ H D I (k D σ H q)⟩
theorem tE_tG : ∀ σ H Q, tE c cf a σ H Q → tG c cf a σ H Q := by
  rintro σ H Q ⟨F0, H0, F, ρ, R, d, R', S, ev, q⟩
  exact ⟨F0, H0, F, ρ, R, d, R', S, ev, q.gen⟩
/-- an operand that is no name -/
theorem tO_tE (h : ∀ i, a ≠ .var i) : ∀ σ H Q, tO c cf a σ H Q → tE c cf a σ H Q := by
  rintro σ H Q ⟨F0, H0, F, ρ, R, d, R', S, ev, q⟩
  have e : opn a ρ (evE cf a ρ) = evE cf a ρ := by
    cases a <;> first | rfl | exact absurd rfl (h _)
  rw [e] at ev
  exact ⟨F0, H0, F, ρ, R, d, R', S, ev, q.res⟩
/-- all that a term's rule tells -/
structure GE (X : Cx) (c : Ct) (cf : Cf) (a : E) (e : Expr) : Prop where
  v : PE X e (tE c cf a)
  o : PE X e (tO c cf a)
  t : PT X e (tT c cf a)
def plainT (e : Expr) : Bool := match e with
  | .BoolOp .. => false
  | .UnaryOp .Not _ _ => false
  | .Compare .. => false
  | .NamedExpr .. => false
  | .IfExp .. => false
  | .Constant .. => false
  | _ => true
theorem tT_tB : ∀ σ H Q, tT c cf a σ H Q → tB (tE c cf a) σ H Q := by
  rintro σ H Q ⟨F0, H0, F, ρ, R, b, R', S, ev, q⟩
  obtain ⟨d, R1, e1, e2⟩ := bnd_ok ev
  obtain ⟨rfl, rfl⟩ := asB_ok e2
  refine ⟨F0, H0, F, ρ, R, .bl b, R', S, e1, fun F' H' v ex r rd => ?_⟩
  exact ⟨b, by simpa only [RelD] using rd, q F' H' ex r⟩
end
end Pu
end

section
set_option autoImplicit false
set_option linter.all false
set_option maxRecDepth 100000
set_option maxHeartbeats 4000000
set_option Elab.async false
namespace Pu
open PySem PySem.Spec PyProof.Rows L2

/-- the promise of a def -/
def spG (c : Ct) (cf : Cf) (g : Nat) : Sp := fun vs H Q _ => ∃ F R ds d R', Sub F H ∧ RowR c F H R ∧ RelDs c F ds vs ∧ cf g ds R = .ok d R' ∧ Res c F H R' d Q
/-- a def that may be called by the name x -/
def CalOk (X : Cx) (c : Ct) (cf : Cf) (x : Str) (g : Nat) : Prop := ∃ k fd ps, FnOk X.prog X.w X.K X.mg X.base CX0 k (c.fa g) fd ps (spG c cf g) ∧ Room k X.A ∧ X.mg x = some (.ref (c.fa g)) ∧ PySem.W.keepIn X.K (.ref (c.fa g)) = true ∧ Binds X.K fd ps []
def CstOk (X : Cx) (c : Ct) (x : Str) (d : D) : Prop := ∃ u v, X.mg x = some u ∧ RelV v u ∧ ∀ F, RelD c F d v

section
variable {X : Cx} {c : Ct} {cf : Cf} {a b : E} {e e2 e3 : Expr} {te : TE} {pos : Pos}
theorem GE.of (h : PE X e (tE c cf a)) (hn : ∀ i, a ≠ .var i) (ht : ∀ whole, isTrue e X.env whole = (do let v ← whole; standAt e.pos; holding [v] (truthy v))) : GE X c cf a e :=
  ⟨h, PE.imp h (tO_tE hn), PT.imp (pt_val h ht) tT_tB⟩
theorem tE_of_tG (h : PE X e (tG c cf a)) : PE X e (tE c cf a) := PE.imp h tE_tG
theorem StR.res {F0 H0 F H : Hp} {σ : L2.St} {ρ : Env} {R : List D} {d : D} {v : V} {Q : VK} (S : StR c F0 H0 F H σ ρ R) (q : Res c F H R d Q) (r : RelD c F d v) : Q v H := q.here S.sub S.row r

theorem rdV_ok {ρ : Env} {i : Nat} {d : D} {R R' : List D} (h : rdV ρ i R = .ok d R') : ρ[i]? = some (.val d) ∧ R' = R := by
  unfold rdV at h
  cases hs : ρ[i]? with
  | none => rw [hs] at h; cases h
  | some s =>
    rw [hs] at h
    cases s <;> cases h
    exact ⟨rfl, rfl⟩
theorem rdA_ok {ρ : Env} {i : Nat} {d : D} {R R' : List D} (h : rdA ρ i R = .ok d R') : (ρ[i]? = some (.val d) ∨ ρ[i]? = some (.own d) ∧ ∀ ks vs, d ≠ .dk ks vs) ∧ R' = R := by
  unfold rdA at h
  cases hs : ρ[i]? with
  | none => rw [hs] at h; cases h
  | some s =>
    rw [hs] at h
    cases s with
    | none => cases h
    | val x => cases h; exact ⟨.inl rfl, rfl⟩
    | own x =>
      cases x <;> cases h
      all_goals exact ⟨.inr ⟨rfl, fun ks vs z => nomatch z⟩, rfl⟩
    | own2 x => cases h
theorem OwnD.opd {F H H0 : Hp} {d : D} {x : Addr} (hd : ∀ ks vs, d ≠ .dk ks vs) (h : OwnD c F H d x) (k : OwnA c H0 F x) : Opd c F H d (.ref x) := ⟨h.top hd, fun y e _ => by cases e; exact k.2.1⟩
theorem ge_var {i : Nat} {x : Str} (hN : X.N[i]? = some x) (hv : Vis X.env.scope x) (hd : (x == ("__debug__" : Str)) = false) (hcd : (x == ("__classdict__" : Str)) = false) : GE X c cf (.var i) (.Name x pos) := by
  have p := pe_var (pos := pos) hN hv hd hcd
  have hv : PE X (.Name x pos) (tE c cf (.var i)) := PE.imp p fun σ H Q h => by
    obtain ⟨F0, H0, F, ρ, R, d, R', S, ev, q⟩ := h
    obtain ⟨h1, rfl⟩ := rdV_ok (by simpa only [evE] using ev)
    obtain ⟨v, e1, r⟩ := S.val h1
    exact ⟨v, e1, S.res q r⟩
  refine ⟨hv, PE.imp p fun σ H Q h => ?_, PT.imp (pt_val hv fun _ => rfl) tT_tB⟩
  obtain ⟨F0, H0, F, ρ, R, d, R', S, ev, q⟩ := h
  obtain ⟨h1 | h1, rfl⟩ := rdA_ok (show rdA ρ i R = .ok d R' from ev)
  · obtain ⟨v, e1, r⟩ := S.val h1
    exact ⟨v, e1, q F H v (Ext.refl S.sub) S.row (r.opd S.sub S.row)⟩
  · obtain ⟨x, e1, h2, h3⟩ := S.own h1.1
    exact ⟨.ref x, e1, q F H _ (Ext.refl S.sub) S.row (h2.opd h1.2 h3)⟩

theorem ge_tC {v : V} {d : D} (p : PE X e (tC v)) (hev : ∀ ρ, evE cf a ρ = Pu.ret d) (hr : ∀ F, RelD c F d v) (hn : ∀ i, a ≠ .var i) (ht : ∀ whole, isTrue e X.env whole = (do let v ← whole; standAt e.pos; holding [v] (truthy v))) : GE X c cf a e := by
  refine GE.of (PE.imp p fun σ H Q h => ?_) hn ht
  obtain ⟨F0, H0, F, ρ, R, d', R', S, ev, q⟩ := h
  rw [hev] at ev
  obtain ⟨rfl, rfl⟩ := ret_ok ev
  exact S.res q (hr F)
theorem ge_non {k : Nat} : GE X c cf .non (.Constant .none k pos) := ge_tC (d := .non) (v := .non) pe_non (fun ρ => by simp only [evE]) (fun F => by simp [RelD]) (fun i => by simp) fun _ => rfl
theorem ge_bl {b : Bool} {k : Nat} : GE X c cf (.bl b) (.Constant (.bool b) k pos) := ge_tC (d := .bl b) (v := .bl b) pe_bl (fun ρ => by simp only [evE]) (fun F => by simp [RelD]) (fun i => by simp) fun _ => rfl
theorem ge_int {i : Int} {k : Nat} : GE X c cf (.int i) (.Constant (.int i) k pos) := ge_tC (d := .int i) (v := .int i) pe_int (fun ρ => by simp only [evE]) (fun F => by simp [RelD]) (fun i => by simp) fun _ => rfl
theorem ge_str {x : Str} {k : Nat} (h : StrOk x) : GE X c cf (.str x) (.Constant (.str x) k pos) := ge_tC (d := .str x) (v := .str x) pe_str (fun ρ => by simp only [evE]) (fun F => by simp [RelD]; exact h) (fun i => by simp) fun _ => rfl
theorem ge_cst {x : Str} {d : D} (hg : Gl X x) (h : CstOk X c x d) (hd : (x == ("__debug__" : Str)) = false) : GE X c cf (.cst x d) (.Name x pos) := by
  obtain ⟨u, v, h1, h2, h3⟩ := h
  exact ge_tC (pe_glob hg h1 h2 hd) (fun ρ => by simp only [evE]) h3 (fun i => by simp) fun _ => rfl

theorem ga_nil : PA X [] (tAs c cf []) := PA.imp pa_nil fun σ H Q h => by
  obtain ⟨F0, H0, F, ρ, R, ds, R', S, ev, q⟩ := h
  simp only [evEs] at ev
  obtain ⟨rfl, rfl⟩ := ret_ok ev
  exact q F H [] (Ext.refl S.sub) S.row (by simp only [RelDs])
theorem ga_cons {as : List E} {es : List Expr} (ha : PE X e (tE c cf a)) (hr : PA X es (tAs c cf as)) (hs : starEach (e :: es) X.env = (false, eval e X.env) :: starEach es X.env) : PA X (e :: es) (tAs c cf (a :: as)) := by
  refine PA.imp (pa_cons ha hr hs) fun σ H Q h => ?_
  obtain ⟨F0, H0, F, ρ, R, ds, R', S, ev, q⟩ := h
  simp only [evEs] at ev
  obtain ⟨x, R1, e1, e2⟩ := bnd_ok ev
  obtain ⟨xs, R2, e3, e4⟩ := bnd_ok e2
  obtain ⟨rfl, rfl⟩ := ret_ok e4
  refine ⟨F0, H0, F, ρ, R, x, R1, S, e1, fun F1 H1 v ex1 r1 rv => ⟨F0, H0, F1, ρ, R1, xs, R2, S.step ex1 r1, e3, fun F2 H2 vs ex2 r2 rvs => ?_⟩⟩
  refine q F2 H2 (v :: vs) (ex1.trans ex2 r1) r2 ?_
  simp only [RelDs]
  exact ⟨RelD.mono ex2.f _ _ rv, rvs⟩
theorem as_len {as : List E} {ρ : Env} : ∀ {ds : List D} {R R' : List D}, evEs cf as ρ R = .ok ds R' → ds.length = as.length := by
  induction as with
  | nil =>
    intro ds R R' h
    simp only [evEs] at h
    obtain ⟨rfl, rfl⟩ := ret_ok h
    rfl
  | cons a as ih =>
    intro ds R R' h
    simp only [evEs] at h
    obtain ⟨x, R1, e1, e2⟩ := bnd_ok h
    obtain ⟨xs, R2, e3, e4⟩ := bnd_ok e2
    obtain ⟨rfl, rfl⟩ := ret_ok e4
    simp [ih e3]
theorem gf_tup {as : List E} {es : List Expr} {k : Nat} (hl : as.length ≤ 1000) (ha : PA X es (tAs c cf as)) : PE X (.Tuple es k pos) (tE c cf (.tup as)) := by
  refine PE.imp (pe_tup ha) fun σ H Q h => ?_
  obtain ⟨F0, H0, F, ρ, R, d, R', S, ev, q⟩ := h
  simp only [evE] at ev
  obtain ⟨ds, R1, e1, e2⟩ := bnd_ok ev
  obtain ⟨rfl, rfl⟩ := ret_ok e2
  refine ⟨F0, H0, F, ρ, R, ds, R1, S, e1, fun F1 H1 vs ex1 r1 rvs => ⟨?_, Res.tup (q.ext ex1 r1) ex1.s r1 rvs⟩⟩
  rw [rvs.length, as_len e1, sizeLine_eq]; omega
theorem gf_lst {as : List E} {es : List Expr} (hl : as.length ≤ 1000) (ha : PA X es (tAs c cf as)) : PE X (.List es pos) (tG c cf (.lst as)) := by
  refine PE.imp (pe_lst ha) fun σ H Q h => ?_
  obtain ⟨F0, H0, F, ρ, R, d, R', S, ev, q⟩ := h
  simp only [evE] at ev
  obtain ⟨ds, R1, e1, e2⟩ := bnd_ok ev
  obtain ⟨rfl, rfl⟩ := ret_ok e2
  refine ⟨F0, H0, F, ρ, R, ds, R1, S, e1, fun F1 H1 vs ex1 r1 rvs => ⟨?_, ResG.lst (ResG.ext q ex1 r1) ex1.s r1 rvs⟩⟩
  rw [rvs.length, as_len e1, sizeLine_eq]; omega

theorem tG_op {o : Op2} {f : List D → D → D → Option D} (hf : ∀ R x y, op2 R o x y = f R x y) : ∀ σ H Q, tG c cf (.o2 o a b) σ H Q → tOp (P2 c f) (tO c cf a) (tO c cf b) σ H Q := by
  rintro σ H Q ⟨F0, H0, F, ρ, R, d, R', S, ev, q⟩
  simp only [evE] at ev
  obtain ⟨x, R1, e1, e2⟩ := bnd_ok ev
  obtain ⟨y, R2, e3, e4⟩ := bnd_ok e2
  obtain ⟨e5, rfl⟩ := lft_ok e4
  rw [hf] at e5
  exact ⟨F0, H0, F, ρ, R, x, R1, S, e1, fun F1 H1 vx ex1 r1 ox => ⟨F0, H0, F1, ρ, R1, y, R', S.step ex1 r1, e3, fun F2 H2 vy ex2 r2 oy =>
    ⟨F2, x, y, R', d, ex2.s, r2, (ox.ext ex2).1, oy.1, e5, ResG.ext (ResG.ext q ex1 r1) ex2 r2⟩⟩⟩
theorem tE_op {o : Op2} {f : List D → D → D → Option D} (hf : ∀ R x y, op2 R o x y = f R x y) : ∀ σ H Q, tE c cf (.o2 o a b) σ H Q → tOp (P2s c f) (tO c cf a) (tO c cf b) σ H Q := by
  rintro σ H Q ⟨F0, H0, F, ρ, R, d, R', S, ev, q⟩
  simp only [evE] at ev
  obtain ⟨x, R1, e1, e2⟩ := bnd_ok ev
  obtain ⟨y, R2, e3, e4⟩ := bnd_ok e2
  obtain ⟨e5, rfl⟩ := lft_ok e4
  rw [hf] at e5
  exact ⟨F0, H0, F, ρ, R, x, R1, S, e1, fun F1 H1 vx ex1 r1 ox => ⟨F0, H0, F1, ρ, R1, y, R', S.step ex1 r1, e3, fun F2 H2 vy ex2 r2 oy =>
    ⟨F2, x, y, R', d, ex2.s, r2, (ox.ext ex2).1, oy.1, e5, Res.ext (Res.ext q ex1 r1) ex2 r2⟩⟩⟩
theorem gf_bin {o : Op2} {op : Operator} {f : List D → D → D → Option D} (ho : OpR X (binaryOp op) (P2 c f)) (hf : ∀ R x y, op2 R o x y = f R x y) (ha : PE X e (tO c cf a)) (hb : PE X e2 (tO c cf b)) : PE X (.BinOp e op e2 pos) (tG c cf (.o2 o a b)) :=
  PE.imp (pe_op ho ha hb) (tG_op hf)
theorem ge_bin {o : Op2} {op : Operator} {f : List D → D → D → Option D} (ho : OpR X (binaryOp op) (P2 c f)) (hf : ∀ R x y, op2 R o x y = f R x y) (ha : GE X c cf a e) (hb : GE X c cf b e2) : GE X c cf (.o2 o a b) (.BinOp e op e2 pos) :=
  GE.of (tE_of_tG (gf_bin ho hf ha.o hb.o)) (fun i => by simp) fun _ => rfl
/-- the test of what gives a truth -/
theorem tT_tTest {t : TE} (h : ∀ σ H Q, tE c cf a σ H Q → t σ H Q) : ∀ σ H Q, tT c cf a σ H Q → tTest t σ H Q := fun σ H Q q => h _ _ _ (tT_tB σ H Q q)
theorem ge_cmp {o : Op2} {op : CmpOp} {f : List D → D → D → Option D} (ho : OpR X (compareOp op) (P2 c f)) (hf : ∀ R x y, op2 R o x y = f R x y) (hm : behindInMarks op e2 = false) (ha : GE X c cf a e) (hb : GE X c cf b e2) : GE X c cf (.o2 o a b) (.Compare e [op] [e2] pos) := by
  have v : PE X (.Compare e [op] [e2] pos) (tE c cf (.o2 o a b)) := tE_of_tG (PE.imp (pe_cmpR ho ha.o hb.o hm) (tG_op hf))
  exact ⟨v, PE.imp v (tO_tE fun i => by simp), PT.imp (pt_cmpR ho ha.o hb.o hm) (tT_tTest fun σ H Q q => tG_op hf σ H Q (tE_tG σ H Q q))⟩
theorem ge_idx {e2 : Expr} (C : Cok X c) (hs : PlainIx e2) (ha : GE X c cf a e) (hb : GE X c cf b e2) : GE X c cf (.o2 .idx a b) (.Subscript e e2 pos) :=
  GE.of (PE.imp (pe_ix (od_idx C) ha.o hb.o hs) (tE_op fun _ _ _ => rfl)) (fun i => by simp) fun _ => rfl
theorem tE_chain {o p : Op2} {f g : List D → D → D → Option D} {d3 : E} (hf : ∀ R x y, op2 R o x y = f R x y) (hg : ∀ R x y, op2 R p x y = g R x y) :
    ∀ σ H Q, tE c cf (.chain o p a b d3) σ H Q → tChain (P2 c f) (P2 c g) (tO c cf a) (tO c cf b) (tO c cf d3) σ H Q := by
  rintro σ H Q ⟨F0, H0, F, ρ, R, d, R', S, ev, q⟩
  simp only [evE] at ev
  obtain ⟨x, R1, e1, e2⟩ := bnd_ok ev
  obtain ⟨y, R2, e3, e4⟩ := bnd_ok e2
  obtain ⟨t, R3, e5, e6⟩ := bnd_ok e4
  obtain ⟨dt, R4, e7, e8⟩ := bnd_ok e5
  obtain ⟨rfl, rfl⟩ := asB_ok e8
  obtain ⟨e9, rfl⟩ := lft_ok e7
  rw [hf] at e9
  refine ⟨F0, H0, F, ρ, R, x, R1, S, e1, fun F1 H1 vx ex1 r1 ox => ⟨F0, H0, F1, ρ, R1, y, _, S.step ex1 r1, e3, fun F2 H2 vy ex2 r2 oy => ?_⟩⟩
  refine ⟨F2, x, y, _, .bl t, ex2.s, r2, (ox.ext ex2).1, oy.1, e9, Res.gen fun F3 H3 v3 ex3 r3 rd => ⟨t, by simpa only [RelD] using rd, ?_⟩⟩
  cases t with
  | false =>
    rw [if_neg (by simp)] at e6
    rw [if_neg (by simp)]
    obtain ⟨rfl, rfl⟩ := ret_ok e6
    exact (((q.ext ex1 r1).ext ex2 r2).ext ex3 r3).here ex3.s r3 (by simp only [RelD])
  | true =>
    rw [if_pos rfl] at e6
    rw [if_pos rfl]
    obtain ⟨z, R5, e10, e11⟩ := bnd_ok e6
    obtain ⟨e12, rfl⟩ := lft_ok e11
    rw [hg] at e12
    have S3 := ((S.step ex1 r1).step ex2 r2).step ex3 r3
    refine ⟨F0, H0, F3, ρ, _, z, R', S3, e10, fun F4 H4 vz ex4 r4 oz => ?_⟩
    exact ⟨F4, y, z, R', d, ex4.s, r4, ((oy.ext ex3).ext ex4).1, oz.1, e12, Res.gen ((((q.ext ex1 r1).ext ex2 r2).ext ex3 r3).ext ex4 r4)⟩
theorem ge_chain {o p : Op2} {op op' : CmpOp} {f g : List D → D → D → Option D} {d3 : E} (ho : OpR X (compareOp op) (P2 c f)) (ho' : OpR X (compareOp op') (P2 c g)) (hf : ∀ R x y, op2 R o x y = f R x y) (hg : ∀ R x y, op2 R p x y = g R x y)
    (hm : lastMarks [op, op'] [e2, e3] = false) (ha : GE X c cf a e) (hb : GE X c cf b e2) (hc : GE X c cf d3 e3) : GE X c cf (.chain o p a b d3) (.Compare e [op, op'] [e2, e3] pos) := by
  have v : PE X (.Compare e [op, op'] [e2, e3] pos) (tE c cf (.chain o p a b d3)) := PE.imp (pe_chain ho ho' ha.o hb.o hc.o hm) (tE_chain hf hg)
  exact ⟨v, PE.imp v (tO_tE fun i => by simp), PT.imp (pt_chain ho ho' ha.o hb.o hc.o hm) (tT_tTest (tE_chain hf hg))⟩
theorem tE_un {o : Op1} {f : D → Option D} (hf : ∀ x, op1 o x = f x) : ∀ σ H Q, tG c cf (.o1 o a) σ H Q → tUn (U1 c f) (tO c cf a) σ H Q := by
  rintro σ H Q ⟨F0, H0, F, ρ, R, d, R', S, ev, q⟩
  simp only [evE] at ev
  obtain ⟨x, R1, e1, e2⟩ := bnd_ok ev
  obtain ⟨e5, rfl⟩ := lft_ok e2
  rw [hf] at e5
  exact ⟨F0, H0, F, ρ, R, x, R', S, e1, fun F1 H1 vx ex1 r1 ox => ⟨F1, vx, x, R', d, rfl, ex1.s, r1, ox.1, e5, ResG.ext q ex1 r1⟩⟩
theorem ge_neg (C : Cok X c) (ha : GE X c cf a e) : GE X c cf (.o1 .neg a) (.UnaryOp .USub e pos) :=
  GE.of (tE_of_tG (PE.imp (pe_un (ud_neg C) ha.o) (tE_un fun _ => rfl))) (fun i => by simp) fun _ => rfl
theorem opn_bl {F0 H0 F H : Hp} {σ : L2.St} {ρ : Env} {R R' : List D} {b : Bool} (S : StR c F0 H0 F H σ ρ R) (h : opn a ρ (evE cf a ρ) R = .ok (.bl b) R') : evE cf a ρ R = .ok (.bl b) R' := by
  cases a <;> try exact h
  rename_i i
  obtain ⟨h1 | h1, rfl⟩ := rdA_ok (show rdA ρ i R = .ok _ R' from h)
  · simp only [evE, rdV, h1]; rfl
  · obtain ⟨_, _, k, _⟩ := S.own h1.1
    exact k.elim
theorem notD_ok {x d : D} (h : notD x = some d) : ∃ b, x = .bl b ∧ d = .bl (!b) := by
  unfold notD at h
  split at h
  · cases h; exact ⟨_, rfl, rfl⟩
  · cases h
theorem ge_not (ha : GE X c cf a e) : GE X c cf (.o1 .notB a) (.UnaryOp .Not e pos) := by
  have v : PE X (.UnaryOp .Not e pos) (tE c cf (.o1 .notB a)) := PE.imp (pe_not ha.v) fun σ H Q h => by
    obtain ⟨F0, H0, F, ρ, R, d, R', S, ev, q⟩ := h
    simp only [evE] at ev
    obtain ⟨x, R1, e1, e2⟩ := bnd_ok ev
    obtain ⟨e5, rfl⟩ := lft_ok e2
    obtain ⟨b, rfl, rfl⟩ := notD_ok e5
    exact ⟨F0, H0, F, ρ, R, .bl b, R', S, opn_bl S e1, fun F1 H1 vx ex1 r1 rd => ⟨b, by simpa only [RelD] using rd, (q.ext ex1 r1).here ex1.s r1 (by simp only [RelD])⟩⟩
  refine ⟨v, PE.imp v (tO_tE fun i => by simp), PT.imp (pt_not ha.t) fun σ H Q h => ?_⟩
  obtain ⟨F0, H0, F, ρ, R, t, R', S, ev, q⟩ := h
  obtain ⟨d, R2, e0, e9⟩ := bnd_ok ev
  obtain ⟨rfl, rfl⟩ := asB_ok e9
  simp only [evE] at e0
  obtain ⟨x, R1, e1, e2⟩ := bnd_ok e0
  obtain ⟨e5, rfl⟩ := lft_ok e2
  obtain ⟨b, rfl, eb⟩ := notD_ok e5
  cases eb
  refine ⟨F0, H0, F, ρ, R, b, R', S, ?_, q⟩
  unfold bnd
  rw [opn_bl S e1]
  rfl
end
end Pu
end

section
set_option autoImplicit false
set_option linter.all false
set_option maxRecDepth 100000
set_option maxHeartbeats 4000000
set_option Elab.async false
namespace Pu
open PySem PySem.Spec PyProof.Rows L2
section
variable {X : Cx} {c : Ct} {cf : Cf} {a b : E} {e e2 e3 : Expr} {te : TE} {pos : Pos}

structure GB (X : Cx) (c : Ct) (cf : Cf) (op : BoolOp) (a : E) (es : List Expr) (pos : Pos) : Prop where
  v : PE X (.BoolOp op es pos) (tE c cf a)
  w : PW X (.BoolOp op es pos) (tT c cf a)
theorem PW.imp {t t' : TT} (h : PW X e t) (k : ∀ σ H Q, t' σ H Q → t σ H Q) : PW X e t' := ⟨fun whole pins s σ H Q I q => h.run whole pins s σ H Q I (k σ H Q q)⟩
theorem gb_and1 (h : GE X c cf a e) : GB X c cf .And a [e] pos := ⟨pe_one h.v, pw_and1 h.t⟩
theorem gb_or1 (h : GE X c cf a e) : GB X c cf .Or a [e] pos := ⟨pe_one h.v, pw_or1 h.t⟩
theorem and_ok {ρ : Env} {R R' : List D} {d : D} (h : evE cf (.and a b) ρ R = .ok d R') : ∃ t R1, evE cf a ρ R = .ok (.bl t) R1 ∧ (if t = true then evE cf b ρ R1 = .ok d R' else d = .bl false ∧ R' = R1) := by
  simp only [evE] at h
  obtain ⟨t, R1, e1, e2⟩ := bnd_ok h
  obtain ⟨x, R2, e3, e4⟩ := bnd_ok e1
  obtain ⟨rfl, rfl⟩ := asB_ok e4
  refine ⟨t, _, e3, ?_⟩
  cases t with
  | false => rw [if_neg (by simp)] at e2 ⊢; obtain ⟨rfl, rfl⟩ := ret_ok e2; exact ⟨rfl, rfl⟩
  | true => rw [if_pos rfl] at e2 ⊢; exact e2
theorem or_ok {ρ : Env} {R R' : List D} {d : D} (h : evE cf (.or a b) ρ R = .ok d R') : ∃ t R1, evE cf a ρ R = .ok (.bl t) R1 ∧ (if t = true then d = .bl true ∧ R' = R1 else evE cf b ρ R1 = .ok d R') := by
  simp only [evE] at h
  obtain ⟨t, R1, e1, e2⟩ := bnd_ok h
  obtain ⟨x, R2, e3, e4⟩ := bnd_ok e1
  obtain ⟨rfl, rfl⟩ := asB_ok e4
  refine ⟨t, _, e3, ?_⟩
  cases t with
  | false => rw [if_neg (by simp)] at e2 ⊢; exact e2
  | true => rw [if_pos rfl] at e2 ⊢; obtain ⟨rfl, rfl⟩ := ret_ok e2; exact ⟨rfl, rfl⟩
theorem bnd_of {α β : Type} {x : M α} {f : α → M β} {r r1 : List D} {a : α} (h : x r = .ok a r1) : bnd x f r = f a r1 := by
  unfold bnd; rw [h]; rfl
theorem gb_and {es : List Expr} (ha : GE X c cf a e) (hb : GB X c cf .And b (e2 :: es) pos) : GB X c cf .And (.and a b) (e :: e2 :: es) pos := by
  refine ⟨PE.imp (pe_and ha.v hb.v) fun σ H Q h => ?_, PW.imp (pw_and ha.t hb.w) fun σ H Q h => ?_⟩
  · obtain ⟨F0, H0, F, ρ, R, d, R', S, ev, q⟩ := h
    obtain ⟨t, R1, e1, e5⟩ := and_ok ev
    refine ⟨F0, H0, F, ρ, R, .bl t, _, S, e1, fun F1 H1 vx ex1 r1 rd => ⟨t, by simpa only [RelD] using rd, ?_⟩⟩
    cases t with
    | false =>
      rw [if_neg (by simp)] at e5 ⊢
      obtain ⟨rfl, rfl⟩ := e5
      exact (q.ext ex1 r1).here ex1.s r1 (by simp only [RelD])
    | true =>
      rw [if_pos rfl] at e5 ⊢
      exact ⟨F0, H0, F1, ρ, _, d, R', S.step ex1 r1, e5, q.ext ex1 r1⟩
  · obtain ⟨F0, H0, F, ρ, R, k, R', S, ev, q⟩ := h
    obtain ⟨d, R2, e0, e9⟩ := bnd_ok ev
    obtain ⟨rfl, rfl⟩ := asB_ok e9
    obtain ⟨t, R1, e1, e5⟩ := and_ok e0
    refine ⟨F0, H0, F, ρ, R, t, R1, S, by rw [bnd_of e1]; rfl, fun F1 H1 ex1 r1 => ?_⟩
    cases t with
    | false =>
      rw [if_neg (by simp)] at e5 ⊢
      obtain ⟨ek, rfl⟩ := e5
      cases ek
      exact q F1 H1 ex1 r1
    | true =>
      rw [if_pos rfl] at e5 ⊢
      exact ⟨F0, H0, F1, ρ, _, k, _, S.step ex1 r1, by rw [bnd_of e5]; rfl, fun F2 H2 ex2 r2 => q F2 H2 (ex1.trans ex2 r1) r2⟩
theorem gb_or {es : List Expr} (ha : GE X c cf a e) (hb : GB X c cf .Or b (e2 :: es) pos) : GB X c cf .Or (.or a b) (e :: e2 :: es) pos := by
  refine ⟨PE.imp (pe_or ha.v hb.v) fun σ H Q h => ?_, PW.imp (pw_or ha.t hb.w) fun σ H Q h => ?_⟩
  · obtain ⟨F0, H0, F, ρ, R, d, R', S, ev, q⟩ := h
    obtain ⟨t, R1, e1, e5⟩ := or_ok ev
    refine ⟨F0, H0, F, ρ, R, .bl t, _, S, e1, fun F1 H1 vx ex1 r1 rd => ⟨t, by simpa only [RelD] using rd, ?_⟩⟩
    cases t with
    | true =>
      rw [if_pos rfl] at e5 ⊢
      obtain ⟨rfl, rfl⟩ := e5
      exact (q.ext ex1 r1).here ex1.s r1 (by simp only [RelD])
    | false =>
      rw [if_neg (by simp)] at e5 ⊢
      exact ⟨F0, H0, F1, ρ, _, d, R', S.step ex1 r1, e5, q.ext ex1 r1⟩
  · obtain ⟨F0, H0, F, ρ, R, k, R', S, ev, q⟩ := h
    obtain ⟨d, R2, e0, e9⟩ := bnd_ok ev
    obtain ⟨rfl, rfl⟩ := asB_ok e9
    obtain ⟨t, R1, e1, e5⟩ := or_ok e0
    refine ⟨F0, H0, F, ρ, R, t, R1, S, by rw [bnd_of e1]; rfl, fun F1 H1 ex1 r1 => ?_⟩
    cases t with
    | true =>
      rw [if_pos rfl] at e5 ⊢
      obtain ⟨ek, rfl⟩ := e5
      cases ek
      exact q F1 H1 ex1 r1
    | false =>
      rw [if_neg (by simp)] at e5 ⊢
      exact ⟨F0, H0, F1, ρ, _, k, _, S.step ex1 r1, by rw [bnd_of e5]; rfl, fun F2 H2 ex2 r2 => q F2 H2 (ex1.trans ex2 r1) r2⟩
theorem GB.ge {op : BoolOp} {es : List Expr} (h : GB X c cf op a es pos) (hn : ∀ i, a ≠ .var i) : GE X c cf a (.BoolOp op es pos) := ⟨h.v, PE.imp h.v (tO_tE hn), h.w.pt⟩

theorem pt_ite {tA : TT} {ta tb : TT} (hc : PT X e tA) (ha : PT X e2 ta) (hb : PT X e3 tb) : PT X (.IfExp e e2 e3 pos) (fun σ H Q => tA σ H fun k H1 => if k = true then ta σ H1 Q else tb σ H1 Q) := by
  refine ⟨fun pins s σ H Q I h => ?_⟩
  show wpAny _ _ (isTrue e X.env (eval e X.env) >>= fun k => if k = true then isTrue e2 X.env (eval e2 X.env) else isTrue e3 X.env (eval e3 X.env)) _ _ s
  refine wpAny_bind (wpAny_mono (hc.run pins s σ H _ I h) (fun k s1 q => ?_) fun _ _ z => z)
  obtain ⟨H1, I1, q1⟩ := q
  cases k with
  | true => rw [if_pos rfl] at q1 ⊢; exact ha.run pins s1 σ H1 Q I1 q1
  | false => rw [if_neg (by simp)] at q1 ⊢; exact hb.run pins s1 σ H1 Q I1 q1
theorem ite_ok {d3 : E} {ρ : Env} {R R' : List D} {d : D} (h : evE cf (.ite a b d3) ρ R = .ok d R') : ∃ t R1, bnd (evE cf a ρ) asB R = .ok t R1 ∧ (if t = true then evE cf b ρ R1 = .ok d R' else evE cf d3 ρ R1 = .ok d R') := by
  simp only [evE] at h
  obtain ⟨t, R1, e1, e2⟩ := bnd_ok h
  refine ⟨t, R1, e1, ?_⟩
  cases t with
  | false => rw [if_neg (by simp)] at e2 ⊢; exact e2
  | true => rw [if_pos rfl] at e2 ⊢; exact e2
theorem ge_ite {d3 : E} (ha : GE X c cf a e) (hb : GE X c cf b e2) (hc : GE X c cf d3 e3) : GE X c cf (.ite a b d3) (.IfExp e e2 e3 pos) := by
  have v : PE X (.IfExp e e2 e3 pos) (tE c cf (.ite a b d3)) := PE.imp (pe_ifExp ha.t hb.v hc.v) fun σ H Q h => by
    obtain ⟨F0, H0, F, ρ, R, d, R', S, ev, q⟩ := h
    obtain ⟨t, R1, e1, e5⟩ := ite_ok ev
    refine ⟨F0, H0, F, ρ, R, t, R1, S, e1, fun F1 H1 ex1 r1 => ?_⟩
    cases t with
    | true => rw [if_pos rfl] at e5 ⊢; exact ⟨F0, H0, F1, ρ, _, d, R', S.step ex1 r1, e5, q.ext ex1 r1⟩
    | false => rw [if_neg (by simp)] at e5 ⊢; exact ⟨F0, H0, F1, ρ, _, d, R', S.step ex1 r1, e5, q.ext ex1 r1⟩
  refine ⟨v, PE.imp v (tO_tE fun i => by simp), PT.imp (pt_ite ha.t hb.t hc.t) fun σ H Q h => ?_⟩
  obtain ⟨F0, H0, F, ρ, R, k, R', S, ev, q⟩ := h
  obtain ⟨d, R2, e0, e9⟩ := bnd_ok ev
  obtain ⟨rfl, rfl⟩ := asB_ok e9
  obtain ⟨t, R1, e1, e5⟩ := ite_ok e0
  refine ⟨F0, H0, F, ρ, R, t, R1, S, e1, fun F1 H1 ex1 r1 => ?_⟩
  cases t with
  | true => rw [if_pos rfl] at e5 ⊢; exact ⟨F0, H0, F1, ρ, _, k, _, S.step ex1 r1, by rw [bnd_of e5]; rfl, fun F2 H2 ex2 r2 => q F2 H2 (ex1.trans ex2 r1) r2⟩
  | false => rw [if_neg (by simp)] at e5 ⊢; exact ⟨F0, H0, F1, ρ, _, k, _, S.step ex1 r1, by rw [bnd_of e5]; rfl, fun F2 H2 ex2 r2 => q F2 H2 (ex1.trans ex2 r1) r2⟩

/-- a slice's part: none, or an int -/
def partE (a : E) : Option Expr → Prop
  | none => a = .non
  | some _ => True
def tOP (c : Ct) (cf : Cf) (a : E) : TO := fun σ H Q => ∃ F0 H0 F ρ R d o R', StR c F0 H0 F H σ ρ R ∧ opn a ρ (evE cf a ρ) R = .ok d R' ∧ partD d o ∧ ∀ F' H', Ext c F H F' H' → RowR c F' H' R' → Q o H'
theorem po_no : PO X none (tOP c cf .non) := ⟨fun pins s σ H Q I h => by
  obtain ⟨F0, H0, F, ρ, R, d, o, R', S, ev, p, q⟩ := h
  obtain ⟨rfl, rfl⟩ := ret_ok (show Pu.ret D.non R = .ok d R' by simpa only [opn, evE] using ev)
  cases (show o = none from p)
  exact po_none.run pins s σ H Q I (q F H (Ext.refl S.sub) S.row)⟩
theorem po_e (h : PE X e (tO c cf a)) : PO X (some e) (tOP c cf a) := by
  refine ⟨fun pins s σ H Q I h' => ?_⟩
  obtain ⟨F0, H0, F, ρ, R, d, o, R', S, ev, p, q⟩ := h'
  rw [evalPart_some]
  refine thn (h.run pins s σ H (fun x H1 => (x = .non ∧ o = none ∨ ∃ i, x = .int i ∧ o = some i) ∧ Q o H1) I ⟨F0, H0, F, ρ, R, d, R', S, ev, fun F1 H1 v ex1 r1 ov => ⟨?_, q F1 H1 ex1 r1⟩⟩) fun u s1 ⟨x, H1, I1, r1, q1⟩ => ?_
  · cases d <;> simp only [partD] at p
    · exact .inl ⟨ov.1, p⟩
    · exact .inr ⟨_, ov.1, p⟩
  · obtain ⟨⟨rfl, rfl⟩ | ⟨i, rfl, rfl⟩, q2⟩ := q1
    · cases r1
      exact ⟨none, H1, I1, .none, q2⟩
    · obtain ⟨t, rfl⟩ := r1
      exact ⟨some i, H1, I1, .int i t, q2⟩
theorem sliceD_parts {x y z d : D} (h : sliceD x y z = some d) : (∃ o, partD y o) ∧ ∃ o, partD z o := by
  have key : ∀ {n k : Nat} {y : D} {j : Nat}, cutI n k y = some j → ∃ o, partD y o := by
    intro n k y j h
    cases y <;> first
      | exact ⟨none, rfl⟩
      | exact ⟨some _, rfl⟩
      | (simp only [cutI] at h; cases h)
  have key2 : ∀ {α : Type} {ds es : List α} {y z : D}, cutL ds y z = some es → (∃ o, partD y o) ∧ ∃ o, partD z o := by
    intro α ds es y z h
    unfold cutL at h
    split at h
    · rename_i h1 h2; exact ⟨key h1, key h2⟩
    · cases h
  unfold sliceD at h
  split at h
  · obtain ⟨es, e, _⟩ := Option.map_eq_some_iff.mp h; exact key2 e
  · obtain ⟨es, e, _⟩ := Option.map_eq_some_iff.mp h; exact key2 e
  · obtain ⟨es, e, _⟩ := Option.map_eq_some_iff.mp h; exact key2 e
  · cases h
theorem ge_slice {lo hi : E} {l h : Option Expr} {p2 : Pos} (C : Cok X c) (ha : GE X c cf a e) (hl : PO X l (tOP c cf lo)) (hh : PO X h (tOP c cf hi)) : GE X c cf (.o3 .slice a lo hi) (.Subscript e (.Slice l h none p2) pos) := by
  refine GE.of (tE_of_tG (PE.imp (pe_slice (od_slice C) ha.o hl hh) fun σ H Q h => ?_)) (fun i => by simp) fun _ => rfl
  obtain ⟨F0, H0, F, ρ, R, d, R', S, ev, q⟩ := h
  simp only [evE] at ev
  obtain ⟨x, R1, e1, e2⟩ := bnd_ok ev
  obtain ⟨y, R2, e3, e4⟩ := bnd_ok e2
  obtain ⟨z, R3, e5, e6⟩ := bnd_ok e4
  obtain ⟨e7, rfl⟩ := lft_ok e6
  have e7 : sliceD x y z = some d := e7
  obtain ⟨⟨o1, p1⟩, o2, p2⟩ := sliceD_parts e7
  exact ⟨F0, H0, F, ρ, R, x, R1, S, e1, fun F1 H1 vx ex1 r1 ox => ⟨F0, H0, F1, ρ, R1, y, o1, R2, S.step ex1 r1, e3, p1, fun F2 H2 ex2 r2 =>
    ⟨F0, H0, F2, ρ, R2, z, o2, R', (S.step ex1 r1).step ex2 r2, e5, p2, fun F3 H3 ex3 r3 => ⟨F3, x, y, z, R', d, ex3.s, r3, ((ox.ext ex2).ext ex3).1, p1, p2, e7, ResG.ext (ResG.ext (ResG.ext q ex1 r1) ex2 r2) ex3 r3⟩⟩⟩⟩
theorem ge_rev {k : Nat} {p1 p2 p3 : Pos} (C : Cok X c) (ha : GE X c cf a e) : GE X c cf (.o1 .rev a) (.Subscript e (.Slice none none (some (.UnaryOp .USub (.Constant (.int 1) k p1) p2)) p3) pos) := by
  refine GE.of (tE_of_tG (PE.imp (pe_revD C ha.o) fun σ H Q h => ?_)) (fun i => by simp) fun _ => rfl
  obtain ⟨F0, H0, F, ρ, R, d, R', S, ev, q⟩ := h
  simp only [evE] at ev
  obtain ⟨x, R1, e1, e2⟩ := bnd_ok ev
  obtain ⟨e5, rfl⟩ := lft_ok e2
  exact ⟨F0, H0, F, ρ, R, x, R', S, e1, fun F1 H1 vx ex1 r1 ox => ⟨F1, x, R', d, ex1.s, r1, ox.1, e5, ResG.ext q ex1 r1⟩⟩

def noStar : Expr → Bool
  | .Starred .. => false
  | _ => true
theorem star_cons {es : List Expr} {env : PySem.Env} (h : noStar e = true) : starEach (e :: es) env = (false, eval e env) :: starEach es env := by
  cases e <;> first | rfl | cases h
theorem star_back {env : PySem.Env} {p : Pos} : ∀ {es : List Expr}, es.all noStar = true → (backTo p (starEach es env)).any (·.1) = false
  | [], _ => rfl
  | e :: es, h => by
    rw [List.all_cons, Bool.and_eq_true] at h
    rw [star_cons h.1]
    exact star_back (es := es) h.2
theorem tG_un {o : Op1} {f : D → Option D} (hf : ∀ x, op1 o x = f x) : ∀ σ H Q, tG c cf (.o1 o a) σ H Q → tCB (P1 c f) (tCons (tO c cf a) tNil) σ H Q := by
  rintro σ H Q ⟨F0, H0, F, ρ, R, d, R', S, ev, q⟩
  simp only [evE] at ev
  obtain ⟨x, R1, e1, e2⟩ := bnd_ok ev
  obtain ⟨e5, rfl⟩ := lft_ok e2
  rw [hf] at e5
  exact ⟨F0, H0, F, ρ, R, x, R', S, e1, fun F1 H1 vx ex1 r1 ox => ⟨F1, vx, x, R', d, rfl, ex1.s, r1, ox.1, e5, ResG.ext q ex1 r1⟩⟩
theorem tG_un2 {o : Op2} {f : D → D → Option D} (hf : ∀ R x y, op2 R o x y = f x y) : ∀ σ H Q, tG c cf (.o2 o a b) σ H Q → tCB (P22 c f) (tCons (tO c cf a) (tCons (tO c cf b) tNil)) σ H Q := by
  rintro σ H Q ⟨F0, H0, F, ρ, R, d, R', S, ev, q⟩
  simp only [evE] at ev
  obtain ⟨x, R1, e1, e2⟩ := bnd_ok ev
  obtain ⟨y, R2, e3, e4⟩ := bnd_ok e2
  obtain ⟨e5, rfl⟩ := lft_ok e4
  rw [hf] at e5
  exact ⟨F0, H0, F, ρ, R, x, R1, S, e1, fun F1 H1 vx ex1 r1 ox => ⟨F0, H0, F1, ρ, R1, y, R', S.step ex1 r1, e3, fun F2 H2 vy ex2 r2 oy =>
    ⟨F2, vx, vy, x, y, R', d, rfl, ex2.s, r2, (ox.ext ex2).1, oy.1, e5, ResG.ext (ResG.ext q ex1 r1) ex2 r2⟩⟩⟩
/-- a builtin function of one thing -/
theorem gf_bt1 {o : Op1} {f : D → Option D} {x : Str} {id : String} {p : Pos} (hc : CallR X (.builtin id) (P1 c f)) (hf : ∀ x, op1 o x = f x) (hg : Gl X x) (hm : X.mg x = none) (hv : bootBuiltins x = some (.builtin id)) (hn : x ≠ "__name__") (hdb : (x == ("__debug__" : Str)) = false)
    (ha : PE X e (tO c cf a)) (hs : noStar e = true) : PE X (.Call (.Name x p) [e] [] pos) (tG c cf (.o1 o a)) :=
  PE.imp (pe_callB hc hg hm hv (pa_cons ha pa_nil (star_cons hs)) hn hdb (star_cons hs) rfl) (tG_un hf)
/-- a type of one thing -/
theorem gf_ty1 {o : Op1} {f : D → Option D} {x : Str} {T : String} {p : Pos} (hc : CallR X (.type T) (P1 c f)) (hf : ∀ x, op1 o x = f x) (hg : Gl X x) (hm : X.mg x = none) (hv : bootBuiltins x = some (.type T)) (hn : x ≠ "__name__") (hdb : (x == ("__debug__" : Str)) = false)
    (ha : PE X e (tO c cf a)) (hs : noStar e = true) : PE X (.Call (.Name x p) [e] [] pos) (tG c cf (.o1 o a)) :=
  PE.imp (pe_callTy hc hg hm hv (pa_cons ha pa_nil (star_cons hs)) hn hdb (star_cons hs) rfl) (tG_un hf)
theorem gf_bt2 {o : Op2} {f : D → D → Option D} {x : Str} {id : String} {p : Pos} (hc : CallR X (.builtin id) (P22 c f)) (hf : ∀ R x y, op2 R o x y = f x y) (hg : Gl X x) (hm : X.mg x = none) (hv : bootBuiltins x = some (.builtin id)) (hn : x ≠ "__name__") (hdb : (x == ("__debug__" : Str)) = false)
    (ha : PE X e (tO c cf a)) (hb : PE X e2 (tO c cf b)) (hs : noStar e = true) (hs2 : noStar e2 = true) : PE X (.Call (.Name x p) [e, e2] [] pos) (tG c cf (.o2 o a b)) :=
  PE.imp (pe_callB hc hg hm hv (pa_cons ha (pa_cons hb pa_nil (star_cons hs2)) (star_cons hs)) hn hdb (star_cons hs) (star_back (by rw [List.all_cons, hs2]; rfl))) (tG_un2 hf)
/-- a def -/
theorem ge_call {as : List E} {es : List Expr} {x : Str} {g : Nat} {p : Pos} (K : CalOk X c cf x g) (hg : Gl X x) (hdb : (x == ("__debug__" : Str)) = false) (ha : PA X (e :: es) (tAs c cf as)) (hs : (e :: es).all noStar = true) : GE X c cf (.call g as) (.Call (.Name x p) (e :: es) [] pos) := by
  obtain ⟨k, fd, ps, Fn, hr, hm, hk, hb⟩ := K
  rw [List.all_cons, Bool.and_eq_true] at hs
  refine GE.of (PE.imp (pe_call Fn hr hg hm hk hb .nil pass0 ha hdb (star_cons hs.1) (star_back hs.2)) ?_) (fun i => by simp) fun _ => rfl
  rintro σ H Q ⟨F0, H0, F, ρ, R, d, R', S, ev, q⟩
  simp only [evE] at ev
  obtain ⟨ds, R1, e1, e2⟩ := bnd_ok ev
  exact ⟨F0, H0, F, ρ, R, ds, R1, S, e1, fun F1 H1 vs ex1 r1 rvs => ⟨F1, R1, ds, d, R', ex1.s, r1, by rw [List.append_nil]; exact rvs, e2, q.ext ex1 r1⟩⟩
/-- a def that an expression gives, one of gs -/
theorem calle_ok {f : E} {gs : List (Str × Nat)} {as : List E} {ρ : Env} {R R' : List D} {d : D} (h : evE cf (.calle f gs as) ρ R = .ok d R') : ∃ g R1 ds R2, (∃ x, (x, g) ∈ gs) ∧ evE cf f ρ R = .ok (.fn g) R1 ∧ evEs cf as ρ R1 = .ok ds R2 ∧ cf g ds R2 = .ok d R' := by
  simp only [evE] at h
  obtain ⟨y, R1, e1, e2⟩ := bnd_ok h
  cases y <;> try cases e2
  rename_i g
  dsimp only at e2
  by_cases hg : (gs.any fun p => p.2 == g) = true
  · rw [if_pos hg] at e2
    obtain ⟨ds, R2, e3, e4⟩ := bnd_ok e2
    obtain ⟨p, hp, hp2⟩ := List.any_eq_true.mp hg
    have : p.2 = g := by simpa using hp2
    subst this
    exact ⟨p.2, R1, ds, R2, ⟨p.1, hp⟩, e1, e3, e4⟩
  · rw [if_neg hg] at e2; cases e2
def okF : Expr → Bool
  | .Name .. => true
  | .IfExp .. => true
  | _ => false
theorem ge_calle {f : E} {gs : List (Str × Nat)} {as : List E} {fe : Expr} {es : List Expr} (ok : okF fe = true) (K : ∀ p ∈ gs, CalOk X c cf p.1 p.2) (hf : GE X c cf f fe) (ha : PA X (e :: es) (tAs c cf as)) (hs : (e :: es).all noStar = true) : GE X c cf (.calle f gs as) (.Call fe (e :: es) [] pos) := by
  rw [List.all_cons, Bool.and_eq_true] at hs
  refine GE.of ⟨fun pins s σ H Q I h => ?_⟩ (fun i => by simp) fun _ => rfl
  obtain ⟨F0, H0, F, ρ, R, d, R', S, ev, q⟩ := h
  obtain ⟨g, R1, ds, R2, ⟨x, hx⟩, e1, e2, e3⟩ := calle_ok ev
  obtain ⟨k, fd, ps, Fn, hr, hm, hk, hb⟩ := K _ hx
  have run : wpAny (model X.prog X.w) X.A (eval fe X.env) (fun f s₁ => wpAny (model X.prog X.w) X.A (callWith pos f [] (backTo pos (starEach (e :: es) X.env)) []) (EP X pins σ Q) X.xe s₁) X.xe s := by
    refine thn (hf.v.run pins s σ H (fun v H1 => ∃ F1, Ext c F H F1 H1 ∧ RowR c F1 H1 R1 ∧ v = .ref (c.fa g)) I ⟨F0, H0, F, ρ, R, .fn g, R1, S, e1, fun F1 H1 v ex r rd => ⟨F1, ex, r, by simpa only [RelD] using rd⟩⟩) fun u s1 ⟨v, H1, I1, r1, F1, ex1, rr1, ev1⟩ => ?_
    subst ev1
    cases r1
    refine PySem.W.callWith_K (h₀ := X.base) I1.ok.mod.kin hk (thn (ha.run pos pins s1 σ H1 (fun vs H2 => ∃ F2, Sub F2 H2 ∧ RowR c F2 H2 R2 ∧ RelDs c F2 ds vs ∧ Res c F2 H2 R' d Q) I1 ⟨F0, H0, F1, ρ, R1, ds, R2, S.step ex1 rr1, e2, fun F2 H2 vs ex2 r2 rvs => ⟨F2, ex2.s, r2, rvs, (q.ext ex1 rr1).ext ex2 r2⟩⟩) fun us s2 ⟨vs, H2, I2, r, F2, sb, r2, rvs, q2⟩ => ⟨I2.kIn, ?_⟩) (star_cons hs.1) (star_back hs.2)
    exact run_fn (dvs := []) Fn hr hb .nil pass0 I2 r ⟨F2, R2, ds, d, R', sb, r2, by rw [List.append_nil]; exact rvs, e3, q2⟩
  cases fe <;> first
    | (cases ok; done)
    | exact Call_ run
    | exact wpAny_Call_Name_kw run
theorem isObj_ok {P : Program} {w : World} {H : Hp} {h : Heap} {a : Addr} {o : Obj} (e : h.get? a = some o) : ObjOk P w H h a (isObjAt a o) := ⟨e, ⟨o, e⟩, fun h1 h2 p q => q o p⟩
/-- {} -/
theorem gf_dnew {cf : Cf} {pos : Pos} (C : Cok X c) : PE X (.Dict [] [] pos) (tG c cf (.dnew true)) := by
  refine ⟨fun pins s σ H Q I h => ?_⟩
  obtain ⟨F0, H0, F, ρ, R, d, R', S, ev, q⟩ := h
  simp only [evE] at ev
  obtain ⟨rfl, rfl⟩ := ret_ok ev
  have hb : sysModules < s.heap.objs.size := I.big
  have hn : H s.heap.objs.size = none := I.hok.fresh (Nat.le_refl _)
  have q : ResF c F H R (.dt [] []) Q := q
  refine wpAny_Dict_empty ⟨.ref s.heap.objs.size, _, I.laid (a := s.heap.objs.size) (o := isObjAt s.heap.objs.size { cls := .type "dict", data := .dict #[] }) (t' := s.toks) (fun _ _ q => Heap.get?_push_of_some _ q) (Nat.le_refl _) (isObj_ok (Heap.get?_push_size _ rfl)), rfl, ?_⟩
  refine q F _ _ (Ext.beside S.sub hn) (S.row.beside hn) ⟨_, #[], 0, [], [], upd_same, ⟨rfl, rfl, rfl⟩, rfl, beq_eq_false_iff_ne.mpr (Ne.symm (Nat.ne_of_lt hb)), rfl, List.nodup_nil, rfl, rfl, by simp only [List.map_nil, RelDs], by simp only [RelDs], .nil, by simp⟩ (S.sub.none hn) ?_ hn
  rintro e
  obtain ⟨_, z, _⟩ := S.row
  rw [← e, hn] at z; cases z

theorem gf_isi {o : Op1} {T : String} {l : List Nat} {x y : Str} {p py : Pos} (C : Cok X c) (hk : ∀ t, kitB (tyName t) T = some (l.contains (min t 6))) (hf : ∀ x, op1 o x = isA l x) (hg : Gl X x) (hx : x = "isinstance") (hgy : Gl X y) (hmy : X.mg y = none) (hvy : bootBuiltins y = some (.type T)) (hny : y ≠ "__name__") (hdy : (y == ("__debug__" : Str)) = false)
    (ha : PE X e (tO c cf a)) (hs : noStar e = true) : PE X (.Call (.Name x p) [e, .Name y py] [] pos) (tG c cf (.o1 o a)) := by
  subst hx
  have hm : X.mg "isinstance" = none := C.bl _ (by decide +kernel)
  refine PE.imp (pe_callB (cd_isi C hk) hg hm PyProof.Rows.boot_isinstance (pa_cons ha (pa_cons (pe_bltn (v := .ty T) hgy hmy hvy rfl hny hdy) pa_nil rfl) (star_cons hs)) (by decide +kernel) (by decide +kernel) (star_cons hs) rfl) ?_
  rintro σ H Q ⟨F0, H0, F, ρ, R, d, R', S, ev, q⟩
  simp only [evE] at ev
  obtain ⟨x, R1, e1, e2⟩ := bnd_ok ev
  obtain ⟨e5, rfl⟩ := lft_ok e2
  rw [hf] at e5
  obtain ⟨t, ht, rfl⟩ := Option.map_eq_some_iff.mp e5
  exact ⟨F0, H0, F, ρ, R, x, R', S, e1, fun F1 H1 vx ex1 r1 ox => ⟨F1, vx, x, R', _, rfl, ex1.s, r1, ox.1, e5, Res.ext (show Res c F H R' _ Q from q) ex1 r1⟩⟩
theorem gf_isiT {x y z : Str} {p py pz pt : Pos} {k : Nat} (C : Cok X c) (hg : Gl X x) (hx : x = "isinstance") (hy : y = "tuple") (hz : z = "list") (hgy : Gl X y) (hgz : Gl X z) (ha : PE X e (tO c cf a)) (hs : noStar e = true) :
    PE X (.Call (.Name x p) [e, .Tuple [.Name y py, .Name z pz] k pt] [] pos) (tG c cf (.o1 .isTupList a)) := by
  subst hx hy hz
  have hm : X.mg "isinstance" = none := C.bl _ (by decide +kernel)
  have hmy : X.mg "tuple" = none := C.bl _ (by decide +kernel)
  have hmz : X.mg "list" = none := C.bl _ (by decide +kernel)
  refine PE.imp (pe_callB (cd_isiT C) hg hm PyProof.Rows.boot_isinstance (pa_cons ha (pa_cons (pe_tup (pa_cons (pe_bltn (v := .ty "tuple") hgy hmy boot_tuple rfl (by decide +kernel) (by decide +kernel)) (pa_cons (pe_bltn (v := .ty "list") hgz hmz boot_list rfl (by decide +kernel) (by decide +kernel)) pa_nil rfl) rfl)) pa_nil rfl) (star_cons hs)) (by decide +kernel) (by decide +kernel) (star_cons hs) rfl) ?_
  rintro σ H Q ⟨F0, H0, F, ρ, R, d, R', S, ev, q⟩
  simp only [evE] at ev
  obtain ⟨x, R1, e1, e2⟩ := bnd_ok ev
  obtain ⟨e5, rfl⟩ := lft_ok e2
  have e5 : isTL x = some d := e5
  obtain ⟨t, rfl⟩ : ∃ t, d = .bl t := by
    cases x <;> first | exact ⟨_, (Option.some.inj e5).symm⟩ | (exact absurd (show (none : Option D) = some d from e5) (by simp))
  refine ⟨F0, H0, F, ρ, R, x, R', S, e1, fun F1 H1 vx ex1 r1 ox => ⟨by show 2 ≤ sizeLine; rw [sizeLine_eq]; omega, fun p hp => ?_⟩⟩
  have ex2 : Ext c F1 H1 F1 (upd H1 p (.tup [.ty "tuple", .ty "list"])) := Ext.beside ex1.s hp
  exact ⟨F1, vx, p, x, R', _, rfl, upd_same, ex2.s, r1.beside hp, (ox.ext ex2).1, e5, Res.ext (Res.ext (show Res c F H R' _ Q from q) ex1 r1) ex2 (r1.beside hp)⟩
theorem gf_skeys {x : Str} {p ap cp : Pos} (C : Cok X c) (hg : Gl X x) (hx : x = "sorted") (ha : PE X e (tO c cf a)) (hb : attributeBase e "keys" X.env (eval e X.env) = eval e X.env) (hl : (ap.endLine == cp.line) = true) :
    PE X (.Call (.Name x p) [.Call (.Attribute e "keys" ap) [] [] cp] [] pos) (tG c cf (.o1 .sortedKeys a)) := by
  subst hx
  have hm : X.mg "sorted" = none := C.bl _ (by decide +kernel)
  refine PE.imp (pe_callB (cd_sortKeys C) hg hm PyProof.Rows.boot_sorted (pa_cons (pe_keysV C ha hb hl) pa_nil rfl) (by decide +kernel) (by decide +kernel) rfl rfl) ?_
  rintro σ H Q ⟨F0, H0, F, ρ, R, d, R', S, ev, q⟩
  simp only [evE] at ev
  obtain ⟨x, R1, e1, e2⟩ := bnd_ok ev
  obtain ⟨e5, rfl⟩ := lft_ok e2
  replace e5 : skeysD x = some d := e5
  refine ⟨F0, H0, F, ρ, R, x, R', S, e1, fun F1 H1 vx ex1 r1 ox => ?_⟩
  unfold skeysD at e5
  split at e5
  · rename_i ks vs
    obtain ⟨t, nn⟩ := ox
    obtain ⟨b, rfl, hd⟩ := t
    refine ⟨F1, b, ks, vs, rfl, ex1.s, hd, fun p hp => ?_⟩
    have ex2 : Ext c F1 H1 F1 (upd H1 p (viewO p b)) := Ext.beside ex1.s hp
    exact ⟨F1, p, b, ks, vs, R', d, rfl, upd_same, ex2.s, r1.beside hp, hd.imp (fun o k => ex2.h _ _ k (nn b rfl rfl)) (fun _ k => k) (fun _ k => k), e5, ResG.ext (ResG.ext q ex1 r1) ex2 (r1.beside hp)⟩
  · cases e5
/-- the reading of sorted(set(xs)), xs a list of pairs -/
theorem setP_read {F1 H1 : Hp} {R' : List D} {ds : List D} {vx : V} {Q : VK} (P : Program) (w : World) (hs : Sub F1 H1) (hr : RowR c F1 H1 R') (ox : Top c F1 H1 (.lst ds) vx) (hall : ds.all isP64 = true) (hlen : ds.length ≤ 60) (q : ResG c F1 H1 R' (.lst (isort (dedupD ds))) Q) :
    rSetOfT c.K P w [vx] H1 fun v H => PSsP c P w [v] H Q := by
  obtain ⟨l, xs, rfl, hl, rl⟩ := ox
  obtain ⟨ks, rfl, rfl, h3, h4⟩ := pairs_at rl fun d hd => List.all_eq_true.mp hall d hd
  refine ⟨l, ks, rfl, SqL.of hl, fun p hp => SqT.sub hs (h3 p hp), by simp at hlen; omega, fun a L ha hL1 hL2 => ?_⟩
  have hLs : ∀ p ∈ L, SqT c.K F1 p.1 (p.2.map V.int) := fun p hp => h3 p (hL1 p hp)
  have ex2 : Ext c F1 H1 F1 (upd H1 a (SetTO P w a L)) := Ext.beside hs ha
  have hL64 : ∀ p ∈ L, P64 p.2 := fun p hp => h4 p (hL1 p hp)
  refine .inr ⟨a, L, 2, 64, rfl, upd_same, fun p hp => SqT.sub ex2.s (hLs p hp), by decide, fun p hp => ?_, fun L' p pm nd few pw hp => ?_⟩
  · obtain ⟨x, y, e, b1, b2, b3, b4⟩ := hL64 p hp
    rw [e]
    refine ⟨rfl, fun m hm => ?_⟩
    rcases List.mem_cons.mp hm with e | hm
    · rw [e]; exact ⟨b1, b2⟩
    · rw [List.mem_singleton.mp hm]; exact ⟨b3, b4⟩
  · have hL' : ∀ p ∈ L', P64 p.2 := fun p hp => hL64 p (pm.mem_iff.mp hp)
    obtain ⟨ms, m1, m2, m3⟩ := dedup_pairs (ks := ks.map (·.2)) fun k hk => by
      obtain ⟨p, hp, e⟩ := List.mem_map.mp hk
      rw [← e]; exact h4 p hp
    have hds : ks.map (fun p => lD p.2) = (ks.map (·.2)).map lD := by rw [List.map_map]; rfl
    have e : (L'.map (·.2)).map lD = isort (dedupD (ks.map fun p => lD p.2)) := by
      rw [hds, m1]
      have hms : ∀ k ∈ ms, P64 k := fun k hk => by
        obtain ⟨p, hp, e⟩ := List.mem_map.mp ((m3 k).mp hk)
        rw [← e]; exact h4 p hp
      have hoA : AllOrd (ms.map lD) := fun x hx y hy => by
        obtain ⟨k, hk, rfl⟩ := List.mem_map.mp hx
        obtain ⟨l, hl, rfl⟩ := List.mem_map.mp hy
        obtain ⟨a, b, rfl, _⟩ := hms k hk
        obtain ⟨a', b', rfl, _⟩ := hms l hl
        rfl
      have pmm : (L'.map (·.2)).Perm ms := by
        refine (List.perm_ext_iff_of_nodup nd m2).mpr fun k => ?_
        rw [m3]
        constructor
        · intro hk
          obtain ⟨p, hp, e⟩ := List.mem_map.mp hk
          exact List.mem_map.mpr ⟨p, hL1 p (pm.mem_iff.mp hp), e⟩
        · intro hk
          obtain ⟨p, hp, e⟩ := List.mem_map.mp hk
          have := hL2 p hp
          rw [e] at this
          exact (pm.map (·.2)).mem_iff.mpr this
      refine sorted_uniq (fun x hx y hy => hoA x ((pmm.map lD).mem_iff.mp hx) y ((pmm.map lD).mem_iff.mp hy)) ((pmm.map lD).trans (isort_perm _).symm) ?_ (isort_sorted hoA)
      rw [List.pairwise_map, List.pairwise_map]
      have nd2 : L'.Pairwise fun q r => q.2 ≠ r.2 := List.pairwise_map.mp nd
      refine List.Pairwise.imp_of_mem (fun {a b} ha hb h => ?_) (pw.and nd2)
      exact cmp_lD (hL' a ha) (hL' b hb) h.2 h.1
    rw [← e] at q
    have hrel : RelDs c F1 ((L'.map (·.2)).map lD) (L'.map fun q => V.ref q.1) := by
      have hLq : ∀ p ∈ L', SqT c.K F1 p.1 (p.2.map V.int) := fun p hp => hLs p (pm.mem_iff.mp hp)
      have : ∀ l : List (Addr × List Int), (∀ p ∈ l, SqT c.K F1 p.1 (p.2.map V.int)) → RelDs c F1 ((l.map (·.2)).map lD) (l.map fun q => V.ref q.1) := by
        intro l
        induction l with
        | nil => intro _; simp [RelDs]
        | cons p l ih =>
          intro h
          simp only [List.map_cons, RelDs]
          refine ⟨?_, ih fun q hq => h q (List.mem_cons_of_mem _ hq)⟩
          simp only [lD, RelD]
          exact ⟨p.1, _, rfl, h p List.mem_cons_self, RelDs.of_ints p.2⟩
      exact this L' hLq
    exact ResG.lst (ResG.ext q ex2 (hr.beside ha)) ex2.s (hr.beside ha) hrel p hp
theorem gf_sset {x y : Str} {p py p2 : Pos} (C : Cok X c) (hg : Gl X x) (hx : x = "sorted") (hgy : Gl X y) (hy : y = "set") (ha : PE X e (tO c cf a)) (hs : noStar e = true) :
    PE X (.Call (.Name x p) [.Call (.Name y py) [e] [] p2] [] pos) (tG c cf (.o1 .sortedSet a)) := by
  subst hx hy
  have hm : X.mg "sorted" = none := C.bl _ (by decide +kernel)
  have hm2 : X.mg "set" = none := C.bl _ (by decide +kernel)
  refine ⟨fun pins s σ H Q I h => ?_⟩
  obtain ⟨F0, H0, F, ρ, R, d, R', S, ev, q⟩ := h
  simp only [evE] at ev
  obtain ⟨x, R1, e1, e2⟩ := bnd_ok ev
  obtain ⟨e5, rfl⟩ := lft_ok e2
  replace e5 : ssetD x = some d := e5
  have key : (∃ ns : List Int, (x = .lst (ns.map D.int) ∨ x = .tup (ns.map D.int)) ∧ ns.length ≤ 60 ∧ d = .lst (isort (dedupD (ns.map D.int)))) ∨ (∃ ds : List D, x = .lst ds ∧ ds.all isP64 = true ∧ ds.length ≤ 60 ∧ d = .lst (isort (dedupD ds))) ∨
      (∃ ds : List D, x = .lst ds ∧ ds.all nestI = true ∧ ds.length ≤ 60 ∧ ordAll (dedupD ds) = true ∧ d = .lst (isort (dedupD ds))) := by
    have k2 : ∀ xs, ssetL xs = some d → ∃ ns : List Int, xs = ns.map D.int ∧ ns.length ≤ 60 ∧ d = .lst (isort (dedupD (ns.map D.int))) := by
      intro xs h
      unfold ssetL at h
      split at h
      · rename_i hz
        simp only [Bool.and_eq_true, decide_eq_true_eq] at hz
        obtain ⟨ns, _, rfl⟩ := ints_all hz.1
        exact ⟨ns, rfl, by simpa using hz.2, (sortL_of h).2⟩
      · cases h
    unfold ssetD at e5
    split at e5
    · split at e5
      · obtain ⟨ns, rfl, h1, h2⟩ := k2 _ e5; exact .inl ⟨ns, .inl rfl, h1, h2⟩
      · unfold ssetP at e5
        split at e5
        · rename_i hz
          simp only [Bool.and_eq_true, decide_eq_true_eq] at hz
          exact .inr (.inl ⟨_, rfl, hz.1, hz.2, (sortL_of e5).2⟩)
        · unfold ssetN at e5
          split at e5
          · rename_i hz
            simp only [Bool.and_eq_true, decide_eq_true_eq] at hz
            exact .inr (.inr ⟨_, rfl, hz.1, hz.2, sortL_of e5⟩)
          · cases e5
    · obtain ⟨ns, rfl, h1, h2⟩ := k2 _ e5; exact .inl ⟨ns, .inr rfl, h1, h2⟩
    · cases e5
  rcases key with ⟨ns, hx, hl, rfl⟩ | ⟨ds, rfl, h1, h2, rfl⟩ | ⟨ds, rfl, h1, h2, h3, rfl⟩
  · refine (pe_callB (cd_sortSetP C) hg hm PyProof.Rows.boot_sorted (pa_cons (pe_callTy (cd_setP C) hgy hm2 boot_set (pa_cons ha pa_nil (star_cons hs)) (by decide +kernel) (by decide +kernel) (star_cons hs) rfl) pa_nil rfl) (by decide +kernel) (by decide +kernel) rfl rfl).run pins s σ H Q I ?_
    refine ⟨F0, H0, F, ρ, R, x, R', S, e1, fun F1 H1 vx ex1 r1 ox => .inl ⟨F1, vx, x, ns, rfl, ex1.s, ox.1, hx, hl, fun p hp => .inl ?_⟩⟩
    have ex2 : Ext c F1 H1 F1 (upd H1 p (setO X.w p ns)) := Ext.beside ex1.s hp
    exact ⟨F1, p, ns, R', rfl, upd_same, ex2.s, r1.beside hp, hl, ResG.ext (ResG.ext q ex1 r1) ex2 (r1.beside hp)⟩
  · refine (pe_callB (cd_sortSetP C) hg hm PyProof.Rows.boot_sorted (pa_cons (pe_callTy (cd_setP C) hgy hm2 boot_set (pa_cons ha pa_nil (star_cons hs)) (by decide +kernel) (by decide +kernel) (star_cons hs) rfl) pa_nil rfl) (by decide +kernel) (by decide +kernel) rfl rfl).run pins s σ H Q I ?_
    refine ⟨F0, H0, F, ρ, R, _, R', S, e1, fun F1 H1 vx ex1 r1 ox => .inr ?_⟩
    exact setP_read X.prog X.w ex1.s r1 ox.1 h1 h2 (ResG.ext q ex1 r1)
  · refine Call_ (ld_blt I hg hm PyProof.Rows.boot_sorted ?_)
    refine PyProof.Rows.callWith_builtin1 (PyProof.Rows.args_cons ?_ rfl) rfl rfl
    refine Call_ (ld_blt I hgy hm2 boot_set ?_)
    have hst := star_cons (env := X.env) (es := []) hs
    refine PyProof.Rows.callWith_type1 (PyProof.Rows.args_cons (thn (ha.run pins s σ H (fun vx H1 => ∃ F1, Ext c F H F1 H1 ∧ RowR c F1 H1 R' ∧ Top c F1 H1 (.lst ds) vx) I ⟨F0, H0, F, ρ, R, _, R', S, e1, fun F1 H1 vx ex1 r1 ox => ⟨F1, ex1, r1, ox.1⟩⟩) fun v s1 ⟨vx, H1, I1, rv, F1, ex1, r1, ox⟩ => PyProof.Rows.args_nil ?_) hst) hst rfl
    exact pu_sortset C I1 ex1.s r1 ox rv h1 h2 h3 (ResG.ext q ex1 r1) rfl fun v1 s2 hc => PyProof.Rows.args_nil hc
theorem rg_rel {F : Hp} (a b : Int) : RelDs c F (rangeD a b) (rgV a b) := by
  refine RelDs.of_get (by simp [rangeD, rgV]) fun i d x hd hx => ?_
  unfold rangeD at hd
  unfold rgV at hx
  rw [List.getElem?_map] at hd hx
  obtain ⟨k, hk, rfl⟩ := Option.map_eq_some_iff.mp hd
  rw [hk] at hx
  cases hx
  simp only [RelD]
theorem gf_lrng {x y : Str} {p py p2 : Pos} (C : Cok X c) (hg : Gl X x) (hx : x = "list") (hgy : Gl X y) (hy : y = "range") (ha : PE X e (tO c cf a)) (hs : noStar e = true) :
    PE X (.Call (.Name x p) [.Call (.Name y py) [e] [] p2] [] pos) (tG c cf (.o1 .listRange a)) := by
  subst hx hy
  refine PE.imp (pe_listRg C.calm hg (C.bl _ (by decide +kernel)) (prg_1 hgy (C.bl _ (by decide +kernel)) ha (star_cons hs)) rfl) ?_
  rintro σ H Q ⟨F0, H0, F, ρ, R, d, R', S, ev, q⟩
  simp only [evE] at ev
  obtain ⟨x, R1, e1, e2⟩ := bnd_ok ev
  obtain ⟨e5, rfl⟩ := lft_ok e2
  replace e5 : lrngD x = some d := e5
  unfold lrngD at e5
  split at e5
  · rename_i n
    split at e5
    · rename_i hz
      cases e5
      unfold rngOk at hz
      simp only [Bool.and_eq_true, decide_eq_true_eq] at hz
      refine ⟨F0, H0, F, ρ, R, _, R', S, e1, fun F1 H1 vx ex1 r1 ox => ⟨n, ox.1, ⟨by omega, by omega, by omega, by omega, by omega⟩, ?_⟩⟩
      exact ResG.lst (ResG.ext q ex1 r1) ex1.s r1 (rg_rel 0 n)
    · cases e5
  · cases e5
theorem gf_trng {x y : Str} {p py p2 : Pos} (C : Cok X c) (hg : Gl X x) (hx : x = "tuple") (hgy : Gl X y) (hy : y = "range") (ha : PE X e (tO c cf a)) (hs : noStar e = true) :
    PE X (.Call (.Name x p) [.Call (.Name y py) [e] [] p2] [] pos) (tG c cf (.o1 .tupRange a)) := by
  subst hx hy
  refine PE.imp (pe_tupRg C.calm hg (C.bl _ (by decide +kernel)) (prg_1 hgy (C.bl _ (by decide +kernel)) ha (star_cons hs)) rfl) ?_
  rintro σ H Q ⟨F0, H0, F, ρ, R, d, R', S, ev, q⟩
  simp only [evE] at ev
  obtain ⟨x, R1, e1, e2⟩ := bnd_ok ev
  obtain ⟨e5, rfl⟩ := lft_ok e2
  replace e5 : trngD x = some d := e5
  unfold trngD at e5
  split at e5
  · rename_i n
    split at e5
    · rename_i hz
      cases e5
      unfold rngOk at hz
      simp only [Bool.and_eq_true, decide_eq_true_eq] at hz
      refine ⟨F0, H0, F, ρ, R, _, R', S, e1, fun F1 H1 vx ex1 r1 ox => ⟨n, ox.1, ⟨by omega, by omega, by omega, by omega, by omega⟩, ?_⟩⟩
      exact Res.tup (show Res c F1 H1 R' _ Q from Res.ext (show Res c F H R' _ Q from q) ex1 r1) ex1.s r1 (rg_rel 0 n)
    · cases e5
  · cases e5
end
end Pu
end

section
set_option autoImplicit false
set_option linter.all false
set_option maxRecDepth 100000
set_option maxHeartbeats 4000000
set_option Elab.async false
namespace PySem
open AutoSeq1 (wpAny_loadPart')
/-- the two objects that enumerate(a tuple) lays -/
def puTi (t : Addr) : Obj := { cls := .type "tuple_iterator", data := .fields #[.ref t, .int 0 0] }
def puEn (i : Addr) : Obj := { cls := .type "enumerate", data := .fields #[.none, .bool false, .ref i, rawInt 0, .none, .none] }
theorem pu_enum_new (t : Addr) (its : Array Value) (m : Nat) (dd : Option Addr) (ss : Array (Option Value)) :
    Meets (Builtin.«enumerate.__new__» ⟨[.type "enumerate", .ref t], []⟩) (fun _ Z s => s.heap.get? t = some { cls := .type "tuple", dict := dd, data := .seq its m, slots := ss } ∧
      Z (.ok (.ret (.ref (s.heap.push (puTi t)).objs.size))) { s with heap := (s.heap.push (puTi t)).push (puEn s.heap.objs.size) }) :=
  .of_wp fun prog w A Z s h0 => by
    obtain ⟨hp, gg, dr, tk, os⟩ := s
    obtain ⟨hg, hz⟩ := h0
    have hsb := sub_enumerate
    have hI : Heap.IsTuple (Shared.heap ⟨hp, gg, dr, tk, os⟩) t its := ⟨_, hg, rfl, m, rfl⟩
    wp_walk using wpAny_loadPart' hg
    refine wpAny_stack_any fun sk => wpAny_pure ?_
    split
    · rename_i k _ _ _ _ _
      cases (k == Value.type "enumerate") <;> (wp_walk using wpAny_loadPart' hg, wpAny_pyIter_tuple hI; exact ⟨_, rfl, hz⟩)
    · wp_walk using wpAny_loadPart' hg, wpAny_pyIter_tuple hI
      exact ⟨_, rfl, hz⟩
theorem pu_call_enum {prog : Program} {w : World} {A : Around} {E : Value → Shared → Prop} {s : Shared} {t : Addr} {its : Array Value} {Q : Value → Shared → Prop} (ht : s.heap.IsTuple t its)
    (h : ∀ g, IsEnum g (s.heap.objs.size + 1) s.heap.objs.size 0 .none → g.IsTupleIter s.heap.objs.size t 0 → (∀ b o, s.heap.get? b = some o → g.get? b = some o) → Q (.ref (s.heap.objs.size + 1)) { s with heap := g }) :
    wpAny (model prog w) A (call (.type "enumerate") [.ref t]) Q E s := by
  obtain ⟨⟨k, dd, dt, ss⟩, hg, hk, m, hd⟩ := ht
  replace hk : k = .type "tuple" := hk
  replace hd : dt = .seq its m := hd
  subst hk hd
  refine callType_new F.called_enumerate (by decide) (F.typeCall_enumerate_1 _) (F.newCall_enumerate_1 _) (fun ob => F.args_object_init_2 ob _) F.entry_enumerate_new (pu_enum_new t its m dd ss) ⟨hg, ?_⟩
  have z1 : (s.heap.push (puTi t)).objs.size = s.heap.objs.size + 1 := Heap.size_push ..
  have e1 : ((s.heap.push (puTi t)).push (puEn s.heap.objs.size)).get? (s.heap.push (puTi t)).objs.size = some (puEn s.heap.objs.size) := Heap.get?_push_size _ rfl
  rw [z1] at e1
  show _ ∧ _
  rw [z1]
  exact ⟨⟨_, e1, rfl⟩, h _ e1 ⟨_, Heap.get?_push_of_some _ (Heap.get?_push_size _ rfl), rfl, rfl⟩ fun b o q => Heap.get?_push_of_some _ (Heap.get?_push_of_some _ q)⟩
end PySem
namespace Pu
open PySem PySem.Spec PyProof.Rows L2
/-- enumerate of the tuple at a -/
def ItEt (K : PySem.W.Frag) (a : Addr) : It where
  go i H := ∃ xs x, SqT K H a xs ∧ xs[i]? = some x
  yld i H v H' := ∃ T x, v = V.ref T ∧ H T = none ∧ H' = upd H T (.tup [V.int (i : Nat), x]) ∧ ∀ xs, SqT K H a xs → xs[i]? = some x
  stop i H := ∃ xs : List V, SqT K H a xs ∧ xs.length ≤ i
theorem turn_et {P : Program} {w : World} {K : PySem.W.Frag} {el : List Expr} {kk : Nat} {tp : Pos} (a e it : Addr) (hait : a ≠ it) (hae : e ≠ a) :
    Turn P w K (.Tuple el kk tp) (ItEt K a) [e, it] e (fun i h => (∃ old, IsEnum h e it ((i : Nat) : Int) old) ∧ h.IsTupleIter it a i ∧ e ≠ it) where
  mem := List.mem_cons_self
  obj i h st b hb := by
    obtain ⟨⟨old, he⟩, ⟨o, ho, hc, hd⟩, _⟩ := st
    simp only [List.mem_cons, List.not_mem_nil, or_false] at hb
    rcases hb with rfl | rfl
    · exact ⟨_, he, fun v q => nomatch q⟩
    · exact ⟨o, ho, fun v q => by rw [hd] at q; cases q⟩
  keep i h h' st k := ⟨⟨st.1.choose, k e (by simp) _ st.1.choose_spec⟩, st.2.1.at fun o q => k it (by simp) o q, st.2.2⟩
  item := by
    intro X hP hw hK hc i pins s σ H E I hf st hg
    subst hP hw hK
    obtain ⟨⟨old, he⟩, hit, hne⟩ := st
    obtain ⟨xs, x, hq, hx⟩ := hg
    obtain ⟨its, rv, ht, hz⟩ := I.tuple hq
    obtain ⟨u, hu, ru⟩ := rv.get hx
    have hlt : i < its.toArray.size := by
      have := (List.getElem?_eq_some_iff.mp hu).1
      simpa using this
    have hel := Heap.lt_size he
    refine wpAny_pyNext_enum_itemD (Draws.tuple (A := X.A.in1) (I.ok.hd hc) it a hait its.toArray) he ⟨hit, ht⟩ hlt hne (by simp [hne, hae]) fun y g tk hy ho hst hT hsz hk => ?_
    have ey : y = u := by
      have h1 : its.toArray[i]? = some y := hy
      have h2 : its.toArray[i]? = some u := by simpa using hu
      rw [h1] at h2; exact Option.some.inj h2
    subst ey
    refine ⟨_, rfl, wpAny_letOwnedTupleGo_enum (s := { s with heap := g, toks := tk + 1 }) ho fun g2 he' sb => ?_⟩
    have hT2 := (sb.2 _ (Nat.ne_of_gt hel)).trans hT
    have I1 : Inv X pins σ (upd H s.heap.objs.size (.tup [V.int (i : Nat), x])) { s with heap := g2, toks := tk + 1 } :=
      I.turnedNew (ch := [e, it]) (fun b ob hb q => by
        simp only [List.mem_cons, List.not_mem_nil, or_false, not_or] at hb
        exact (sb.2 b hb.1).trans (hk b ob hb.1 hb.2 q)) hf (Nat.le_refl _) ⟨by show 2 ≤ sizeLine; decide, [.int i tk, y], .cons ⟨_, rfl⟩ (.cons ru .nil), ⟨_, hT2, rfl, _, rfl⟩⟩
    refine ⟨.ref s.heap.objs.size, _, I1, rfl, ⟨_, x, rfl, I.hok.fresh (Nat.le_refl _), rfl, fun ys hy => by rw [I.tuple_inj hy hq]; exact hx⟩, ⟨⟨y, ?_⟩, hst.1.at fun o q => (sb.2 it (Ne.symm hne)).trans q, hne⟩, fun b hb => ?_⟩
    · rw [show ((i + 1 : Nat) : Int) = (i : Int) + 1 by omega]; exact he'
    · have hb' : b < s.heap.objs.size := by
        simp only [List.mem_cons, List.not_mem_nil, or_false] at hb
        rcases hb with rfl | rfl
        · exact hel
        · obtain ⟨_, q, _⟩ := hit; exact Heap.lt_size q
      rw [upd_ne (Nat.ne_of_lt hb')]
      exact (hf b hb).1
  done := by
    intro X hP hw hK hc i pins s σ H E I hf st hg
    subst hP hw hK
    obtain ⟨⟨old, he⟩, hit, hne⟩ := st
    obtain ⟨xs, hq, hx⟩ := hg
    obtain ⟨its, rv, ht, hz⟩ := I.tuple hq
    obtain ⟨f0, f1, f2, f3, f4, f5⟩ := hf it (by simp)
    have hl := rv.length
    have hT : s.TypeIs (.ref e) "enumerate" := ⟨_, he, rfl⟩
    unfold pyNext
    refine wpAny_bind (wpAny_attempt (wpAny_callSpecial?_slot (name := Str.ofString "__next__") hT PySem.F.slot_enumerate_next (wpAny_call_entry PySem.F.slot_enumerate_next hT PySem.F.entry_enumerate_next ?_ (PySem.F.args_enumerate_next_1 _))))
    show wpAny _ _ (field (.ref e) 2 >>= _) _ _ _
    refine wpAny_bind (wpAny_field he rfl (x := .ref it) rfl ?_)
    refine wpAny_bind (wpAny_nextOf_tuple_end (I.ok.hd hc) hit ht (by simp; omega) fun g z hk' hz' => ?_)
    obtain ⟨o, ho, hcl⟩ := hz'
    refine wpAny_bind (wpAny_isInstance (T := "StopIteration") (b := true) ⟨o, ho, hcl⟩ isSubtype_stop ?_)
    exact wpAny_pure ⟨rfl, I.turned (t' := s.toks) (fun b o hb q => hk' b o hb q) f0 f1 f3 f4 f5⟩
  self A i s Q E st h := wpAny_pyIter_enum st.1.choose_spec h
/-- enumerate(a list, a tuple) -/
def kEnum (K : PySem.W.Frag) (x : V) (H : Hp) (R : It → Hp → Prop) : Prop := ∃ a xs, x = V.ref a ∧ ((SqL K H a xs ∧ R (Ite K a) H) ∨ (SqT K H a xs ∧ R (ItEt K a) H))
theorem pi_enumA {X : Cx} {e : Expr} {te : TE} {p pos tpos : Pos} {el : List Expr} {kk : Nat} (hg : Gl X "enumerate") (hm : X.mg "enumerate" = none) (ha : PE X e te) (hs : noStar e = true) :
    PI X (.Tuple el kk tpos) (.Call (.Name "enumerate" p) [e] [] pos) (fun σ H R => te σ H fun x H1 => kEnum X.K x H1 R) := by
  refine ⟨fun pins s σ H R I h => ?_⟩
  refine Call_ (ld_blt I hg hm boot_enumerate (PyProof.Rows.callWith_type1 (thn ((pa_cons ha pa_nil (star_cons hs)).run pos pins s σ H (fun vs H1 => ∃ x, vs = [x] ∧ kEnum X.K x H1 R) I (by
    have : (fun (x : V) (H1 : Hp) => ∃ x_1, [x] = [x_1] ∧ kEnum X.K x_1 H1 R) = fun x H1 => kEnum X.K x H1 R := by
      funext x H1
      exact propext ⟨fun ⟨y, e, q⟩ => by cases e; exact q, fun q => ⟨x, rfl, q⟩⟩
    show te σ H (fun (x : V) (H1 : Hp) => ∃ x_1, [x] = [x_1] ∧ kEnum X.K x_1 H1 R)
    rw [this]; exact h)) fun us s1 ⟨vs, H1, I1, r1, q1⟩ => ?_) (star_cons hs) rfl))
  obtain ⟨x, rfl, a, xs, rfl, q⟩ := q1
  rw [Vals.ref1 r1]
  have fresh : ∀ b, b ∈ [s1.heap.objs.size + 1, s1.heap.objs.size] → FpOk X pins H1 b := fun b hb => by
    have hle : s1.heap.objs.size ≤ b := by
      simp only [List.mem_cons, List.not_mem_nil, or_false] at hb
      omega
    exact I1.fpOk hle (I1.hok.fresh hle)
  rcases q with ⟨hq, q⟩ | ⟨hq, q⟩
  · obtain ⟨its, rv, pl, hz⟩ := I1.list hq
    refine call_enumerate_list pl.isList fun g he hit hsz hk => wpAny_pyIter_enum he ?_
    exact ⟨_, _, _, _, H1, rfl, I1.kept (t' := s1.toks) hk, turn_enum a (s1.heap.objs.size + 1) s1.heap.objs.size, ⟨⟨.none, he⟩, hit, Nat.succ_ne_self _⟩, fresh, q⟩
  · obtain ⟨its, rv, ht, hz⟩ := I1.tuple hq
    have hlt : a < s1.heap.objs.size := by obtain ⟨_, z, _⟩ := ht; exact Heap.lt_size z
    refine pu_call_enum (show s1.heap.IsTuple a its.toArray from ht) fun g he hit hk => wpAny_pyIter_enum he ?_
    exact ⟨_, _, _, _, H1, rfl, I1.kept (t' := s1.toks) hk, turn_et a (s1.heap.objs.size + 1) s1.heap.objs.size (Nat.ne_of_lt hlt) (Nat.ne_of_gt (Nat.lt_succ_of_lt hlt)), ⟨⟨.none, he⟩, hit, Nat.succ_ne_self _⟩, fresh, q⟩
/-- a list, a tuple -/
def kVal (K : PySem.W.Frag) (x : V) (H : Hp) (R : It → Hp → Prop) : Prop := ∃ a xs, x = V.ref a ∧ ((SqL K H a xs ∧ R (Itl K a) H) ∨ (SqT K H a xs ∧ R (Itt K a) H))
theorem pi_valA {X : Cx} {e tg : Expr} {te : TE} (ha : PE X e te) : PI X tg e (fun σ H R => te σ H fun x H1 => kVal X.K x H1 R) := by
  refine ⟨fun pins s σ H R I h => ?_⟩
  refine thn (ha.run pins s σ H _ I h) fun v s1 ⟨x, H1, I1, r1, q1⟩ => ?_
  obtain ⟨a, xs, rfl, q⟩ := q1
  cases r1
  have fresh : ∀ b, b ∈ [s1.heap.objs.size] → FpOk X pins H1 b := fun b hb => by
    cases (List.mem_singleton.mp hb)
    exact I1.fpOk (Nat.le_refl _) (I1.hok.fresh (Nat.le_refl _))
  rcases q with ⟨hq, q⟩ | ⟨hq, q⟩
  · obtain ⟨its, rv, p, hz⟩ := I1.list hq
    exact wpAny_pyIter_list p.isList ⟨_, _, _, _, H1, rfl, I1.kept (t' := s1.toks) fun b o e => Heap.get?_push_of_some _ e, turn_list a _, ⟨_, Heap.get?_push_size _ rfl, rfl, rfl⟩, fresh, q⟩
  · obtain ⟨its, rv, p, hz⟩ := I1.tuple hq
    exact wpAny_pyIter_tuple (show s1.heap.IsTuple a its.toArray from p) ⟨_, _, _, _, H1, rfl, I1.kept (t' := s1.toks) fun b o e => Heap.get?_push_of_some _ e, turn_tuple a _, ⟨_, Heap.get?_push_size _ rfl, rfl, rfl⟩, fresh, q⟩
/-- the keys of the dict at a, whose object is o -/
def ItKd (a : Addr) (o : Obj) (xs : List V) : It where
  go i H := H a = some (isObjAt a o) ∧ i < xs.length
  yld i H v H' := H' = H ∧ xs[i]? = some v
  stop i H := H a = some (isObjAt a o) ∧ xs.length ≤ i
theorem turn_kd {P : Program} {w : World} {K : PySem.W.Frag} {tg : Expr} {a it : Addr} {o : Obj} {es : Array DictEntry} {ep : Nat} {xs : List V} (hd : o.data = .dict es ep) (hl : es.size = xs.length) (hx : ∀ (i : Nat) (v : V), xs[i]? = some v → ∃ en : DictEntry, es[i]? = some en ∧ RelV v en.key) :
    Turn P w K tg (ItKd a o xs) [it] it (fun i h => h.IsKeyIter it a i xs.length ep) where
  mem := by simp
  obj := fun i h st b hb => by
    have e : b = it := by simpa using hb
    subst e
    obtain ⟨oi, e, c, dd⟩ := st
    exact ⟨oi, e, fun v z => by rw [dd] at z; cases z⟩
  keep := fun i h h' st k => st.at fun oi e => k it (by simp) oi e
  item := by
    intro X hP hw hK hc i pins s σ H E I hf st hg
    subst hP hw hK
    obtain ⟨hH, hi⟩ := hg
    obtain ⟨f0, f1, f2, f3, f4, f5⟩ := hf it (by simp)
    have ho : s.heap.get? a = some o := (show ObjOk X.prog X.w H s.heap a (isObjAt a o) from I.hok a _ hH).1
    obtain ⟨en, hen, hkey⟩ := hx i xs[i] (List.getElem?_eq_getElem hi)
    refine next_key_item st ho hd hl hen fun h' st' sb => ?_
    have I1 : Inv X pins σ H { s with heap := h' } := I.turned (t' := s.toks) (fun b ob hb e => (sb.2 b hb).trans e) f0 f1 f3 f4 f5
    obtain ⟨oi, e, c, dd⟩ := id st'
    exact ⟨en.key, rfl, go_of (s := { s with heap := h' }) e c dd (by decide) ⟨xs[i], H, I1, hkey, ⟨rfl, List.getElem?_eq_getElem hi⟩, st', fun b hb => (hf b hb).1⟩⟩
  done := by
    intro X hP hw hK hc i pins s σ H E I hf st hg
    subst hP hw hK
    obtain ⟨hH, hi⟩ := hg
    obtain ⟨f0, f1, f2, f3, f4, f5⟩ := hf it (by simp)
    have ho : s.heap.get? a = some o := (show ObjOk X.prog X.w H s.heap a (isObjAt a o) from I.hok a _ hH).1
    exact next_key_end (I.ok.hd hc) st ho hd hl hi fun h' eb => ⟨rfl, I.turned (t' := s.toks) (fun b ob hb e => eb b ob hb e) f0 f1 f3 f4 f5⟩
  self := fun A i s Q E st h => by
    refine wpAny_pyIter_slot st.typeIs PySem.F.slot_dict_keyiterator_iter (wpAny_call_entry PySem.F.slot_dict_keyiterator_iter st.typeIs PySem.F.entry_dict_keyiterator_iter ?_ (PySem.F.args_dict_keyiterator_iter_1 _))
    show wpAny _ _ (PySem.ret (.ref it)) _ _ s
    exact wpAny_pure ⟨_, rfl, "dict_keyiterator", _, st.typeIs, PySem.F.slot_dict_keyiterator_next.lookup, h⟩
def kKeys (c : Ct) (x : V) (H : Hp) (R : It → Hp → Prop) : Prop := ∃ F a ks vs, x = V.ref a ∧ Sub F H ∧ DtAt c H (fun xs => RelDs c F ks xs) (fun xs => RelDs c F vs xs) ks a ∧ ∀ o xs, H a = some (isObjAt a o) → RelDs c F ks xs → R (ItKd a o xs) H
theorem pi_keysD {X : Cx} {c : Ct} (C : Cok X c) {e tg : Expr} {te : TE} {ap cp : Pos} (he : PE X e te) (hb : attributeBase e "keys" X.env (eval e X.env) = eval e X.env) (hl : (ap.endLine == cp.line) = true) : PI X tg (.Call (.Attribute e "keys" ap) [] [] cp) (fun σ H R => te σ H fun x H1 => kKeys c x H1 R) := by
  refine ⟨fun pins s σ H R I h => ?_⟩
  refine wpAny_Call_method (T := "dict") (id := "dict.keys") hb rfl hl PySem.F.plainAttrs_dict PySem.F.slot_dict_keys PySem.F.type_dict_keys (thn (he.run pins s σ H _ I h) fun u s1 ⟨x, H1, I1, rx, q1⟩ => ?_)
  obtain ⟨F, a, ks, vs, rfl, hs, hd, q⟩ := q1
  cases rx
  obtain ⟨o, es, ep, xs, us, n1, g1, k1, k2, k3, _, _, _, k5, k6, k7, k8, k9, _⟩ := dt_heap C I1 hs hd
  refine ⟨g1.typeIs, fun b e => by cases e; exact ⟨o, k6, k7.2.1⟩, ?_⟩
  have hl2 : es.size = xs.length := by rw [← Array.length_toList, k9, List.length_map]
  have I2 : Inv X pins σ H1 { s1 with heap := s1.heap.push { cls := .type "dict_keys", data := .fields #[.ref a] } } := I1.kept (t' := s1.toks) fun b ob q => Heap.get?_push_of_some _ q
  have fin : wpAny (model X.prog X.w) X.A (pyIter (.ref s1.heap.objs.size)) (PIE X pins σ tg R) X.xe { s1 with heap := s1.heap.push { cls := .type "dict_keys", data := .fields #[.ref a] } } := by
    refine PySem.wpAny_pyIter_keys_raw (d := a) (es := es) (ep := ep) ⟨_, Heap.get?_push_size _ rfl, rfl, rfl⟩ ⟨o, Heap.get?_push_of_some _ k6, k7, k8⟩ (pi_one (tk := s1.toks) I2 _ (turn_kd (xs := xs.map fun x => V.ref x.2.1) k8 (by rw [List.length_map]; exact hl2) fun i v hv => ?_) ⟨_, Heap.get?_push_size _ rfl, rfl, ?_⟩ (q o _ k5 k3))
    · rw [List.getElem?_map] at hv
      obtain ⟨y, hy, e⟩ := Option.map_eq_some_iff.mp hv
      subst e
      have := congrArg (fun l => l[i]?) k9
      rw [Array.getElem?_toList, List.getElem?_map, hy] at this
      exact ⟨_, this, rfl⟩
    · rw [List.length_map, hl2]; rfl
  show wpAny _ _ (callWith cp (.builtin "dict.keys") [.ref a] [] []) _ X.xe s1
  exact method_meetsIn PySem.F.slot_dict_keys PySem.F.entry_dict_keys rfl (PySem.evalArgs_none ⟨rfl, g1.typeIs, PySem.F.args_dict_keys_1 _, _, pu_meets_keys a n1, ⟨g1.typeIs, fin⟩⟩)
end Pu
end

section
set_option autoImplicit false
set_option linter.all false
set_option maxRecDepth 100000
set_option maxHeartbeats 4000000
set_option Elab.async false
namespace Pu
open PySem PySem.Spec PyProof.Rows L2

theorem wipe_get (σ : L2.St) (j : Nat) : ∀ vs : List Nat, (wipe σ vs)[j]? = if j ∈ vs then σ[j]?.map fun _ => none else σ[j]?
  | [] => by simp [wipe]
  | v :: vs => by
    unfold wipe
    rw [List.getElem?_set, wipe_length, wipe_get σ j vs]
    by_cases hv : v = j
    · subst hv
      rw [if_pos rfl, if_pos List.mem_cons_self]
      by_cases hl : v < σ.length
      · rw [if_pos hl, List.getElem?_eq_getElem hl]; rfl
      · rw [if_neg hl, List.getElem?_eq_none (by omega)]; rfl
    · rw [if_neg hv]
      have : j ∈ v :: vs ↔ j ∈ vs := by simp [Ne.symm hv]
      simp only [this]
theorem wipe_set {σ : L2.St} {i : Nat} {x : Option V} {vs : List Nat} (h : i ∈ vs) : wipe (σ.set i x) vs = wipe σ vs := by
  refine List.ext_getElem? fun j => ?_
  rw [wipe_get, wipe_get, List.getElem?_set]
  by_cases hj : j ∈ vs
  · rw [if_pos hj, if_pos hj]
    by_cases e : i = j
    · subst e
      rw [if_pos rfl]
      by_cases hl : i < σ.length
      · rw [if_pos hl, List.getElem?_eq_getElem hl]; rfl
      · rw [if_neg hl, List.getElem?_eq_none (by omega)]
    · rw [if_neg e]
  · rw [if_neg hj, if_neg hj, if_neg (fun (e : i = j) => hj (e ▸ h))]
theorem wipeE_get (ρ : Env) (j : Nat) : ∀ vs : List Nat, (wipeE ρ vs)[j]? = if j ∈ vs then ρ[j]?.map fun _ => Slot.none else ρ[j]?
  | [] => by simp [wipeE]
  | v :: vs => by
    have hl : ∀ vs : List Nat, (wipeE ρ vs).length = ρ.length := by
      intro vs
      induction vs with
      | nil => rfl
      | cons v vs ih => unfold wipeE; rw [List.length_set, ih]
    unfold wipeE
    rw [List.getElem?_set, hl, wipeE_get ρ j vs]
    by_cases hv : v = j
    · subst hv
      rw [if_pos rfl, if_pos List.mem_cons_self]
      by_cases hl : v < ρ.length
      · rw [if_pos hl, List.getElem?_eq_getElem hl]; rfl
      · rw [if_neg hl, List.getElem?_eq_none (by omega)]; rfl
    · rw [if_neg hv]
      have : j ∈ v :: vs ↔ j ∈ vs := by simp [Ne.symm hv]
      simp only [this]
theorem wipeE_length (ρ : Env) : ∀ vs : List Nat, (wipeE ρ vs).length = ρ.length
  | [] => rfl
  | v :: vs => by unfold wipeE; rw [List.length_set, wipeE_length ρ vs]
section
variable {c : Ct} {F0 H0 F H F' H' : Hp} {σ : L2.St} {ρ : Env} {R R' : List D}
theorem StR.wipe (S : StR c F0 H0 F H σ ρ R) (vs : List Nat) : StR c F0 H0 F H (L2.wipe σ vs) (wipeE ρ vs) R := by
  obtain ⟨fp, h1, h2⟩ := S.fp
  refine ⟨S.sub, S.ext, by rw [wipe_length, wipeE_length]; exact S.len, ⟨fun i => if i ∈ vs then [] else fp i, fun i s hs => ?_, fun i j a hij ha => ?_⟩, S.row⟩
  · rw [wipeE_get] at hs
    rw [wipe_get]
    by_cases hi : i ∈ vs
    · rw [if_pos hi] at hs ⊢
      simp only [if_pos hi]
      obtain ⟨_, _, rfl⟩ := Option.map_eq_some_iff.mp hs
      exact rfl
    · rw [if_neg hi] at hs ⊢
      simp only [if_neg hi]
      exact h1 i s hs
  · by_cases hi : i ∈ vs
    · simp [hi] at ha
    · by_cases hj : j ∈ vs
      · simp [hj]
      · simp only [if_neg hi] at ha
        simp only [if_neg hj]
        exact h2 i j a hij ha
theorem StR.set (S : StR c F0 H0 F H σ ρ R) {i : Nat} {d : D} {v : V} (hi : i < ρ.length) (r : RelD c F d v) : StR c F0 H0 F H (σ.set i (some v)) (ρ.set i (.val d)) R := by
  obtain ⟨fp, h1, h2⟩ := S.fp
  refine ⟨S.sub, S.ext, by rw [List.length_set, List.length_set]; exact S.len, ⟨fun j => if j = i then [] else fp j, fun j s hs => ?_, fun j k a hjk ha => ?_⟩, S.row⟩
  · rw [List.getElem?_set] at hs ⊢
    by_cases e : i = j
    · subst e
      rw [if_pos rfl, if_pos hi] at hs
      cases hs
      rw [if_pos rfl, if_pos (by rw [S.len]; exact hi)]
      exact ⟨if_pos rfl, v, rfl, r⟩
    · rw [if_neg e] at hs ⊢
      simp only [if_neg (Ne.symm e)]
      exact h1 j s hs
  · by_cases e : j = i
    · simp [e] at ha
    · by_cases e2 : k = i
      · simp [e2]
      · simp only [if_neg e] at ha
        simp only [if_neg e2]
        exact h2 j k a hjk ha
end

mutual
def tgs : Tg → List Nat
  | .slot i => [i]
  | .tup ts => tgss ts
def tgss : List Tg → List Nat
  | [] => []
  | t :: ts => tgs t ++ tgss ts
end
def tTg (c : Ct) (t : Tg) : TG := fun v σ H Q => ∃ F0 H0 F ρ R d ρ', StR c F0 H0 F H σ ρ R ∧ RelD c F d v ∧ setTg t d ρ = some ρ' ∧ ∀ σ', StR c F0 H0 F H σ' ρ' R → (∀ vs, (∀ i ∈ tgs t, i ∈ vs) → wipe σ' vs = wipe σ vs) → Q σ' H
def tTgs (c : Ct) (ts : List Tg) : TGs := fun us σ H Q => ∃ F0 H0 F ρ R ds ρ', StR c F0 H0 F H σ ρ R ∧ RelDs c F ds us ∧ setTgs ts ds ρ = some ρ' ∧ ∀ σ', StR c F0 H0 F H σ' ρ' R → (∀ vs, (∀ i ∈ tgss ts, i ∈ vs) → wipe σ' vs = wipe σ vs) → Q σ' H
section
variable {X : Cx} {c : Ct} {pos : Pos} {e : Expr} {es : List Expr}
theorem PG.imp {t t' : TG} (h : PG X e t) (k : ∀ v σ H Q, t' v σ H Q → t v σ H Q) : PG X e t' := ⟨fun pins s σ H v u Q I r q => h.run pins s σ H v u Q I r (k v σ H Q q)⟩
theorem PGs.imp {t t' : TGs} (h : PGs X es t) (k : ∀ v σ H Q, t' v σ H Q → t v σ H Q) : PGs X es t' := ⟨fun pins s σ H v u Q I r q => h.run pins s σ H v u Q I r (k v σ H Q q)⟩
theorem gg_slot {i : Nat} {x : Str} (hN : X.N.Nodup) (hi : X.N[i]? = some x) (hx : Loc X.env.scope x) (hf : X.fn x = true ∨ X.env.scope.names.lookup x = some .local) : PG X (.Name x pos) (tTg c (.slot i)) :=
  PG.imp (pg_name hN hi hx hf) fun v σ H Q h => by
    obtain ⟨F0, H0, F, ρ, R, d, ρ', S, r, e, q⟩ := h
    simp only [setTg] at e
    split at e
    · rename_i hl
      cases e
      exact q _ (S.set hl r) fun vs hv => wipe_set (hv i (by simp [tgs]))
    · cases e
theorem gg_nil : PGs X [] (tTgs c []) := PGs.imp pgs_nil fun us σ H Q h => by
  obtain ⟨F0, H0, F, ρ, R, ds, ρ', S, r, e, q⟩ := h
  cases ds with
  | cons => simp [setTgs] at e
  | nil =>
    simp only [setTgs, Option.some.injEq] at e
    subst e
    cases us with
    | cons => simp only [RelDs] at r
    | nil => exact ⟨rfl, q σ S fun _ _ => rfl⟩
theorem gg_cons {t : Tg} {ts : List Tg} (h1 : PG X e (tTg c t)) (h2 : PGs X es (tTgs c ts)) (hs : (assignEach (e :: es) X.env).map (·.2) = assign e X.env :: (assignEach es X.env).map (·.2)) : PGs X (e :: es) (tTgs c (t :: ts)) :=
  PGs.imp (pgs_cons h1 h2 hs) fun us σ H Q h => by
    obtain ⟨F0, H0, F, ρ, R, ds, ρ', S, r, e, q⟩ := h
    cases ds with
    | nil => simp [setTgs] at e
    | cons d ds =>
      simp only [setTgs] at e
      split at e
      · rename_i ρ1 e1
        cases us with
        | nil => simp only [RelDs] at r
        | cons u us =>
          simp only [RelDs] at r
          refine ⟨u, us, rfl, F0, H0, F, ρ, R, d, ρ1, S, r.1, e1, fun σ1 S1 w1 => ⟨F0, H0, F, ρ1, R, ds, ρ', S1, r.2, e, fun σ2 S2 w2 => q σ2 S2 fun vs hv => ?_⟩⟩
          simp only [tgss, List.mem_append] at hv
          rw [w2 vs fun i hi => hv i (.inr hi), w1 vs fun i hi => hv i (.inl hi)]
      · cases e
theorem assign_star {env : PySem.Env} : ∀ {es : List Expr}, es.all noStar = true → (assignEach es env).length = es.length ∧ (assignEach es env).findIdx? (·.1) = none ∧ (assignEach es env).map (·.2) = es.map fun e => assign e env
  | [], _ => ⟨rfl, rfl, rfl⟩
  | e :: es, h => by
    rw [List.all_cons, Bool.and_eq_true] at h
    obtain ⟨h1, h2, h3⟩ := assign_star (env := env) h.2
    have he : assignEach (e :: es) env = (false, assign e env) :: assignEach es env := by
      have := h.1
      cases e <;> first | rfl | cases this
    rw [he]
    refine ⟨by simp [h1], ?_, by simp [h3]⟩
    rw [List.findIdx?_cons, h2]; rfl
theorem setTgs_len : ∀ {ts : List Tg} {ds : List D} {ρ ρ' : Env}, setTgs ts ds ρ = some ρ' → ds.length = ts.length
  | [], [], _, _, _ => rfl
  | [], _ :: _, _, _, h => by simp [setTgs] at h
  | _ :: _, [], _, _, h => by simp [setTgs] at h
  | t :: ts, d :: ds, ρ, ρ', h => by
    simp only [setTgs] at h
    split at h
    · simp [setTgs_len h]
    · cases h
theorem PG.or {t t' : TG} (h : PG X e t) (h' : PG X e t') : PG X e (fun v σ H Q => t v σ H Q ∨ t' v σ H Q) := ⟨fun pins s σ H v u Q I r q => by
  rcases q with q | q
  · exact h.run pins s σ H v u Q I r q
  · exact h'.run pins s σ H v u Q I r q⟩
theorem gg_tup {k : Nat} {ts : List Tg} (C : Cok X c) (h : PGs X es (tTgs c ts)) (hn : es.all noStar = true) (hl : ts.length = es.length) : PG X (.Tuple es k pos) (tTg c (.tup ts)) := by
  obtain ⟨h1, h2, h3⟩ := assign_star (env := X.env) hn
  refine PG.imp (PG.or (pg_tup (n := es.length) C.calm h h1 h2) (pg_lst (n := es.length) C.calm h h1 h2)) fun v σ H Q h => ?_
  obtain ⟨F0, H0, F, ρ, R, d, ρ', S, r, e, q⟩ := h
  have tg : tgs (.tup ts) = tgss ts := by simp [tgs]
  rw [tg] at q
  cases d with
  | tup ds =>
    simp only [setTg] at e
    simp only [RelD] at r
    obtain ⟨a, xs, rfl, ha, ra⟩ := r
    exact .inl ⟨a, xs, rfl, by rw [C.K]; exact sq S.sub ha, by rw [ra.length, setTgs_len e, hl], F0, H0, F, ρ, R, ds, ρ', S, ra, e, q⟩
  | lst ds =>
    simp only [setTg] at e
    simp only [RelD] at r
    obtain ⟨a, xs, rfl, ha, ra⟩ := r
    exact .inr ⟨a, xs, rfl, SqL.of (S.sub _ _ ha), by rw [ra.length, setTgs_len e, hl], F0, H0, F, ρ, R, ds, ρ', S, ra, e, q⟩
  | _ => simp [setTg] at e
end

def Kept (c : Ct) (H1 H : Hp) : Prop := ∀ a o, H1 a = some o → a ≠ c.ar → H a = some o
/-- the i-th of ds; or a new pair of what the i-th is made of -/
def YD (c : Ct) (F : Hp) (ds : List D) : Nat → Hp → V → Hp → Prop := fun i H x H' => ∃ d, ds[i]? = some d ∧
  ((H' = H ∧ RelD c F d x) ∨ ∃ T p q d1 d2, d = .tup [d1, d2] ∧ x = .ref T ∧ H T = none ∧ H' = upd H T (.tup [p, q]) ∧ RelD c F d1 p ∧ RelD c F d2 q)
/-- held through a walk -/
def Hld (c : Ct) (F H : Hp) (G : Hp → Prop) : D → V → Prop
  | .lst ds, x => ∃ a xs, x = .ref a ∧ RelDs c F ds xs ∧ SqL c.K H a xs ∧ ∀ H', G H' → SqL c.K H' a xs
  | .tup ds, x => ∃ a xs, x = .ref a ∧ RelDs c F ds xs ∧ SqT c.K H a xs ∧ ∀ H', G H' → SqT c.K H' a xs
  | .int i, x => x = .int i
  | .dt ks vs, x => Sub F H ∧ ∃ a, x = .ref a ∧ DtAt c H (fun xs => RelDs c F ks xs) (fun xs => RelDs c F vs xs) ks a ∧ ∀ H', G H' → ∀ o, H a = some o → H' a = some o
  | _, _ => True
section
variable {c : Ct} {F H : Hp} {d : D} {x : V}
theorem Opd.hld (s : Sub F H) (ha : F c.ar = none) (o : Opd c F H d x) : Hld c F H (Kept c H) d x := by
  obtain ⟨t, n⟩ := o
  cases d <;> try exact True.intro
  · exact t
  · simp only [Top, RelD] at t
    obtain ⟨a, xs, rfl, h1, h2⟩ := t
    refine ⟨a, xs, rfl, h2, sq s h1, fun H' k => ?_⟩
    have s' : Sub F H' := fun b o q => k b o (s b o q) fun e => by subst e; rw [ha] at q; cases q
    exact sq s' h1
  · obtain ⟨a, xs, rfl, h1, h2⟩ := t
    exact ⟨a, xs, rfl, h2, SqL.of h1, fun H' k => SqL.of (k a _ h1 (n a rfl rfl))⟩
  · obtain ⟨a, rfl, h1⟩ := t
    exact ⟨s, a, rfl, h1, fun H' k o q => k a o q (n a rfl rfl)⟩
theorem RelD.hld (s : Sub F H) (r : RelD c F d x) : Hld c F H (fun H' => Sub F H') d x := by
  cases d <;> try exact True.intro
  · exact (show x = _ from r)
  · simp only [RelD] at r
    obtain ⟨a, xs, rfl, h1, h2⟩ := r
    exact ⟨a, xs, rfl, h2, sq s h1, fun H' k => sq k h1⟩
  · simp only [RelD] at r
    obtain ⟨a, xs, rfl, h1, h2⟩ := r
    exact ⟨a, xs, rfl, h2, SqL.of (s _ _ h1), fun H' k => SqL.of (k _ _ h1)⟩
  · simp only [RelD] at r
    obtain ⟨a, rfl, h1⟩ := r
    obtain ⟨o, es, ep, xs, us, q, _⟩ := id h1
    exact ⟨s, a, rfl, h1.imp (fun o k => s _ _ k) (fun _ k => k) (fun _ k => k), fun H' k o' q' => k _ _ (by rw [s _ _ q] at q'; cases q'; exact q)⟩
variable {G : Hp → Prop} {ds : List D} {y : V} {dy : D} {R : It → Hp → Prop}
theorem y_at {xs : List V} (ra : RelDs c F ds xs) (i : Nat) (H : Hp) (x : V) (H' : Hp) (h : YAt xs i H x H') : YD c F ds i H x H' := by
  obtain ⟨rfl, hx⟩ := h
  have hl := ra.length
  have hi : i < ds.length := by rw [← hl]; exact (List.getElem?_eq_some_iff.mp hx).1
  obtain ⟨z, hz, rz⟩ := ra.get (List.getElem?_eq_getElem hi)
  rw [hx] at hz; cases hz
  exact ⟨_, List.getElem?_eq_getElem hi, .inl ⟨rfl, rz⟩⟩
theorem kVal_of (h : Hld c F H G d x) (e : items .val d dy = some ds) (k : ∀ J, Walk J ds.length G (YD c F ds) → R J H) : kVal c.K x H R := by
  cases d <;> simp only [items, Option.some.injEq, reduceCtorEq] at e
  · subst e
    obtain ⟨a, xs, rfl, ra, h1, h2⟩ := h
    refine ⟨a, xs, rfl, .inr ⟨h1, k _ ?_⟩⟩
    rw [← ra.length]
    exact (walk_tup (K := c.K) (a := a) (xs := xs)).mono h2 fun i H x H' _ _ q => y_at ra i H x H' q
  · subst e
    obtain ⟨a, xs, rfl, ra, h1, h2⟩ := h
    refine ⟨a, xs, rfl, .inl ⟨h1, k _ ?_⟩⟩
    rw [← ra.length]
    exact (walk_list (K := c.K) (a := a) (xs := xs)).mono h2 fun i H x H' _ _ q => y_at ra i H x H' q
theorem y_en {xs : List V} {es : List D} (ra : RelDs c F es xs) (i : Nat) (H : Hp) (x : V) (H' : Hp) (h : YPair (fun i => some (.int (i : Nat))) (fun i => xs[i]?) i H x H') : YD c F (es.mapIdx fun i x => .tup [.int (i : Nat), x]) i H x H' := by
  obtain ⟨T, p, q, rfl, hT, rfl, hp, hq⟩ := h
  cases hp
  have hi : i < es.length := by rw [← ra.length]; exact (List.getElem?_eq_some_iff.mp hq).1
  obtain ⟨z, hz, rz⟩ := ra.get (List.getElem?_eq_getElem hi)
  have hq : xs[i]? = some q := hq
  rw [hq] at hz; cases hz
  exact ⟨.tup [.int (i : Nat), es[i]], by simp [hi], .inr ⟨T, _, _, _, _, rfl, rfl, hT, rfl, by simp only [RelD], rz⟩⟩
theorem walk_et {K : PySem.W.Frag} {a : Addr} {xs : List V} : Walk (ItEt K a) xs.length (fun H => SqT K H a xs) (YPair (fun i => some (.int (i : Nat))) (fun i => xs[i]?)) :=
  ⟨fun i _ hi q => ⟨xs, xs[i], q, by simp [hi]⟩, fun _ q => ⟨xs, q, Nat.le_refl _⟩, fun i H v H' _ q y => let ⟨T, x, h1, h2, h3, h4⟩ := y; ⟨T, .int (i : Nat), x, h1, h2, h3, rfl, h4 xs q⟩⟩
theorem kEnum_of (h : Hld c F H G d x) (e : items .enum d dy = some ds) (k : ∀ J, Walk J ds.length G (YD c F ds) → R J H) : kEnum c.K x H R := by
  cases d <;> simp only [items, Option.some.injEq, reduceCtorEq] at e
  · subst e
    obtain ⟨a, xs, rfl, ra, h1, h2⟩ := h
    refine ⟨a, xs, rfl, .inr ⟨h1, k _ ?_⟩⟩
    rw [List.length_mapIdx, ← ra.length]
    exact walk_et.mono h2 fun i H x H' _ _ q => y_en ra i H x H' q
  · subst e
    obtain ⟨a, xs, rfl, ra, h1, h2⟩ := h
    refine ⟨a, xs, rfl, .inl ⟨h1, k _ ?_⟩⟩
    rw [List.length_mapIdx, ← ra.length]
    exact walk_enum.mono h2 fun i H x H' _ _ q => y_en ra i H x H' q

theorem kKeys_of (h : Hld c F H G d x) (e : items .keys d dy = some ds) (k : ∀ J, Walk J ds.length G (YD c F ds) → R J H) : kKeys c x H R := by
  cases d <;> simp only [items, Option.some.injEq, reduceCtorEq] at e
  subst e
  obtain ⟨hs, a, rfl, h1, h2⟩ := h
  refine ⟨F, a, _, _, rfl, hs, h1, fun o xs ho rk => k _ ?_⟩
  rw [← rk.length]
  exact ⟨fun i H' hi q => ⟨h2 H' q _ ho, hi⟩, fun H' q => ⟨h2 H' q _ ho, Nat.le_refl _⟩, fun i H' v H'' _ _ y => y_at rk i H' v H'' y⟩

theorem zipW_get {α β γ : Type} (f : α → β → γ) : ∀ (xs : List α) (ys : List β) (i : Nat), (List.zipWith f xs ys)[i]? = match xs[i]?, ys[i]? with | some x, some y => some (f x y) | _, _ => none
  | [], ys, i => by simp
  | x :: xs, [], i => by simp
  | x :: xs, y :: ys, 0 => by simp
  | x :: xs, y :: ys, i + 1 => by simpa using zipW_get f xs ys i
theorem y_zip {es es2 : List D} {xs ys : List V} (ra : RelDs c F es xs) (rb : RelDs c F es2 ys) (i : Nat) (H : Hp) (x : V) (H' : Hp) (h : YPair (fun i => xs[i]?) (fun i => ys[i]?) i H x H') : YD c F (List.zipWith (fun a b => .tup [a, b]) es es2) i H x H' := by
  obtain ⟨T, p, q, rfl, hT, rfl, hp, hq⟩ := h
  have hp : xs[i]? = some p := hp
  have hq : ys[i]? = some q := hq
  have h1 : i < es.length := by rw [← ra.length]; exact (List.getElem?_eq_some_iff.mp hp).1
  have h2 : i < es2.length := by rw [← rb.length]; exact (List.getElem?_eq_some_iff.mp hq).1
  obtain ⟨z, hz, rz⟩ := ra.get (List.getElem?_eq_getElem h1)
  rw [hp] at hz; cases hz
  obtain ⟨z, hz, rz2⟩ := rb.get (List.getElem?_eq_getElem h2)
  rw [hq] at hz; cases hz
  exact ⟨.tup [es[i], es2[i]], by rw [zipW_get, List.getElem?_eq_getElem h1, List.getElem?_eq_getElem h2], .inr ⟨T, _, _, _, _, rfl, rfl, hT, rfl, rz, rz2⟩⟩
theorem walk_zt {K : PySem.W.Frag} {a b : Addr} {xs ys : List V} {n : Nat} (hn : n = min xs.length ys.length) : Walk (RZ.ItzT K a b) n (fun H => SqT K H a xs ∧ SqT K H b ys) (YPair (fun i => xs[i]?) (fun i => ys[i]?)) := by
  subst hn
  refine ⟨fun i _ hi q => ?_, fun _ q => ⟨xs, ys, q.1, q.2, by omega⟩, fun i H v H' _ q y => ?_⟩
  · have h1 : i < xs.length := by omega
    have h2 : i < ys.length := by omega
    exact ⟨xs, ys, xs[i], ys[i], q.1, q.2, by simp [h1], by simp [h2]⟩
  · obtain ⟨T, x, z, h1, h2, h3, h4, h5⟩ := y
    exact ⟨T, x, z, h1, h2, h3, h4 xs q.1, h5 ys q.2⟩
def kZip (K : PySem.W.Frag) (x y : V) (H : Hp) (R : It → Hp → Prop) : Prop := ∃ a b xs ys, x = V.ref a ∧ y = V.ref b ∧ ((SqL K H a xs ∧ SqL K H b ys ∧ R (Itz K a b) H) ∨ (SqT K H a xs ∧ SqT K H b ys ∧ R (RZ.ItzT K a b) H))
theorem kZip_of (h : Hld c F H G d x) (h' : Hld c F H G dy y) (e : items .zip d dy = some ds) (k : ∀ J, Walk J ds.length G (YD c F ds) → R J H) : kZip c.K x y H R := by
  cases d <;> cases dy <;> simp only [items, Option.some.injEq, reduceCtorEq] at e
  · subst e
    obtain ⟨a, xs, rfl, ra, h1, h2⟩ := h
    obtain ⟨b, ys, rfl, rb, h3, h4⟩ := h'
    refine ⟨a, b, xs, ys, rfl, rfl, .inr ⟨h1, h3, k _ ?_⟩⟩
    exact (walk_zt (by rw [List.length_zipWith, ra.length, rb.length])).mono (fun H q => ⟨h2 H q, h4 H q⟩) fun i H x H' _ _ q => y_zip ra rb i H x H' q
  · subst e
    obtain ⟨a, xs, rfl, ra, h1, h2⟩ := h
    obtain ⟨b, ys, rfl, rb, h3, h4⟩ := h'
    refine ⟨a, b, xs, ys, rfl, rfl, .inl ⟨h1, h3, k _ ?_⟩⟩
    exact (walk_zip (by rw [List.length_zipWith, ra.length, rb.length])).mono (fun H q => ⟨h2 H q, h4 H q⟩) fun i H x H' _ _ q => y_zip ra rb i H x H' q
theorem walk_rg {a b : Int} : Walk (Itr a (b - a).toNat) (rangeD a b).length G (YD c F (rangeD a b)) := by
  have hl : (rangeD a b).length = (b - a).toNat := by simp [rangeD]
  rw [hl]
  refine (walk_range (lo := a)).mono (fun _ _ => True.intro) fun i H x H' hi _ q => ?_
  obtain ⟨rfl, rfl⟩ := q
  exact ⟨.int (a + (i : Nat)), by simp [rangeD, hi], .inl ⟨rfl, by simp only [RelD]⟩⟩
end
end Pu
end

section
set_option autoImplicit false
set_option linter.all false
set_option maxRecDepth 100000
set_option maxHeartbeats 4000000
set_option Elab.async false
namespace Pu
open PySem PySem.Spec PyProof.Rows L2

/-- a source whose operands are only looked at; one that is kept -/
def wO (c : Ct) (cf : Cf) (k : ItK) (a b : E) : TI := fun σ H Q => ∃ F0 H0 F ρ R dx R1 dy R' ds, StR c F0 H0 F H σ ρ R ∧ opn a ρ (evE cf a ρ) R = .ok dx R1 ∧ opn b ρ (evE cf b ρ) R1 = .ok dy R' ∧ items k dx dy = some ds ∧
  ∀ F' H' J, Ext c F H F' H' → RowR c F' H' R' → Walk J ds.length (Kept c H') (YD c F' ds) → Q J H'
def wV (c : Ct) (cf : Cf) (k : ItK) (a b : E) : TI := fun σ H Q => ∃ F0 H0 F ρ R dx R1 dy R' ds, StR c F0 H0 F H σ ρ R ∧ evE cf a ρ R = .ok dx R1 ∧ evE cf b ρ R1 = .ok dy R' ∧ items k dx dy = some ds ∧
  ∀ F' H' J, Ext c F H F' H' → RowR c F' H' R' → Walk J ds.length (fun H2 => Sub F' H2) (YD c F' ds) → Q J H'
structure GI (X : Cx) (c : Ct) (cf : Cf) (k : ItK) (a b : E) (tg e : Expr) : Prop where
  o : PI X tg e (wO c cf k a b)
  v : PI X tg e (wV c cf k a b)
section
variable {X : Cx} {c : Ct} {cf : Cf} {a b : E} {tg e e2 : Expr} {pos : Pos}
theorem PI.imp {w w' : TI} (h : PI X tg e w) (k : ∀ σ H Q, w' σ H Q → w σ H Q) : PI X tg e w' := ⟨fun pins s σ H Q I q => h.run pins s σ H Q I (k σ H Q q)⟩
theorem row_none {F H : Hp} {R : List D} (r : RowR c F H R) : F c.ar = none := by obtain ⟨_, _, _, n⟩ := r; exact n
theorem non_ok {ρ : Env} {R R' : List D} {d : D} (h : evE cf .non ρ R = .ok d R') : d = .non ∧ R' = R := by
  simp only [evE] at h
  obtain ⟨rfl, rfl⟩ := ret_ok h
  exact ⟨rfl, rfl⟩
/-- one operand -/
theorem wO_one {k : ItK} {kx : V → Hp → (It → Hp → Prop) → Prop} (hk : ∀ {F H : Hp} {G : Hp → Prop} {d : D} {x : V} {ds : List D} {Q : It → Hp → Prop}, Hld c F H G d x → items k d .non = some ds → (∀ J, Walk J ds.length G (YD c F ds) → Q J H) → kx x H Q) :
    ∀ σ H Q, wO c cf k a .non σ H Q → tO c cf a σ H fun x H1 => kx x H1 Q := by
  rintro σ H Q ⟨F0, H0, F, ρ, R, dx, R1, dy, R', ds, S, e1, e2, e3, q⟩
  obtain ⟨rfl, rfl⟩ := non_ok (show evE cf .non ρ R1 = .ok dy R' from e2)
  exact ⟨F0, H0, F, ρ, R, dx, R', S, e1, fun F' H' v ex r o => hk (o.hld ex.s (row_none r)) e3 fun J w => q F' H' J ex r w⟩
theorem wV_one {k : ItK} {kx : V → Hp → (It → Hp → Prop) → Prop} (hk : ∀ {F H : Hp} {G : Hp → Prop} {d : D} {x : V} {ds : List D} {Q : It → Hp → Prop}, Hld c F H G d x → items k d .non = some ds → (∀ J, Walk J ds.length G (YD c F ds) → Q J H) → kx x H Q) :
    ∀ σ H Q, wV c cf k a .non σ H Q → tE c cf a σ H fun x H1 => kx x H1 Q := by
  rintro σ H Q ⟨F0, H0, F, ρ, R, dx, R1, dy, R', ds, S, e1, e2, e3, q⟩
  obtain ⟨rfl, rfl⟩ := non_ok e2
  exact ⟨F0, H0, F, ρ, R, dx, R', S, e1, fun F' H' v ex r o => hk (o.hld ex.s) e3 fun J w => q F' H' J ex r w⟩
theorem wO_two {k : ItK} {kx : V → V → Hp → (It → Hp → Prop) → Prop} (hk : ∀ {F H : Hp} {G : Hp → Prop} {d d2 : D} {x y : V} {ds : List D} {Q : It → Hp → Prop}, Hld c F H G d x → Hld c F H G d2 y → items k d d2 = some ds → (∀ J, Walk J ds.length G (YD c F ds) → Q J H) → kx x y H Q) :
    ∀ σ H Q, wO c cf k a b σ H Q → tO c cf a σ H fun x H1 => tO c cf b σ H1 fun y H2 => kx x y H2 Q := by
  rintro σ H Q ⟨F0, H0, F, ρ, R, dx, R1, dy, R', ds, S, e1, e2, e3, q⟩
  exact ⟨F0, H0, F, ρ, R, dx, R1, S, e1, fun F' H' v ex r o => ⟨F0, H0, F', ρ, R1, dy, R', S.step ex r, e2, fun F2 H2 v2 ex2 r2 o2 =>
    hk ((o.ext ex2).hld ex2.s (row_none r2)) (o2.hld ex2.s (row_none r2)) e3 fun J w => q F2 H2 J (ex.trans ex2 r) r2 w⟩⟩
theorem wV_two {k : ItK} {kx : V → V → Hp → (It → Hp → Prop) → Prop} (hk : ∀ {F H : Hp} {G : Hp → Prop} {d d2 : D} {x y : V} {ds : List D} {Q : It → Hp → Prop}, Hld c F H G d x → Hld c F H G d2 y → items k d d2 = some ds → (∀ J, Walk J ds.length G (YD c F ds) → Q J H) → kx x y H Q) :
    ∀ σ H Q, wV c cf k a b σ H Q → tE c cf a σ H fun x H1 => tE c cf b σ H1 fun y H2 => kx x y H2 Q := by
  rintro σ H Q ⟨F0, H0, F, ρ, R, dx, R1, dy, R', ds, S, e1, e2, e3, q⟩
  exact ⟨F0, H0, F, ρ, R, dx, R1, S, e1, fun F' H' v ex r o => ⟨F0, H0, F', ρ, R1, dy, R', S.step ex r, e2, fun F2 H2 v2 ex2 r2 o2 =>
    hk (RelD.hld ex2.s (RelD.mono ex2.f _ _ o)) (o2.hld ex2.s) e3 fun J w => q F2 H2 J (ex.trans ex2 r) r2 w⟩⟩
theorem gi_val (C : Cok X c) (ha : GE X c cf a e) : GI X c cf .val a .non tg e :=
  ⟨PI.imp (pi_valA ha.o) (wO_one fun h e k => by rw [C.K]; exact kVal_of h e k), PI.imp (pi_valA ha.v) (wV_one fun h e k => by rw [C.K]; exact kVal_of h e k)⟩
theorem gi_keys {ap cp : Pos} (C : Cok X c) (ha : GE X c cf a e) (hb : attributeBase e "keys" X.env (eval e X.env) = eval e X.env) (hl : (ap.endLine == cp.line) = true) : GI X c cf .keys a .non tg (.Call (.Attribute e "keys" ap) [] [] cp) :=
  ⟨PI.imp (pi_keysD C ha.o hb hl) (wO_one (kx := fun x H Q => kKeys c x H Q) fun h e k => kKeys_of h e k), PI.imp (pi_keysD C ha.v hb hl) (wV_one (kx := fun x H Q => kKeys c x H Q) fun h e k => kKeys_of h e k)⟩
theorem gi_enum {p tpos : Pos} {el : List Expr} {kk : Nat} (C : Cok X c) (hg : Gl X "enumerate") (ha : GE X c cf a e) (hs : noStar e = true) : GI X c cf .enum a .non (.Tuple el kk tpos) (.Call (.Name "enumerate" p) [e] [] pos) :=
  ⟨PI.imp (pi_enumA hg (C.bl _ (by decide)) ha.o hs) (wO_one fun h e k => by rw [C.K]; exact kEnum_of h e k), PI.imp (pi_enumA hg (C.bl _ (by decide)) ha.v hs) (wV_one fun h e k => by rw [C.K]; exact kEnum_of h e k)⟩
theorem gi_zip {p tpos : Pos} {el : List Expr} {kk : Nat} (C : Cok X c) (hg : Gl X "zip") (ha : GE X c cf a e) (hb : GE X c cf b e2) (hs : noStar e = true) (hs2 : noStar e2 = true) : GI X c cf .zip a b (.Tuple el kk tpos) (.Call (.Name "zip" p) [e, e2] [] pos) := by
  have hb2 : (backTo pos (starEach [e2] X.env)).any (·.1) = false := star_back (by rw [List.all_cons, hs2]; rfl)
  refine ⟨PI.imp (RZ.pi_zipA hg (C.bl _ (by decide)) (pa_cons ha.o (pa_cons hb.o pa_nil (star_cons hs2)) (star_cons hs)) (star_cons hs) hb2) fun σ H Q h => ?_, PI.imp (RZ.pi_zipA hg (C.bl _ (by decide)) (pa_cons ha.v (pa_cons hb.v pa_nil (star_cons hs2)) (star_cons hs)) (star_cons hs) hb2) fun σ H Q h => ?_⟩
  · exact wO_two (kx := fun x y H Q => ∃ a b xs ys, [x, y] = [V.ref a, V.ref b] ∧ ((SqL X.K H a xs ∧ SqL X.K H b ys ∧ Q (Itz X.K a b) H) ∨ (SqT X.K H a xs ∧ SqT X.K H b ys ∧ Q (RZ.ItzT X.K a b) H))) (fun h h' e k => by
      rw [C.K]
      obtain ⟨a, b, xs, ys, rfl, rfl, q⟩ := kZip_of h h' e k
      exact ⟨a, b, xs, ys, rfl, q⟩) σ H Q h
  · exact wV_two (kx := fun x y H Q => ∃ a b xs ys, [x, y] = [V.ref a, V.ref b] ∧ ((SqL X.K H a xs ∧ SqL X.K H b ys ∧ Q (Itz X.K a b) H) ∨ (SqT X.K H a xs ∧ SqT X.K H b ys ∧ Q (RZ.ItzT X.K a b) H))) (fun h h' e k => by
      rw [C.K]
      obtain ⟨a, b, xs, ys, rfl, rfl, q⟩ := kZip_of h h' e k
      exact ⟨a, b, xs, ys, rfl, q⟩) σ H Q h
theorem rng_le {a b : Int} (h : rngOk a b = true) : -1000000 ≤ a ∧ a ≤ 1000000 ∧ -1000000 ≤ b ∧ b ≤ 1000000 := by
  unfold rngOk at h
  simp only [Bool.and_eq_true, decide_eq_true_eq] at h
  exact ⟨h.1.1.1, h.1.1.2, h.1.2, h.2⟩
theorem kRg1_of {F H : Hp} {G : Hp → Prop} {d dy : D} {x : V} {ds : List D} {Q : It → Hp → Prop} (h : Hld c F H G d x) (e : items .range1 d dy = some ds) (k : ∀ J, Walk J ds.length G (YD c F ds) → Q J H) : ∃ j : Int, [x] = [.int j] ∧ -(2 ^ 62) ≤ j ∧ j < 2 ^ 62 ∧ Q (Itr 0 j.toNat) H := by
  cases d <;> simp only [items, reduceCtorEq] at e
  rename_i n
  split at e
  · rename_i hr
    cases e
    obtain ⟨h1, h2, h3, h4⟩ := rng_le hr
    cases (show x = _ from h)
    have w := walk_rg (c := c) (F := F) (G := G) (a := 0) (b := n)
    rw [show n - 0 = n by omega] at w
    exact ⟨n, rfl, by omega, by omega, k _ w⟩
  · cases e
theorem kRg2_of {F H : Hp} {G : Hp → Prop} {d dy : D} {x y : V} {ds : List D} {Q : It → Hp → Prop} (h : Hld c F H G d x) (h' : Hld c F H G dy y) (e : items .range2 d dy = some ds) (k : ∀ J, Walk J ds.length G (YD c F ds) → Q J H) :
    ∃ i j : Int, [x, y] = [.int i, .int j] ∧ (-(2 ^ 62) ≤ i ∧ i < 2 ^ 62 ∧ -(2 ^ 62) ≤ j ∧ j < 2 ^ 62) ∧ Q (Itr i (j - i).toNat) H := by
  cases d <;> cases dy <;> simp only [items, reduceCtorEq] at e
  rename_i m n
  split at e
  · rename_i hr
    cases e
    obtain ⟨h1, h2, h3, h4⟩ := rng_le hr
    cases (show x = _ from h)
    cases (show y = _ from h')
    exact ⟨m, n, rfl, ⟨by omega, by omega, by omega, by omega⟩, k _ walk_rg⟩
  · cases e
theorem gi_range1 {p : Pos} (C : Cok X c) (hg : Gl X "range") (ha : GE X c cf a e) (hs : noStar e = true) : GI X c cf .range1 a .non tg (.Call (.Name "range" p) [e] [] pos) :=
  ⟨PI.imp (pi_range1 hg (C.bl _ (by decide)) (pa_cons ha.o pa_nil (star_cons hs)) (star_cons hs)) (wO_one (kx := fun x H Q => ∃ j : Int, [x] = [.int j] ∧ -(2 ^ 62) ≤ j ∧ j < 2 ^ 62 ∧ Q (Itr 0 j.toNat) H) fun h e k => kRg1_of h e k),
   PI.imp (pi_range1 hg (C.bl _ (by decide)) (pa_cons ha.v pa_nil (star_cons hs)) (star_cons hs)) (wV_one (kx := fun x H Q => ∃ j : Int, [x] = [.int j] ∧ -(2 ^ 62) ≤ j ∧ j < 2 ^ 62 ∧ Q (Itr 0 j.toNat) H) fun h e k => kRg1_of h e k)⟩
theorem gi_range2 {p : Pos} (C : Cok X c) (hg : Gl X "range") (ha : GE X c cf a e) (hb : GE X c cf b e2) (hs : noStar e = true) (hs2 : noStar e2 = true) : GI X c cf .range2 a b tg (.Call (.Name "range" p) [e, e2] [] pos) := by
  have s1 : starEach [e, e2] X.env = [(false, eval e X.env), (false, eval e2 X.env)] := by rw [star_cons hs, star_cons hs2]; rfl
  have s2 : starEach [e2] X.env = [(false, eval e2 X.env)] := by rw [star_cons hs2]; rfl
  exact ⟨PI.imp (pi_range2 hg (C.bl _ (by decide)) (pa_cons ha.o (pa_cons hb.o pa_nil (star_cons hs2)) (star_cons hs)) s1 s2) (wO_two (kx := fun x y H Q => ∃ i j : Int, [x, y] = [.int i, .int j] ∧ (-(2 ^ 62) ≤ i ∧ i < 2 ^ 62 ∧ -(2 ^ 62) ≤ j ∧ j < 2 ^ 62) ∧ Q (Itr i (j - i).toNat) H) fun h h' e k => kRg2_of h h' e k),
   PI.imp (pi_range2 hg (C.bl _ (by decide)) (pa_cons ha.v (pa_cons hb.v pa_nil (star_cons hs2)) (star_cons hs)) s1 s2) (wV_two (kx := fun x y H Q => ∃ i j : Int, [x, y] = [.int i, .int j] ∧ (-(2 ^ 62) ≤ i ∧ i < 2 ^ 62 ∧ -(2 ^ 62) ≤ j ∧ j < 2 ^ 62) ∧ Q (Itr i (j - i).toNat) H) fun h h' e k => kRg2_of h h' e k)⟩

theorem cmpL_cons {f : D → M (Option D)} {d : D} {ds ys : List D} {R R' : List D} (h : cmpL f (d :: ds) R = .ok ys R') : ∃ o R1 zs, f d R = .ok o R1 ∧ cmpL f ds R1 = .ok zs R' ∧ ys = (match o with | some y => y :: zs | none => zs) := by
  unfold cmpL at h
  obtain ⟨o, R1, e1, e2⟩ := bnd_ok h
  obtain ⟨zs, R2, e3, e4⟩ := bnd_ok e2
  cases o with
  | none => obtain ⟨rfl, rfl⟩ := ret_ok e4; exact ⟨_, _, _, e1, e3, rfl⟩
  | some y => obtain ⟨rfl, rfl⟩ := ret_ok e4; exact ⟨_, _, _, e1, e3, rfl⟩
/-- a turn of the comprehension -/
def turnF (cf : Cf) (elt : E) (t : Tg) (cn : E) (own : List Nat) (ρ : Env) : D → M (Option D) := fun d => match setTg t d (wipeE ρ own) with
  | some ρ' => bnd (bnd (evE cf cn ρ') asB) fun keep => if keep then bnd (evE cf elt ρ') fun y => Pu.ret (some y) else Pu.ret none
  | none => halt
theorem tG_tLc {k : ItK} {elt cn : E} {t : Tg} {own : List Nat} (hown : ∀ i ∈ tgs t, i ∈ own) : ∀ σ H Q, tG c cf (.comp elt t k a b cn own) σ H Q → tLc (wO c cf k a b) (tTg c t) (tT c cf cn) (tE c cf elt) own σ H Q := by
  rintro σ H Q ⟨F0, H0, F, ρ, R, d, Rz, S, ev, q⟩
  simp only [evE] at ev
  obtain ⟨dx, R1, e1, e2⟩ := bnd_ok ev
  obtain ⟨dy, R2, e3, e4⟩ := bnd_ok e2
  obtain ⟨ds, R3, e5, e6⟩ := bnd_ok e4
  obtain ⟨e7, rfl⟩ := lft_ok e5
  have hsz : sizeOk ds.length = true := by
    cases hz : sizeOk ds.length with
    | true => rfl
    | false => rw [hz] at e6; cases e6
  rw [hsz, if_pos rfl] at e6
  obtain ⟨ys, R4, e8, e9⟩ := bnd_ok e6
  obtain ⟨rfl, rfl⟩ := ret_ok e9
  have e8 : cmpL (turnF cf elt t cn own ρ) ds _ = .ok ys _ := e8
  refine ⟨F0, H0, F, ρ, R, dx, R1, dy, _, ds, S, e1, e3, e7, fun F1 H1 J ex1 r1 w => ?_⟩
  have S1 := S.step ex1 r1
  intro Dn hD
  have hDr : Dn ≠ c.ar := by
    rintro rfl
    obtain ⟨_, z, _⟩ := r1
    rw [hD] at z; cases z
  -- what holds at turn i
  let Pv : Nat → Hp → Prop := fun i H2 => ∃ F2 Ri acc us zs, Ext c F1 H1 F2 H2 ∧ RowR c F2 H2 Ri ∧ H2 Dn = some (.lst us) ∧ F2 Dn = none ∧ RelDs c F2 acc us ∧ acc.length ≤ i ∧ cmpL (turnF cf elt t cn own ρ) (ds.drop i) Ri = .ok zs R4 ∧ ys = acc ++ zs
  have hsz := sizeOk_le hsz
  refine lc_it w (g := tTg c t) (tt := tT c cf cn) (te := tE c cf elt) (vs := own) (σ := σ) Pv ?_ ?_ ?_ ?_
  · exact ⟨F1, _, [], [], ys, Ext.beside ex1.s hD, r1.beside hD, upd_same, ex1.s.none hD, by simp only [RelDs], Nat.le_refl _, by simpa using e8, rfl⟩
  · rintro i H2 hi ⟨F2, Ri, acc, us, zs, ex2, _⟩
    exact ex2.h
  · rintro i x H2 H2' hi ⟨F2, Ri, acc, us, zs, ex2, r2, hus, hF2, racc, hacc, ev2, eys⟩ hy
    obtain ⟨d, hd, hy⟩ := hy
    have hdrop : ds.drop i = d :: ds.drop (i + 1) := by
      rw [List.drop_eq_getElem_cons hi]
      congr 1
      rw [List.getElem?_eq_getElem hi] at hd
      exact Option.some.inj hd
    rw [hdrop] at ev2
    obtain ⟨o, R5, zs', t1, t2, t3⟩ := cmpL_cons ev2
    unfold turnF at t1
    -- the value, in the heap behind
    have hv : ∃ F3, Ext c F1 H1 F3 H2' ∧ RowR c F3 H2' Ri ∧ RelD c F3 d x ∧ H2' Dn = some (.lst us) ∧ F3 Dn = none ∧ RelDs c F3 acc us := by
      rcases hy with ⟨rfl, rd⟩ | ⟨T, p, q, d1, d2, rfl, rfl, hT, rfl, k1, k2⟩
      · exact ⟨F2, ex2, r2, RelD.mono ex2.f _ _ rd, hus, hF2, racc⟩
      · have hTD : Dn ≠ T := ne_of_none hus hT
        refine ⟨upd F2 T (.tup [p, q]), ex2.trans (Ext.add ex2.s hT) r2, r2.add ex2.s hT, ?_, by rw [upd_ne hTD]; exact hus, by rw [upd_ne hTD]; exact hF2, RelDs.mono (Sub.self (ex2.s.none hT)) _ _ racc⟩
        simp only [RelD]
        refine ⟨T, [p, q], rfl, SqT.of upd_same, ?_⟩
        simp only [RelDs]
        have sF := ex2.f.trans (Sub.self (o := .tup [p, q]) (ex2.s.none hT))
        exact ⟨RelD.mono sF _ _ k1, RelD.mono sF _ _ k2, trivial⟩
    obtain ⟨F3, ex3, r3, rd, hus3, hF3, racc3⟩ := hv
    have S3 : StR c F0 H0 F3 H2' σ ρ Ri := S1.step ex3 r3
    cases hset : setTg t d (wipeE ρ own) with
    | none => rw [hset] at t1; cases t1
    | some ρ' =>
      rw [hset] at t1
      refine ⟨F0, H0, F3, wipeE ρ own, Ri, d, ρ', S3.wipe own, rd, hset, fun σ2 S4 w4 => ⟨?_, ?_⟩⟩
      · rw [w4 own hown]
        refine List.ext_getElem? fun j => ?_
        rw [wipe_get, wipe_get]
        by_cases hj : j ∈ own
        · simp only [if_pos hj]
          cases σ[j]? <;> rfl
        · simp only [if_neg hj]
      · obtain ⟨kp, R6, e10, e11⟩ := bnd_ok t1
        refine ⟨F0, H0, F3, ρ', Ri, kp, R6, S4, e10, fun F4 H4 ex4 r4 => ?_⟩
        have hus4 : H4 Dn = some (.lst us) := ex4.h _ _ hus3 hDr
        have hF4 : F4 Dn = none := ex4.none hF3 hus3
        have racc4 := RelDs.mono ex4.f _ _ racc3
        cases kp with
        | false =>
          rw [if_neg (by simp)] at e11
          obtain ⟨rfl, rfl⟩ := ret_ok e11
          show Pv (i + 1) H4
          exact ⟨F4, _, acc, us, zs', ex3.trans ex4 r3, r4, hus4, hF4, racc4, by omega, t2, by rw [eys, t3]⟩
        | true =>
          rw [if_pos rfl] at e11
          obtain ⟨y, R7, e12, e13⟩ := bnd_ok e11
          obtain ⟨rfl, rfl⟩ := ret_ok e13
          show tE c cf elt σ2 H4 fun y H4 => ∃ acc, H4 Dn = some (HO.lst acc) ∧ acc.length < sizeLine ∧ Pv (i + 1) (upd H4 Dn (HO.lst (acc ++ [y])))
          refine ⟨F0, H0, F4, ρ', R6, y, _, S4.step ex4 r4, e12, fun F5 H5 v ex5 r5 rv => ?_⟩
          have hus5 : H5 Dn = some (.lst us) := ex5.h _ _ hus4 hDr
          have hF5 : F5 Dn = none := ex5.none hF4 hus4
          have racc5 := RelDs.mono ex5.f _ _ racc4
          refine ⟨us, hus5, ?_, F5, _, acc ++ [y], us ++ [v], zs', ?_, ?_, upd_same, hF5, racc5.append (RelDs.one rv), ?_, t2, ?_⟩
          · rw [racc5.length]; omega
          · have ex : Ext c F1 H1 F5 H5 := (ex3.trans ex4 r3).trans ex5 r4
            exact ⟨ex.f, fun z o hz hr => by rw [upd_ne (ne_of_none hz hD)]; exact ex.h z o hz hr, ex.n, ex.s.upd hF5⟩
          · obtain ⟨rx, h1, h2, h3⟩ := r5
            exact ⟨rx, by rw [upd_ne (Ne.symm hDr)]; exact h1, h2, h3⟩
          · simp; omega
          · rw [eys, t3, List.append_assoc]; rfl
  · rintro H2 ⟨F2, Ri, acc, us, zs, ex2, r2, hus, hF2, racc, hacc, ev2, eys⟩
    rw [List.drop_length] at ev2
    unfold cmpL at ev2
    obtain ⟨rfl, rfl⟩ := ret_ok ev2
    rw [List.append_nil] at eys
    subst eys
    have q' : ResF c F H _ (.lst ys) Q := q
    exact q' F2 H2 Dn (ex1.trans ex2 r1) r2 ⟨us, hus, racc⟩ hF2 hDr (by
      cases z : H Dn with
      | none => rfl
      | some o => rw [ex1.h Dn o z hDr] at hD; cases hD)
end
end Pu
end

section
set_option autoImplicit false
set_option linter.all false
set_option maxRecDepth 100000
set_option maxHeartbeats 4000000
set_option Elab.async false
namespace Pu
open PySem PySem.Spec PyProof.Rows L2
def P3g (c : Ct) (x y z : V) (H : Hp) (Q : VK) : Prop := ∃ F dx dy dz R d, Sub F H ∧ RowR c F H R ∧ Top c F H dx x ∧ Top c F H dy y ∧ RelD c F dz z ∧ getdD dx dy dz = some d ∧ Res c F H R d Q
def tGetD (c : Ct) (to tk td : TE) : TE := fun σ H Q => to σ H fun x H1 => (∃ F a ks vs, x = .ref a ∧ Sub F H1 ∧ DtAt c H1 (fun xs => RelDs c F ks xs) (fun xs => RelDs c F vs xs) ks a) ∧ tk σ H1 fun y H2 => td σ H2 fun z H3 => P3g c x y z H3 Q
section
variable {X : Cx} {c : Ct} {cf : Cf} {a b d : E} {e e2 e3 : Expr}
theorem pe_getD (C : Cok X c) {to tk td : TE} {ap cp : Pos} (ho : PE X e to) (hk : PE X e2 tk) (hd : PE X e3 td) (hb : attributeBase e "get" X.env (eval e X.env) = eval e X.env) (hs : starEach [e2, e3] X.env = [(false, eval e2 X.env), (false, eval e3 X.env)]) (hl : (ap.endLine == cp.line) = true) :
    PE X (.Call (.Attribute e "get" ap) [e2, e3] [] cp) (tGetD c to tk td) := by
  refine ⟨fun pins s σ H Q I h => ?_⟩
  refine PySem.Call_method2 hb hs hl (thn (ho.run pins s σ H _ I h) fun v s1 ⟨x, H1, I1, r1, q1⟩ => ?_)
  obtain ⟨⟨F, a, ks, vs, rfl, hs1, hd1⟩, q1⟩ := q1
  cases r1
  obtain ⟨o', es, ep, xs, us, h1, h2, h3, h4, h5, h6, h7, h8, h9, h10, h11, h12, _⟩ := dt_heap C I1 hs1 hd1
  refine ⟨"dict", "dict.get", PySem.F.plainAttrs_dict, PySem.F.slot_dict_get, PySem.F.type_dict_get, h2.typeIs, fun b e => by cases e; exact ⟨o', h10, h11.2.1⟩, ?_⟩
  refine wpAny_dict_get2_heap (knd := nestedKind X.prog X.w) (nest_room C) h1 (thn (hk.run pins s1 σ H1 _ I1 q1) fun u s2 ⟨y, H2, I2, r2, q2⟩ => thn (hd.run pins s2 σ H2 _ I2 q2) fun t s3 ⟨z, H3, I3, r3, q3⟩ => ?_)
  obtain ⟨F3, dx, dy, dz, R, d, hs3, hr3, tx, ty, tz, eg, q⟩ := q3
  unfold getdD at eg
  split at eg
  · rename_i ks3 vs3
    split at eg
    · rename_i hkk
      cases eg
      obtain ⟨a3, ea, ha3⟩ := tx
      cases ea
      have tk : RelD c F3 dy y := by
        cases dy <;> simp only [keyOk, Bool.false_eq_true] at hkk
        exact ty
      obtain ⟨b, rfl, rfl, kb⟩ := key_is C I3 hs3 tk hkk r2
      obtain ⟨o3, es3, ep3, xs3, us3, g1, g2, g3, g4, g5, g6, g7, _⟩ := dt_heap C I3 hs3 ha3
      refine ⟨b, toNK dy, xs3, rfl, kb, g2, ?_⟩
      have ek := atKey_keyAt g3 g4 hkk
      cases hj : keyAt ks3 dy with
      | none =>
        rw [hj] at ek q
        have : atKey xs3 (toNK dy) = none := ek
        rw [this]
        exact ⟨z, H3, I3.tok _, r3, q.here hs3 hr3 tz⟩
      | some j =>
        rw [hj] at ek q
        simp only [Option.bind_some] at ek q
        have hl3 : xs3.length = us3.length := by
          have := g7.length
          simpa using this.symm
        have hl4 : us3.length = vs3.length := g6.length
        cases hv : vs3[j]? with
        | none =>
          rw [hv] at q
          have hx : xs3[j]? = none := by
            rw [List.getElem?_eq_none_iff] at hv ⊢
            omega
          rw [hx] at ek
          have : atKey xs3 (toNK dy) = none := ek
          rw [this]
          exact ⟨z, H3, I3.tok _, r3, q.here hs3 hr3 tz⟩
        | some dv =>
          rw [hv] at q
          obtain ⟨zv, hz, rz⟩ := RelDs.get g6 hv
          obtain ⟨w, hw, rw'⟩ := g7.get hz
          rw [List.getElem?_map] at hw
          obtain ⟨p, hp, ep'⟩ := Option.map_eq_some_iff.mp hw
          rw [hp] at ek
          have ek2 : atKey xs3 (toNK dy) = some p.2 := ek
          rw [ek2]
          refine ⟨zv, H3, I3.tok _, ?_, q.here hs3 hr3 rz⟩
          show RelV zv p.2.2
          rw [ep']; exact rw'
    · cases eg
  · cases eg
def isTupE : E → Bool
  | .tup _ => true
  | _ => false
theorem ge_getd (C : Cok X c) {ap cp : Pos} (ha : GE X c cf a e) (hb : GE X c cf b e2) (hd : GE X c cf d e3) (ht : isTupE d = true) (hbase : attributeBase e "get" X.env (eval e X.env) = eval e X.env) (hs : starEach [e2, e3] X.env = [(false, eval e2 X.env), (false, eval e3 X.env)]) (hl : (ap.endLine == cp.line) = true) :
    GE X c cf (.o3 .getd a b d) (.Call (.Attribute e "get" ap) [e2, e3] [] cp) := by
  refine GE.of (PE.imp (pe_getD C ha.o hb.o hd.v hbase hs hl) fun σ H Q h => ?_) (fun i => by simp) fun _ => rfl
  obtain ⟨F0, H0, F, ρ, R, dd, R', S, ev, q⟩ := h
  simp only [evE] at ev
  obtain ⟨x, R1, e1, e2'⟩ := bnd_ok ev
  obtain ⟨y, R2, e3', e4⟩ := bnd_ok e2'
  obtain ⟨z, R3, e5, e6⟩ := bnd_ok e4
  obtain ⟨e7, rfl⟩ := lft_ok e6
  have e7 : getdD x y z = some dd := e7
  have e5 : evE cf d ρ R2 = .ok z R' := by
    cases d <;> first | (cases ht; done) | exact e5
  refine ⟨F0, H0, F, ρ, R, x, R1, S, e1, fun F1 H1 vx ex1 r1 ox => ⟨?_, F0, H0, F1, ρ, R1, y, R2, S.step ex1 r1, e3', fun F2 H2 vy ex2 r2 oy => ⟨F0, H0, F2, ρ, R2, z, R', (S.step ex1 r1).step ex2 r2, e5, fun F3 H3 vz ex3 r3 oz => ⟨F3, x, y, z, R', dd, ex3.s, r3, ((ox.ext ex2).ext ex3).1, (oy.ext ex3).1, oz, e7, Res.ext (Res.ext (Res.ext q ex1 r1) ex2 r2) ex3 r3⟩⟩⟩⟩
  have t := ox.1
  unfold getdD at e7
  split at e7
  · obtain ⟨a', rfl, ha'⟩ := t
    exact ⟨F1, a', _, _, rfl, ex1.s, ha'⟩
  · cases e7
end
end Pu
end

section
set_option autoImplicit false
set_option linter.all false
set_option maxRecDepth 100000
set_option maxHeartbeats 4000000
set_option Elab.async false
namespace Pu
open PySem PySem.Spec PyProof.Rows L2

/-- what is known where an expression stands: the names, the scope, what may be stored, the defs and constants of the module -/
structure Ck where
  N : List Str
  sc : Scope
  st : Str → Bool
  fnT : Str → Option Nat
  cstT : Str → D → Bool
def Ck.blk (k : Ck) (scope : Scope) : Ck := { k with sc := relS scope k.sc, st := fun x => decide ((relS scope k.sc).names.lookup x = some .local) || (decide ((relS scope k.sc).names.lookup x = some .cell) && decide (scope.names.lookup x = some .cell)) }
structure Kx (X : Cx) (c : Ct) (cf : Cf) (k : Ck) : Prop where
  ok : Cok X c
  N : X.N = k.N
  sc : X.env.scope = k.sc
  kind : k.sc.kind = .function
  st : ∀ x, k.st x = true → Loc k.sc x ∧ (X.fn x = true ∨ k.sc.names.lookup x = some .local)
  fns : ∀ x g, k.fnT x = some g → CalOk X c cf x g
  cst : ∀ x d, k.cstT x d = true → CstOk X c x d
theorem Kx.blk {X : Cx} {c : Ct} {cf : Cf} {k : Ck} (K : Kx X c cf k) {scope : Scope} (hk : scope.kind = .function) (s : Shared) (H : Hp) (cl : List (Str × Addr)) (C : Addr) (fp : List Addr) : Kx (X.blk s H scope (compEnvC scope cl C X.env) fp) c cf (k.blk scope) where
  ok := ⟨K.ok.K, K.ok.P, K.ok.w, K.ok.calm, K.ok.nd, K.ok.un, K.ok.bl⟩
  N := K.N
  sc := by rw [show (k.blk scope).sc = relS scope k.sc from rfl, ← K.sc]; rfl
  kind := hk
  st x h := by
    have h : (decide ((relS scope k.sc).names.lookup x = some .local) || (decide ((relS scope k.sc).names.lookup x = some .cell) && decide (scope.names.lookup x = some .cell))) = true := h
    simp only [Bool.or_eq_true, Bool.and_eq_true, decide_eq_true_eq] at h
    rcases h with h | ⟨h, h'⟩
    · exact ⟨.inl h, .inr h⟩
    · refine ⟨.inr h, .inl ?_⟩
      show (scope.names.lookup x == some .cell) = true
      rw [h']; rfl
  fns x g h := K.fns x g h
  cst x d h := K.cst x d h

def okE : Expr → Bool
  | .Starred .. => false
  | .Set .. => false
  | _ => true
def okName (x : Str) : Bool := !(x == ("__debug__" : Str)) && !(x == ("__classdict__" : Str)) && decide (x ≠ "__name__")
def visB (k : Ck) (x : Str) : Bool := decide (k.sc.names.lookup x = some .local) || decide (k.sc.names.lookup x = some .cell) || decide (k.sc.names.lookup x = some .free)
def glB (k : Ck) (x : Str) : Bool := decide (k.sc.names.lookup x = some .globalImplicit)
def strOkB (x : Str) : Bool := PyData.strOk x && decide (x.length ≤ 1000000)
def ixB : Expr → Bool
  | .Slice .. => false
  | _ => true
def isNon : E → Bool
  | .non => true
  | _ => false
def isNil : E → Bool
  | .lst [] => true
  | _ => false
def isTru : E → Bool
  | .bl true => true
  | _ => false
/-- no call (an attribute's base) -/
def noCall : Expr → Bool
  | .Call (.Name ..) [] [] _ => false
  | _ => true
/-- a def's name as a value -/
def fnC (k : Ck) (x : Str) : D → Bool
  | .fn g => decide (k.fnT x = some g)
  | _ => false
/-- the operand of an operation of one -/
def arg1 (k : Ck) : Op1 → Expr → Option Expr
  | .neg, .UnaryOp .USub e _ => some e
  | .notB, .UnaryOp .Not e _ => some e
  | .rev, .Subscript e (.Slice none none (some (.UnaryOp .USub (.Constant (.int 1) _ _) _)) _) _ => some e
  | .len, .Call (.Name x _) [e] [] _ => if x = "len" ∧ glB k "len" = true then some e else none
  | .abs, .Call (.Name x _) [e] [] _ => if x = "abs" ∧ glB k "abs" = true then some e else none
  | .sum, .Call (.Name x _) [e] [] _ => if x = "sum" ∧ glB k "sum" = true then some e else none
  | .max1, .Call (.Name x _) [e] [] _ => if x = "max" ∧ glB k "max" = true then some e else none
  | .min1, .Call (.Name x _) [e] [] _ => if x = "min" ∧ glB k "min" = true then some e else none
  | .tupleOf, .Call (.Name x _) [e] [] _ => if x = "tuple" ∧ glB k "tuple" = true then some e else none
  | .listOf, .Call (.Name x _) [e] [] _ => if x = "list" ∧ glB k "list" = true then some e else none
  | .toInt, .Call (.Name x _) [e] [] _ => if x = "int" ∧ glB k "int" = true then some e else none
  | .sorted, .Call (.Name x _) [e] [] _ => if x = "sorted" ∧ glB k "sorted" = true then some e else none
  | .dictOf, .Call (.Name x _) [e] [] _ => if x = "dict" ∧ glB k "dict" = true then some e else none
  | .tupleN, .Call (.Name x _) [e] [] _ => if x = "tuple" ∧ glB k "tuple" = true then some e else none
  | .toStr, .Call (.Name x _) [e] [] _ => if x = "str" ∧ glB k "str" = true then some e else none
  | .asT, .Name x p => some (.Name x p)
  | _, _ => none
/-- .. of shapes of two calls -/
def arg1b (k : Ck) : Op1 → Expr → Option Expr
  | .isInt, .Call (.Name x _) [e, .Name y _] [] _ => if x = "isinstance" ∧ y = "int" ∧ glB k "isinstance" = true ∧ glB k "int" = true then some e else none
  | .isBool, .Call (.Name x _) [e, .Name y _] [] _ => if x = "isinstance" ∧ y = "bool" ∧ glB k "isinstance" = true ∧ glB k "bool" = true then some e else none
  | .isTup, .Call (.Name x _) [e, .Name y _] [] _ => if x = "isinstance" ∧ y = "tuple" ∧ glB k "isinstance" = true ∧ glB k "tuple" = true then some e else none
  | .isStr, .Call (.Name x _) [e, .Name y _] [] _ => if x = "isinstance" ∧ y = "str" ∧ glB k "isinstance" = true ∧ glB k "str" = true then some e else none
  | .isList, .Call (.Name x _) [e, .Name y _] [] _ => if x = "isinstance" ∧ y = "list" ∧ glB k "isinstance" = true ∧ glB k "list" = true then some e else none
  | .isTupList, .Call (.Name x _) [e, .Tuple [.Name y _, .Name z _] _ _] [] _ => if x = "isinstance" ∧ y = "tuple" ∧ z = "list" ∧ glB k "isinstance" = true ∧ glB k "tuple" = true ∧ glB k "list" = true then some e else none
  | .sortedKeys, .Call (.Name x _) [.Call (.Attribute e m ap) [] [] cp] [] _ => if x = "sorted" ∧ m = "keys" ∧ glB k "sorted" = true ∧ (ap.endLine == cp.line) = true ∧ noCall e = true then some e else none
  | .sortedSet, .Call (.Name x _) [.Call (.Name y _) [e] [] _] [] _ => if x = "sorted" ∧ y = "set" ∧ glB k "sorted" = true ∧ glB k "set" = true then some e else none
  | .listRange, .Call (.Name x _) [.Call (.Name y _) [e] [] _] [] _ => if x = "list" ∧ y = "range" ∧ glB k "list" = true ∧ glB k "range" = true then some e else none
  | .tupRange, .Call (.Name x _) [.Call (.Name y _) [e] [] _] [] _ => if x = "tuple" ∧ y = "range" ∧ glB k "tuple" = true ∧ glB k "range" = true then some e else none
  | _, _ => none
/-- .. of two -/
def arg2 (k : Ck) : Op2 → Expr → Option (Expr × Expr)
  | .add, .BinOp e .Add e2 _ => some (e, e2)
  | .sub, .BinOp e .Sub e2 _ => some (e, e2)
  | .mul, .BinOp e .Mult e2 _ => some (e, e2)
  | .fdiv, .BinOp e .FloorDiv e2 _ => some (e, e2)
  | .mod, .BinOp e .Mod e2 _ => some (e, e2)
  | .pow, .BinOp e .Pow e2 _ => some (e, e2)
  | .eq, .Compare e [.Eq] [e2] _ => some (e, e2)
  | .ne, .Compare e [.NotEq] [e2] _ => some (e, e2)
  | .lt, .Compare e [.Lt] [e2] _ => some (e, e2)
  | .le, .Compare e [.LtE] [e2] _ => some (e, e2)
  | .gt, .Compare e [.Gt] [e2] _ => some (e, e2)
  | .ge, .Compare e [.GtE] [e2] _ => some (e, e2)
  | .isIn, .Compare e [.In] [e2] _ => some (e, e2)
  | .notIn, .Compare e [.NotIn] [e2] _ => some (e, e2)
  | .is, .Compare e [.Is] [e2] _ => some (e, e2)
  | .isNot, .Compare e [.IsNot] [e2] _ => some (e, e2)
  | .idx, .Subscript e e2 _ => if ixB e2 = true then some (e, e2) else none
  | .max2, .Call (.Name x _) [e, e2] [] _ => if x = "max" ∧ glB k "max" = true then some (e, e2) else none
  | .min2, .Call (.Name x _) [e, e2] [] _ => if x = "min" ∧ glB k "min" = true then some (e, e2) else none
  | .index, .Call (.Attribute e m ap) [e2] [] cp => if m = "index" ∧ (ap.endLine == cp.line) = true ∧ noCall e = true then some (e, e2) else none
  | .join, .Call (.Attribute e m ap) [e2] [] cp => if m = "join" ∧ (ap.endLine == cp.line) = true ∧ noCall e = true then some (e, e2) else none
  | _, _ => none
def cmpOf : Op2 → CmpOp → Bool
  | .lt, .Lt => true | .le, .LtE => true | .gt, .Gt => true | .ge, .GtE => true | .eq, .Eq => true
  | _, _ => false
/-- the operands of a source -/
def argIt (k : Ck) : ItK → Expr → Expr → Option (Expr × Option Expr)
  | .keys, _, .Call (.Attribute e m ap) [] [] cp => if m = "keys" ∧ (ap.endLine == cp.line) = true ∧ noCall e = true then some (e, none) else none
  | .val, _, e => some (e, none)
  | .range1, _, .Call (.Name x _) [e] [] _ => if x = "range" ∧ glB k "range" = true then some (e, none) else none
  | .range2, _, .Call (.Name x _) [e, e2] [] _ => if x = "range" ∧ glB k "range" = true then some (e, some e2) else none
  | .enum, .Tuple _ _ _, .Call (.Name x _) [e] [] _ => if x = "enumerate" ∧ glB k "enumerate" = true then some (e, none) else none
  | .zip, .Tuple _ _ _, .Call (.Name x _) [e, e2] [] _ => if x = "zip" ∧ glB k "zip" = true then some (e, some e2) else none
  | _, _, _ => none
/-- a display of ints -/
def intsL : List E → List Expr → Bool
  | [], [] => true
  | .int i :: as, .Constant (.int j) _ _ :: es => decide (i = j) && intsL as es
  | _, _ => false
def dispB (o : Op1) (a : E) (e : Expr) : Bool := match o, a, e with
  | .dispN, .tup as, .Tuple es _ _ => decide (as.length ≤ 1000) && intsL as es
  | _, _, _ => false
mutual
def chkTg : Tg → Ck → Expr → Bool
  | .slot i, k, .Name x _ => decide (k.N[i]? = some x) && k.st x
  | .tup ts, k, .Tuple es _ _ => chkTgs ts k es
  | _, _, _ => false
def chkTgs : List Tg → Ck → List Expr → Bool
  | [], _, [] => true
  | t :: ts, k, e :: es => noStar e && chkTg t k e && chkTgs ts k es
  | _, _, _ => false
end
mutual
def chkE : E → Ck → Expr → Bool
  | .var i, k, e => match e with
    | .Name x _ => decide (k.N[i]? = some x) && visB k x && okName x
    | _ => false
  | .non, _, e => match e with
    | .Constant .none _ _ => true
    | _ => false
  | .bl b, _, e => match e with
    | .Constant (.bool b') _ _ => b == b'
    | _ => false
  | .int i, _, e => match e with
    | .Constant (.int j) _ _ => decide (i = j)
    | _ => false
  | .str x, _, e => match e with
    | .Constant (.str y) _ _ => decide (x = y) && strOkB x
    | _ => false
  | .cst x d, k, e => match e with
    | .Name y _ => decide (x = y) && glB k x && okName x && (k.cstT x d || fnC k x d)
    | _ => false
  | .tup as, k, e => match e with
    | .Tuple es _ _ => decide (as.length ≤ 1000) && chkEs as k es
    | _ => false
  | .lst as, k, e => match e with
    | .List es _ => decide (as.length ≤ 1000) && chkEs as k es
    | _ => false
  | .o1 o a, k, e => match arg1 k o e with
    | some e1 => okE e1 && chkE a k e1
    | none => match arg1b k o e with
      | some e1 => okE e1 && chkE a k e1
      | none => dispB o a e
  | .o2 o a b, k, e => match arg2 k o e with
    | some (e1, e2) => okE e1 && okE e2 && chkE a k e1 && chkE b k e2
    | none => false
  | .chain o p a b c, k, e => match e with
    | .Compare e1 [op, op'] [e2, e3] _ => cmpOf o op && cmpOf p op' && okE e1 && okE e2 && okE e3 && chkE a k e1 && chkE b k e2 && chkE c k e3
    | _ => false
  | .o3 o a lo hi, k, e => match o, e with
    | .slice, .Subscript e (.Slice l h none _) _ => okE e && chkE a k e && (match l with | none => isNon lo | some e => chkE lo k e) && (match h with | none => isNon hi | some e => chkE hi k e)
    | .getd, .Call (.Attribute e m ap) [e2, e3] [] cp => decide (m = "get") && noCall e && (ap.endLine == cp.line) && okE e2 && okE e3 && isTupE hi && chkE a k e && chkE lo k e2 && chkE hi k e3
    | _, _ => false
  | .and a b, k, e => match e with
    | .BoolOp .And (e :: es) p => chkE a k e && (match es with | [e2] => chkE b k e2 | e2 :: e3 :: r => chkE b k (.BoolOp .And (e2 :: e3 :: r) p) | [] => false)
    | _ => false
  | .or a b, k, e => match e with
    | .BoolOp .Or (e :: es) p => chkE a k e && (match es with | [e2] => chkE b k e2 | e2 :: e3 :: r => chkE b k (.BoolOp .Or (e2 :: e3 :: r) p) | [] => false)
    | _ => false
  | .orT a b, k, e => match e with
    | .BoolOp .Or [e1, e2] _ => isNil b && chkE a k e1 && chkE b k e2
    | _ => false
  | .ite t a b, k, e => match e with
    | .IfExp e1 e2 e3 _ => chkE t k e1 && chkE a k e2 && chkE b k e3
    | _ => false
  | .call g as, k, e => match e with
    | .Call (.Name x _) (e :: es) [] _ => decide (k.fnT x = some g) && glB k x && okName x && chkEs as k (e :: es)
    | _ => false
  | .calle f gs as, k, e => match e with
    | .Call fe (e :: es) [] _ => okF fe && chkE f k fe && gs.all (fun p => decide (k.fnT p.1 = some p.2)) && chkEs as k (e :: es)
    | _ => false
  | .comp elt t kk a b cn own, k, e => match e with
    | .ListComp e [⟨tg, it, ifs, ia⟩] scope _ => decide (ia = 0) && okE it && blkC k.N k.sc scope (own.map fun i => (k.N.getD i Str.empty, i)) && (tgs t).all (fun i => own.contains i) &&
      chkTg t (k.blk scope) tg && (match argIt k kk tg it with
        | some (e1, o2) => okE e1 && chkE a k e1 && (match o2 with | none => isNon b | some e2 => okE e2 && chkE b k e2)
        | none => false) &&
      (match ifs with | [] => isTru cn | [f] => chkE cn (k.blk scope) f | _ => false) && chkE elt (k.blk scope) e
    | _ => false
  | .dnew n, _, e => match e with
    | .Dict [] [] _ => n
    | _ => false
  | .ddisp _ _, _, _ => false
  | .fld _ _, _, _ => false
  | .ix2 i a b, k, e => match e with
    | .Subscript (.Subscript (.Name x _) ea _) eb _ => decide (k.N[i]? = some x) && visB k x && okName x && ixB ea && ixB eb && chkE a k ea && chkE b k eb
    | _ => false
def chkEs : List E → Ck → List Expr → Bool
  | [], _, [] => true
  | a :: as, k, e :: es => okE e && chkE a k e && chkEs as k es
  | _, _, _ => false
end
theorem okE_star {e : Expr} (h : okE e = true) : noStar e = true := by cases e <;> first | rfl | cases h
theorem okE_marks {op : CmpOp} {e : Expr} (h : okE e = true) : behindInMarks op e = false := by cases e <;> first | rfl | cases h
theorem okE_last {op op' : CmpOp} {e e2 : Expr} (h : okE e2 = true) : lastMarks [op, op'] [e, e2] = false := okE_marks (op := op') h
theorem okE_fold {e : Expr} {env : PySem.Env} (h : okE e = true) (x : Value) : foldedSetIterable e env x = pure x := by cases e <;> first | rfl | cases h
theorem ixB_plain {e : Expr} (h : ixB e = true) : PlainIx e := by
  intro o i
  cases e <;> first | rfl | cases h
theorem okName_of {x : Str} (h : okName x = true) : (x == ("__debug__" : Str)) = false ∧ (x == ("__classdict__" : Str)) = false ∧ x ≠ "__name__" := by
  unfold okName at h
  simp only [Bool.and_eq_true, Bool.not_eq_true', decide_eq_true_eq] at h
  exact ⟨h.1.1, h.1.2, h.2⟩
section
variable {X : Cx} {c : Ct} {cf : Cf} {k : Ck}
theorem visB_of (K : Kx X c cf k) {x : Str} (h : visB k x = true) : Vis X.env.scope x := by
  unfold visB at h
  rw [K.sc]
  simp only [Bool.or_eq_true, decide_eq_true_eq] at h
  rcases h with (h | h) | h
  · exact .inl h
  · exact .inr (.inl h)
  · exact .inr (.inr h)
theorem glB_of (K : Kx X c cf k) {x : Str} (h : glB k x = true) : Gl X x := by
  have h : k.sc.names.lookup x = some .globalImplicit := of_decide_eq_true h
  show X.env.scope.names.lookup x = _
  rw [K.sc]; exact h
mutual
theorem chk_tg (K : Kx X c cf k) : ∀ (t : Tg) (e : Expr), chkTg t k e = true → PG X e (tTg c t)
  | .slot i, e, h => by
    cases e <;> try (simp only [chkTg] at h; cases h)
    simp only [chkTg, Bool.and_eq_true, decide_eq_true_eq] at h
    obtain ⟨h1, h2⟩ := K.st _ h.2
    exact gg_slot K.ok.nd (by rw [K.N]; exact h.1) (by rw [K.sc]; exact h1) (by rw [K.sc]; exact h2)
  | .tup ts, e, h => by
    cases e <;> try (simp only [chkTg] at h; cases h)
    simp only [chkTg] at h
    obtain ⟨p, q, r⟩ := chk_tgs K ts _ h
    exact gg_tup K.ok p q r
theorem chk_tgs (K : Kx X c cf k) : ∀ (ts : List Tg) (es : List Expr), chkTgs ts k es = true → PGs X es (tTgs c ts) ∧ es.all noStar = true ∧ ts.length = es.length
  | [], [], _ => ⟨gg_nil, rfl, rfl⟩
  | [], _ :: _, h => by simp [chkTgs] at h
  | _ :: _, [], h => by simp [chkTgs] at h
  | t :: ts, e :: es, h => by
    simp only [chkTgs, Bool.and_eq_true] at h
    obtain ⟨p, q, r⟩ := chk_tgs K ts es h.2
    refine ⟨gg_cons (chk_tg K t e h.1.2) p ?_, by rw [List.all_cons, h.1.1, q]; rfl, by simp [r]⟩
    have := h.1.1
    cases e <;> first | rfl | cases this
end
end
end Pu
end

section
set_option autoImplicit false
set_option linter.all false
set_option maxRecDepth 100000
set_option maxHeartbeats 4000000
set_option Elab.async false
namespace Pu
open PySem PySem.Spec PyProof.Rows L2
theorem Res.ntp {c : Ct} {F H : Hp} {R : List D} {ns : List Int} {Q : VK} {o : Obj} (h : Res c F H R (.ntp ns) Q) (s : Sub F H) (r : RowR c F H R) (hd : o.dict = none) : ∀ p, H p = none → Q (.ref p) (upd H p (.frz o (.tup (ns.map V.int)))) := by
  intro p hp
  refine h (upd F p (.frz o (.tup (ns.map V.int)))) (upd H p (.frz o (.tup (ns.map V.int)))) _ (Ext.add s hp) (r.add s hp) ?_
  simp only [RelD]
  exact ⟨p, rfl, o, upd_same, hd⟩
section
variable {X : Cx} {c : Ct} {cf : Cf} {a b : E} {e e2 : Expr} {pos : Pos}
theorem ntp_tup {F : Hp} {ns : List Int} {v : V} (h : RelD c F (.ntp ns) v) : RelD c F (.tup (ns.map D.int)) v := by
  simp only [RelD] at h ⊢
  obtain ⟨p, rfl, o, ho, _⟩ := h
  exact ⟨p, ns.map V.int, rfl, .inl (.inr ⟨o, ho⟩), RelDs.of_ints ns⟩
theorem cd_tupleN (C : Cok X c) : CallR X (.type "tuple") (P1 c tupND) := by
  intro pins s σ H vs us Q I r h
  obtain ⟨F, x, dx, R, d, rfl, hs, hr, tx, e, q⟩ := h
  unfold tupND at e
  split at e
  · obtain ⟨ns, en, rfl⟩ := Option.map_eq_some_iff.mp e
    obtain ⟨l, xs, rfl, hl, rl⟩ := tx
    have ex := rl.ints en
    subst ex
    rw [Vals.ref1 r]
    obtain ⟨its, rv, pl, hz⟩ := I.list (SqL.of hl)
    have hlen := rv.length
    refine call_tuple_list pl.isList (fun h' kp => ?_) (by simp only [List.size_toArray]; omega)
    have I1 : Inv X pins σ H { s with heap := h' } := I.kept (t' := s.toks) kp
    have hn : H h'.objs.size = none := I1.hok.fresh (Nat.le_refl _)
    refine ⟨.ref h'.objs.size, upd H h'.objs.size (.frz { cls := .type "tuple", data := .seq its.toArray } (.tup (ns.map V.int))), I1.laid (t' := s.toks) (fun b o e => Heap.get?_push_of_some _ e) (Nat.le_refl _) ⟨Heap.get?_push_size _ rfl, hz, its, rv, IsTup.new _ _⟩, rfl, Res.ntp (show Res c F H R _ Q from q) hs hr rfl _ hn⟩
  · cases e
theorem gf_dispN {as : List E} {es : List Expr} {k : Nat} (hl : as.length ≤ 1000) (ha : PA X es (tAs c cf as)) : PE X (.Tuple es k pos) (tE c cf (.o1 .dispN (.tup as))) := by
  refine ⟨fun pins s σ H Q I h => ?_⟩
  obtain ⟨F0, H0, F, ρ, R, d, R', S, ev, q⟩ := h
  simp only [evE, opn] at ev
  obtain ⟨x, R1, e1, e2⟩ := bnd_ok ev
  obtain ⟨ds, R2, e3, e4⟩ := bnd_ok e1
  obtain ⟨rfl, rfl⟩ := ret_ok e4
  obtain ⟨e5, rfl⟩ := lft_ok e2
  have e5 : (ints? ds).map D.ntp = some d := e5
  obtain ⟨ns, en, rfl⟩ := Option.map_eq_some_iff.mp e5
  refine wpAny_Tuple_spliced (thn (ha.run pos pins s σ H (fun vs H1 => ∃ F1, Ext c F H F1 H1 ∧ RowR c F1 H1 R' ∧ RelDs c F1 ds vs) I ⟨F0, H0, F, ρ, R, ds, R', S, e3, fun F1 H1 vs ex1 r1 rvs => ⟨F1, ex1, r1, rvs⟩⟩) fun us s1 ⟨xs, H1, I1, r, F1, ex1, r1, rvs⟩ => ?_)
  have ex := rvs.ints en
  subst ex
  have hz : us.length ≤ sizeLine := by
    rw [← r.length, rvs.length, as_len e3, sizeLine_eq]; omega
  refine ⟨hz, ?_⟩
  have hn : H1 s1.heap.objs.size = none := I1.hok.fresh (Nat.le_refl _)
  exact ⟨.ref s1.heap.objs.size, upd H1 s1.heap.objs.size (.frz { cls := .type "tuple", data := .seq us.toArray } (.tup (ns.map V.int))), I1.laid (t' := s1.toks) (fun b u e => Heap.get?_push_of_some _ e) (Nat.le_refl _) ⟨Heap.get?_push_size _ rfl, by rw [r.length]; exact hz, us, r, ⟨_, Heap.get?_push_size _ rfl, rfl, _, rfl⟩⟩, rfl, Res.ntp (q.ext ex1 r1) ex1.s r1 rfl _ hn⟩
/-- the same thing, as a plain tuple -/
theorem ge_asT {x : Str} {p : Pos} (ha : GE X c cf a (.Name x p)) : GE X c cf (.o1 .asT a) (.Name x p) := by
  refine GE.of (PE.imp ha.o fun σ H Q h => ?_) (fun i => by simp) fun _ => rfl
  obtain ⟨F0, H0, F, ρ, R, d, R', S, ev, q⟩ := h
  simp only [evE] at ev
  obtain ⟨x, R1, e1, e2⟩ := bnd_ok ev
  obtain ⟨e5, rfl⟩ := lft_ok e2
  have e5 : asTD x = some d := e5
  refine ⟨F0, H0, F, ρ, R, x, R', S, e1, fun F1 H1 vx ex1 r1 ox => q F1 H1 vx ex1 r1 ?_⟩
  have t := ox.1
  unfold asTD at e5
  split at e5 <;> first
    | (cases e5; done)
    | (cases e5; exact ntp_tup t)
    | (cases e5; exact t)
/-- t.index(i), of a tuple of ints without a dict -/
theorem pe_indexN (C : Cok X c) {ap cp : Pos} (ha : GE X c cf a e) (hb : GE X c cf b e2) (hs : noStar e2 = true) (hbase : attributeBase e "index" X.env (eval e X.env) = eval e X.env) (hl : (ap.endLine == cp.line) = true) :
    PE X (.Call (.Attribute e "index" ap) [e2] [] cp) (tG c cf (.o2 .index a b)) := by
  refine ⟨fun pins s σ H Q I h => ?_⟩
  obtain ⟨F0, H0, F, ρ, R, d, R', S, ev, q⟩ := h
  simp only [evE] at ev
  obtain ⟨x, R1, e1, e3⟩ := bnd_ok ev
  obtain ⟨y, R2, e4, e5⟩ := bnd_ok e3
  obtain ⟨e6, rfl⟩ := lft_ok e5
  have e6 : indexD x y = some d := e6
  clear ev e3 e5
  unfold indexD at e6
  split at e6
  · rename_i ns i _
    obtain ⟨j, hj, rfl⟩ := Option.map_eq_some_iff.mp e6
    obtain ⟨hjl, hj1, hj2⟩ := List.findIdx?_eq_some_iff_getElem.mp hj
    have hst : starEach [e2] X.env = [(false, eval e2 X.env)] := by rw [star_cons hs]; rfl
    refine PySem.Call_method1 hbase hst hl (thn (ha.o.run pins s σ H (fun vx H1 => ∃ F1, Ext c F H F1 H1 ∧ RowR c F1 H1 R1 ∧ RelD c F1 (.ntp ns) vx) I ⟨F0, H0, F, ρ, R, _, R1, S, e1, fun F1 H1 vx ex1 r1 ox => ⟨F1, ex1, r1, ox.1⟩⟩) fun v s1 ⟨vx, H1, I1, r1, F1, ex1, rr1, rx⟩ => ?_)
    have rx' := rx
    simp only [RelD] at rx'
    obtain ⟨p, rfl, o, ho, hd⟩ := rx'
    cases r1
    have ok1 : s1.heap.get? p = some o := (I1.hok p _ (ex1.s _ _ ho)).1
    have ht1 : ∃ its, Vals (ns.map V.int) its ∧ IsTup s1.heap p its.toArray := (I1.hok p _ (ex1.s _ _ ho)).2.2
    obtain ⟨its1, _, o1, g1, c1, _⟩ := ht1
    refine ⟨"tuple", "tuple.index", PySem.F.plainAttrs_tuple, PySem.F.slot_tuple_index, PySem.F.type_tuple_index, ⟨o1, g1, c1⟩, fun a' ea => by cases ea; exact ⟨o, ok1, hd⟩, Calls.callWith_builtin rfl (Calls.evalArgs_plain (Calls.spliced_cons ?_))⟩
    refine thn (hb.o.run pins s1 σ H1 (fun vy H2 => ∃ F2, Ext c F1 H1 F2 H2 ∧ RowR c F2 H2 R' ∧ vy = .int i) I1 ⟨F0, H0, F1, ρ, R1, _, R', S.step ex1 rr1, e4, fun F2 H2 vy ex2 r2 oy => ⟨F2, ex2, r2, oy.1⟩⟩) fun u s2 ⟨vy, H2, I2, r2, F2, ex2, rr2, ey⟩ => Calls.spliced_nil ?_
    subst ey
    obtain ⟨t, rfl⟩ := r2
    have ho2 : H2 p = some (.frz o (.tup (ns.map V.int))) := ex2.s _ _ (ex2.f _ _ ho)
    obtain ⟨ok2, hz, its, rv, o3, g3, c3, n, d3⟩ := I2.hok p _ ho2
    have eo : o3 = o := Option.some.inj (g3.symm.trans ok2)
    subst eo
    obtain ⟨cls, dd, dt, sl⟩ := o3
    simp only at c3 d3
    subst c3 d3
    have hsz : its.toArray.size = ns.length := by rw [List.size_toArray, ← rv.length, List.length_map]
    have at' : ∀ (m : Nat) (hm : m < its.toArray.size), ∃ t', its.toArray[m] = Value.int (ns[m]'(by rw [← hsz]; exact hm)) t' := fun m hm => by
      have hm' : m < ns.length := by rw [← hsz]; exact hm
      obtain ⟨w, hw, t', hw'⟩ := rv.get (i := m) (x := .int ns[m]) (by simp [hm'])
      refine ⟨t', ?_⟩
      have e := (List.getElem?_eq_some_iff.mp hw).2
      rw [← hw', ← e]
      simp
    let eq : Value → Bool := fun v => match v with | .int z _ => z == i | _ => false
    refine call_meets PySem.F.slot_tuple_index ⟨_, g3, rfl⟩ PySem.F.entry_tuple_index (PySem.F.args_tuple_index_2 _ _) (TI.tuple_indexAt p its.toArray n dd sl (.int i t) eq j (by rw [hsz]; exact hjl) ?_ ?_) ⟨g3, fun w hw => ?_, ⟨.int (j : Nat), H2, I2.tok _, ⟨_, rfl⟩, Res.int (ResG.ext (ResG.ext q ex1 rr1) ex2 rr2) ex2.s rr2⟩⟩
    · obtain ⟨t', h1⟩ := at' j (by rw [hsz]; exact hjl)
      rw [h1]
      exact hj1
    · intro m hm hmj
      obtain ⟨t', h1⟩ := at' m hm
      rw [h1]
      have := hj2 m hmj
      simpa [eq] using this
    · obtain ⟨m, hm, rfl⟩ := List.getElem_of_mem (Array.mem_toList_iff.mpr hw)
      have hm2 : m < its.toArray.size := by simpa using hm
      obtain ⟨t', h1⟩ := at' m hm2
      have e : its.toArray.toList[m] = Value.int (ns[m]'(by rw [← hsz]; exact hm2)) t' := by simpa using h1
      rw [e]
      exact SeqAt.EqAt.int_int _ t' _ t
  · cases e6
theorem joinS_cps (a : Str) : ∀ (ys : List Str) (acc : Array Nat), ys.foldl (fun acc p => acc ++ a.cps ++ p.cps) acc = match ys with | [] => acc | y :: r => acc ++ a.cps ++ (joinS a (y :: r)).cps
  | [], acc => rfl
  | y :: r, acc => by
    rw [List.foldl_cons, joinS_cps a r]
    cases r with
    | nil => rfl
    | cons z r =>
      show acc ++ a.cps ++ y.cps ++ a.cps ++ (joinS a (z :: r)).cps = acc ++ a.cps ++ (y.cps ++ a.cps ++ (joinS a (z :: r)).cps)
      simp [Array.append_assoc]
theorem join_joinS (a : Str) (ys : List Str) : Txt.join a ys = joinS a ys := by
  unfold Txt.join Builtin.Str.glued
  cases ys with
  | nil => rfl
  | cons y r =>
    rw [List.drop_one, List.tail_cons, List.headD_cons, joinS_cps]
    cases r with
    | nil => rfl
    | cons z r => rfl
theorem strs_of {F : Hp} : ∀ {ds : List D} {xs : List V} {ys : List Str}, RelDs c F ds xs → strs? ds = some ys → xs = ys.map V.str ∧ ∀ y ∈ ys, StrOk y
  | [], [], ys, _, e => by simp only [strs?, Option.some.injEq] at e; subst e; exact ⟨rfl, fun _ h => by cases h⟩
  | [], _ :: _, _, h, _ => by simp only [RelDs] at h
  | _ :: _, [], _, h, _ => by simp only [RelDs] at h
  | d :: ds, x :: xs, ys, h, e => by
    simp only [RelDs] at h
    cases d <;> simp only [strs?, reduceCtorEq] at e
    obtain ⟨l, el, rfl⟩ := Option.map_eq_some_iff.mp e
    obtain ⟨h1, h2⟩ := strs_of h.2 el
    obtain ⟨rfl, h3⟩ := (show x = _ ∧ _ from h.1)
    exact ⟨by rw [h1]; rfl, fun y hy => by
      rcases List.mem_cons.mp hy with rfl | hy
      · exact h3
      · exact h2 y hy⟩
theorem strOk_app {x y : Str} (h1 : PyData.strOk x = true) (h2 : PyData.strOk y = true) : PyData.strOk (x ++ y) = true := by
  unfold PyData.strOk at h1 h2 ⊢
  show (Array.all (_ ++ _) _) = true
  rw [Array.all_append, h1, h2]; rfl
theorem joinS_ok {a : Str} (ha : PyData.strOk a = true) : ∀ {ys : List Str}, (∀ y ∈ ys, PyData.strOk y = true) → PyData.strOk (joinS a ys) = true ∧ (joinS a ys).length ≤ (ys.map (·.length)).sum + ys.length * a.length
  | [], _ => ⟨(by decide +kernel : PyData.strOk Str.empty = true), Nat.zero_le _⟩
  | [x], h => ⟨h x List.mem_cons_self, by simp [joinS]⟩
  | x :: y :: r, h => by
    obtain ⟨h1, h2⟩ := joinS_ok ha (ys := y :: r) fun z hz => h z (List.mem_cons_of_mem _ hz)
    refine ⟨strOk_app (strOk_app (h x List.mem_cons_self) ha) h1, ?_⟩
    show (x ++ a ++ joinS a (y :: r)).length ≤ _
    rw [strLen_append, strLen_append]
    simp only [List.map_cons, List.sum_cons, List.length_cons, Nat.succ_mul] at h2 ⊢
    omega
theorem ge_join (C : Cok X c) {ap cp : Pos} (ha : GE X c cf a e) (hb : GE X c cf b e2) (hs : noStar e2 = true) (hbase : attributeBase e "join" X.env (eval e X.env) = eval e X.env) (hl : (ap.endLine == cp.line) = true) :
    GE X c cf (.o2 .join a b) (.Call (.Attribute e "join" ap) [e2] [] cp) := by
  have hst : starEach [e2] X.env = [(false, eval e2 X.env)] := by rw [star_cons hs]; rfl
  refine GE.of (PE.imp (pe_join ha.o hb.o hst hbase hl) fun σ H Q h => ?_) (fun i => by simp) fun _ => rfl
  obtain ⟨F0, H0, F, ρ, R, d, R', S, ev, q⟩ := h
  simp only [evE] at ev
  obtain ⟨x, R1, e1, e3⟩ := bnd_ok ev
  obtain ⟨y, R2, e4, e5⟩ := bnd_ok e3
  obtain ⟨e6, rfl⟩ := lft_ok e5
  have e6 : joinD x y = some d := e6
  clear ev e3 e5
  unfold joinD at e6
  split at e6
  · rename_i sa ds _
    obtain ⟨ys, ey, e7⟩ := Option.bind_eq_some_iff.mp e6
    split at e7
    · rename_i hz
      cases e7
      refine ⟨F0, H0, F, ρ, R, _, R1, S, e1, fun F1 H1 vx ex1 r1 ox => ?_⟩
      obtain ⟨rfl, hsa⟩ := (show vx = _ ∧ _ from ox.1)
      refine ⟨⟨sa, rfl⟩, F0, H0, F1, ρ, R1, _, R', S.step ex1 r1, e4, fun F2 H2 vy ex2 r2 oy => ?_⟩
      obtain ⟨l, xs, rfl, hll, rl⟩ := oy.1
      obtain ⟨rfl, hys⟩ := strs_of rl ey
      have hz2 := of_decide_eq_true hz
      have hz3 : (ys.map (·.length)).sum + ys.length * sa.length ≤ 1000000 := hz2
      refine ⟨sa, l, ys, rfl, rfl, .inl (SqL.of hll), by omega, ?_⟩
      rw [join_joinS]
      obtain ⟨k1, k2⟩ := joinS_ok hsa.1 (ys := ys) fun y hy => (hys y hy).1
      refine Res.here (Res.ext (Res.ext q ex1 r1) ex2 r2) ex2.s r2 ?_
      simp only [RelD]
      exact ⟨trivial, k1, Nat.le_trans k2 hz3⟩
    · cases e7
  · cases e6
end
end Pu
end

section
set_option autoImplicit false
set_option linter.all false
set_option maxRecDepth 100000
set_option maxHeartbeats 4000000
set_option Elab.async false
namespace Pu
open PySem PySem.Spec PyProof.Rows L2
section
variable {X : Cx} {c : Ct} {cf : Cf} {k : Ck}
/-- builtins of one -/
theorem bt1_of (K : Kx X c cf k) {o : Op1} {f : D → Option D} {x : Str} {id : String} {a : E} {e : Expr} {p pos : Pos} (hc : CallR X (.builtin id) (P1 c f)) (hf : ∀ x, op1 o x = f x) (hx : x ∈ bnames) (hg : glB k x = true) (hv : bootBuiltins x = some (.builtin id)) (hn : x ≠ "__name__") (hdb : (x == ("__debug__" : Str)) = false) (ok : okE e = true) (ha : GE X c cf a e) :
    PE X (.Call (.Name x p) [e] [] pos) (tG c cf (.o1 o a)) := gf_bt1 hc hf (glB_of K hg) (K.ok.bl x hx) hv hn hdb ha.o (okE_star ok)
theorem ty1_of (K : Kx X c cf k) {o : Op1} {f : D → Option D} {x : Str} {T : String} {a : E} {e : Expr} {p pos : Pos} (hc : CallR X (.type T) (P1 c f)) (hf : ∀ x, op1 o x = f x) (hx : x ∈ bnames) (hg : glB k x = true) (hv : bootBuiltins x = some (.type T)) (hn : x ≠ "__name__") (hdb : (x == ("__debug__" : Str)) = false) (ok : okE e = true) (ha : GE X c cf a e) :
    PE X (.Call (.Name x p) [e] [] pos) (tG c cf (.o1 o a)) := gf_ty1 hc hf (glB_of K hg) (K.ok.bl x hx) hv hn hdb ha.o (okE_star ok)
theorem ge_o1 {o : Op1} {a : E} {e : Expr} (h : PE X e (tG c cf (.o1 o a))) (ht : ∀ whole, isTrue e X.env whole = (do let v ← whole; standAt e.pos; holding [v] (truthy v))) : GE X c cf (.o1 o a) e := GE.of (tE_of_tG h) (fun i => by simp) ht
theorem ge_o2 {o : Op2} {a b : E} {e : Expr} (h : PE X e (tG c cf (.o2 o a b))) (ht : ∀ whole, isTrue e X.env whole = (do let v ← whole; standAt e.pos; holding [v] (truthy v))) : GE X c cf (.o2 o a b) e := GE.of (tE_of_tG h) (fun i => by simp) ht
/-- the shapes of an operation of one -/
theorem arg1_cases {o : Op1} {e e1 : Expr} (h : arg1 k o e = some e1) :
    (o = .asT ∧ e = e1 ∧ ∃ x p, e = .Name x p) ∨ (o = .neg ∧ ∃ p, e = .UnaryOp .USub e1 p) ∨ (o = .notB ∧ ∃ p, e = .UnaryOp .Not e1 p) ∨ (o = .rev ∧ ∃ n p1 p2 p3 p, e = .Subscript e1 (.Slice none none (some (.UnaryOp .USub (.Constant (.int 1) n p1) p2)) p3) p) ∨
    ∃ (x : Str) (p1 p : Pos), e = .Call (.Name x p1) [e1] [] p ∧ glB k x = true ∧ ((o = .len ∧ x = "len") ∨ (o = .abs ∧ x = "abs") ∨ (o = .sum ∧ x = "sum") ∨ (o = .max1 ∧ x = "max") ∨ (o = .min1 ∧ x = "min") ∨ (o = .tupleOf ∧ x = "tuple") ∨ (o = .listOf ∧ x = "list") ∨ (o = .toInt ∧ x = "int") ∨ (o = .sorted ∧ x = "sorted") ∨ (o = .dictOf ∧ x = "dict") ∨ (o = .tupleN ∧ x = "tuple") ∨ (o = .toStr ∧ x = "str")) := by
  unfold arg1 at h
  split at h <;> first
    | (cases h; done)
    | (cases h; exact .inl ⟨rfl, rfl, _, _, rfl⟩)
    | (cases h; exact .inr (.inl ⟨rfl, _, rfl⟩))
    | (cases h; exact .inr (.inr (.inl ⟨rfl, _, rfl⟩)))
    | (cases h; exact .inr (.inr (.inr (.inl ⟨rfl, _, _, _, _, _, rfl⟩))))
    | (split at h
       · rename_i hx
         cases h
         obtain ⟨rfl, hg⟩ := hx
         exact .inr (.inr (.inr (.inr ⟨_, _, _, rfl, hg, by simp⟩)))
       · cases h)
theorem arg1_ge (K : Kx X c cf k) {o : Op1} {a : E} {e e1 : Expr} (h : arg1 k o e = some e1) (ok : okE e1 = true) (ha : GE X c cf a e1) : GE X c cf (.o1 o a) e := by
  have h2 := arg1_cases h
  clear h
  rcases h2 with ⟨rfl, rfl, x, p, rfl⟩ | ⟨rfl, p, rfl⟩ | ⟨rfl, p, rfl⟩ | ⟨rfl, n, p1, p2, p3, p, rfl⟩ | ⟨x, p1, p, rfl, hg, h⟩
  · exact ge_asT ha
  · exact ge_neg K.ok ha
  · exact ge_not ha
  · exact ge_rev K.ok ha
  · rcases h with ⟨rfl, rfl⟩ | ⟨rfl, rfl⟩ | ⟨rfl, rfl⟩ | ⟨rfl, rfl⟩ | ⟨rfl, rfl⟩ | ⟨rfl, rfl⟩ | ⟨rfl, rfl⟩ | ⟨rfl, rfl⟩ | ⟨rfl, rfl⟩ | ⟨rfl, rfl⟩ | ⟨rfl, rfl⟩ | ⟨rfl, rfl⟩
    · exact ge_o1 (bt1_of K (cd_len K.ok) (fun _ => rfl) (by decide +kernel) hg boot_len (by decide +kernel) (by decide +kernel) ok ha) fun _ => rfl
    · exact ge_o1 (bt1_of K (cd_abs K.ok) (fun _ => rfl) (by decide +kernel) hg PyProof.Rows.boot_abs (by decide +kernel) (by decide +kernel) ok ha) fun _ => rfl
    · exact ge_o1 (bt1_of K (cd_sum K.ok) (fun _ => rfl) (by decide +kernel) hg PyProof.Rows.boot_sum (by decide +kernel) (by decide +kernel) ok ha) fun _ => rfl
    · exact ge_o1 (bt1_of K (cd_max K.ok) (fun _ => rfl) (by decide +kernel) hg PyProof.Rows.boot_max (by decide +kernel) (by decide +kernel) ok ha) fun _ => rfl
    · exact ge_o1 (bt1_of K (cd_min K.ok) (fun _ => rfl) (by decide +kernel) hg PyProof.Rows.boot_min (by decide +kernel) (by decide +kernel) ok ha) fun _ => rfl
    · exact ge_o1 (ty1_of K (cd_tuple K.ok) (fun _ => rfl) (by decide +kernel) hg boot_tuple (by decide +kernel) (by decide +kernel) ok ha) fun _ => rfl
    · exact ge_o1 (ty1_of K (cd_list K.ok) (fun _ => rfl) (by decide +kernel) hg boot_list (by decide +kernel) (by decide +kernel) ok ha) fun _ => rfl
    · exact ge_o1 (ty1_of K (cd_int K.ok) (fun _ => rfl) (by decide +kernel) hg boot_int (by decide +kernel) (by decide +kernel) ok ha) fun _ => rfl
    · exact ge_o1 (bt1_of K (cd_sorted K.ok) (fun _ => rfl) (by decide +kernel) hg PyProof.Rows.boot_sorted (by decide +kernel) (by decide +kernel) ok ha) fun _ => rfl
    · exact ge_o1 (ty1_of K (cd_dict K.ok) (fun _ => rfl) (by decide +kernel) hg boot_dict (by decide +kernel) (by decide +kernel) ok ha) fun _ => rfl
    · exact ge_o1 (ty1_of K (cd_tupleN K.ok) (fun _ => rfl) (by decide +kernel) hg boot_tuple (by decide +kernel) (by decide +kernel) ok ha) fun _ => rfl
    · exact ge_o1 (ty1_of K (cd_str K.ok) (fun _ => rfl) (by decide +kernel) hg (by decide +kernel) (by decide +kernel) (by decide +kernel) ok ha) fun _ => rfl
/-- a new list -/
theorem arg1_gf (K : Kx X c cf k) {o : Op1} {a : E} {e e1 : Expr} (h : arg1 k o e = some e1) (ok : okE e1 = true) (ha : GE X c cf a e1) (hf : freshE (.o1 o a) = true) : PE X e (tG c cf (.o1 o a)) := by
  have h2 := arg1_cases h
  clear h
  rcases h2 with ⟨rfl, rfl, x, p, rfl⟩ | ⟨rfl, p, rfl⟩ | ⟨rfl, p, rfl⟩ | ⟨rfl, n, p1, p2, p3, p, rfl⟩ | ⟨x, p1, p, rfl, hg, h⟩
  · cases hf
  · cases hf
  · cases hf
  · cases hf
  · rcases h with ⟨rfl, rfl⟩ | ⟨rfl, rfl⟩ | ⟨rfl, rfl⟩ | ⟨rfl, rfl⟩ | ⟨rfl, rfl⟩ | ⟨rfl, rfl⟩ | ⟨rfl, rfl⟩ | ⟨rfl, rfl⟩ | ⟨rfl, rfl⟩ | ⟨rfl, rfl⟩ | ⟨rfl, rfl⟩ | ⟨rfl, rfl⟩ <;> first
      | cases hf; done
      | exact bt1_of K (cd_sorted K.ok) (fun _ => rfl) (by decide +kernel) hg PyProof.Rows.boot_sorted (by decide +kernel) (by decide +kernel) ok ha
      | exact ty1_of K (cd_list K.ok) (fun _ => rfl) (by decide +kernel) hg boot_list (by decide +kernel) (by decide +kernel) ok ha
theorem noCall_base {e : Expr} {m : Str} {env : PySem.Env} (h : noCall e = true) : attributeBase e m env (eval e env) = eval e env := by
  cases e <;> try rfl
  rename_i f as ks p
  cases f <;> try rfl
  cases as with
  | nil => cases ks with
    | nil => cases h
    | cons a b => rfl
  | cons a b => rfl
theorem arg1b_gf (K : Kx X c cf k) {o : Op1} {a : E} {e e1 : Expr} (h : arg1b k o e = some e1) (ok : okE e1 = true) (ha : GE X c cf a e1) : PE X e (tG c cf (.o1 o a)) ∧ ∀ whole, isTrue e X.env whole = (do let v ← whole; standAt e.pos; holding [v] (truthy v)) := by
  have C := K.ok
  have hs := okE_star ok
  unfold arg1b at h
  split at h <;> first
    | (cases h; done)
    | skip
  all_goals (split at h <;> first | (cases h; done) | skip)
  · rename_i hx; cases h; obtain ⟨rfl, rfl, g1, g2⟩ := hx
    exact ⟨gf_isi C kInt (fun _ => rfl) (glB_of K g1) rfl (glB_of K g2) (C.bl _ (by decide +kernel)) boot_int (by decide +kernel) (by decide +kernel) ha.o hs, fun _ => rfl⟩
  · rename_i hx; cases h; obtain ⟨rfl, rfl, g1, g2⟩ := hx
    exact ⟨gf_isi C kBool (fun _ => rfl) (glB_of K g1) rfl (glB_of K g2) (C.bl _ (by decide +kernel)) (by decide +kernel) (by decide +kernel) (by decide +kernel) ha.o hs, fun _ => rfl⟩
  · rename_i hx; cases h; obtain ⟨rfl, rfl, g1, g2⟩ := hx
    exact ⟨gf_isi C kTupl (fun _ => rfl) (glB_of K g1) rfl (glB_of K g2) (C.bl _ (by decide +kernel)) boot_tuple (by decide +kernel) (by decide +kernel) ha.o hs, fun _ => rfl⟩
  · rename_i hx; cases h; obtain ⟨rfl, rfl, g1, g2⟩ := hx
    exact ⟨gf_isi C kStr (fun _ => rfl) (glB_of K g1) rfl (glB_of K g2) (C.bl _ (by decide +kernel)) (by decide +kernel) (by decide +kernel) (by decide +kernel) ha.o hs, fun _ => rfl⟩
  · rename_i hx; cases h; obtain ⟨rfl, rfl, g1, g2⟩ := hx
    exact ⟨gf_isi C kLst (fun _ => rfl) (glB_of K g1) rfl (glB_of K g2) (C.bl _ (by decide +kernel)) boot_list (by decide +kernel) (by decide +kernel) ha.o hs, fun _ => rfl⟩
  · rename_i hx; cases h; obtain ⟨rfl, rfl, rfl, g1, g2, g3⟩ := hx
    exact ⟨gf_isiT C (glB_of K g1) rfl rfl rfl (glB_of K g2) (glB_of K g3) ha.o hs, fun _ => rfl⟩
  · rename_i hx; cases h; obtain ⟨rfl, rfl, g1, g2, nc⟩ := hx
    exact ⟨gf_skeys C (glB_of K g1) rfl ha.o (noCall_base nc) g2, fun _ => rfl⟩
  · rename_i hx; cases h; obtain ⟨rfl, rfl, g1, g2⟩ := hx
    exact ⟨gf_sset C (glB_of K g1) rfl (glB_of K g2) rfl ha.o hs, fun _ => rfl⟩
  · rename_i hx; cases h; obtain ⟨rfl, rfl, g1, g2⟩ := hx
    exact ⟨gf_lrng C (glB_of K g1) rfl (glB_of K g2) rfl ha.o hs, fun _ => rfl⟩
  · rename_i hx; cases h; obtain ⟨rfl, rfl, g1, g2⟩ := hx
    exact ⟨gf_trng C (glB_of K g1) rfl (glB_of K g2) rfl ha.o hs, fun _ => rfl⟩
theorem arg2_cases {o : Op2} {e e1 e2 : Expr} (h : arg2 k o e = some (e1, e2)) :
    (∃ op p, e = .BinOp e1 op e2 p ∧ ((o = .add ∧ op = .Add) ∨ (o = .sub ∧ op = .Sub) ∨ (o = .mul ∧ op = .Mult) ∨ (o = .fdiv ∧ op = .FloorDiv) ∨ (o = .mod ∧ op = .Mod) ∨ (o = .pow ∧ op = .Pow))) ∨
    (∃ op p, e = .Compare e1 [op] [e2] p ∧ ((o = .eq ∧ op = .Eq) ∨ (o = .ne ∧ op = .NotEq) ∨ (o = .lt ∧ op = .Lt) ∨ (o = .le ∧ op = .LtE) ∨ (o = .gt ∧ op = .Gt) ∨ (o = .ge ∧ op = .GtE) ∨ (o = .isIn ∧ op = .In) ∨ (o = .notIn ∧ op = .NotIn) ∨ (o = .is ∧ op = .Is) ∨ (o = .isNot ∧ op = .IsNot))) ∨
    (o = .idx ∧ ixB e2 = true ∧ ∃ p, e = .Subscript e1 e2 p) ∨
    (∃ (x : Str) (p1 p : Pos), e = .Call (.Name x p1) [e1, e2] [] p ∧ glB k x = true ∧ ((o = .max2 ∧ x = "max") ∨ (o = .min2 ∧ x = "min"))) ∨
    ∃ (m : Str) (ap cp : Pos), e = .Call (.Attribute e1 m ap) [e2] [] cp ∧ (ap.endLine == cp.line) = true ∧ noCall e1 = true ∧ ((o = .index ∧ m = "index") ∨ (o = .join ∧ m = "join")) := by
  unfold arg2 at h
  split at h <;> first
    | (cases h; done)
    | (cases h; exact .inl ⟨_, _, rfl, by simp⟩)
    | (cases h; exact .inr (.inl ⟨_, _, rfl, by simp⟩))
    | (split at h
       · rename_i hx
         cases h
         first
           | exact .inr (.inr (.inl ⟨rfl, hx, _, rfl⟩))
           | (obtain ⟨rfl, hl, hn⟩ := hx
              exact .inr (.inr (.inr (.inr ⟨_, _, _, rfl, hl, hn, by simp⟩))))
           | (obtain ⟨rfl, hg⟩ := hx
              exact .inr (.inr (.inr (.inl ⟨_, _, _, rfl, hg, by simp⟩))))
       · cases h)
theorem arg2_ge (K : Kx X c cf k) {o : Op2} {a b : E} {e e1 e2 : Expr} (h : arg2 k o e = some (e1, e2)) (ok : okE e1 = true) (ok2 : okE e2 = true) (ha : GE X c cf a e1) (hb : GE X c cf b e2) : GE X c cf (.o2 o a b) e := by
  have C := K.ok
  have h2 := arg2_cases h
  clear h
  rcases h2 with ⟨op, p, rfl, h⟩ | ⟨op, p, rfl, h⟩ | ⟨rfl, hx, p, rfl⟩ | ⟨x, p1, p, rfl, hg, h⟩ | ⟨m, ap, cp, rfl, hl, hn, h⟩
  · rcases h with ⟨rfl, rfl⟩ | ⟨rfl, rfl⟩ | ⟨rfl, rfl⟩ | ⟨rfl, rfl⟩ | ⟨rfl, rfl⟩ | ⟨rfl, rfl⟩
    · exact ge_bin (od_add C) (fun _ _ _ => rfl) ha hb
    · exact ge_bin (od_sub C) (fun _ _ _ => rfl) ha hb
    · exact ge_bin (od_mul C) (fun _ _ _ => rfl) ha hb
    · exact ge_bin (od_fdiv C) (fun _ _ _ => rfl) ha hb
    · exact ge_bin (od_mod C) (fun _ _ _ => rfl) ha hb
    · exact ge_bin (od_pow C) (fun _ _ _ => rfl) ha hb
  · have hm := fun op => okE_marks (op := op) ok2
    rcases h with ⟨rfl, rfl⟩ | ⟨rfl, rfl⟩ | ⟨rfl, rfl⟩ | ⟨rfl, rfl⟩ | ⟨rfl, rfl⟩ | ⟨rfl, rfl⟩ | ⟨rfl, rfl⟩ | ⟨rfl, rfl⟩ | ⟨rfl, rfl⟩ | ⟨rfl, rfl⟩
    · exact ge_cmp (od_eq C) (fun _ _ _ => rfl) (hm _) ha hb
    · exact ge_cmp (od_ne C) (fun _ _ _ => rfl) (hm _) ha hb
    · exact ge_cmp (od_lt C) (fun _ _ _ => rfl) (hm _) ha hb
    · exact ge_cmp (od_le C) (fun _ _ _ => rfl) (hm _) ha hb
    · exact ge_cmp (od_gt C) (fun _ _ _ => rfl) (hm _) ha hb
    · exact ge_cmp (od_ge C) (fun _ _ _ => rfl) (hm _) ha hb
    · exact ge_cmp (od_in C) (fun _ _ _ => rfl) (hm _) ha hb
    · exact ge_cmp (od_notin C) (fun _ _ _ => rfl) (hm _) ha hb
    · exact ge_cmp (od_is C) (fun _ _ _ => rfl) (hm _) ha hb
    · exact ge_cmp (od_isnot C) (fun _ _ _ => rfl) (hm _) ha hb
  · exact ge_idx C (ixB_plain hx) ha hb
  · rcases h with ⟨rfl, rfl⟩ | ⟨rfl, rfl⟩
    · exact ge_o2 (gf_bt2 (cd_max2 C) (fun _ _ _ => rfl) (glB_of K hg) (C.bl _ (by decide +kernel)) PyProof.Rows.boot_max (by decide +kernel) (by decide +kernel) ha.o hb.o (okE_star ok) (okE_star ok2)) fun _ => rfl
    · exact ge_o2 (gf_bt2 (cd_min2 C) (fun _ _ _ => rfl) (glB_of K hg) (C.bl _ (by decide +kernel)) PyProof.Rows.boot_min (by decide +kernel) (by decide +kernel) ha.o hb.o (okE_star ok) (okE_star ok2)) fun _ => rfl
  · rcases h with ⟨rfl, rfl⟩ | ⟨rfl, rfl⟩
    · exact ge_o2 (pe_indexN C ha hb (okE_star ok2) (noCall_base hn) hl) fun _ => rfl
    · exact ge_join C ha hb (okE_star ok2) (noCall_base hn) hl
theorem arg2_gf (K : Kx X c cf k) {o : Op2} {a b : E} {e e1 e2 : Expr} (h : arg2 k o e = some (e1, e2)) (ha : GE X c cf a e1) (hb : GE X c cf b e2) (hf : freshE (.o2 o a b) = true) : PE X e (tG c cf (.o2 o a b)) := by
  have C := K.ok
  have h2 := arg2_cases h
  clear h
  rcases h2 with ⟨op, p, rfl, h⟩ | ⟨op, p, rfl, h⟩ | ⟨rfl, hx, p, rfl⟩ | ⟨x, p1, p, rfl, hg, h⟩ | ⟨m, ap, cp, rfl, hl, hn, h⟩
  · rcases h with ⟨rfl, rfl⟩ | ⟨rfl, rfl⟩ | ⟨rfl, rfl⟩ | ⟨rfl, rfl⟩ | ⟨rfl, rfl⟩ | ⟨rfl, rfl⟩ | ⟨rfl, rfl⟩ <;> first
      | cases hf; done
      | exact gf_bin (od_add C) (fun _ _ _ => rfl) ha.o hb.o
      | exact gf_bin (od_mul C) (fun _ _ _ => rfl) ha.o hb.o
  · rcases h with ⟨rfl, rfl⟩ | ⟨rfl, rfl⟩ | ⟨rfl, rfl⟩ | ⟨rfl, rfl⟩ | ⟨rfl, rfl⟩ | ⟨rfl, rfl⟩ | ⟨rfl, rfl⟩ | ⟨rfl, rfl⟩ | ⟨rfl, rfl⟩ | ⟨rfl, rfl⟩ <;> cases hf
  · cases hf
  · rcases h with ⟨rfl, rfl⟩ | ⟨rfl, rfl⟩ <;> cases hf
  · rcases h with ⟨rfl, rfl⟩ | ⟨rfl, rfl⟩ <;> cases hf
/-- a comparison, as one of a chain -/
theorem cmpOf_op (C : Cok X c) {o : Op2} {op : CmpOp} (h : cmpOf o op = true) : ∃ f, OpR X (compareOp op) (P2 c f) ∧ ∀ R x y, op2 R o x y = f R x y := by
  unfold cmpOf at h
  split at h <;> first
    | cases h; done
    | exact ⟨_, od_lt C, fun _ _ _ => rfl⟩
    | exact ⟨_, od_le C, fun _ _ _ => rfl⟩
    | exact ⟨_, od_gt C, fun _ _ _ => rfl⟩
    | exact ⟨_, od_ge C, fun _ _ _ => rfl⟩
    | exact ⟨_, od_eq C, fun _ _ _ => rfl⟩
/-- the sources -/
theorem argIt_gi (K : Kx X c cf k) {kk : ItK} {a b : E} {tg it e1 : Expr} {o2 : Option Expr} (h : argIt k kk tg it = some (e1, o2)) (ok : okE e1 = true) (ha : GE X c cf a e1) (hb : (o2 = none ∧ b = .non) ∨ ∃ e2, o2 = some e2 ∧ okE e2 = true ∧ GE X c cf b e2) : GI X c cf kk a b tg it := by
  have C := K.ok
  unfold argIt at h
  split at h
  · split at h
    · rename_i hx
      cases h
      obtain ⟨rfl, hl, nc⟩ := hx
      rcases hb with ⟨_, rfl⟩ | ⟨_, z, _⟩
      · exact gi_keys C ha (noCall_base nc) hl
      · cases z
    · cases h
  · cases h
    rcases hb with ⟨_, rfl⟩ | ⟨_, z, _⟩
    · exact gi_val C ha
    · cases z
  · split at h
    · rename_i hx
      cases h
      obtain ⟨rfl, hg⟩ := hx
      rcases hb with ⟨_, rfl⟩ | ⟨_, z, _⟩
      · exact gi_range1 C (glB_of K hg) ha (okE_star ok)
      · cases z
    · cases h
  · split at h
    · rename_i hx
      cases h
      obtain ⟨rfl, hg⟩ := hx
      rcases hb with ⟨z, _⟩ | ⟨e2, z, ok2, hb⟩
      · cases z
      · cases z
        exact gi_range2 C (glB_of K hg) ha hb (okE_star ok) (okE_star ok2)
    · cases h
  · split at h
    · rename_i hx
      cases h
      obtain ⟨rfl, hg⟩ := hx
      rcases hb with ⟨_, rfl⟩ | ⟨_, z, _⟩
      · exact gi_enum C (glB_of K hg) ha (okE_star ok)
      · cases z
    · cases h
  · split at h
    · rename_i hx
      cases h
      obtain ⟨rfl, hg⟩ := hx
      rcases hb with ⟨z, _⟩ | ⟨e2, z, ok2, hb⟩
      · cases z
      · cases z
        exact gi_zip C (glB_of K hg) ha hb (okE_star ok) (okE_star ok2)
    · cases h
  · cases h
theorem isNon_of {a : E} (h : isNon a = true) : a = .non := by cases a <;> first | rfl | cases h
theorem isTru_of {a : E} (h : isTru a = true) : a = .bl true := by
  unfold isTru at h
  split at h
  · rfl
  · cases h
theorem pw_of {op : BoolOp} {es : List Expr} {pos : Pos} {t : TT} (h : PT X (.BoolOp op es pos) t) : PW X (.BoolOp op es pos) t := ⟨fun whole pins s σ H Q I q => by
  have := h.run pins s σ H Q I q
  exact this⟩
theorem GE.gb {op : BoolOp} {a : E} {es : List Expr} {pos : Pos} (h : GE X c cf a (.BoolOp op es pos)) : GB X c cf op a es pos := ⟨h.v, pw_of h.t⟩
end

/-- the comprehension's parts -/
theorem chk_comp {X : Cx} {c : Ct} {cf : Cf} {k : Ck} (K : Kx X c cf k) {kk : ItK} {a b elt cn : E} {t : Tg} {own : List Nat} {e tg it : Expr} {ifs : List Expr} {scope : Scope} {pos : Pos}
    (hit : okE it = true) (hb : blkC k.N k.sc scope (own.map fun i => (k.N.getD i Str.empty, i)) = true) (hown : (tgs t).all (fun i => own.contains i) = true) (htg : chkTg t (k.blk scope) tg = true) (hi : GI X c cf kk a b tg it)
    (hcn : (ifs = [] ∧ cn = .bl true) ∨ ∃ f, ifs = [f] ∧ ∀ X', Kx X' c cf (k.blk scope) → GE X' c cf cn f) (he : ∀ X', Kx X' c cf (k.blk scope) → GE X' c cf elt e) :
    PE X (.ListComp e [⟨tg, it, ifs, 0⟩] scope pos) (tG c cf (.comp elt t kk a b cn own)) ∧
    ∀ {i : Nat} {y : Str} {py spos : Pos}, X.N[i]? = some y → X.env.scope.names.lookup y = some .local → swapsWith (.ListComp e [⟨tg, it, ifs, 0⟩] scope pos) (some (.Name y py)) spos.line X.env = pure true →
      PS X (.Assign [.Name y py] (.ListComp e [⟨tg, it, ifs, 0⟩] scope pos) spos) (tAsg (tG c cf (.comp elt t kk a b cn own)) (gName i)) := by
  have ok := blkOk_by hb
  have ok' : BlkOk X.N X.env.scope scope (own.map fun i => (k.N.getD i Str.empty, i)) := by rw [K.N, K.sc]; exact ok
  have hk : scope.kind = .function := ok.kind
  have e2 : (own.map fun i => (k.N.getD i Str.empty, i)).map (·.2) = own := by
    rw [List.map_map]
    exact List.map_id' own |> fun h => by simpa [Function.comp_def] using h
  have hg : ∀ (s : Shared) (H : Hp) (C : Addr) (cl : List (Str × Addr)) (fp : List Addr), PG (X.blk s H scope (compEnvC scope cl C X.env) fp) tg (tTg c t) := fun s H C cl fp => chk_tg (K.blk hk s H cl C fp) t tg htg
  have ht : ∀ (s : Shared) (H : Hp) (C : Addr) (cl : List (Str × Addr)) (fp : List Addr), PTs (X.blk s H scope (compEnvC scope cl C X.env) fp) ifs (tT c cf cn) := fun s H C cl fp => by
    rcases hcn with ⟨rfl, rfl⟩ | ⟨f, rfl, h⟩
    · refine ⟨fun pins s σ H Q I q => pts_nil.run pins s σ H Q I ?_⟩
      obtain ⟨F0, H0, F, ρ, R, b', R', S, ev, q⟩ := q
      simp only [evE] at ev
      obtain ⟨d, R2, e0, e9⟩ := bnd_ok ev
      obtain ⟨rfl, rfl⟩ := ret_ok e0
      obtain ⟨eb, rfl⟩ := asB_ok e9
      cases eb
      exact q F _ (Ext.refl S.sub) S.row
    · exact pts_one (h _ (K.blk hk s H cl C fp)).t
  have hv : ∀ (s : Shared) (H : Hp) (C : Addr) (cl : List (Str × Addr)) (fp : List Addr), PE (X.blk s H scope (compEnvC scope cl C X.env) fp) e (tE c cf elt) := fun s H C cl fp => (he _ (K.blk hk s H cl C fp)).v
  have hown' : ∀ i ∈ tgs t, i ∈ own := fun i hi => by
    have := List.all_eq_true.mp hown i hi
    simpa using this
  have key : ∀ σ H Q, tG c cf (.comp elt t kk a b cn own) σ H Q → tLc (wO c cf kk a b) (tTg c t) (tT c cf cn) (tE c cf elt) ((own.map fun i => (k.N.getD i Str.empty, i)).map (·.2)) σ H Q := fun σ H Q h => by
    rw [e2]; exact tG_tLc hown' σ H Q h
  refine ⟨PE.imp (pe_lc K.ok.calm K.ok.nd hi.o ok' hg ht hv (okE_fold hit)) key, fun hy hyl hsw => ?_⟩
  exact PS.imp (ps_setLc K.ok.calm K.ok.nd hy hyl hsw hi.o ok' hg ht hv (okE_fold hit)) fun D σ H h => key _ _ _ h
end Pu
end

section
set_option autoImplicit false
set_option linter.all false
set_option maxRecDepth 100000
set_option maxHeartbeats 4000000
set_option Elab.async false
namespace Pu
open PySem PySem.Spec PyProof.Rows L2
theorem getI_ix {α : Type} {xs : List α} {p : Int} {r : α} (h : getI xs p = some r) : ∃ j, ixN xs.length p = some j ∧ xs[j]? = some r := by
  unfold getI at h
  unfold ixN
  split at h
  · rename_i h0
    have hl := (List.getElem?_eq_some_iff.mp h).1
    exact ⟨_, by rw [if_pos h0, if_pos (by omega)], h⟩
  · rename_i h0
    split at h
    · rename_i h1
      exact ⟨_, by rw [if_neg h0, if_pos h1], h⟩
    · cases h
theorem atI_ix {α : Type} {xs : List α} {p : Int} {j : Nat} {r : α} (h : ixN xs.length p = some j) (h2 : xs[j]? = some r) : atI xs p = some r := by
  unfold atI; rw [h]; exact h2
section
variable {X : Cx} {c : Ct} {cf : Cf} {k : Ck} {a b : E} {ea eb : Expr}
/-- the inner list's address, in the heap behind -/
theorem StR.own2 {F0 H0 F H : Hp} {σ : L2.St} {ρ : Env} {R : List D} {i : Nat} {rs : List D} (S : StR c F0 H0 F H σ ρ R) (h : ρ[i]? = some (.own2 (.lst rs))) : ∃ (y : Addr) (as : List Addr), σ[i]? = some (some (.ref y)) ∧ H y = some (.lst (as.map V.ref)) ∧ OwnA c H0 F y ∧ as.length = rs.length ∧ (y :: as).Nodup ∧
    ∀ (j : Nat) (b : Addr) (r : D), as[j]? = some b → rs[j]? = some r → (∃ ds, r = .lst ds) ∧ OwnD c F H r b ∧ OwnA c H0 F b := by
  obtain ⟨fp, h1, h2⟩ := S.fp
  obtain ⟨y, as, rs', k1, k2, k3, k4, k5, k6, k7, k8⟩ := h1 i _ h
  cases k3
  exact ⟨y, as, k4, k5, k6, k7, by rw [← k1]; exact k2, k8⟩
theorem ge_ix2 {i : Nat} {x : Str} {p1 p2 p3 : Pos} (hN : X.N[i]? = some x) (hv : Vis X.env.scope x) (hd : (x == ("__debug__" : Str)) = false) (hcd : (x == ("__classdict__" : Str)) = false) (ha : PE X ea (tE c cf a)) (hb : PE X eb (tE c cf b)) (h1 : PlainIx ea) (h2 : PlainIx eb) :
    GE X c cf (.ix2 i a b) (.Subscript (.Subscript (.Name x p1) ea p2) eb p3) := by
  refine GE.of (PE.imp (pe_ix ix_list (pe_ix ix_list (pe_var hN hv hd hcd) ha h1) hb h2) fun σ H Q h => ?_) (fun j => by simp) fun _ => rfl
  obtain ⟨F0, H0, F, ρ, R, d, R', S, ev, q⟩ := h
  simp only [evE] at ev
  obtain ⟨xd, R1, e1, e2⟩ := bnd_ok ev
  obtain ⟨yd, R2, e3, e4⟩ := bnd_ok e2
  cases hs : ρ[i]? with
  | none => rw [hs] at e4; cases e4
  | some sl =>
    rw [hs] at e4
    cases sl with
    | own2 z =>
      cases z with
      | lst rs =>
        cases xd with
        | int p =>
          cases yd with
          | int qi =>
                dsimp only at e4
                cases hg : getI rs p with
                | none => rw [hg] at e4; cases e4
                | some r0 =>
                  rw [hg] at e4
                  cases r0 with
                  | lst xs =>
                    dsimp only at e4
                    obtain ⟨e5, rfl⟩ := lft_ok e4
                    obtain ⟨y, as, s1, s2, s3, s4, s5, s6⟩ := S.own2 hs
                    obtain ⟨j, j1, j2⟩ := getI_ix hg
                    have hjl := (List.getElem?_eq_some_iff.mp j2).1
                    obtain ⟨bb, hbb⟩ : ∃ bb, as[j]? = some bb := ⟨_, List.getElem?_eq_getElem (by rw [s4]; exact hjl)⟩
                    obtain ⟨_, t2, t3⟩ := s6 j bb _ hbb j2
                    refine ⟨.ref y, s1, F0, H0, F, ρ, R, _, R1, S, e1, fun F1 H1 v ex r rv => ?_⟩
                    cases (show v = _ from rv)
                    refine ⟨y, as.map V.ref, p, .ref bb, rfl, rfl, SqL.of (ex.h _ _ s2 s3.2.1), atI_ix (by rw [List.length_map, s4]; exact j1) (by rw [List.getElem?_map, hbb]; rfl), ?_⟩
                    refine ⟨F0, H0, F1, ρ, R1, _, _, S.step ex r, e3, fun F2 H2 w ex2 r2 rw' => ?_⟩
                    cases (show w = _ from rw')
                    have t2' := (t2.ext ex t3.2.1).ext ex2 t3.2.1
                    obtain ⟨us, k4, k5⟩ := t2'
                    obtain ⟨z, hz, rz⟩ := getI_rel k5 e5
                    exact ⟨bb, us, qi, z, rfl, rfl, SqL.of k4, getI_atI _ _ hz, q F2 H2 z (ex.trans ex2 r) r2 rz⟩
                  | _ => cases e4
          | _ => cases e4
        | _ => cases e4
      | _ => cases e4
    | _ => cases e4
theorem isNil_eq {b : E} (h : isNil b = true) : b = .lst [] := by
  unfold isNil at h
  split at h
  · rfl
  · cases h
theorem ge_orT {pos : Pos} (C : Cok X c) (hn : b = .lst []) (ha : GE X c cf a ea) (hb : GE X c cf b eb) : GE X c cf (.orT a b) (.BoolOp .Or [ea, eb] pos) := by
  subst hn
  have hv : PE X (.BoolOp .Or [ea, eb] pos) (tE c cf (.orT a (.lst []))) := by
    refine PE.imp (pe_orT ha.v (pe_one hb.v)) fun σ H Q h => ?_
    obtain ⟨F0, H0, F, ρ, R, d, R', S, ev, q⟩ := h
    simp only [evE] at ev
    obtain ⟨x, R1, e1, e2⟩ := bnd_ok ev
    obtain ⟨t, R2, e3, e4⟩ := bnd_ok e2
    obtain ⟨e5, rfl⟩ := lft_ok e3
    refine ⟨F0, H0, F, ρ, R, x, _, S, e1, fun F1 H1 vx ex1 r1 rd => ⟨t, ?_, ?_⟩⟩
    · cases x with
      | non =>
        simp only [RelD] at rd
        subst rd
        cases e5; rfl
      | lst xs =>
        simp only [RelD] at rd
        obtain ⟨p, us, rfl, hp, ru⟩ := rd
        cases e5
        refine .inl ⟨us, ?_, ?_⟩
        · exact SqL.of (ex1.s _ _ hp)
        · have := ru.length
          cases xs <;> cases us <;> first | rfl | cases this
      | _ => cases e5
    · cases t with
      | true =>
        rw [if_pos rfl] at e4 ⊢
        obtain ⟨rfl, rfl⟩ := ret_ok e4
        exact q F1 H1 vx ex1 r1 rd
      | false =>
        rw [if_neg (by simp)] at e4 ⊢
        exact ⟨F0, H0, F1, ρ, _, d, R', S.step ex1 r1, by simp only [evE]; exact e4, q.ext ex1 r1⟩
  refine ⟨hv, PE.imp hv (tO_tE fun i => by simp), ⟨fun pins s σ H Q I h => ?_⟩⟩
  exfalso
  obtain ⟨F0, H0, F, ρ, R, k, R', S, ev, q⟩ := h
  obtain ⟨d, R2, e0, e9⟩ := bnd_ok ev
  obtain ⟨rfl, rfl⟩ := asB_ok e9
  simp only [evE] at e0
  obtain ⟨x, R1, e1, e2⟩ := bnd_ok e0
  obtain ⟨t, R2, e3, e4⟩ := bnd_ok e2
  obtain ⟨e5, rfl⟩ := lft_ok e3
  cases t with
  | true =>
    rw [if_pos rfl] at e4
    obtain ⟨rfl, rfl⟩ := ret_ok e4
    cases e5
  | false =>
    rw [if_neg (by simp)] at e4
    simp only [evEs] at e4
    cases e4
end
end Pu
end

section
set_option autoImplicit false
set_option linter.all false
set_option maxRecDepth 100000
set_option maxHeartbeats 4000000
set_option Elab.async false
namespace Pu
open PySem PySem.Spec PyProof.Rows L2
theorem strOk_of {x : Str} (h : strOkB x = true) : StrOk x := by
  unfold strOkB at h
  simp only [Bool.and_eq_true, decide_eq_true_eq] at h
  exact h
section
variable {c : Ct} {cf : Cf}
theorem match_po {X : Cx} {a : E} {o : Option Expr} {k : Ck} (h : (match o with | none => isNon a | some e => chkE a k e) = true) (hv : ∀ e, o = some e → chkE a k e = true → PE X e (tO c cf a)) : PO X o (tOP c cf a) := by
  cases o with
  | none => rw [isNon_of h]; exact po_no
  | some e => exact po_e (hv e rfl h)
theorem fnC_of {X : Cx} {k : Ck} {x : Str} {d : D} (K : Kx X c cf k) (h : fnC k x d = true) : CstOk X c x d := by
  unfold fnC at h
  cases d <;> try cases h
  rename_i g
  obtain ⟨n, fd, ps, Fn, hr, hm, hk, hb⟩ := K.fns x g (of_decide_eq_true h)
  exact ⟨_, .ref (c.fa g), hm, rfl, fun F => by simp only [RelD]⟩
theorem intsL_pa {X : Cx} : ∀ {as : List E} {es : List Expr}, intsL as es = true → PA X es (tAs c cf as)
  | [], [], _ => ga_nil
  | [], _ :: _, h => by simp [intsL] at h
  | _ :: _, [], h => by unfold intsL at h; split at h <;> first | cases h; done | simp_all
  | a :: as, e :: es, h => by
    unfold intsL at h
    split at h <;> first
      | (cases h; done)
      | skip
    · simp_all
    · rename_i h1 h2
      cases h1
      cases h2
      rw [Bool.and_eq_true] at h
      cases of_decide_eq_true h.1
      exact ga_cons (ge_int (X := X)).v (intsL_pa h.2) rfl
theorem disp_ge {X : Cx} {o : Op1} {a : E} {e : Expr} (h : dispB o a e = true) : GE X c cf (.o1 o a) e := by
  unfold dispB at h
  split at h
  · rw [Bool.and_eq_true] at h
    exact GE.of (gf_dispN (of_decide_eq_true h.1) (intsL_pa h.2)) (fun i => by simp) fun _ => rfl
  · cases h
mutual
theorem chk_ge : ∀ (a : E) (X : Cx) (k : Ck) (e : Expr), Kx X c cf k → chkE a k e = true → GE X c cf a e
  | .var i, X, k, e, K, h => by
    simp only [chkE] at h
    split at h <;> first | cases h; done | skip
    simp only [Bool.and_eq_true, decide_eq_true_eq] at h
    obtain ⟨h1, h2, _⟩ := okName_of h.2
    exact ge_var (by rw [K.N]; exact h.1.1) (visB_of K h.1.2) h1 h2
  | .non, X, k, e, K, h => by
    simp only [chkE] at h
    split at h <;> first | cases h; done | exact ge_non
  | .bl b, X, k, e, K, h => by
    simp only [chkE] at h
    split at h <;> first | cases h; done | skip
    cases eq_of_beq h
    exact ge_bl
  | .int i, X, k, e, K, h => by
    simp only [chkE] at h
    split at h <;> first | cases h; done | skip
    cases of_decide_eq_true h
    exact ge_int
  | .str x, X, k, e, K, h => by
    simp only [chkE] at h
    split at h <;> first | cases h; done | skip
    rw [Bool.and_eq_true] at h
    cases of_decide_eq_true h.1
    exact ge_str (strOk_of h.2)
  | .cst x d, X, k, e, K, h => by
    simp only [chkE] at h
    split at h <;> first | cases h; done | skip
    simp only [Bool.and_eq_true, decide_eq_true_eq] at h
    obtain ⟨⟨⟨rfl, hg⟩, hn⟩, hc⟩ := h
    rw [Bool.or_eq_true] at hc
    rcases hc with hc | hc
    · exact ge_cst (glB_of K hg) (K.cst _ _ hc) (okName_of hn).1
    · exact ge_cst (glB_of K hg) (fnC_of K hc) (okName_of hn).1
  | .tup as, X, k, e, K, h => by
    simp only [chkE] at h
    split at h <;> first | cases h; done | skip
    rw [Bool.and_eq_true] at h
    exact GE.of (gf_tup (of_decide_eq_true h.1) (chk_ga as X k _ K h.2).1) (fun i => by simp) fun _ => rfl
  | .lst as, X, k, e, K, h => by
    simp only [chkE] at h
    split at h <;> first | cases h; done | skip
    rw [Bool.and_eq_true] at h
    exact GE.of (tE_of_tG (gf_lst (of_decide_eq_true h.1) (chk_ga as X k _ K h.2).1)) (fun i => by simp) fun _ => rfl
  | .o1 o a, X, k, e, K, h => by
    simp only [chkE] at h
    split at h
    · rename_i e1 h1
      rw [Bool.and_eq_true] at h
      exact arg1_ge K h1 h.1 (chk_ge a X k e1 K h.2)
    · split at h
      · rename_i e1 h1
        rw [Bool.and_eq_true] at h
        obtain ⟨p, q⟩ := arg1b_gf K h1 h.1 (chk_ge a X k e1 K h.2)
        exact ge_o1 p q
      · exact disp_ge h
  | .o2 o a b, X, k, e, K, h => by
    simp only [chkE] at h
    split at h
    · rename_i e1 e2 h1
      simp only [Bool.and_eq_true] at h
      exact arg2_ge K h1 h.1.1.1 h.1.1.2 (chk_ge a X k e1 K h.1.2) (chk_ge b X k e2 K h.2)
    · cases h
  | .o3 o a b d, X, k, e, K, h => by
    simp only [chkE] at h
    split at h <;> first | cases h; done | skip
    · simp only [Bool.and_eq_true] at h
      exact ge_slice K.ok (chk_ge a X k _ K h.1.1.2) (match_po h.1.2 fun e _ q => (chk_ge b X k e K q).o) (match_po h.2 fun e _ q => (chk_ge d X k e K q).o)
    · simp only [Bool.and_eq_true, decide_eq_true_eq] at h
      obtain ⟨⟨⟨⟨⟨⟨⟨⟨rfl, nc⟩, hl⟩, o2⟩, o3⟩, ht⟩, q1⟩, q2⟩, q3⟩ := h
      exact ge_getd K.ok (chk_ge a X k _ K q1) (chk_ge b X k _ K q2) (chk_ge d X k _ K q3) ht (noCall_base nc) (by rw [star_cons (okE_star o2), star_cons (okE_star o3)]; rfl) hl
  | .chain o p a b d, X, k, e, K, h => by
    simp only [chkE] at h
    split at h <;> first | cases h; done | skip
    simp only [Bool.and_eq_true] at h
    obtain ⟨⟨⟨⟨⟨⟨⟨c1, c2⟩, o1⟩, o2⟩, o3⟩, q1⟩, q2⟩, q3⟩ := h
    obtain ⟨f, hf, hf'⟩ := cmpOf_op K.ok c1
    obtain ⟨g, hg, hg'⟩ := cmpOf_op K.ok c2
    exact ge_chain hf hg hf' hg' (okE_last o3) (chk_ge a X k _ K q1) (chk_ge b X k _ K q2) (chk_ge d X k _ K q3)
  | .and a b, X, k, e, K, h => by
    simp only [chkE] at h
    split at h <;> first | cases h; done | skip
    rename_i es p
    rw [Bool.and_eq_true] at h
    have ha := chk_ge a X k _ K h.1
    have h2 := h.2
    clear h
    split at h2
    · exact (gb_and ha (gb_and1 (chk_ge b X k _ K h2))).ge fun i => by simp
    · exact (gb_and ha (chk_ge b X k _ K h2).gb).ge fun i => by simp
    · cases h2
  | .or a b, X, k, e, K, h => by
    simp only [chkE] at h
    split at h <;> first | cases h; done | skip
    rename_i es p
    rw [Bool.and_eq_true] at h
    have ha := chk_ge a X k _ K h.1
    have h2 := h.2
    clear h
    split at h2
    · exact (gb_or ha (gb_or1 (chk_ge b X k _ K h2))).ge fun i => by simp
    · exact (gb_or ha (chk_ge b X k _ K h2).gb).ge fun i => by simp
    · cases h2
  | .orT a b, X, k, e, K, h => by
    simp only [chkE] at h
    split at h <;> first | cases h; done | skip
    simp only [Bool.and_eq_true] at h
    exact ge_orT K.ok (isNil_eq h.1.1) (chk_ge a X k _ K h.1.2) (chk_ge b X k _ K h.2)
  | .ite t a b, X, k, e, K, h => by
    simp only [chkE] at h
    split at h <;> first | cases h; done | skip
    simp only [Bool.and_eq_true] at h
    exact ge_ite (chk_ge t X k _ K h.1.1) (chk_ge a X k _ K h.1.2) (chk_ge b X k _ K h.2)
  | .call g as, X, k, e, K, h => by
    simp only [chkE] at h
    split at h <;> first | cases h; done | skip
    simp only [Bool.and_eq_true, decide_eq_true_eq] at h
    obtain ⟨p, q⟩ := chk_ga as X k _ K h.2
    exact ge_call (K.fns _ _ h.1.1.1) (glB_of K h.1.1.2) (okName_of h.1.2).1 p q
  | .calle f gs as, X, k, e, K, h => by
    simp only [chkE] at h
    split at h <;> first | cases h; done | skip
    simp only [Bool.and_eq_true, List.all_eq_true, decide_eq_true_eq] at h
    obtain ⟨p, q⟩ := chk_ga as X k _ K h.2
    exact ge_calle h.1.1.1 (fun p hp => K.fns _ _ (h.1.2 p hp)) (chk_ge f X k _ K h.1.1.2) p q
  | .comp elt t kk a b cn own, X, k, e, K, h => by
    simp only [chkE] at h
    split at h <;> first | cases h; done | skip
    rename_i e tg it ifs ia scope pos
    simp only [Bool.and_eq_true, decide_eq_true_eq] at h
    obtain ⟨⟨⟨⟨⟨⟨⟨rfl, h1⟩, h2⟩, h3⟩, h4⟩, h5⟩, h6⟩, h7⟩ := h
    have hi : GI X c cf kk a b tg it := by
      split at h5
      · rename_i e1 o2 ha
        simp only [Bool.and_eq_true] at h5
        refine argIt_gi K ha h5.1.1 (chk_ge a X k _ K h5.1.2) ?_
        have h6 := h5.2
        split at h6
        · exact .inl ⟨rfl, isNon_of h6⟩
        · rw [Bool.and_eq_true] at h6
          exact .inr ⟨_, rfl, h6.1, chk_ge b X k _ K h6.2⟩
      · cases h5
    have hc : (ifs = [] ∧ cn = .bl true) ∨ ∃ f, ifs = [f] ∧ ∀ X', Kx X' c cf (k.blk scope) → GE X' c cf cn f := by
      split at h6
      · exact .inl ⟨rfl, isTru_of h6⟩
      · exact .inr ⟨_, rfl, fun X' K' => chk_ge cn X' _ _ K' h6⟩
      · cases h6
    exact GE.of (tE_of_tG (chk_comp K h1 h2 h3 h4 hi hc fun X' K' => chk_ge elt X' _ _ K' h7).1) (fun i => by simp) fun _ => rfl
  | .dnew n, X, k, e, K, h => by
    simp only [chkE] at h
    split at h <;> first | cases h; done | skip
    subst h
    exact GE.of (tE_of_tG (gf_dnew K.ok)) (fun i => by simp) fun _ => rfl
  | .ddisp ks es, X, k, e, K, h => by
    simp [chkE] at h
  | .fld i n, X, k, e, K, h => by
    simp [chkE] at h
  | .ix2 i a b, X, k, e, K, h => by
    simp only [chkE] at h
    split at h <;> first | cases h; done | skip
    simp only [Bool.and_eq_true, decide_eq_true_eq] at h
    obtain ⟨⟨⟨⟨⟨⟨h1, h2⟩, h3⟩, h4⟩, h5⟩, h6⟩, h7⟩ := h
    obtain ⟨n1, n2, _⟩ := okName_of h3
    exact ge_ix2 (by rw [K.N]; exact h1) (visB_of K h2) n1 n2 (chk_ge a X k _ K h6).v (chk_ge b X k _ K h7).v (ixB_plain h4) (ixB_plain h5)
theorem chk_ga : ∀ (as : List E) (X : Cx) (k : Ck) (es : List Expr), Kx X c cf k → chkEs as k es = true → PA X es (tAs c cf as) ∧ es.all noStar = true
  | [], X, k, [], K, h => ⟨ga_nil, rfl⟩
  | [], X, k, _ :: _, K, h => by simp [chkEs] at h
  | _ :: _, X, k, [], K, h => by simp [chkEs] at h
  | a :: as, X, k, e :: es, K, h => by
    simp only [chkEs, Bool.and_eq_true] at h
    obtain ⟨p, q⟩ := chk_ga as X k es K h.2
    have hs := okE_star h.1.1
    exact ⟨ga_cons (chk_ge a X k e K h.1.2).v p (star_cons hs), by rw [List.all_cons, hs, q]; rfl⟩
end
/-- a comprehension: as a value, and where its list goes to a local name -/
theorem chk_lc {elt : E} {tt : Tg} {kk : ItK} {a b cn : E} {own : List Nat} (X : Cx) (k : Ck) (e : Expr) (K : Kx X c cf k) (h : chkE (.comp elt tt kk a b cn own) k e = true) :
    PE X e (tG c cf (.comp elt tt kk a b cn own)) ∧ ∀ {i : Nat} {y : Str} {py spos : Pos}, X.N[i]? = some y → X.env.scope.names.lookup y = some .local → swapsWith e (some (.Name y py)) spos.line X.env = pure true →
      PS X (.Assign [.Name y py] e spos) (tAsg (tG c cf (.comp elt tt kk a b cn own)) (gName i)) := by
  simp only [chkE] at h
  split at h <;> first | cases h; done | skip
  rename_i e tg it ifs ia scope pos
  simp only [Bool.and_eq_true, decide_eq_true_eq] at h
  obtain ⟨⟨⟨⟨⟨⟨⟨rfl, h1⟩, h2⟩, h3⟩, h4⟩, h5⟩, h6⟩, h7⟩ := h
  have hi : GI X c cf kk a b tg it := by
    split at h5
    · rename_i e1 o2 ha
      simp only [Bool.and_eq_true] at h5
      refine argIt_gi K ha h5.1.1 (chk_ge a X k _ K h5.1.2) ?_
      have h6 := h5.2
      split at h6
      · exact .inl ⟨rfl, isNon_of h6⟩
      · rw [Bool.and_eq_true] at h6
        exact .inr ⟨_, rfl, h6.1, chk_ge b X k _ K h6.2⟩
    · cases h5
  have hc : (ifs = [] ∧ cn = .bl true) ∨ ∃ f, ifs = [f] ∧ ∀ X', Kx X' c cf (k.blk scope) → GE X' c cf cn f := by
    split at h6
    · exact .inl ⟨rfl, isTru_of h6⟩
    · exact .inr ⟨_, rfl, fun X' K' => chk_ge cn X' _ _ K' h6⟩
    · cases h6
  exact chk_comp K h1 h2 h3 h4 hi hc fun X' K' => chk_ge elt X' _ _ K' h7
/-- what is new may be kept apart -/
theorem chk_gf (a : E) (X : Cx) (k : Ck) (e : Expr) (K : Kx X c cf k) (h : chkE a k e = true) (hf : freshE a = true) : PE X e (tG c cf a) := by
  cases a <;> try (cases hf; done)
  · simp only [chkE] at h
    split at h <;> first | cases h; done | skip
    rw [Bool.and_eq_true] at h
    exact gf_lst (of_decide_eq_true h.1) (chk_ga _ X k _ K h.2).1
  · rename_i o a
    simp only [chkE] at h
    split at h
    · rename_i e1 h1
      rw [Bool.and_eq_true] at h
      exact arg1_gf K h1 h.1 (chk_ge a X k e1 K h.2) hf
    · split at h
      · rename_i e1 h1
        rw [Bool.and_eq_true] at h
        exact (arg1b_gf K h1 h.1 (chk_ge a X k e1 K h.2)).1
      · unfold dispB at h
        split at h
        · cases hf
        · cases h
  · rename_i o a b
    simp only [chkE] at h
    split at h
    · rename_i e1 e2 h1
      simp only [Bool.and_eq_true] at h
      exact arg2_gf K h1 (chk_ge a X k e1 K h.1.2) (chk_ge b X k e2 K h.2) hf
    · cases h
  · exact (chk_lc X k e K h).1
  · simp only [chkE] at h
    split at h <;> first | cases h; done | skip
    subst h
    exact gf_dnew K.ok
end
end Pu
end

section
set_option autoImplicit false
set_option linter.all false
set_option maxRecDepth 100000
set_option maxHeartbeats 4000000
set_option Elab.async false
namespace Pu
open PySem PySem.Spec PyProof.Rows L2

def post (c : Ct) (F0 H0 F : Hp) (D : Ends) : Fl → List Pu.D → Prop
  | .nx ρ', R' => ∀ F' H' σ', Sub F F' → StR c F0 H0 F' H' σ' ρ' R' → D.nx σ' H'
  | .rt d, R' => ∀ F' H' v, Ext c F0 H0 F' H' → RowR c F' H' R' → RelD c F' d v → D.rt v H'
  | .bk ρ', R' => ∀ F' H' σ', Sub F F' → StR c F0 H0 F' H' σ' ρ' R' → D.bk σ' H'
  | .ct ρ', R' => ∀ F' H' σ', Sub F F' → StR c F0 H0 F' H' σ' ρ' R' → D.ct σ' H'
theorem post.mono {c : Ct} {F0 H0 F F1 : Hp} {D : Ends} (s : Sub F F1) : ∀ {fl : Fl} {R : List Pu.D}, post c F0 H0 F D fl R → post c F0 H0 F1 D fl R
  | .nx _, _, h => fun F' H' σ' k S => h F' H' σ' (s.trans k) S
  | .rt _, _, h => h
  | .bk _, _, h => fun F' H' σ' k S => h F' H' σ' (s.trans k) S
  | .ct _, _, h => fun F' H' σ' k S => h F' H' σ' (s.trans k) S
def tS (c : Ct) (cf : Cf) (wh : Wh) (s : S) : TS := fun D σ H => ∃ F0 H0 F ρ R fl R', StR c F0 H0 F H σ ρ R ∧ exS cf wh s ρ R = .ok fl R' ∧ post c F0 H0 F D fl R'
def tSs (c : Ct) (cf : Cf) (wh : Wh) (ss : List S) : TS := fun D σ H => ∃ F0 H0 F ρ R fl R', StR c F0 H0 F H σ ρ R ∧ exSs cf wh ss ρ R = .ok fl R' ∧ post c F0 H0 F D fl R'
/-- a while that is told by its turns -/
def WhOk (wh : Wh) : Prop := ∀ c b ρ R fl R', wh c b ρ R = .ok fl R' → ∃ n, whF n c b ρ R = .ok fl R'
theorem whP_ok : WhOk whP := by
  intro c b ρ R fl R' h
  unfold whP at h
  split at h
  · exact ⟨_, h⟩
  · cases h
section
variable {X : Cx} {c : Ct} {cf : Cf} {wh : Wh} {s : S} {ss : List S} {st : Stmt} {sts : List Stmt} {a : E} {e : Expr} {pos : Pos}
theorem gs_nil : PSs X [] (tSs c cf wh []) := PSs.imp pss_nil fun D σ H h => by
  obtain ⟨F0, H0, F, ρ, R, fl, R', S, ev, q⟩ := h
  simp only [exSs] at ev
  obtain ⟨rfl, rfl⟩ := ret_ok ev
  exact q F H σ Sub.refl S
theorem gs_cons (h1 : PS X st (tS c cf wh s)) (h2 : PSs X sts (tSs c cf wh ss)) : PSs X (st :: sts) (tSs c cf wh (s :: ss)) := PSs.imp (pss_cons h1 h2) fun D σ H h => by
  obtain ⟨F0, H0, F, ρ, R, fl, R', S, ev, q⟩ := h
  simp only [exSs] at ev
  obtain ⟨f1, R1, e1, e2⟩ := bnd_ok ev
  refine ⟨F0, H0, F, ρ, R, f1, R1, S, e1, ?_⟩
  cases f1 with
  | nx ρ1 => exact fun F' H' σ' k S' => ⟨F0, H0, F', ρ1, R1, fl, R', S', e2, q.mono k⟩
  | rt d => obtain ⟨rfl, rfl⟩ := ret_ok e2; exact q
  | bk ρ1 => obtain ⟨rfl, rfl⟩ := ret_ok e2; exact q
  | ct ρ1 => obtain ⟨rfl, rfl⟩ := ret_ok e2; exact q

open Classical in
noncomputable def frzA (F H : Hp) (l : List Addr) : Hp := fun x => if x ∈ l then H x else F x
theorem frzA_in {F H : Hp} {l : List Addr} {x : Addr} (h : x ∈ l) : frzA F H l x = H x := if_pos h
theorem frzA_out {F H : Hp} {l : List Addr} {x : Addr} (h : x ∉ l) : frzA F H l x = F x := if_neg h
theorem frzA_sub {F H : Hp} {l : List Addr} (h : ∀ x ∈ l, F x = none) : Sub F (frzA F H l) := fun x o e => by
  by_cases hx : x ∈ l
  · rw [h x hx] at e; cases e
  · rw [frzA_out hx]; exact e
theorem OwnD.frz {F H F1 : Hp} {d : D} {x : Addr} (s : Sub F F1) (e : F1 x = H x) (h : OwnD c F H d x) : RelD c F1 d (.ref x) := by
  cases d <;> try exact False.elim h
  · obtain ⟨xs, k, r⟩ := h
    simp only [RelD]
    exact ⟨x, xs, rfl, e.trans k, RelDs.mono s _ _ r⟩
  · simp only [RelD]
    exact ⟨x, rfl, DtAt.imp h (fun u q => e.trans q) (fun xs q => RelDs.mono s _ xs q) (fun xs q => RelDs.mono s _ xs q)⟩
  · obtain ⟨xs, k, l, r⟩ := h
    simp only [RelD]
    exact ⟨x, xs, rfl, e.trans k, l, RelDs.mono s _ _ r⟩
theorem StR.frz {F0 H0 F H : Hp} {σ : L2.St} {ρ ρ' : Env} {R R' : List D} {i : Nat} (S : StR c F0 H0 F H σ ρ R) (h : exS cf wh (.frz i) ρ R = .ok (.nx ρ') R') : ∃ F1, Sub F F1 ∧ StR c F0 H0 F1 H σ ρ' R' := by
  simp only [exS] at h
  -- one step: the footprint l of slot i goes into F
  have step : ∀ (d : D) (fp : Nat → List Addr), (∀ (i : Nat) (s : Slot), ρ[i]? = some s → SlotR c H0 F H σ[i]? (fp i) s) → (∀ (i j : Nat) (a : Addr), i ≠ j → a ∈ fp i → a ∉ fp j) →
      (∀ x ∈ fp i, OwnA c H0 F x) → (∃ v, σ[i]? = some (some v) ∧ RelD c (frzA F H (fp i)) d v) → i < ρ.length → StR c F0 H0 (frzA F H (fp i)) H σ (ρ.set i (.val d)) R := by
    intro d fp h1 h2 hl hv hi
    have s1 : Sub F (frzA F H (fp i)) := frzA_sub fun x hx => (hl x hx).1
    have hout : ∀ x, x ∉ fp i → frzA F H (fp i) x = F x := fun x hx => frzA_out hx
    refine ⟨fun x o e => ?_, ⟨S.ext.f.trans s1, S.ext.h, fun x o e => ?_, fun x o e => ?_⟩, by rw [List.length_set]; exact S.len, ⟨fun j => if j = i then [] else fp j, fun j s hs => ?_, fun j k y hjk hy => ?_⟩, S.row.mono s1 ?_⟩
    · by_cases hx : x ∈ fp i
      · rw [frzA_in hx] at e; exact e
      · rw [frzA_out hx] at e; exact S.sub x o e
    · by_cases hx : x ∈ fp i
      · exact .inr (hl x hx).2.2
      · rw [frzA_out hx] at e; exact S.ext.n x o e
    · by_cases hx : x ∈ fp i
      · rw [frzA_in hx] at e; exact e
      · rw [frzA_out hx] at e; exact S.sub x o e
    · rw [List.getElem?_set] at hs
      by_cases e : i = j
      · subst e
        rw [if_pos rfl, if_pos hi] at hs
        cases hs
        exact ⟨if_pos rfl, hv⟩
      · rw [if_neg e] at hs
        simp only [if_neg (Ne.symm e)]
        have k := h1 j s hs
        have na : ∀ y ∈ fp j, y ∉ fp i := fun y hy hy' => h2 i j y e hy' hy
        cases s with
        | none => exact k
        | val d => obtain ⟨k1, v, k2, k3⟩ := k; exact ⟨k1, v, k2, RelD.mono s1 _ _ k3⟩
        | own d =>
          obtain ⟨y, k1, k2, k3, k4⟩ := k
          exact ⟨y, k1, k2, k3.mono s1 fun o q => q, by rw [hout y (na y (by rw [k1]; simp))]; exact k4.1, k4.2⟩
        | own2 d =>
          obtain ⟨y, as, rs, k1, k2, k3, k4, k5, k6, k7, k8⟩ := k
          refine ⟨y, as, rs, k1, k2, k3, k4, k5, ⟨by rw [hout y (na y (by rw [k1]; simp))]; exact k6.1, k6.2⟩, k7, fun m b r hb hr => ?_⟩
          obtain ⟨t1, t2, t3⟩ := k8 m b r hb hr
          exact ⟨t1, t2.mono s1 fun o q => q, by rw [hout b (na b (by rw [k1]; exact List.mem_cons_of_mem _ (List.mem_of_getElem? hb)))]; exact t3.1, t3.2⟩
    · by_cases e : j = i
      · simp [e] at hy
      · by_cases e2 : k = i
        · simp [e2]
        · simp only [if_neg e] at hy
          simp only [if_neg e2]
          exact h2 j k y hjk hy
    · rw [hout _ fun hx => (hl _ hx).2.1 rfl]
      exact row_none S.row
  obtain ⟨fp, h1, h2⟩ := S.fp
  cases hs : ρ[i]? with
  | none => rw [hs] at h; obtain ⟨e, rfl⟩ := ret_ok h; cases e; exact ⟨F, Sub.refl, S⟩
  | some s =>
    have hi := (List.getElem?_eq_some_iff.mp hs).1
    rw [hs] at h
    cases s with
    | none => obtain ⟨e, rfl⟩ := ret_ok h; cases e; exact ⟨F, Sub.refl, S⟩
    | val d => obtain ⟨e, rfl⟩ := ret_ok h; cases e; exact ⟨F, Sub.refl, S⟩
    | own d =>
      obtain ⟨e, rfl⟩ := ret_ok h
      cases e
      obtain ⟨y, k1, k2, k3, k4⟩ := h1 i _ hs
      have hl : ∀ x ∈ fp i, OwnA c H0 F x := fun x hx => by rw [k1] at hx; rw [List.mem_singleton.mp hx]; exact k4
      exact ⟨_, frzA_sub fun x hx => (hl x hx).1, step d fp h1 h2 hl ⟨_, k2, k3.frz (frzA_sub fun x hx => (hl x hx).1) (frzA_in (by rw [k1]; simp))⟩ hi⟩
    | own2 d =>
      obtain ⟨e, rfl⟩ := ret_ok h
      cases e
      obtain ⟨y, as, rs, k1, k2, rfl, k4, k5, k6, k7, k8⟩ := h1 i _ hs
      have hl : ∀ x ∈ fp i, OwnA c H0 F x := fun x hx => by
        rw [k1] at hx
        rcases List.mem_cons.mp hx with rfl | hx
        · exact k6
        · obtain ⟨j, hj⟩ := List.mem_iff_getElem?.mp hx
          have hjl : j < rs.length := by rw [← k7]; exact (List.getElem?_eq_some_iff.mp hj).1
          exact (k8 j x _ hj (List.getElem?_eq_getElem hjl)).2.2
      have s1 : Sub F (frzA F H (fp i)) := frzA_sub fun x hx => (hl x hx).1
      refine ⟨_, s1, step (.lst rs) fp h1 h2 hl ⟨_, k4, ?_⟩ hi⟩
      simp only [RelD]
      refine ⟨y, as.map V.ref, rfl, (frzA_in (by rw [k1]; simp)).trans k5, RelDs.of_get (by simp [k7]) fun j r x hr hx => ?_⟩
      rw [List.getElem?_map] at hx
      obtain ⟨b, hb, rfl⟩ := Option.map_eq_some_iff.mp hx
      obtain ⟨t1, t2, t3⟩ := k8 j b r hb hr
      exact t2.frz s1 (frzA_in (by rw [k1]; exact List.mem_cons_of_mem _ (List.mem_of_getElem? hb)))
theorem frz_nx {ρ : Env} {R R' : List D} {i : Nat} {fl : Fl} (h : exS cf wh (.frz i) ρ R = .ok fl R') : ∃ ρ', fl = .nx ρ' := by
  simp only [exS] at h
  cases hs : ρ[i]? with
  | none => rw [hs] at h; obtain ⟨e, _⟩ := ret_ok h; exact ⟨_, e.symm⟩
  | some s => rw [hs] at h; cases s <;> (obtain ⟨e, _⟩ := ret_ok h; exact ⟨_, e.symm⟩)
theorem gs_frz {i : Nat} (h2 : PSs X sts (tSs c cf wh ss)) : PSs X sts (tSs c cf wh (.frz i :: ss)) := PSs.imp h2 fun D σ H h => by
  obtain ⟨F0, H0, F, ρ, R, fl, R', S, ev, q⟩ := h
  simp only [exSs] at ev
  obtain ⟨f1, R1, e1, e2⟩ := bnd_ok ev
  obtain ⟨ρ', rfl⟩ := frz_nx e1
  obtain ⟨F1, s1, S1⟩ := S.frz e1
  exact ⟨F0, H0, F1, ρ', R1, fl, R', S1, e2, q.mono s1⟩

theorem gs_ret (he : PE X e (tE c cf a)) : PS X (.Return (some e) pos) (tS c cf wh (.retE a)) := PS.imp (ps_ret he) fun D σ H h => by
  obtain ⟨F0, H0, F, ρ, R, fl, R', S, ev, q⟩ := h
  simp only [exS] at ev
  obtain ⟨d, R1, e1, e2⟩ := bnd_ok ev
  obtain ⟨rfl, rfl⟩ := ret_ok e2
  exact ⟨F0, H0, F, ρ, R, d, R1, S, e1, fun F' H' v ex r rv => q F' H' v (S.ext.trans ex S.row) r rv⟩
theorem gs_retN : PS X (.Return none pos) (tS c cf wh (.retE .non)) := PS.imp ps_retN fun D σ H h => by
  obtain ⟨F0, H0, F, ρ, R, fl, R', S, ev, q⟩ := h
  simp only [exS] at ev
  obtain ⟨d, R1, e1, e2⟩ := bnd_ok ev
  obtain ⟨rfl, rfl⟩ := ret_ok e2
  obtain ⟨rfl, rfl⟩ := non_ok e1
  exact q F H .non S.ext S.row (by simp only [RelD])
theorem gs_expr (he : PE X e (tE c cf a)) (hs : swapsWith e none pos.line X.env = pure false) : PS X (.Expr e pos) (tS c cf wh (.expr a)) := PS.imp (ps_expr he hs) fun D σ H h => by
  obtain ⟨F0, H0, F, ρ, R, fl, R', S, ev, q⟩ := h
  simp only [exS] at ev
  obtain ⟨d, R1, e1, e2⟩ := bnd_ok ev
  obtain ⟨rfl, rfl⟩ := ret_ok e2
  exact ⟨F0, H0, F, ρ, R, d, R1, S, e1, fun F' H' v ex r rv => q F' H' σ ex.f (S.step ex r)⟩
theorem gs_pass : PS X (.Pass pos) (tS c cf wh .pass) := PS.imp ps_pass fun D σ H h => by
  obtain ⟨F0, H0, F, ρ, R, fl, R', S, ev, q⟩ := h
  simp only [exS] at ev
  obtain ⟨rfl, rfl⟩ := ret_ok ev
  exact q F H σ Sub.refl S
theorem gs_brk : PS X (.Break pos) (tS c cf wh .brk) := PS.imp ps_break fun D σ H h => by
  obtain ⟨F0, H0, F, ρ, R, fl, R', S, ev, q⟩ := h
  simp only [exS] at ev
  obtain ⟨rfl, rfl⟩ := ret_ok ev
  exact q F H σ Sub.refl S
theorem gs_cont : PS X (.Continue pos) (tS c cf wh .cont) := PS.imp ps_continue fun D σ H h => by
  obtain ⟨F0, H0, F, ρ, R, fl, R', S, ev, q⟩ := h
  simp only [exS] at ev
  obtain ⟨rfl, rfl⟩ := ret_ok ev
  exact q F H σ Sub.refl S
theorem gs_raise {n : Nat} {es : List E} : PS X st (tS c cf wh (.raise n es)) := PS.imp ps_never fun D σ H h => by
  obtain ⟨F0, H0, F, ρ, R, fl, R', S, ev, q⟩ := h
  simp only [exS] at ev
  obtain ⟨ds, R1, e1, e2⟩ := bnd_ok ev
  cases e2
theorem gs_if {b1 b2 : List Stmt} {s1 s2 : List Pu.S} (hc : PT X e (tT c cf a)) (h1 : PSs X b1 (tSs c cf wh s1)) (h2 : PSs X b2 (tSs c cf wh s2)) : PS X (.If e b1 b2 pos) (tS c cf wh (.ifS a s1 s2)) := PS.imp (ps_if hc h1 h2) fun D σ H h => by
  obtain ⟨F0, H0, F, ρ, R, fl, R', S, ev, q⟩ := h
  simp only [exS] at ev
  obtain ⟨t, R1, e1, e2⟩ := bnd_ok ev
  refine ⟨F0, H0, F, ρ, R, t, R1, S, e1, fun F' H' ex r => ?_⟩
  cases t with
  | true => rw [if_pos rfl] at e2 ⊢; exact ⟨F0, H0, F', ρ, R1, fl, R', S.step ex r, e2, q.mono ex.f⟩
  | false => rw [if_neg (by simp)] at e2 ⊢; exact ⟨F0, H0, F', ρ, R1, fl, R', S.step ex r, e2, q.mono ex.f⟩

theorem gs_while {b1 : List Stmt} {s1 : List Pu.S} (hw : WhOk wh) (hp : PassesOwn (model X.prog X.w) X.A X.env X.xe) (hc : PT X e (tT c cf a)) (h1 : PSs X b1 (tSs c cf wh s1)) : PS X (.While e b1 [] pos) (tS c cf wh (.whileS a s1)) := PS.imp (ps_while hp hc h1) fun D σ H h => by
  obtain ⟨F0, H0, F, ρ, R, fl, R', S, ev, q⟩ := h
  simp only [exS] at ev
  obtain ⟨n, ev⟩ := hw _ _ _ _ _ _ ev
  refine ⟨fun m σ H => ∃ F1 ρ R, Sub F F1 ∧ StR c F0 H0 F1 H σ ρ R ∧ whF m (fun ρ => bnd (evE cf a ρ) asB) (fun ρ => exSs cf wh s1 ρ) ρ R = .ok fl R', ⟨n, F, ρ, R, Sub.refl, S, ev⟩, ?_⟩
  rintro m σ1 H1 ⟨F1, ρ1, R1, s1', S1, ev1⟩
  cases m with
  | zero => cases ev1
  | succ m =>
    unfold whF at ev1
    obtain ⟨t, R2, e1, e2⟩ := bnd_ok ev1
    refine ⟨F0, H0, F1, ρ1, R1, t, R2, S1, e1, fun F2 H2 ex r => ?_⟩
    have S2 := S1.step ex r
    cases t with
    | false =>
      rw [if_neg (by simp)] at e2
      obtain ⟨rfl, rfl⟩ := ret_ok e2
      exact q F2 H2 σ1 (s1'.trans ex.f) S2
    | true =>
      rw [if_pos rfl] at e2
      dsimp only
      rw [if_pos rfl]
      obtain ⟨f3, R3, e3, e4⟩ := bnd_ok e2
      refine ⟨fun σ' H' => ∃ F1 ρ R, Sub F F1 ∧ StR c F0 H0 F1 H' σ' ρ R ∧ whF m (fun ρ => bnd (evE cf a ρ) asB) (fun ρ => exSs cf wh s1 ρ) ρ R = .ok fl R', fun σ' H' w => ⟨m, Nat.lt_succ_self _, w⟩, ?_⟩
      refine ⟨F0, H0, F2, ρ1, R2, f3, R3, S2, e3, ?_⟩
      have sF := s1'.trans ex.f
      cases f3 with
      | nx ρ' => exact fun F' H' σ' k S' => ⟨F', ρ', R3, sF.trans k, S', e4⟩
      | ct ρ' => exact fun F' H' σ' k S' => ⟨F', ρ', R3, sF.trans k, S', e4⟩
      | bk ρ' => obtain ⟨rfl, rfl⟩ := ret_ok e4; exact fun F' H' σ' k S' => q F' H' σ' (sF.trans k) S'
      | rt d => obtain ⟨rfl, rfl⟩ := ret_ok e4; exact q
theorem forL_cons {f : D → Env → M Fl} {d : D} {ds : List D} {ρ : Env} {R R' : List D} {fl : Fl} (h : forL f (d :: ds) ρ R = .ok fl R') : ∃ f1 R1, f d ρ R = .ok f1 R1 ∧ (match f1 with
    | .nx ρ' => forL f ds ρ' R1 = .ok fl R' | .ct ρ' => forL f ds ρ' R1 = .ok fl R' | .bk ρ' => fl = .nx ρ' ∧ R' = R1 | .rt d => fl = .rt d ∧ R' = R1) := by
  unfold forL at h
  obtain ⟨f1, R1, e1, e2⟩ := bnd_ok h
  refine ⟨f1, R1, e1, ?_⟩
  cases f1 with
  | nx ρ' => exact e2
  | ct ρ' => exact e2
  | bk ρ' => obtain ⟨rfl, rfl⟩ := ret_ok e2; exact ⟨rfl, rfl⟩
  | rt d => obtain ⟨rfl, rfl⟩ := ret_ok e2; exact ⟨rfl, rfl⟩
theorem gs_for {b1 : List Stmt} {s1 : List Pu.S} {kk : ItK} {b : E} {t : Tg} {tg it : Expr} (hp : PassesOwn (model X.prog X.w) X.A X.env X.xe) (hc : X.calm = true) (hi : PI X tg it (wV c cf kk a b)) (hg : PG X tg (tTg c t)) (h1 : PSs X b1 (tSs c cf wh s1)) (hs : ∀ x, foldedSetIterable it X.env x = pure x) :
    PS X (.For tg it b1 [] pos) (tS c cf wh (.forS t kk a b s1)) := PS.imp (ps_for hp hc hi hg h1 hs) fun D σ H h => by
  obtain ⟨F0, H0, F, ρ, R, fl, R', S, ev, q⟩ := h
  simp only [exS] at ev
  obtain ⟨dx, R1, e1, e2⟩ := bnd_ok ev
  obtain ⟨dy, R2, e3, e4⟩ := bnd_ok e2
  obtain ⟨ds, R3, e5, e6⟩ := bnd_ok e4
  obtain ⟨e7, rfl⟩ := lft_ok e5
  refine ⟨F0, H0, F, ρ, R, dx, R1, dy, _, ds, S, e1, e3, e7, fun F1 H1 J ex1 r1 w => ?_⟩
  let f : Pu.D → Env → M Fl := fun d ρ => match setTg t d ρ with
    | some ρ' => exSs cf wh s1 ρ'
    | none => halt
  have e6 : forL f ds ρ _ = .ok fl R' := e6
  refine for_it w (fun i σ H => ∃ F2 ρ R, Sub F1 F2 ∧ StR c F0 H0 F2 H σ ρ R ∧ forL f (ds.drop i) ρ R = .ok fl R') ⟨F1, ρ, _, Sub.refl, S.step ex1 r1, by simpa using e6⟩ ?_ ?_ ?_
  · rintro i σ2 H2 _ ⟨F2, ρ2, R2, k, S2, _⟩
    exact k.trans S2.sub
  · rintro i x σ2 H2 H2' hi' ⟨F2, ρ2, R2, k, S2, ev2⟩ hy
    obtain ⟨d, hd, hy⟩ := hy
    have hdrop : ds.drop i = d :: ds.drop (i + 1) := by
      rw [List.drop_eq_getElem_cons hi']
      congr 1
      rw [List.getElem?_eq_getElem hi'] at hd
      exact Option.some.inj hd
    rw [hdrop] at ev2
    obtain ⟨f3, R3, t1, t2⟩ := forL_cons ev2
    have hv : ∃ F3, Sub F2 F3 ∧ StR c F0 H0 F3 H2' σ2 ρ2 R2 ∧ RelD c F3 d x := by
      rcases hy with ⟨rfl, rd⟩ | ⟨T, p, q, d1, d2, rfl, rfl, hT, rfl, k1, k2⟩
      · exact ⟨F2, Sub.refl, S2, RelD.mono k _ _ rd⟩
      · have sF := Sub.self (o := HO.tup [p, q]) (S2.sub.none hT)
        refine ⟨upd F2 T (.tup [p, q]), sF, S2.step (Ext.add S2.sub hT) (S2.row.add S2.sub hT), ?_⟩
        simp only [RelD]
        refine ⟨T, [p, q], rfl, SqT.of upd_same, ?_⟩
        simp only [RelDs]
        exact ⟨RelD.mono (k.trans sF) _ _ k1, RelD.mono (k.trans sF) _ _ k2, trivial⟩
    obtain ⟨F3, s3, S3, rd⟩ := hv
    have t1 : (match setTg t d ρ2 with | some ρ' => exSs cf wh s1 ρ' | none => halt) R2 = .ok f3 R3 := t1
    cases hset : setTg t d ρ2 with
    | none => rw [hset] at t1; cases t1
    | some ρ' =>
      rw [hset] at t1
      have k3 := k.trans s3
      refine ⟨F0, H0, F3, ρ2, R2, d, ρ', S3, rd, hset, fun σ4 S4 _ => ⟨F0, H0, F3, ρ', R2, f3, R3, S4, t1, ?_⟩⟩
      cases f3 with
      | nx ρ5 => exact fun F' H' σ' s' S' => ⟨F', ρ5, R3, k3.trans s', S', t2⟩
      | ct ρ5 => exact fun F' H' σ' s' S' => ⟨F', ρ5, R3, k3.trans s', S', t2⟩
      | bk ρ5 =>
        obtain ⟨rfl, rfl⟩ := t2
        exact fun F' H' σ' s' S' => q F' H' σ' ((ex1.f.trans k3).trans s') S'
      | rt d5 =>
        obtain ⟨rfl, rfl⟩ := t2
        exact q
  · rintro σ2 H2 ⟨F2, ρ2, R2, k, S2, ev2⟩
    rw [List.drop_length] at ev2
    unfold forL at ev2
    obtain ⟨rfl, rfl⟩ := ret_ok ev2
    exact q F2 H2 σ2 (ex1.f.trans k) S2
end
end Pu
end

section
set_option autoImplicit false
set_option linter.all false
set_option maxRecDepth 100000
set_option maxHeartbeats 4000000
set_option Elab.async false
namespace Pu
open PySem PySem.Spec PyProof.Rows L2

/-- the state with its footprints told -/
structure StF (c : Ct) (F0 H0 F H : Hp) (σ : L2.St) (ρ : Env) (R : List D) (fp : Nat → List Addr) : Prop where
  sub : Sub F H
  ext : Ext c F0 H0 F H
  len : σ.length = ρ.length
  sl : ∀ (i : Nat) (s : Slot), ρ[i]? = some s → SlotR c H0 F H σ[i]? (fp i) s
  ap : ∀ (i j : Nat) (a : Addr), i ≠ j → a ∈ fp i → a ∉ fp j
  row : RowR c F H R
section
variable {c : Ct} {F0 H0 F H F' H' : Hp} {σ : L2.St} {ρ : Env} {R R' : List D} {fp : Nat → List Addr}
theorem StR.f (S : StR c F0 H0 F H σ ρ R) : ∃ fp, StF c F0 H0 F H σ ρ R fp := let ⟨fp, h1, h2⟩ := S.fp; ⟨fp, S.sub, S.ext, S.len, h1, h2, S.row⟩
theorem StF.r (S : StF c F0 H0 F H σ ρ R fp) : StR c F0 H0 F H σ ρ R := ⟨S.sub, S.ext, S.len, ⟨fp, S.sl, S.ap⟩, S.row⟩
/-- what a slot holds stands in the heap -/
theorem SlotR.there {o : Option (Option V)} {l : List Addr} : ∀ {s : Slot}, SlotR c H0 F H o l s → ∀ x ∈ l, (∃ u, H x = some u) ∧ x ≠ c.ar ∧ F x = none ∧ H0 x = none
  | .none, h, x, hx => by rw [show l = [] from h] at hx; cases hx
  | .val d, h, x, hx => by rw [h.1] at hx; cases hx
  | .own d, h, x, hx => by
    obtain ⟨a, h1, h2, h3, h4⟩ := h
    rw [h1] at hx
    cases List.mem_singleton.mp hx
    exact ⟨h3.there, h4.2.1, h4.1, h4.2.2⟩
  | .own2 d, h, x, hx => by
    obtain ⟨a, as, rs, h1, h2, h3, h4, h5, h6, h7, h8⟩ := h
    rw [h1] at hx
    rcases List.mem_cons.mp hx with rfl | hx
    · exact ⟨⟨_, h5⟩, h6.2.1, h6.1, h6.2.2⟩
    · obtain ⟨j, hj⟩ := List.mem_iff_getElem?.mp hx
      have hjl : j < rs.length := by rw [← h7]; exact (List.getElem?_eq_some_iff.mp hj).1
      obtain ⟨t1, t2, t3⟩ := h8 j x _ hj (List.getElem?_eq_getElem hjl)
      exact ⟨t2.there, t3.2.1, t3.1, t3.2.2⟩
theorem StF.out (S : StF c F0 H0 F H σ ρ R fp) {x : Addr} (hx : H x = none) : StF c F0 H0 F H σ ρ R (fun i => if i < ρ.length then fp i else []) ∧ ∀ j, x ∉ (fun i => if i < ρ.length then fp i else []) j := by
  refine ⟨⟨S.sub, S.ext, S.len, fun i s hs => ?_, fun i j a hij ha => ?_, S.row⟩, fun j hj => ?_⟩
  · simp only [if_pos (List.getElem?_eq_some_iff.mp hs).1]
    exact S.sl i s hs
  · by_cases hi : i < ρ.length
    · simp only [if_pos hi] at ha
      by_cases hj : j < ρ.length
      · simp only [if_pos hj]; exact S.ap i j a hij ha
      · simp [hj]
    · simp [hi] at ha
  · by_cases hl : j < ρ.length
    · simp only [if_pos hl] at hj
      obtain ⟨⟨u, hu⟩, _⟩ := (S.sl j _ (List.getElem?_eq_getElem hl)).there x hj
      rw [hx] at hu; cases hu
    · simp [hl] at hj
theorem StF.step (S : StF c F0 H0 F H σ ρ R fp) (e : Ext c F H F' H') (r : RowR c F' H' R') : StF c F0 H0 F' H' σ ρ R' fp := ⟨e.s, S.ext.trans e S.row, S.len, fun i s hs => (S.sl i s hs).ext e, S.ap, r⟩
theorem StF.set (S : StF c F0 H0 F H σ ρ R fp) {i : Nat} {s : Slot} {v : V} {l : List Addr} (hi : i < ρ.length) (r : SlotR c H0 F H (some (some v)) l s) (hl : ∀ x ∈ l, ∀ j, j ≠ i → x ∉ fp j) : StF c F0 H0 F H (σ.set i (some v)) (ρ.set i s) R (fun j => if j = i then l else fp j) := by
  refine ⟨S.sub, S.ext, by rw [List.length_set, List.length_set]; exact S.len, fun j s' hs => ?_, fun j k a hjk ha => ?_, S.row⟩
  · rw [List.getElem?_set] at hs ⊢
    by_cases e : i = j
    · subst e
      rw [if_pos rfl, if_pos hi] at hs
      cases hs
      rw [if_pos rfl, if_pos (by rw [S.len]; exact hi)]
      simpa using r
    · rw [if_neg e] at hs ⊢
      simp only [if_neg (Ne.symm e)]
      exact S.sl j s' hs
  · by_cases e : j = i
    · subst e
      simp only [if_pos rfl] at ha
      simp only [if_neg (Ne.symm hjk)]
      exact hl a ha k (Ne.symm hjk)
    · simp only [if_neg e] at ha
      by_cases e2 : k = i
      · subst e2
        simp only [if_pos rfl]
        exact fun h => hl a h j e ha
      · simp only [if_neg e2]
        exact S.ap j k a hjk ha
/-- a new object of one's own goes into a slot -/
theorem StR.setOwn (S : StR c F0 H0 F H σ ρ R) {i : Nat} {d : D} {x : Addr} (hi : i < ρ.length) (ex : Ext c F H F' H') (r : RowR c F' H' R') (ow : OwnD c F' H' d x) (n1 : F' x = none) (n2 : x ≠ c.ar) (n3 : H x = none) :
    StR c F0 H0 F' H' (σ.set i (some (.ref x))) (ρ.set i (.own d)) R' := by
  obtain ⟨fp, S⟩ := S.f
  obtain ⟨S1, h1⟩ := S.out n3
  have hH0 : H0 x = none := by
    cases q : H0 x with
    | none => rfl
    | some o => rw [S.ext.h x o q n2] at n3; cases n3
  exact ((S1.step ex r).set (s := .own d) (l := [x]) hi ⟨x, rfl, rfl, ow, n1, n2, hH0⟩ fun y hy j _ => by rw [List.mem_singleton.mp hy]; exact h1 j).r
end

def ARs (c : Ct) (F H Hs : Hp) : List (Bool × Nat) → List D → List V → List Addr → Prop
  | [], [], [], l => l = []
  | (o, _) :: ts, d :: ds, v :: vs, l => if o = true then ∃ x l', l = x :: l' ∧ v = .ref x ∧ OwnD c F H d x ∧ F x = none ∧ x ≠ c.ar ∧ Hs x = none ∧ x ∉ l' ∧ ARs c F H Hs ts ds vs l' else RelD c F d v ∧ ARs c F H Hs ts ds vs l
  | _, _, _, _ => False
def setNs : List (Bool × Nat) → List V → L2.St → L2.St
  | (_, i) :: ts, v :: vs, σ => setNs ts vs (σ.set i (some v))
  | _, _, σ => σ
section
variable {c : Ct} {F0 H0 F H F' H' Hs : Hp} {σ : L2.St} {ρ ρ' : Env} {R R' : List D}
theorem ARs.len : ∀ {ts : List (Bool × Nat)} {ds : List D} {vs : List V} {l : List Addr}, ARs c F H Hs ts ds vs l → vs.length = ts.length ∧ ds.length = ts.length
  | [], [], [], _, _ => ⟨rfl, rfl⟩
  | [], [], _ :: _, _, h => h.elim
  | [], _ :: _, _, _, h => by cases ‹List V› <;> exact h.elim
  | _ :: _, [], _, _, h => by cases ‹List V› <;> exact h.elim
  | _ :: _, _ :: _, [], _, h => h.elim
  | (o, i) :: ts, d :: ds, v :: vs, l, h => by
    unfold ARs at h
    split at h
    · obtain ⟨x, l', _, _, _, _, _, _, _, h⟩ := h
      have := h.len
      simp [this]
    · have := h.2.len
      simp [this]
theorem ARs.ext (e : Ext c F H F' H') : ∀ {ts : List (Bool × Nat)} {ds : List D} {vs : List V} {l : List Addr}, ARs c F H Hs ts ds vs l → ARs c F' H' Hs ts ds vs l
  | [], [], [], _, h => h
  | [], [], _ :: _, _, h => h.elim
  | [], _ :: _, _, _, h => by cases ‹List V› <;> exact h.elim
  | _ :: _, [], _, _, h => by cases ‹List V› <;> exact h.elim
  | _ :: _, _ :: _, [], _, h => h.elim
  | (o, i) :: ts, d :: ds, v :: vs, l, h => by
    unfold ARs at h ⊢
    split
    · rename_i ho
      rw [if_pos ho] at h
      obtain ⟨x, l', h1, h2, h3, h4, h5, h6, h7, h8⟩ := h
      obtain ⟨u, hu⟩ := h3.there
      exact ⟨x, l', h1, h2, h3.ext e h5, e.none h4 hu, h5, h6, h7, h8.ext e⟩
    · rename_i ho
      rw [if_neg ho] at h
      exact ⟨RelD.mono e.f _ _ h.1, h.2.ext e⟩
theorem ARs.weak {Hs' : Hp} (k : ∀ x, x ≠ c.ar → Hs x = none → Hs' x = none) : ∀ {ts : List (Bool × Nat)} {ds : List D} {vs : List V} {l : List Addr}, ARs c F H Hs ts ds vs l → ARs c F H Hs' ts ds vs l
  | [], [], [], _, h => h
  | [], [], _ :: _, _, h => h.elim
  | [], _ :: _, _, _, h => by cases ‹List V› <;> exact h.elim
  | _ :: _, [], _, _, h => by cases ‹List V› <;> exact h.elim
  | _ :: _, _ :: _, [], _, h => h.elim
  | (o, i) :: ts, d :: ds, v :: vs, l, h => by
    unfold ARs at h ⊢
    split
    · rename_i ho
      rw [if_pos ho] at h
      obtain ⟨x, l', h1, h2, h3, h4, h5, h6, h7, h8⟩ := h
      exact ⟨x, l', h1, h2, h3, h4, h5, k x h5 h6, h7, h8.weak k⟩
    · rename_i ho
      rw [if_neg ho] at h
      exact ⟨h.1, h.2.weak k⟩
theorem ARs.mem : ∀ {ts : List (Bool × Nat)} {ds : List D} {vs : List V} {l : List Addr}, ARs c F H Hs ts ds vs l → ∀ x ∈ l, Hs x = none ∧ x ≠ c.ar
  | [], [], [], _, h, x, hx => by rw [show _ = [] from h] at hx; cases hx
  | [], [], _ :: _, _, h, _, _ => h.elim
  | [], _ :: _, vs, _, h, _, _ => by cases vs <;> exact h.elim
  | _ :: _, [], vs, _, h, _, _ => by cases vs <;> exact h.elim
  | _ :: _, _ :: _, [], _, h, _, _ => h.elim
  | (o, i) :: ts, d :: ds, v :: vs, l, h, x, hx => by
    unfold ARs at h
    split at h
    · obtain ⟨y, l', rfl, h2, h3, h4, h5, h6, h7, h8⟩ := h
      rcases List.mem_cons.mp hx with rfl | hx
      · exact ⟨h6, h5⟩
      · exact h8.mem x hx
    · exact h.2.mem x hx
theorem StF.par : ∀ {ts : List (Bool × Nat)} {ds : List D} {vs : List V} {l : List Addr} {σ : L2.St} {ρ ρ' : Env} {fp : Nat → List Addr}, StF c F0 H0 F H σ ρ R fp → ARs c F H Hs ts ds vs l → (∀ x ∈ l, H0 x = none ∧ ∀ j, x ∉ fp j) → setPar ts ds ρ = some ρ' →
    StR c F0 H0 F H (setNs ts vs σ) ρ' R
  | [], [], [], _, σ, ρ, ρ', fp, S, h, hl, e => by
    simp only [setPar, Option.some.injEq] at e
    subst e
    exact S.r
  | [], [], _ :: _, _, _, _, _, _, _, h, _, _ => h.elim
  | [], _ :: _, vs, _, _, _, _, _, _, h, _, _ => by cases vs <;> exact h.elim
  | _ :: _, [], vs, _, _, _, _, _, _, h, _, _ => by cases vs <;> exact h.elim
  | _ :: _, _ :: _, [], _, _, _, _, _, _, h, _, _ => h.elim
  | (o, i) :: ts, d :: ds, v :: vs, l, σ, ρ, ρ', fp, S, h, hl, e => by
    unfold ARs at h
    simp only [setPar] at e
    split at e
    · rename_i hi
      split at e
      · rename_i ho
        rw [if_pos ho] at h
        obtain ⟨x, l', rfl, rfl, h3, h4, h5, h6, h7, h8⟩ := h
        split at e
        · show StR c F0 H0 F H (setNs ts vs (σ.set i (some (V.ref x)))) ρ' R
          refine StF.par (S.set (s := .own d) (l := [x]) hi ⟨x, rfl, rfl, h3, h4, h5, (hl x List.mem_cons_self).1⟩ fun y hy j _ => by rw [List.mem_singleton.mp hy]; exact (hl x List.mem_cons_self).2 j) h8 (fun y hy => ⟨(hl y (List.mem_cons_of_mem _ hy)).1, fun j => ?_⟩) e
          by_cases ej : j = i
          · simp only [if_pos ej, List.mem_singleton]
            rintro rfl; exact h7 hy
          · simp only [if_neg ej]
            exact (hl y (List.mem_cons_of_mem _ hy)).2 j
        · cases e
      · rename_i ho
        rw [if_neg ho] at h
        show StR c F0 H0 F H (setNs ts vs (σ.set i (some v))) ρ' R
        refine StF.par (S.set (s := .val d) (l := []) hi ⟨rfl, v, rfl, h.1⟩ fun y hy => by cases hy) h.2 (fun y hy => ⟨(hl y hy).1, fun j => ?_⟩) e
        by_cases ej : j = i
        · simp [ej]
        · simp only [if_neg ej]
          exact (hl y hy).2 j
    · cases e
/-- the values of several, some of one's own -/
theorem StR.par {ts : List (Bool × Nat)} {ds : List D} {vs : List V} {l : List Addr} (S : StR c F0 H0 F H σ ρ R) (ex : Ext c F H F' H') (r : RowR c F' H' R') (h : ARs c F' H' H ts ds vs l) (e : setPar ts ds ρ = some ρ') : StR c F0 H0 F' H' (setNs ts vs σ) ρ' R' := by
  obtain ⟨fp, S⟩ := S.f
  -- footprints without what is not there
  have S1 : StF c F0 H0 F H σ ρ R (fun i => if i < ρ.length then fp i else []) := by
    refine ⟨S.sub, S.ext, S.len, fun i s hs => ?_, fun i j a hij ha => ?_, S.row⟩
    · simp only [if_pos (List.getElem?_eq_some_iff.mp hs).1]
      exact S.sl i s hs
    · by_cases hi : i < ρ.length
      · simp only [if_pos hi] at ha
        by_cases hj : j < ρ.length
        · simp only [if_pos hj]; exact S.ap i j a hij ha
        · simp [hj]
      · simp [hi] at ha
  refine (S1.step ex r).par h (fun x hx => ⟨?_, fun j hj => ?_⟩) e
  · obtain ⟨h1, h2⟩ := h.mem x hx
    cases q : H0 x with
    | none => rfl
    | some o => rw [S.ext.h x o q h2] at h1; cases h1
  · obtain ⟨h1, h2⟩ := h.mem x hx
    by_cases hl : j < ρ.length
    · simp only [if_pos hl] at hj
      obtain ⟨⟨u, hu⟩, _⟩ := (S.sl j _ (List.getElem?_eq_getElem hl)).there x hj
      rw [h1] at hu; cases hu
    · simp [hl] at hj
end
/-- setPar asks objects where they are to be one's own -/
def ownsOk : List (Bool × Nat) → List D → Prop
  | (o, _) :: ts, d :: ds => (o = true → ownable d = true) ∧ ownsOk ts ds
  | _, _ => True
theorem owns_of : ∀ {ts : List (Bool × Nat)} {ds : List D} {ρ ρ' : Env}, setPar ts ds ρ = some ρ' → ownsOk ts ds
  | [], _, _, _, _ => by unfold ownsOk; trivial
  | _ :: _, [], _, _, _ => by unfold ownsOk; trivial
  | (o, i) :: ts, d :: ds, ρ, ρ', h => by
    simp only [setPar] at h
    unfold ownsOk
    split at h
    · split at h
      · split at h
        · rename_i ho; exact ⟨fun _ => ho, owns_of h⟩
        · cases h
      · rename_i ho; exact ⟨fun e => absurd e ho, owns_of h⟩
    · cases h
def tPs (c : Ct) (cf : Cf) (ts : List (Bool × Nat)) (as : List E) : TA := fun σ H Q => ∃ F0 H0 F ρ R ds R', StR c F0 H0 F H σ ρ R ∧ evEs cf as ρ R = .ok ds R' ∧ ownsOk ts ds ∧ ∀ F' H' vs l, Ext c F H F' H' → RowR c F' H' R' → ARs c F' H' H ts ds vs l → Q vs H'
section
variable {X : Cx} {c : Ct} {cf : Cf} {wh : Wh} {a : E} {as : List E} {e : Expr} {es : List Expr} {pos : Pos}
theorem gp_nil : PA X [] (tPs c cf [] []) := PA.imp pa_nil fun σ H Q h => by
  obtain ⟨F0, H0, F, ρ, R, ds, R', S, ev, _, q⟩ := h
  simp only [evEs] at ev
  obtain ⟨rfl, rfl⟩ := ret_ok ev
  exact q F H [] [] (Ext.refl S.sub) S.row rfl
theorem kept_none {F H F' H' : Hp} (ex : Ext c F H F' H') (x : Addr) (h : x ≠ c.ar) (n : H' x = none) : H x = none := by
  cases q : H x with
  | none => rfl
  | some o => rw [ex.h x o q h] at n; cases n
theorem gp_val {i : Nat} {ts : List (Bool × Nat)} (ha : PE X e (tE c cf a)) (hr : PA X es (tPs c cf ts as)) (hs : noStar e = true) : PA X (e :: es) (tPs c cf ((false, i) :: ts) (a :: as)) := by
  refine PA.imp (pa_cons ha hr (star_cons hs)) fun σ H Q h => ?_
  obtain ⟨F0, H0, F, ρ, R, ds, R', S, ev, ok, q⟩ := h
  simp only [evEs] at ev
  obtain ⟨x, R1, e1, e2⟩ := bnd_ok ev
  obtain ⟨xs, R2, e3, e4⟩ := bnd_ok e2
  obtain ⟨rfl, rfl⟩ := ret_ok e4
  unfold ownsOk at ok
  refine ⟨F0, H0, F, ρ, R, x, R1, S, e1, fun F1 H1 v ex1 r1 rv => ⟨F0, H0, F1, ρ, R1, xs, R2, S.step ex1 r1, e3, ok.2, fun F2 H2 vs l ex2 r2 rvs => ?_⟩⟩
  refine q F2 H2 (v :: vs) l (ex1.trans ex2 r1) r2 ?_
  unfold ARs
  rw [if_neg (by simp)]
  exact ⟨RelD.mono ex2.f _ _ rv, rvs.weak (kept_none ex1)⟩
theorem gp_own {i : Nat} {ts : List (Bool × Nat)} (ha : PE X e (tG c cf a)) (hr : PA X es (tPs c cf ts as)) (hs : noStar e = true) : PA X (e :: es) (tPs c cf ((true, i) :: ts) (a :: as)) := by
  refine PA.imp (pa_cons ha hr (star_cons hs)) fun σ H Q h => ?_
  obtain ⟨F0, H0, F, ρ, R, ds, R', S, ev, ok, q⟩ := h
  simp only [evEs] at ev
  obtain ⟨x, R1, e1, e2⟩ := bnd_ok ev
  obtain ⟨xs, R2, e3, e4⟩ := bnd_ok e2
  obtain ⟨rfl, rfl⟩ := ret_ok e4
  unfold ownsOk at ok
  refine ⟨F0, H0, F, ρ, R, x, R1, S, e1, ?_⟩
  unfold ResG
  rw [if_pos (ok.1 rfl)]
  intro F1 H1 y ex1 r1 ow n1 n2 n3
  refine ⟨F0, H0, F1, ρ, R1, xs, R2, S.step ex1 r1, e3, ok.2, fun F2 H2 vs l ex2 r2 rvs => ?_⟩
  obtain ⟨u, hu⟩ := ow.there
  refine q F2 H2 (.ref y :: vs) (y :: l) (ex1.trans ex2 r1) r2 ?_
  unfold ARs
  rw [if_pos rfl]
  refine ⟨y, l, rfl, rfl, ow.ext ex2 n2, ex2.none n1 hu, n2, n3, fun hy => ?_, rvs.weak (kept_none ex1)⟩
  rw [(rvs.mem y hy).1] at hu; cases hu

theorem gs_asg {t : Tg} {tg : Expr} (he : PE X e (tE c cf a)) (hg : PG X tg (tTg c t)) (hs : swapsWithSole [tg] e pos.line X.env = pure false) (hw : swappedStores [tg] e X.env = pure none) (hn : noStar tg = true) : PS X (.Assign [tg] e pos) (tS c cf wh (.asg t a)) := by
  have h1 : (assignEach [tg] X.env).map (·.2) = [assign tg X.env] := by cases tg <;> first | rfl | cases hn
  refine PS.imp (ps_asg he hg hs hw h1) fun D σ H h => ?_
  obtain ⟨F0, H0, F, ρ, R, fl, R', S, ev, q⟩ := h
  simp only [exS] at ev
  obtain ⟨d, R1, e1, e2⟩ := bnd_ok ev
  cases hset : setTg t d ρ with
  | none => rw [hset] at e2; cases e2
  | some ρ' =>
    rw [hset] at e2
    obtain ⟨rfl, rfl⟩ := ret_ok e2
    exact ⟨F0, H0, F, ρ, R, d, R1, S, e1, fun F' H' v ex r rv => ⟨F0, H0, F', ρ, R1, d, ρ', S.step ex r, rv, hset, fun σ' S' _ => q F' H' σ' ex.f S'⟩⟩
/-- .. a comprehension, to a local name -/
theorem gs_asgG {i : Nat} {st : Stmt} (h : PS X st (tAsg (tG c cf a) (gName i))) : PS X st (tS c cf wh (.asg (.slot i) a)) := PS.imp h fun D σ H h => by
  obtain ⟨F0, H0, F, ρ, R, fl, R', S, ev, q⟩ := h
  simp only [exS] at ev
  obtain ⟨d, R1, e1, e2⟩ := bnd_ok ev
  simp only [setTg] at e2
  by_cases hi : i < ρ.length
  · rw [if_pos hi] at e2
    obtain ⟨rfl, rfl⟩ := ret_ok e2
    exact ⟨F0, H0, F, ρ, R, d, R1, S, e1, Res.gen fun F' H' v ex r rv => q F' H' _ ex.f ((S.step ex r).set hi rv)⟩
  · rw [if_neg hi] at e2; cases e2
theorem gs_own {i : Nat} {st : Stmt} (h : PS X st (tAsg (tG c cf a) (gName i))) : PS X st (tS c cf wh (.own i a)) := PS.imp h fun D σ H h => by
  obtain ⟨F0, H0, F, ρ, R, fl, R', S, ev, q⟩ := h
  simp only [exS] at ev
  split at ev
  · obtain ⟨d, R1, e1, e2⟩ := bnd_ok ev
    by_cases ho : ownable d = true
    · rw [if_pos ho] at e2
      unfold setSlot at e2
      by_cases hi : i < ρ.length
      · rw [if_pos hi] at e2
        obtain ⟨rfl, rfl⟩ := ret_ok e2
        refine ⟨F0, H0, F, ρ, R, d, R1, S, e1, ?_⟩
        unfold ResG
        rw [if_pos ho]
        exact fun F' H' x ex r ow n1 n2 n3 => q F' H' _ ex.f (S.setOwn hi ex r ow n1 n2 n3)
      · rw [if_neg hi] at e2; cases e2
    · rw [if_neg ho] at e2; cases e2
  · cases ev
theorem ps_setG {i : Nat} {y : Str} {py : Pos} (hN : X.N.Nodup) (hi : X.N[i]? = some y) (hx : Loc X.env.scope y) (hf : X.fn y = true ∨ X.env.scope.names.lookup y = some .local) (he : PE X e (tG c cf a)) (hs : swapsWith e (some (.Name y py)) pos.line X.env = pure false) : PS X (.Assign [.Name y py] e pos) (tAsg (tG c cf a) (gName i)) := ps_set hN hi hx he hs hf
/-- several names; D.nx of the slots written -/
theorem gs_parK {ts : List (Bool × Nat)} {st : Stmt} {t : TS} (h : PS X st t) (k : ∀ (D : Ends) (σ : L2.St) (H : Hp), tPs c cf ts as σ H (fun vs H1 => vs.length = ts.length → ∀ H2, (H2 = H1 ∨ ∃ p xs, H1 p = none ∧ H2 = upd H1 p (.tup xs)) → D.nx (setNs ts vs σ) H2) → t D σ H) : PS X st (tS c cf wh (.par ts as)) := PS.imp h fun D σ H h => by
  obtain ⟨F0, H0, F, ρ, R, fl, R', S, ev, q⟩ := h
  simp only [exS] at ev
  obtain ⟨ds, R1, e1, e2⟩ := bnd_ok ev
  cases hset : setPar ts ds ρ with
  | none => rw [hset] at e2; cases e2
  | some ρ' =>
    rw [hset] at e2
    obtain ⟨rfl, rfl⟩ := ret_ok e2
    refine k D σ H ⟨F0, H0, F, ρ, R, ds, R1, S, e1, owns_of hset, fun F' H' vs l ex r ar _ H2 hH => ?_⟩
    rcases hH with rfl | ⟨p, xs, hp, rfl⟩
    · exact q F' _ _ ex.f (S.par ex r ar hset)
    · have ex2 : Ext c F' H' F' (upd H' p (.tup xs)) := Ext.beside ex.s hp
      exact q F' _ _ ex.f (S.par (ex.trans ex2 r) (r.beside hp) (ar.ext ex2) hset)
def gNms : List Nat → TGs := fun is vs σ H Q => vs.length = is.length ∧ Q ((is.zip vs).foldl (fun σ p => σ.set p.1 (some p.2)) σ) H
theorem setNs_fold : ∀ (ts : List (Bool × Nat)) (vs : List V) (σ : L2.St), setNs ts vs σ = ((ts.map (·.2)).zip vs).foldl (fun σ p => σ.set p.1 (some p.2)) σ
  | [], vs, σ => by simp [setNs]
  | (o, i) :: ts, [], σ => by simp [setNs]
  | (o, i) :: ts, v :: vs, σ => by
    unfold setNs
    simp only [List.map_cons, List.zip_cons_cons, List.foldl_cons]
    exact setNs_fold ts vs _
end
end Pu
end

section
set_option autoImplicit false
set_option linter.all false
set_option maxRecDepth 100000
set_option maxHeartbeats 4000000
set_option Elab.async false
namespace Pu
open PySem PySem.Spec PyProof.Rows L2

def isStarB : Expr → Bool
  | .Starred .. => true
  | _ => false
def locAt (nm : List (Str × NameKind)) (line : Nat) : Expr → Option Str
  | .Name id pos => if nm.lookup id == some .local && pos.line == line then some id else none
  | _ => none
/-- how a, b = x, y is stored: none: not told; some none: one after another -/
def swP (nm : List (Str × NameKind)) (ts vs : List Expr) : Option (Option (List Str)) :=
  if (!(ts.length == 2 || ts.length == 3) || vs.length != ts.length) = true then some none
  else if vs.any isStarB = true then some none
  else
    let names := ts.filterMap (locAt nm ((ts.head?.map (·.pos.line)).getD 0))
    if (names.length != ts.length || names.eraseDups.length != names.length) = true then some none
    else if vs.all (foldedForSure 8) = true then some none
    else if vs.all (constantsAlone 8) = true then none
    else some (some names)
theorem swP_of {env : PySem.Env} {nm : List (Str × NameKind)} {ts vs : List Expr} {r : Option (List Str)} {a b : Nat} {p q : Pos} (hn : env.scope.names = nm) (hk : env.scope.kind = .function) (h : swP nm ts vs = some r) :
    swappedStores [.Tuple ts a p] (.Tuple vs b q) env = pure r := by
  have hb : env.blockKind = .function := by unfold Env.blockKind; rw [hk]; rfl
  have hloc : ∀ line, locAt nm line = (fun x => match x with
      | .Name id pos => if env.kindOf id == some .local && pos.line == line then some id else none
      | _ => none) := by
    intro line
    funext x
    subst hn
    cases x <;> rfl
  have hstar : isStarB = (fun x => match x with | .Starred .. => true | _ => false) := by
    funext x; cases x <;> rfl
  have hne : (env.blockKind != .function) = false := by rw [hb]; rfl
  have e1 : swappedStores [.Tuple ts a p] (.Tuple vs b q) env = (if ((!(ts.length == 2 || ts.length == 3) || vs.length != ts.length) || env.blockKind != .function) = true then pure none else
      if (vs.any isStarB) = true then pure none else
      if ((ts.filterMap (locAt nm ((ts.head?.map (·.pos.line)).getD 0))).length != ts.length || (ts.filterMap (locAt nm ((ts.head?.map (·.pos.line)).getD 0))).eraseDups.length != (ts.filterMap (locAt nm ((ts.head?.map (·.pos.line)).getD 0))).length) = true then pure none else
      if vs.all (foldedForSure 8) = true then pure none else
      if vs.all (constantsAlone 8) = true then (do unsupported "assign.tuple-of-constant-expressions:order-of-the-stores"; pure (some (ts.filterMap (locAt nm ((ts.head?.map (·.pos.line)).getD 0))))) else pure (some (ts.filterMap (locAt nm ((ts.head?.map (·.pos.line)).getD 0))))) := by
    rw [hloc, hstar]
    rfl
  rw [e1, hne, Bool.or_false]
  unfold swP at h
  dsimp only at h
  split at h
  · rename_i h1; cases h; rw [if_pos h1]
  · rename_i h1
    rw [if_neg h1]
    split at h
    · rename_i h2; cases h; rw [if_pos h2]
    · rename_i h2
      rw [if_neg h2]
      split at h
      · rename_i h3; cases h; rw [if_pos h3]
      · rename_i h3
        rw [if_neg h3]
        split at h
        · rename_i h4; cases h; rw [if_pos h4]
        · rename_i h4
          rw [if_neg h4]
          split at h
          · cases h
          · rename_i h5; cases h; rw [if_neg h5]

section
variable {X : Cx} {c : Ct} {cf : Cf} {wh : Wh} {a : E} {as : List E} {e : Expr} {es : List Expr} {pos : Pos}
/-- two local names -/
theorem gs_par2 {i j : Nat} {o1 o2 : Bool} {x y : Str} {px py pt : Pos} {kt k2 : Nat} {p2 : Pos} {e1 e2 : Expr} (hc : X.calm = true) (hN : X.N.Nodup) (hi : X.N[i]? = some x) (hj : X.N[j]? = some y) (hij : i ≠ j) (hx : X.env.scope.names.lookup x = some .local) (hy : X.env.scope.names.lookup y = some .local)
    (ha : PA X [e1, e2] (tPs c cf [(o1, i), (o2, j)] as)) (hw : swappedStores [.Tuple [.Name x px, .Name y py] kt pt] (.Tuple [e1, e2] k2 p2) X.env = pure (some [x, y])) :
    PS X (.Assign [.Tuple [.Name x px, .Name y py] kt pt] (.Tuple [e1, e2] k2 p2) pos) (tS c cf wh (.par [(o1, i), (o2, j)] as)) :=
  gs_parK (ps_par hc hN hi hj hij hx hy ha hw) fun D σ H h => by
    obtain ⟨F0, H0, F, ρ, R, ds, R', S, ev, ok, q⟩ := h
    refine ⟨F0, H0, F, ρ, R, ds, R', S, ev, ok, fun F' H' vs l ex r ar => ?_⟩
    have hl := ar.len.1
    match vs, hl with
    | [v, w], _ => exact ⟨v, w, rfl, q F' H' [v, w] l ex r ar rfl H' (.inl rfl)⟩
theorem gs_par3 {i j m : Nat} {o1 o2 o3 : Bool} {x y z : Str} {px py pz pt : Pos} {kt k2 : Nat} {p2 : Pos} {e1 e2 e3 : Expr} (hc : X.calm = true) (hN : X.N.Nodup) (hi : X.N[i]? = some x) (hj : X.N[j]? = some y) (hm : X.N[m]? = some z) (hij : i ≠ j) (him : i ≠ m) (hjm : j ≠ m)
    (hx : X.env.scope.names.lookup x = some .local) (hy : X.env.scope.names.lookup y = some .local) (hz : X.env.scope.names.lookup z = some .local)
    (ha : PA X [e1, e2, e3] (tPs c cf [(o1, i), (o2, j), (o3, m)] as)) (hw : swappedStores [.Tuple [.Name x px, .Name y py, .Name z pz] kt pt] (.Tuple [e1, e2, e3] k2 p2) X.env = pure (some [x, y, z])) :
    PS X (.Assign [.Tuple [.Name x px, .Name y py, .Name z pz] kt pt] (.Tuple [e1, e2, e3] k2 p2) pos) (tS c cf wh (.par [(o1, i), (o2, j), (o3, m)] as)) :=
  gs_parK (ps_par3 hc hN hi hj hm hij him hjm hx hy hz ha hw) fun D σ H h => by
    obtain ⟨F0, H0, F, ρ, R, ds, R', S, ev, ok, q⟩ := h
    refine ⟨F0, H0, F, ρ, R, ds, R', S, ev, ok, fun F' H' vs l ex r ar => ?_⟩
    have hl := ar.len.1
    match vs, hl with
    | [u, v, w], _ => exact ⟨u, v, w, rfl, q F' H' [u, v, w] l ex r ar rfl H' (.inl rfl)⟩
/-- names, stored one after another -/
theorem pgs_nms {k : Ck} (K : Kx X c cf k) : ∀ {is : List Nat} {ts : List Expr}, is.length = ts.length → (∀ p ∈ is.zip ts, chkTg (.slot p.1) k p.2 = true) → PGs X ts (gNms is)
  | [], [], _, _ => PGs.imp pgs_nil fun vs σ H Q h => by
    obtain ⟨h1, h2⟩ := h
    have : vs = [] := List.eq_nil_of_length_eq_zero h1
    subst this
    exact ⟨rfl, h2⟩
  | [], _ :: _, h, _ => by simp at h
  | _ :: _, [], h, _ => by simp at h
  | i :: is, t :: ts, hl, h => by
    have h1 := h (i, t) (by simp)
    have h2 := pgs_nms K (is := is) (ts := ts) (by simpa using hl) fun p hp => h p (List.mem_cons_of_mem _ hp)
    cases t <;> try (simp [chkTg] at h1; done)
    simp only [chkTg, Bool.and_eq_true, decide_eq_true_eq] at h1
    obtain ⟨k1, k2⟩ := K.st _ h1.2
    refine PGs.imp (pgs_cons (pg_name K.ok.nd (by rw [K.N]; exact h1.1) (by rw [K.sc]; exact k1) (by rw [K.sc]; exact k2)) h2 rfl) fun vs σ H Q h => ?_
    obtain ⟨h3, h4⟩ := h
    cases vs with
    | nil => simp at h3
    | cons v vs => exact ⟨v, vs, rfl, by simpa using h3, by simpa using h4⟩
theorem gs_parG {ts : List (Bool × Nat)} {tes : List Expr} {kt k2 : Nat} {pt p2 : Pos} (hc : X.calm = true) (ha : PA X es (tPs c cf ts as)) (hg : PGs X tes (gNms (ts.map (·.2)))) (hn : tes.all noStar = true) (hl : tes.length = ts.length) (hz : ts.length ≤ 1000)
    (hw : swappedStores [.Tuple tes kt pt] (.Tuple es k2 p2) X.env = pure none) : PS X (.Assign [.Tuple tes kt pt] (.Tuple es k2 p2) pos) (tS c cf wh (.par ts as)) := by
  obtain ⟨h1, h2, h3⟩ := assign_star (env := X.env) hn
  refine gs_parK (ps_asg (pe_tup ha) (pg_tup (n := tes.length) hc hg h1 h2) rfl hw rfl) fun D σ H h => ?_
  obtain ⟨F0, H0, F, ρ, R, ds, R', S, ev, ok, q⟩ := h
  refine ⟨F0, H0, F, ρ, R, ds, R', S, ev, ok, fun F' H' vs l ex r ar => ⟨?_, fun p hp => ?_⟩⟩
  · rw [ar.len.1, sizeLine_eq]; omega
  · refine ⟨p, vs, rfl, SqT.of upd_same, by rw [ar.len.1, hl], by rw [ar.len.1, List.length_map], ?_⟩
    have := q F' H' vs l ex r ar ar.len.1 (upd H' p (.tup vs)) (.inr ⟨p, vs, hp, rfl⟩)
    rw [setNs_fold] at this
    exact this

/-- the object at x, a slot's own, is changed -/
theorem StR.chg {F0 H0 F H : Hp} {σ : L2.St} {ρ : Env} {R : List D} {i : Nat} {d d' : D} {x : Addr} {o : HO} (S : StR c F0 H0 F H σ ρ R) (hs : ρ[i]? = some (.own d)) (hx : σ[i]? = some (some (.ref x))) (ow : OwnD c F (upd H x o) d' x) : StR c F0 H0 F (upd H x o) σ (ρ.set i (.own d')) R := by
  obtain ⟨fp, S⟩ := S.f
  have hi := (List.getElem?_eq_some_iff.mp hs).1
  obtain ⟨y, h1, h2, h3, h4⟩ := S.sl i _ hs
  rw [hx] at h2; cases h2
  have hne : ∀ z, F z ≠ none → z ≠ x := fun z hz e => hz (e ▸ h4.1)
  have hsl : ∀ j, j ≠ i → ∀ z ∈ fp j, z ≠ x := fun j hj z hz e => S.ap j i z hj hz (by rw [h1, e]; simp)
  refine StF.r (fp := fp) ⟨S.sub.upd h4.1, ⟨S.ext.f, fun z u e hr => ?_, S.ext.n, S.sub.upd h4.1⟩, by rw [List.length_set]; exact S.len, fun j s hj => ?_, S.ap, ?_⟩
  · rw [upd_ne fun e' => by subst e'; rw [h4.2.2] at e; cases e]
    exact S.ext.h z u e hr
  · rw [List.getElem?_set] at hj
    by_cases e : i = j
    · subst e
      rw [if_pos rfl, if_pos hi] at hj
      cases hj
      exact ⟨x, h1, hx, ow, h4⟩
    · rw [if_neg e] at hj
      have k := S.sl j s hj
      have na := hsl j (Ne.symm e)
      cases s with
      | none => exact k
      | val d => exact k
      | own d =>
        obtain ⟨z, k1, k2, k3, k4⟩ := k
        exact ⟨z, k1, k2, k3.mono Sub.refl fun u q => by rw [upd_ne (na z (by rw [k1]; simp))]; exact q, k4⟩
      | own2 d =>
        obtain ⟨z, as, rs, k1, k2, k3, k4, k5, k6, k7, k8⟩ := k
        refine ⟨z, as, rs, k1, k2, k3, k4, by rw [upd_ne (na z (by rw [k1]; simp))]; exact k5, k6, k7, fun m b r hb hr => ?_⟩
        obtain ⟨t1, t2, t3⟩ := k8 m b r hb hr
        exact ⟨t1, t2.mono Sub.refl fun u q => by rw [upd_ne (na b (by rw [k1]; exact List.mem_cons_of_mem _ (List.mem_of_getElem? hb)))]; exact q, t3⟩
  · obtain ⟨xs, r1, r2, r3⟩ := S.row
    exact ⟨xs, by rw [upd_ne (Ne.symm h4.2.1)]; exact r1, r2, r3⟩
theorem setSlot_ok {ρ : Env} {i : Nat} {s : Slot} {R R' : List D} {fl : Fl} (h : setSlot ρ i s R = .ok fl R') : fl = .nx (ρ.set i s) ∧ R' = R := by
  unfold setSlot at h
  split at h
  · obtain ⟨rfl, rfl⟩ := ret_ok h; exact ⟨rfl, rfl⟩
  · cases h
theorem few_of {es : List Expr} {env : PySem.Env} {p : Pos} (h : es.all noStar = true) (hl : es.length < 29) :
    ((backTo p (starEach es env)).all (fun x => !x.1) && (backToKw p (keywordEach [] env)).all (fun x => x.1.isSome) && decide (es.length + ([] : List Keyword).length + (if ([] : List Keyword).isEmpty then 0 else 1) < 30)) = true := by
  have h1 : (backTo p (starEach es env)).all (fun x => !x.1) = true := by
    have := star_back (env := env) (p := p) h
    rw [List.all_eq_not_any_not]
    simp only [Bool.not_not]
    rw [this]; rfl
  rw [h1]
  simp [backToKw, keywordEach]
  omega
theorem gs_app {i : Nat} {x : Str} {px pa cp : Pos} (C : Cok X c) (hN : X.N[i]? = some x) (hv : Vis X.env.scope x) (hd : (x == ("__debug__" : Str)) = false) (hcd : (x == ("__classdict__" : Str)) = false) (hl : (pa.endLine == cp.line) = true) (he : PE X e (tE c cf a)) (hs : noStar e = true) :
    PS X (.Expr (.Call (.Attribute (.Name x px) "append" pa) [e] [] cp) pos) (tS c cf wh (.app i a)) := by
  have hall : [e].all noStar = true := by rw [List.all_cons, hs]; rfl
  refine PS.imp (ps_expr (pe_bm PySem.F.plainAttrs_list PySem.F.slot_list_append PySem.F.type_list_append mt_append (pe_var hN hv hd hcd) (pa_cons he pa_nil (star_cons hs)) rfl (few_of hall (by simp)) hl (star_cons hs) rfl) rfl) fun D σ H h => ?_
  obtain ⟨F0, H0, F, ρ, R, fl, R', S, ev, q⟩ := h
  simp only [exS] at ev
  obtain ⟨d, R1, e1, e2⟩ := bnd_ok ev
  cases hsl : ρ[i]? with
  | none => rw [hsl] at e2; cases e2
  | some s =>
    rw [hsl] at e2
    cases s with
    | own z =>
      cases z with
      | lst xs =>
        dsimp only at e2
        split at e2
        · rename_i hz
          obtain ⟨rfl, rfl⟩ := setSlot_ok e2
          obtain ⟨y, k1, k2, k3⟩ := S.own hsl
          obtain ⟨us, k4, k5⟩ := k2
          refine ⟨.ref y, k1, .inl ⟨rfl, us, SqL.of k4⟩, F0, H0, F, ρ, R, d, _, S, e1, fun F1 H1 v ex r rv => ?_⟩
          have S1 := S.step ex r
          obtain ⟨y', k1', k2', k3'⟩ := S1.own hsl
          rw [k1] at k1'; cases k1'
          obtain ⟨us', k4', k5'⟩ := k2'
          have hsz := sizeOk_le hz
          have hlen := k5'.length
          refine ⟨y, us', v, rfl, rfl, k4', by omega, ?_⟩
          exact q F1 _ σ ex.f (S1.chg (d' := .lst (xs ++ [d])) (o := .lst (us' ++ [v])) hsl k1 ⟨us' ++ [v], upd_same, k5'.append (RelDs.one rv)⟩)
        · cases e2
      | _ => cases e2
    | _ => cases e2
/-- L.pop() to a name -/
theorem gs_popTo {i j : Nat} {x y : Str} {px pa cp py : Pos} (C : Cok X c) (hN : X.N[i]? = some x) (hv : Vis X.env.scope x) (hd : (x == ("__debug__" : Str)) = false) (hcd : (x == ("__classdict__" : Str)) = false) (hl : (pa.endLine == cp.line) = true) (hj : X.N[j]? = some y) (hy : Loc X.env.scope y) (hf : X.fn y = true ∨ X.env.scope.names.lookup y = some .local) :
    PS X (.Assign [.Name y py] (.Call (.Attribute (.Name x px) "pop" pa) [] [] cp) pos) (tS c cf wh (.popTo j i)) := by
  refine PS.imp (ps_asg (pe_bm0 PySem.F.plainAttrs_list PySem.F.slot_list_pop PySem.F.type_list_pop mt_pop (pe_var hN hv hd hcd) rfl hl) (pg_name C.nd hj hy hf)) fun D σ H h => ?_
  obtain ⟨F0, H0, F, ρ, R, fl, R', S, ev, q⟩ := h
  simp only [exS] at ev
  cases hsl : ρ[i]? with
  | none => rw [hsl] at ev; cases ev
  | some s =>
    rw [hsl] at ev
    cases s with
    | own z =>
      cases z with
      | lst xs =>
        dsimp only at ev
        cases hg : xs.getLast? with
        | none => rw [hg] at ev; cases ev
        | some d =>
          rw [hg] at ev
          dsimp only at ev
          split at ev
          · rename_i hz
            rw [Bool.and_eq_true, decide_eq_true_iff, decide_eq_true_iff] at hz
            obtain ⟨rfl, rfl⟩ := ret_ok ev
            obtain ⟨a, k1, k2, k3⟩ := S.own hsl
            obtain ⟨us, k4, k5⟩ := k2
            have hgl : xs[xs.length - 1]? = some d := by rw [← hg, List.getLast?_eq_getElem?]
            obtain ⟨u, hu, ru⟩ := k5.get hgl
            rw [← k5.length] at hu
            refine ⟨.ref a, k1, .inl ⟨rfl, us, SqL.of k4⟩, a, us, u, rfl, rfl, k4, hu, ?_⟩
            have hdl : RelDs c F xs.dropLast us.dropLast := by
              rw [List.dropLast_eq_take, List.dropLast_eq_take, k5.length]
              exact RelDs.take _ k5
            have S1 := S.chg (d' := .lst xs.dropLast) (o := .lst us.dropLast) hsl k1 ⟨us.dropLast, upd_same, hdl⟩
            exact q F _ _ Sub.refl (S1.set (i := j) (by rw [List.length_set]; exact hz.2) ru)
          · cases ev
      | _ => cases ev
    | _ => cases ev
theorem ix_set {α : Type} {xs ys : List α} {k : Int} {d : α} (h : setI xs k d = some ys) : ∃ j, ixN xs.length k = some j ∧ ys = xs.set j d := by
  unfold setI at h
  unfold ixN
  split at h
  · rename_i h0
    split at h
    · rename_i h1
      cases h
      exact ⟨_, by rw [if_pos h0, if_pos h1], rfl⟩
    · cases h
  · rename_i h0
    split at h
    · rename_i h1
      cases h
      exact ⟨_, by rw [if_neg h0, if_pos h1], rfl⟩
    · cases h
theorem gs_aug {i : Nat} {o : Op2} {op : Operator} {f : Int → Int → Int} {x : Str} {px : Pos} (hp : PIp X op (ipI f)) (hf : ∀ R (m n : Int), op2 R o (.int m) (.int n) = some (.int (f m n))) (hN : X.N.Nodup) (hi : X.N[i]? = some x) (hx : Loc X.env.scope x) (hfn : X.fn x = true ∨ X.env.scope.names.lookup x = some .local) (he : PE X e (tE c cf a)) :
    PS X (.AugAssign (.Name x px) op e pos) (tS c cf wh (.aug i o a)) := PS.imp (ps_aug hN hi hx he hp hfn) fun D σ H h => by
  obtain ⟨F0, H0, F, ρ, R, fl, R', S, ev, q⟩ := h
  simp only [exS] at ev
  obtain ⟨x1, R1, e1, e2⟩ := bnd_ok ev
  obtain ⟨h1, rfl⟩ := rdV_ok e1
  obtain ⟨y1, R2, e3, e4⟩ := bnd_ok e2
  split at e4
  · rename_i m n
    obtain ⟨z, R3, e5, e6⟩ := bnd_ok e4
    obtain ⟨e7, rfl⟩ := lft_ok e5
    rw [hf] at e7
    cases e7
    obtain ⟨rfl, rfl⟩ := setSlot_ok e6
    obtain ⟨v, k1, k2⟩ := S.val h1
    refine ⟨v, k1, F0, H0, F, ρ, _, _, _, S, e3, fun F1 H1 w ex r rw' => ⟨m, n, by simpa only [RelD] using k2, by simpa only [RelD] using rw', ?_⟩⟩
    exact q F1 H1 _ ex.f ((S.step ex r).set (List.getElem?_eq_some_iff.mp h1).1 (by simp only [RelD]))
  · cases e4
theorem gs_setL {i : Nat} {kE : E} {ek : Expr} {x : Str} {px pt : Pos} (C : Cok X c) (hN : X.N[i]? = some x) (hv : Vis X.env.scope x) (hd : (x == ("__debug__" : Str)) = false) (hcd : (x == ("__classdict__" : Str)) = false) (he : PE X e (tE c cf a)) (hk : PE X ek (tE c cf kE)) {t : TSet} (hset : PSet X t)
    (ht : ∀ (y : Addr) (us : List V) (m : Int) (j : Nat) (v : V) (H : Hp) (Q : Hp → Prop), H y = some (.lst us) → ixN us.length m = some j → Q (upd H y (.lst (us.set j v))) → t (.ref y) (.int m) v H Q)
    (hdt : ∀ (F : Hp) (y : Addr) (ks vs : List D) (kd d : D) (kv v : V) (H : Hp) (Q : Hp → Prop), Sub F H → DtAt c H (fun xs => RelDs c F ks xs) (fun xs => RelDs c F vs xs) ks y → RelD c F kd kv → RelD c F d v → keyOk kd = true → sizeOk (ks.length + 1) = true →
      (∀ o, OwnD c F (upd H y o) (.dt (putD ks vs kd d).1 (putD ks vs kd d).2) y → Q (upd H y o)) → t (.ref y) kv v H Q)
    (hix : ixB ek = true) (hs : swapsWithSole [.Subscript (.Name x px) ek pt] e pos.line X.env = pure false) (hw : swappedStores [.Subscript (.Name x px) ek pt] e X.env = pure none) :
    PS X (.Assign [.Subscript (.Name x px) ek pt] e pos) (tS c cf wh (.seti i kE a)) := by
  have ha : ∀ v, assign (.Subscript (.Name x px) ek pt) X.env v = (do
      let ov ← holding [v] (eval (.Name x px) X.env)
      let iv ← holding [v, ov] (eval ek X.env)
      standAt pt
      holding [v, ov, iv] (setItem ov iv v)
      release [v, ov, iv] []) := fun v => by cases ek <;> first | rfl | cases hix
  refine PS.imp (ps_asg he (pg_sub (pe_var (pos := px) hN hv hd hcd) hk hset ha) hs hw rfl) fun D σ H h => ?_
  obtain ⟨F0, H0, F, ρ, R, fl, R', S, ev, q⟩ := h
  simp only [exS] at ev
  obtain ⟨d, R1, e1, e2⟩ := bnd_ok ev
  obtain ⟨kd, R2, e3, e4⟩ := bnd_ok e2
  refine ⟨F0, H0, F, ρ, R, d, R1, S, e1, fun F1 H1 v ex r rv => ?_⟩
  have S1 := S.step ex r
  -- the named object
  cases hsl : ρ[i]? with
  | none => rw [hsl] at e4; cases e4
  | some s =>
    rw [hsl] at e4
    cases s with
    | none => cases e4
    | own2 z => cases e4
    | own z =>
      obtain ⟨y, k1, k2, k3⟩ := S1.own hsl
      refine ⟨.ref y, k1, F0, H0, F1, ρ, R1, kd, R2, S1, e3, fun F2 H2 kv ex2 r2 rk => ?_⟩
      have S2 := S1.step ex2 r2
      have k2' := k2.ext ex2 k3.2.1
      have rv2 := RelD.mono ex2.f _ _ rv
      cases z with
      | lst xs =>
        cases kd with
        | int m =>
          dsimp only at e4
          cases hys : setI xs m d with
          | none => rw [hys] at e4; cases e4
          | some ys =>
            rw [hys] at e4
            obtain ⟨rfl, rfl⟩ := setSlot_ok e4
            obtain ⟨j, hj, rfl⟩ := ix_set hys
            obtain ⟨us, k4, k5⟩ := k2'
            cases (show kv = _ from rk)
            refine ht y us m j v H2 _ k4 (by rw [k5.length]; exact hj) ?_
            exact q F2 _ σ (ex.f.trans ex2.f) (S2.chg (d' := .lst (xs.set j d)) (o := .lst (us.set j v)) hsl k1 ⟨us.set j v, upd_same, RelDs.set rv2 j k5⟩)
        | _ => cases e4
      | dt ks vs =>
        dsimp only at e4
        split at e4
        · rename_i hz
          obtain ⟨rfl, rfl⟩ := setSlot_ok e4
          rw [Bool.and_eq_true] at hz
          refine hdt F2 y ks vs kd d kv v H2 _ S2.sub k2' rk rv2 hz.1 hz.2 fun o ow => ?_
          exact q F2 _ σ (ex.f.trans ex2.f) (S2.chg hsl k1 ow)
        · cases e4
      | _ => cases e4
    | val z =>
      cases z with
      | row =>
        obtain ⟨w, k1, k2⟩ := S1.val hsl
        cases (show w = _ from k2)
        refine ⟨.ref c.ar, k1, F0, H0, F1, ρ, R1, kd, R2, S1, e3, fun F2 H2 kv ex2 r2 rk => ?_⟩
        have S2 := S1.step ex2 r2
        have rv2 := RelD.mono ex2.f _ _ rv
        cases kd with
        | int m =>
          dsimp only at e4
          cases hys : setI R2 m d with
          | none => rw [hys] at e4; cases e4
          | some ys =>
            rw [hys] at e4
            cases e4
            obtain ⟨j, hj, rfl⟩ := ix_set hys
            obtain ⟨us, k4, k5, k6⟩ := r2
            cases (show kv = _ from rk)
            refine ht c.ar us m j v H2 _ k4 (by rw [k5.length]; exact hj) ?_
            have r3 : RowR c F2 (upd H2 c.ar (.lst (us.set j v))) (R2.set j d) := ⟨_, upd_same, RelDs.set rv2 j k5, k6⟩
            refine q F2 _ σ (ex.f.trans ex2.f) (S2.step ⟨Sub.refl, fun z o hz hr => by rw [upd_ne hr]; exact hz, fun z o hz => .inl hz, S2.sub.upd k6⟩ r3)
        | _ => cases e4
      | _ => cases e4
end
end Pu
end

section
set_option autoImplicit false
set_option linter.all false
set_option maxRecDepth 100000
set_option maxHeartbeats 4000000
set_option Elab.async false
namespace Pu
open PySem PySem.Spec PyProof.Rows L2

section
variable {c : Ct}
theorem put_map {K : Type} [DecidableEq K] {xs : List (K × Addr × Value)} {k : K} {v : Value} {j : Nat} {p : Addr × Value} (hn : (xs.map (·.1)).Nodup) (hj : xs[j]? = some (k, p)) : xs.map (putAt k v) = xs.set j (k, p.1, v) := by
  refine List.ext_getElem? fun i => ?_
  rw [List.getElem?_map, List.getElem?_set]
  by_cases e : j = i
  · subst e
    have hl : j < xs.length := (List.getElem?_eq_some_iff.mp hj).1
    rw [if_pos rfl, if_pos hl, hj]
    simp [putAt]
  · rw [if_neg e]
    cases hi : xs[i]? with
    | none => rfl
    | some x =>
      have hx : ¬ x.1 = k := fun z => e (idxH_unique hn (k := k) (p := p) (q := x.2) hj (by rw [hi, ← z]))
      simp [putAt, hx]
theorem toNKs_append : ∀ (a b : List D), toNKs (a ++ b) = toNKs a ++ toNKs b
  | [], b => rfl
  | x :: a, b => by simp only [List.cons_append, toNKs, toNKs_append a b]
/-- a store, in the terms of data -/
theorem dt_put {X : Cx} {F H : Hp} {ks vs : List D} {kd d : D} {y b : Addr} {v : V} {w : Value} {xs : List (NestedKey × Addr × Value)} {us : List V} {h' : Heap} (C : Cok X c)
    (h3 : toNKs ks = xs.map (·.1)) (h4 : ks.all keyOk = true) (h5 : RelDs c F ks (xs.map fun x => V.ref x.2.1)) (h6 : RelDs c F vs us) (h7 : Vals us (xs.map (·.2.2))) (hn : (xs.map (·.1)).Nodup)
    (hk : keyOk kd = true) (rk : RelD c F kd (.ref b)) (rd : RelD c F d v) (rv : RelV v w) (hz : ks.length + 1 ≤ 1000000) (hy : (y == sysModules) = false) (hd : h'.DictOfH (nestedKind X.prog X.w) y (storedH xs (toNK kd) b w)) :
    ∃ o, h'.get? y = some o ∧ DtAt c (upd H y (isObjAt y o)) (fun xs => RelDs c F (putD ks vs kd d).1 xs) (fun xs => RelDs c F (putD ks vs kd d).2 xs) (putD ks vs kd d).1 y := by
  obtain ⟨o, es, ep, ho, hx, hdat, hes, his, hnd⟩ := hd
  refine ⟨o, ho, ?_⟩
  rw [C.P, C.w] at hes
  have ek := atKey_keyAt h3 h4 hk
  have hl : ks.length = xs.length := by
    have := congrArg List.length h3
    rw [toNKs_map] at this
    simpa using this
  unfold putD
  cases hj : keyAt ks kd with
  | none =>
    rw [hj] at ek
    have hst := storedH_new (by simpa using ek : atKey xs (toNK kd) = none) b w
    rw [hst] at hes hnd
    refine ⟨o, es, ep, xs ++ [(toNK kd, b, w)], us ++ [v], upd_same, hx, hdat, hy, hes, hnd, ?_, ?_, ?_, h6.append (RelDs.one rd), ?_, ?_⟩
    · rw [toNKs_append, h3]; simp [toNKs]
    · rw [List.all_append, h4]; simp [hk]
    · rw [List.map_append]; exact h5.append (RelDs.one rk)
    · rw [List.map_append]; exact h7.append (.cons rv .nil)
    · rw [List.length_append]; simp; omega
  | some j =>
    rw [hj] at ek
    have hjl : j < ks.length := by unfold keyAt at hj; exact (List.findIdx?_eq_some_iff_getElem.mp hj).1
    have hjx : j < xs.length := hl ▸ hjl
    have hxj : xs[j]? = some xs[j] := List.getElem?_eq_getElem hjx
    have ek : atKey xs (toNK kd) = some xs[j].2 := by rw [ek]; show (xs[j]?).map _ = _; rw [hxj]; rfl
    have ekey : xs[j].1 = toNK kd := by
      have e1 := congrArg (fun l => l[j]?) h3
      rw [toNKs_map, List.getElem?_map, List.getElem?_map, hxj, List.getElem?_eq_getElem hjl] at e1
      have e1 : toNK ks[j] = xs[j].1 := Option.some.inj e1
      have hb : eqB ks[j] kd = true := by
        unfold keyAt at hj
        exact (List.findIdx?_eq_some_iff_getElem.mp hj).2.1
      have nb := nk_beq ks[j] kd (keyOk_hsh (List.all_eq_true.mp h4 _ (List.getElem_mem hjl))).1 (keyOk_hsh hk).1
      rw [← NestedKey.decide_eq, hb] at nb
      rw [← e1]
      exact of_decide_eq_true nb
    have hst := storedH_old ek b w
    have hput := put_map (v := w) hn (by rw [hxj, ← ekey] : xs[j]? = some (toNK kd, xs[j].2))
    rw [hst, hput] at hes hnd
    refine ⟨o, es, ep, xs.set j (toNK kd, xs[j].2.1, w), us.set j v, upd_same, hx, hdat, hy, hes, hnd, ?_, h4, ?_, RelDs.set rd j h6, ?_, by show ks.length ≤ 1000001; omega⟩
    · rw [List.map_set, h3]
      refine List.ext_getElem? fun i => ?_
      rw [List.getElem?_set]
      split
      · rename_i e; subst e
        rw [if_pos (by simpa using hjx), List.getElem?_map, hxj]
        simp [ekey]
      · rfl
    · rw [List.map_set]
      have : (xs.map fun x => V.ref x.2.1).set j (V.ref xs[j].2.1) = xs.map fun x => V.ref x.2.1 := by
        refine List.ext_getElem? fun i => ?_
        rw [List.getElem?_set]
        split
        · rename_i e; subst e
          rw [if_pos (by simpa using hjx), List.getElem?_map, hxj]; rfl
        · rfl
      rw [this]; exact h5
    · rw [List.map_set]; exact h7.set rv j
end
/-- d[k] = v, d a dict of one's own -/
def rSetDt (c : Ct) : TSet := fun o i v H Q => ∃ F y ks vs kd d, o = .ref y ∧ Sub F H ∧ DtAt c H (fun xs => RelDs c F ks xs) (fun xs => RelDs c F vs xs) ks y ∧ RelD c F kd i ∧ RelD c F d v ∧ keyOk kd = true ∧ sizeOk (ks.length + 1) = true ∧
  ∀ o, OwnD c F (upd H y o) (.dt (putD ks vs kd d).1 (putD ks vs kd d).2) y → Q (upd H y o)
section
variable {X : Cx} {c : Ct}
theorem set_dt (C : Cok X c) : PSet X (rSetDt c) := by
  intro pins s σ H o i v ov iv u Q I ro ri rv h
  obtain ⟨F, y, ks, vs, kd, d, rfl, hs, hd, rk, rd, hk, hz, q⟩ := h
  cases ro
  obtain ⟨b, rfl, rfl, kb⟩ := key_is C I hs rk hk ri
  obtain ⟨o, es, ep, xs, us, h1, h2, h3, h4, h5, h6, h7, h8, h9, h10, h11, h12, h13, h14⟩ := dt_heap C I hs hd
  have hl : ks.length = xs.length := by
    have := congrArg List.length h3
    rw [toNKs_map] at this
    simpa using this
  have hz' : ks.length + 1 ≤ 1000000 := of_decide_eq_true hz
  refine wpAny_setItem_heap (nest_room C) kb h2 (fun g hg sb => ?_) (by rw [sizeLine_eq]; omega)
  obtain ⟨o', ho', hdt⟩ := dt_put (H := H) (b := b) (v := v) (w := u) C h3 h4 h5 h6 h7 h14 hk rk rd rv hz' h1 hg
  refine ⟨_, I.write (x := y) (e := y) (o := isObjAt y o') (t' := s.toks + (nestedKind X.prog X.w).draws (toNK kd)) (by rw [h9]; trivial) (.inl rfl) (fun z t hz ht => (sb.2 z hz).trans ht) ⟨o', ho'⟩ (isObj_ok ho'), ?_⟩
  exact q _ hdt
theorem PSet.or {t t' : TSet} (h : PSet X t) (h' : PSet X t') : PSet X (fun o i v H Q => t o i v H Q ∨ t' o i v H Q) := by
  intro pins s σ H x y z v u w Q I r1 r2 r3 q
  rcases q with q | q
  · exact h pins s σ H x y z v u w Q I r1 r2 r3 q
  · exact h' pins s σ H x y z v u w Q I r1 r2 r3 q
end
end Pu
end

section
set_option autoImplicit false
set_option linter.all false
set_option maxRecDepth 100000
set_option maxHeartbeats 4000000
set_option Elab.async false
namespace Pu
open PySem PySem.Spec PyProof.Rows L2
theorem ix_set2 {α : Type} {xs ys : List α} {k : Int} {d : α} {j : Nat} (h : setI xs k d = some ys) (hj : ixN xs.length k = some j) : ys = xs.set j d := by
  obtain ⟨j', h1, h2⟩ := ix_set h
  rw [hj] at h1; cases h1; exact h2
section
variable {c : Ct}
/-- the inner list at bb is changed -/
theorem StR.chg2 {F0 H0 F H : Hp} {σ : L2.St} {ρ : Env} {R : List D} {i j : Nat} {rs : List D} {d' : D} {y bb : Addr} {as : List Addr} {o : HO} (S : StR c F0 H0 F H σ ρ R) (hs : ρ[i]? = some (.own2 (.lst rs))) (hx : σ[i]? = some (some (.ref y))) (hy : H y = some (.lst (as.map V.ref))) (hb : as[j]? = some bb) (hd : ∃ ds, d' = .lst ds) (ow : OwnD c F (upd H bb o) d' bb) :
    StR c F0 H0 F (upd H bb o) σ (ρ.set i (.own2 (.lst (rs.set j d')))) R := by
  obtain ⟨fp, S⟩ := S.f
  have hi := (List.getElem?_eq_some_iff.mp hs).1
  obtain ⟨y', as', rs', k1, k2, k3, k4, k5, k6, k7, k8⟩ := S.sl i _ hs
  cases k3
  rw [hx] at k4; cases k4
  rw [hy] at k5
  have eas : as = as' := by
    have h1 : as.map V.ref = as'.map V.ref := by injection k5 with k5; injection k5
    have inj : ∀ (l l' : List Addr), l.map V.ref = l'.map V.ref → l = l' := by
      intro l
      induction l with
      | nil => intro l' h; cases l' with
        | nil => rfl
        | cons a l' => cases h
      | cons a l ih => intro l' h; cases l' with
        | nil => cases h
        | cons b l' =>
          rw [List.map_cons, List.map_cons, List.cons.injEq] at h
          have h2 : a = b := by injection h.1
          rw [h2, ih l' h.2]
    exact inj _ _ h1
  subst eas
  have hjl : j < rs.length := by rw [← k7]; exact (List.getElem?_eq_some_iff.mp hb).1
  obtain ⟨_, t2, t3⟩ := k8 j bb _ hb (List.getElem?_eq_getElem hjl)
  have hbm : bb ∈ as := List.mem_of_getElem? hb
  have hbf : bb ∈ fp i := by rw [k1]; exact List.mem_cons_of_mem _ hbm
  rw [k1] at k2
  obtain ⟨n1, n2⟩ := List.nodup_cons.mp k2
  have hyb : y ≠ bb := fun e => n1 (by rw [e]; exact hbm)
  have hsl : ∀ m, m ≠ i → ∀ z ∈ fp m, z ≠ bb := fun m hm z hz e => S.ap m i z hm hz (by rw [e]; exact hbf)
  refine StF.r (fp := fp) ⟨S.sub.upd t3.1, ⟨S.ext.f, fun z u e hr => ?_, S.ext.n, S.sub.upd t3.1⟩, by rw [List.length_set]; exact S.len, fun m s hm => ?_, S.ap, ?_⟩
  · rw [upd_ne fun e' => by subst e'; rw [t3.2.2] at e; cases e]
    exact S.ext.h z u e hr
  · rw [List.getElem?_set] at hm
    by_cases e : i = m
    · subst e
      rw [if_pos rfl, if_pos hi] at hm
      cases hm
      refine ⟨y, as, rs.set j d', k1, by rw [k1]; exact k2, rfl, hx, by rw [upd_ne hyb]; exact hy, k6, by rw [List.length_set]; exact k7, fun q b r hq hr => ?_⟩
      rw [List.getElem?_set] at hr
      by_cases e2 : j = q
      · subst e2
        rw [if_pos rfl, if_pos hjl] at hr
        cases hr
        rw [hb] at hq; cases hq
        exact ⟨hd, ow, t3⟩
      · rw [if_neg e2] at hr
        obtain ⟨u1, u2, u3⟩ := k8 q b r hq hr
        have hne : b ≠ bb := fun e3 => e2 (by
          have h1 := (List.getElem?_eq_some_iff.mp hq)
          have h2 := (List.getElem?_eq_some_iff.mp hb)
          exact ((List.getElem_inj n2).mp (h2.2.trans (e3.symm.trans h1.2.symm))))
        exact ⟨u1, u2.mono Sub.refl fun u q' => by rw [upd_ne hne]; exact q', u3⟩
    · rw [if_neg e] at hm
      have k := S.sl m s hm
      have na := hsl m (Ne.symm e)
      cases s with
      | none => exact k
      | val d => exact k
      | own d =>
        obtain ⟨z, k1, k2, k3, k4⟩ := k
        exact ⟨z, k1, k2, k3.mono Sub.refl fun u q => by rw [upd_ne (na z (by rw [k1]; simp))]; exact q, k4⟩
      | own2 d =>
        obtain ⟨z, as, rs, k1, k2, k3, k4, k5, k6, k7, k8⟩ := k
        refine ⟨z, as, rs, k1, k2, k3, k4, by rw [upd_ne (na z (by rw [k1]; simp))]; exact k5, k6, k7, fun m b r hb hr => ?_⟩
        obtain ⟨t1, t2, t3⟩ := k8 m b r hb hr
        exact ⟨t1, t2.mono Sub.refl fun u q => by rw [upd_ne (na b (by rw [k1]; exact List.mem_cons_of_mem _ (List.mem_of_getElem? hb)))]; exact q, t3⟩
  · obtain ⟨xs, r1, r2, r3⟩ := S.row
    exact ⟨xs, by rw [upd_ne (Ne.symm t3.2.1)]; exact r1, r2, r3⟩
variable {X : Cx} {cf : Cf} {wh : Wh} {a b : E} {v : E} {ea eb e : Expr} {pos : Pos}
theorem gs_seti2 {i : Nat} {x : Str} {p1 p2 p3 : Pos} (hN : X.N[i]? = some x) (hv : Vis X.env.scope x) (hd : (x == ("__debug__" : Str)) = false) (hcd : (x == ("__classdict__" : Str)) = false) (he : PE X e (tE c cf v)) (ha : PE X ea (tE c cf a)) (hb : PE X eb (tE c cf b)) (h1 : PlainIx ea) (hix : ixB eb = true)
    (hs : swapsWithSole [.Subscript (.Subscript (.Name x p1) ea p2) eb p3] e pos.line X.env = pure false) (hw : swappedStores [.Subscript (.Subscript (.Name x p1) ea p2) eb p3] e X.env = pure none) :
    PS X (.Assign [.Subscript (.Subscript (.Name x p1) ea p2) eb p3] e pos) (tS c cf wh (.seti2 i a b v)) := by
  have has : ∀ v, assign (.Subscript (.Subscript (.Name x p1) ea p2) eb p3) X.env v = (do
      let ov ← holding [v] (eval (.Subscript (.Name x p1) ea p2) X.env)
      let iv ← holding [v, ov] (eval eb X.env)
      standAt p3
      holding [v, ov, iv] (setItem ov iv v)
      release [v, ov, iv] []) := fun v => by cases eb <;> first | rfl | cases hix
  refine PS.imp (ps_asg he (pg_sub (pe_ix ix_list (pe_var hN hv hd hcd) ha h1) hb set_list has) hs hw rfl) fun D σ H h => ?_
  obtain ⟨F0, H0, F, ρ, R, fl, R', S, ev, q⟩ := h
  simp only [exS] at ev
  obtain ⟨dv, Rv, e0, ev⟩ := bnd_ok ev
  obtain ⟨xd, R1, e1, e2⟩ := bnd_ok ev
  obtain ⟨yd, R2, e3, e4⟩ := bnd_ok e2
  refine ⟨F0, H0, F, ρ, R, dv, Rv, S, e0, fun F1 H1 vv ex0 r0 rvv => ?_⟩
  have S1 := S.step ex0 r0
  cases hsl : ρ[i]? with
  | none => rw [hsl] at e4; cases e4
  | some sl =>
    rw [hsl] at e4
    cases sl with
    | own2 z =>
      cases z with
      | lst rs =>
        cases xd with
        | int p =>
          cases yd with
          | int qi =>
            dsimp only at e4
            cases hg : getI rs p with
            | none => rw [hg] at e4; cases e4
            | some r0' =>
              rw [hg] at e4
              cases r0' with
              | lst xs =>
                dsimp only at e4
                cases hys : setI xs qi dv with
                | none => rw [hys] at e4; cases e4
                | some ys =>
                  rw [hys] at e4
                  dsimp only at e4
                  cases hrs : setI rs p (.lst ys) with
                  | none => rw [hrs] at e4; cases e4
                  | some rs' =>
                    rw [hrs] at e4
                    dsimp only at e4
                    obtain ⟨rfl, rfl⟩ := setSlot_ok e4
                    obtain ⟨y, as, s1, s2, s3, s4, s5, s6⟩ := S1.own2 hsl
                    obtain ⟨j, j1, j2⟩ := getI_ix hg
                    have hjl := (List.getElem?_eq_some_iff.mp j2).1
                    obtain ⟨bb, hbb⟩ : ∃ bb, as[j]? = some bb := ⟨_, List.getElem?_eq_getElem (by rw [s4]; exact hjl)⟩
                    obtain ⟨_, t2, t3⟩ := s6 j bb _ hbb j2
                    refine ⟨.ref y, s1, F0, H0, F1, ρ, Rv, _, R1, S1, e1, fun F2 H2 w ex r rw' => ?_⟩
                    cases (show w = _ from rw')
                    have hy2 := ex.h _ _ s2 s3.2.1
                    refine ⟨y, as.map V.ref, p, .ref bb, rfl, rfl, SqL.of hy2, atI_ix (by rw [List.length_map, s4]; exact j1) (by rw [List.getElem?_map, hbb]; rfl), ?_⟩
                    have S2 := S1.step ex r
                    refine ⟨F0, H0, F2, ρ, R1, _, _, S2, e3, fun F3 H3 u ex2 r2 ru => ?_⟩
                    cases (show u = _ from ru)
                    have S3 := S2.step ex2 r2
                    obtain ⟨us, k4, k5⟩ := (t2.ext ex t3.2.1).ext ex2 t3.2.1
                    obtain ⟨jq, hjq, hys2⟩ := ix_set hys
                    have rv3 := RelD.mono ex2.f _ _ (RelD.mono ex.f _ _ rvv)
                    refine ⟨bb, us, qi, jq, rfl, rfl, k4, by rw [k5.length]; exact hjq, ?_⟩
                    have hr' := ix_set2 hrs j1
                    subst hr'
                    subst hys2
                    exact q F3 _ σ ((ex0.f.trans ex.f).trans ex2.f) (S3.chg2 (d' := .lst (xs.set jq dv)) (o := .lst (us.set jq vv)) hsl s1 (ex2.h _ _ hy2 s3.2.1) hbb ⟨_, rfl⟩ ⟨us.set jq vv, upd_same, RelDs.set rv3 jq k5⟩)
              | _ => cases e4
          | _ => cases e4
        | _ => cases e4
      | _ => cases e4
    | _ => cases e4
end
end Pu
end

section
set_option autoImplicit false
set_option linter.all false
set_option maxRecDepth 100000
set_option maxHeartbeats 4000000
set_option Elab.async false
namespace Pu
open PySem PySem.Spec PyProof.Rows L2
section
variable {c : Ct} {cf : Cf} {wh : Wh} {a b : E}
theorem tS_own2 {i : Nat} {k : ItK} {elt cn : E} {t : Tg} {own : List Nat} (hown : ∀ i ∈ tgs t, i ∈ own) : ∀ D σ H, tS c cf wh (.own2 i (.comp elt t k a b cn own)) D σ H → tAsg (tLc (wO c cf k a b) (tTg c t) (tT c cf cn) (tG c cf elt) own) (gName i) D σ H := by
  rintro D σ H ⟨F0, H0, F, ρ, R, fl, Rz, S, ev, q⟩
  simp only [exS] at ev
  obtain ⟨dd, Ry, ev, ev2⟩ := bnd_ok ev
  simp only [evE] at ev
  obtain ⟨dx, R1, e1, e2⟩ := bnd_ok ev
  obtain ⟨dy, R2, e3, e4⟩ := bnd_ok e2
  obtain ⟨ds, R3, e5, e6⟩ := bnd_ok e4
  obtain ⟨e7, rfl⟩ := lft_ok e5
  have hsz : sizeOk ds.length = true := by
    cases hz : sizeOk ds.length with
    | true => rfl
    | false => rw [hz] at e6; cases e6
  rw [hsz, if_pos rfl] at e6
  obtain ⟨ys, R4, e8, e9⟩ := bnd_ok e6
  obtain ⟨rfl, rfl⟩ := ret_ok e9
  dsimp only at ev2
  have hall : ∀ y ∈ ys, ∃ l, y = .lst l := by
    split at ev2
    · rename_i h
      intro y hy
      have := List.all_eq_true.mp h y hy
      cases y <;> first | exact ⟨_, rfl⟩ | cases this
    · cases ev2
  have hset0 : fl = .nx (ρ.set i (.own2 (.lst ys))) ∧ Rz = R4 ∧ i < ρ.length := by
    split at ev2
    · unfold setSlot at ev2
      by_cases hi : i < ρ.length
      · rw [if_pos hi] at ev2
        obtain ⟨h1, h2⟩ := ret_ok ev2
        exact ⟨h1.symm, h2.symm, hi⟩
      · rw [if_neg hi] at ev2; cases ev2
    · cases ev2
  obtain ⟨rfl, rfl, hi0⟩ := hset0
  have e8 : cmpL (turnF cf elt t cn own ρ) ds _ = .ok ys _ := e8
  refine ⟨F0, H0, F, ρ, R, dx, R1, dy, _, ds, S, e1, e3, e7, fun F1 H1 J ex1 r1 w => ?_⟩
  have S1 := S.step ex1 r1
  intro Dn hD
  have hDr : Dn ≠ c.ar := by
    rintro rfl
    obtain ⟨_, z, _⟩ := r1
    rw [hD] at z; cases z
  let Pv : Nat → Hp → Prop := fun i H2 => ∃ F2 Ri acc as zs, Ext c F1 H1 F2 H2 ∧ RowR c F2 H2 Ri ∧ H2 Dn = some (.lst (as.map V.ref)) ∧ F2 Dn = none ∧ (Dn :: as).Nodup ∧ as.length = acc.length ∧
    (∀ (j : Nat) (b : Addr) (r : Pu.D), as[j]? = some b → acc[j]? = some r → OwnD c F2 H2 r b ∧ F2 b = none ∧ b ≠ c.ar ∧ H1 b = none) ∧ acc.length ≤ i ∧ cmpL (turnF cf elt t cn own ρ) (ds.drop i) Ri = .ok zs Rz ∧ ys = acc ++ zs
  have hsz := sizeOk_le hsz
  refine lc_it w (g := tTg c t) (tt := tT c cf cn) (te := tG c cf elt) (vs := own) (σ := σ) Pv ?_ ?_ ?_ ?_
  · exact ⟨F1, _, [], [], ys, Ext.beside ex1.s hD, r1.beside hD, upd_same, ex1.s.none hD, by simp, rfl, fun j b r h => by simp at h, Nat.le_refl _, by simpa using e8, rfl⟩
  · rintro i H2 hi ⟨F2, Ri, acc, as, zs, ex2, _⟩
    exact ex2.h
  · rintro i x H2 H2' hi ⟨F2, Ri, acc, as, zs, ex2, r2, hus, hF2, hnd, hlen, racc, hacc, ev2, eys⟩ hy
    obtain ⟨d, hd, hy⟩ := hy
    have hdrop : ds.drop i = d :: ds.drop (i + 1) := by
      rw [List.drop_eq_getElem_cons hi]
      congr 1
      rw [List.getElem?_eq_getElem hi] at hd
      exact Option.some.inj hd
    rw [hdrop] at ev2
    obtain ⟨o, R5, zs', t1, t2, t3⟩ := cmpL_cons ev2
    unfold turnF at t1
    have hv : ∃ F3, Ext c F2 H2 F3 H2' ∧ RowR c F3 H2' Ri ∧ RelD c F3 d x := by
      rcases hy with ⟨rfl, rd⟩ | ⟨T, p, q, d1, d2, rfl, rfl, hT, rfl, k1, k2⟩
      · exact ⟨F2, Ext.refl ex2.s, r2, RelD.mono ex2.f _ _ rd⟩
      · refine ⟨upd F2 T (.tup [p, q]), Ext.add ex2.s hT, r2.add ex2.s hT, ?_⟩
        simp only [RelD]
        refine ⟨T, [p, q], rfl, SqT.of upd_same, ?_⟩
        simp only [RelDs]
        have sF := ex2.f.trans (Sub.self (o := .tup [p, q]) (ex2.s.none hT))
        exact ⟨RelD.mono sF _ _ k1, RelD.mono sF _ _ k2, trivial⟩
    obtain ⟨F3, ex23, r3, rd⟩ := hv
    have ex3 := ex2.trans ex23 r2
    have hus3 : H2' Dn = some (.lst (as.map V.ref)) := ex23.h _ _ hus hDr
    have hF3 : F3 Dn = none := ex23.none hF2 hus
    have keep : ∀ {F' H' : Hp} {F'' H'' : Hp}, Ext c F' H' F'' H'' → (∀ (j : Nat) (b : Addr) (r : Pu.D), as[j]? = some b → acc[j]? = some r → OwnD c F' H' r b ∧ F' b = none ∧ b ≠ c.ar ∧ H1 b = none) → ∀ (j : Nat) (b : Addr) (r : Pu.D), as[j]? = some b → acc[j]? = some r → OwnD c F'' H'' r b ∧ F'' b = none ∧ b ≠ c.ar ∧ H1 b = none := fun e h j b r hb hr => by
      obtain ⟨k1, k2, k3, k4⟩ := h j b r hb hr
      obtain ⟨o, ho⟩ := k1.there
      exact ⟨k1.ext e k3, e.none k2 ho, k3, k4⟩
    have racc3 := keep ex23 racc
    have S3 : StR c F0 H0 F3 H2' σ ρ Ri := S1.step ex3 r3
    cases hset : setTg t d (wipeE ρ own) with
    | none => rw [hset] at t1; cases t1
    | some ρ' =>
      rw [hset] at t1
      refine ⟨F0, H0, F3, wipeE ρ own, Ri, d, ρ', S3.wipe own, rd, hset, fun σ2 S4 w4 => ⟨?_, ?_⟩⟩
      · rw [w4 own hown]
        refine List.ext_getElem? fun j => ?_
        rw [wipe_get, wipe_get]
        by_cases hj : j ∈ own
        · simp only [if_pos hj]
          cases σ[j]? <;> rfl
        · simp only [if_neg hj]
      · obtain ⟨kp, R6, e10, e11⟩ := bnd_ok t1
        refine ⟨F0, H0, F3, ρ', Ri, kp, R6, S4, e10, fun F4 H4 ex4 r4 => ?_⟩
        have hus4 : H4 Dn = some (.lst (as.map V.ref)) := ex4.h _ _ hus3 hDr
        have hF4 : F4 Dn = none := ex4.none hF3 hus3
        have racc4 := keep ex4 racc3
        cases kp with
        | false =>
          rw [if_neg (by simp)] at e11
          obtain ⟨rfl, rfl⟩ := ret_ok e11
          show Pv (i + 1) H4
          exact ⟨F4, _, acc, as, zs', ex3.trans ex4 r3, r4, hus4, hF4, hnd, hlen, racc4, by omega, t2, by rw [eys, t3]⟩
        | true =>
          rw [if_pos rfl] at e11
          obtain ⟨y, R7, e12, e13⟩ := bnd_ok e11
          obtain ⟨rfl, rfl⟩ := ret_ok e13
          have eys2 : ys = acc ++ y :: zs' := by rw [eys, t3]
          have hown' : ownable y = true := by
            obtain ⟨l, e⟩ := hall y (by rw [eys2]; simp)
            rw [e]; rfl
          show tG c cf elt σ2 H4 fun y H4 => ∃ acc, H4 Dn = some (HO.lst acc) ∧ acc.length < sizeLine ∧ Pv (i + 1) (upd H4 Dn (HO.lst (acc ++ [y])))
          refine ⟨F0, H0, F4, ρ', R6, y, _, S4.step ex4 r4, e12, ?_⟩
          unfold ResG
          rw [if_pos hown']
          intro F5 H5 a5 ex5 r5 ow n1 n2 n3
          have hus5 : H5 Dn = some (.lst (as.map V.ref)) := ex5.h _ _ hus4 hDr
          have hF5 : F5 Dn = none := ex5.none hF4 hus4
          have racc5 := keep ex5 racc4
          have ex : Ext c F1 H1 F5 H5 := (ex3.trans ex4 r3).trans ex5 r4
          have haD : a5 ≠ Dn := fun e => by rw [e] at n3; rw [hus4] at n3; cases n3
          have ha1 : H1 a5 = none := by
            cases z : H1 a5 with
            | none => rfl
            | some o => rw [(ex3.trans ex4 r3).h a5 o z n2] at n3; cases n3
          have hmem : ∀ b ∈ as, b ≠ Dn ∧ b ≠ a5 := fun b hb => by
            obtain ⟨j, hj⟩ := List.mem_iff_getElem?.mp hb
            have hjl : j < acc.length := by rw [← hlen]; exact (List.getElem?_eq_some_iff.mp hj).1
            obtain ⟨k1, k2, k3, k4⟩ := racc4 j b _ hj (List.getElem?_eq_getElem hjl)
            obtain ⟨o, ho⟩ := k1.there
            exact ⟨fun e => (List.nodup_cons.mp hnd).1 (by rw [← e]; exact hb), fun e => by rw [e] at ho; rw [n3] at ho; cases ho⟩
          refine ⟨as.map V.ref, hus5, by rw [List.length_map]; omega, F5, _, acc ++ [y], as ++ [a5], zs', ?_, ?_, by rw [List.map_append]; exact upd_same, hF5, ?_, by simp [hlen], fun j b r hb hr => ?_, ?_, t2, ?_⟩
          · exact ⟨ex.f, fun z o hz hr => by rw [upd_ne (ne_of_none hz hD)]; exact ex.h z o hz hr, ex.n, ex.s.upd hF5⟩
          · obtain ⟨rx, h1, h2, h3⟩ := r5
            exact ⟨rx, by rw [upd_ne (Ne.symm hDr)]; exact h1, h2, h3⟩
          · obtain ⟨d1, d2⟩ := List.nodup_cons.mp hnd
            refine List.nodup_cons.mpr ⟨fun h => ?_, List.nodup_append.mpr ⟨d2, by simp, fun x hx y hy e => ?_⟩⟩
            · rcases List.mem_append.mp h with h | h
              · exact d1 h
              · exact haD (List.mem_singleton.mp h).symm
            · rw [List.mem_singleton.mp hy] at e
              exact (hmem x hx).2 e
          · by_cases hjl : j < as.length
            · rw [List.getElem?_append_left hjl] at hb
              rw [List.getElem?_append_left (by omega)] at hr
              obtain ⟨k1, k2, k3, k4⟩ := racc5 j b r hb hr
              exact ⟨k1.mono Sub.refl fun o q => by rw [upd_ne (hmem b (List.mem_of_getElem? hb)).1]; exact q, k2, k3, k4⟩
            · rw [List.getElem?_append_right (by omega)] at hb
              rw [List.getElem?_append_right (by omega)] at hr
              have hj0 : j - as.length = 0 := by
                have := (List.getElem?_eq_some_iff.mp hb).1
                simpa using this
              rw [hj0] at hb
              rw [show j - acc.length = 0 by omega] at hr
              cases hb
              cases hr
              exact ⟨ow.mono Sub.refl fun o q => by rw [upd_ne haD]; exact q, n1, n2, ha1⟩
          · simp; omega
          · rw [eys2, List.append_assoc]; rfl
  · rintro H2 ⟨F2, Ri, acc, as, zs, ex2, r2, hus, hF2, hnd, hlen, racc, hacc, ev2, eys⟩
    rw [List.drop_length] at ev2
    unfold cmpL at ev2
    obtain ⟨rfl, rfl⟩ := ret_ok ev2
    rw [List.append_nil] at eys
    subst eys
    show D.nx (σ.set i (some (.ref Dn))) H2
    have hDH : H Dn = none := by
      cases z : H Dn with
      | none => rfl
      | some o => rw [ex1.h Dn o z hDr] at hD; cases hD
    have hlH : ∀ x ∈ Dn :: as, H x = none ∧ F2 x = none ∧ x ≠ c.ar := fun x hx => by
      rcases List.mem_cons.mp hx with e | hx
      · subst e; exact ⟨hDH, hF2, hDr⟩
      · obtain ⟨j, hj⟩ := List.mem_iff_getElem?.mp hx
        have hjl : j < ys.length := by rw [← hlen]; exact (List.getElem?_eq_some_iff.mp hj).1
        obtain ⟨k1, k2, k3, k4⟩ := racc j x _ hj (List.getElem?_eq_getElem hjl)
        refine ⟨?_, k2, k3⟩
        cases z : H x with
        | none => rfl
        | some o => rw [ex1.h x o z k3] at k4; cases k4
    have hH0 : ∀ x ∈ Dn :: as, H0 x = none := fun x hx => by
      obtain ⟨h1, _, h3⟩ := hlH x hx
      cases q : H0 x with
      | none => rfl
      | some o => rw [S.ext.h x o q h3] at h1; cases h1
    obtain ⟨fp, Sf⟩ := S.f
    obtain ⟨Sf1, _⟩ := Sf.out hDH
    have hex := ex1.trans ex2 r1
    refine q F2 H2 _ hex.f ((Sf1.step hex r2).set (s := .own2 (.lst ys)) (l := Dn :: as) hi0 ?_ fun x hx j _ => (Sf.out (hlH x hx).1).2 j).r
    exact ⟨Dn, as, ys, rfl, hnd, rfl, rfl, hus, ⟨hF2, hDr, hH0 _ List.mem_cons_self⟩, hlen, fun j b r hb hr => by
      obtain ⟨k1, k2, k3, k4⟩ := racc j b r hb hr
      exact ⟨hall r (List.mem_of_getElem? hr), k1, k2, k3, hH0 b (List.mem_cons_of_mem _ (List.mem_of_getElem? hb))⟩⟩
/-- a comprehension of new objects, set -/
theorem chk_lc2 {elt : E} {tt : Tg} {kk : ItK} {a b cn : E} {own : List Nat} (X : Cx) (k : Ck) (e : Expr) (K : Kx X c cf k) (h : chkE (.comp elt tt kk a b cn own) k e = true) (hf : freshE elt = true) :
    (∀ i ∈ tgs tt, i ∈ own) ∧ ∀ {i : Nat} {y : Str} {py spos : Pos}, X.N[i]? = some y → X.env.scope.names.lookup y = some .local → swapsWith e (some (.Name y py)) spos.line X.env = pure true →
      PS X (.Assign [.Name y py] e spos) (tAsg (tLc (wO c cf kk a b) (tTg c tt) (tT c cf cn) (tG c cf elt) own) (gName i)) := by
  simp only [chkE] at h
  split at h <;> first | cases h; done | skip
  rename_i e tg it ifs ia scope pos
  simp only [Bool.and_eq_true, decide_eq_true_eq] at h
  obtain ⟨⟨⟨⟨⟨⟨⟨rfl, hit⟩, hb⟩, hown⟩, htg⟩, h5⟩, h6⟩, h7⟩ := h
  have hi : GI X c cf kk a b tg it := by
    split at h5
    · rename_i e1 o2 ha
      simp only [Bool.and_eq_true] at h5
      refine argIt_gi K ha h5.1.1 (chk_ge a X k _ K h5.1.2) ?_
      have h6 := h5.2
      split at h6
      · exact .inl ⟨rfl, isNon_of h6⟩
      · rw [Bool.and_eq_true] at h6
        exact .inr ⟨_, rfl, h6.1, chk_ge b X k _ K h6.2⟩
    · cases h5
  have hcn : (ifs = [] ∧ cn = .bl true) ∨ ∃ f, ifs = [f] ∧ ∀ X', Kx X' c cf (k.blk scope) → GE X' c cf cn f := by
    split at h6
    · exact .inl ⟨rfl, isTru_of h6⟩
    · exact .inr ⟨_, rfl, fun X' K' => chk_ge cn X' _ _ K' h6⟩
    · cases h6
  have ok := blkOk_by hb
  have ok' : BlkOk X.N X.env.scope scope (own.map fun i => (k.N.getD i Str.empty, i)) := by rw [K.N, K.sc]; exact ok
  have hk : scope.kind = .function := ok.kind
  have e2 : (own.map fun i => (k.N.getD i Str.empty, i)).map (·.2) = own := by
    rw [List.map_map]
    exact List.map_id' own |> fun h => by simpa [Function.comp_def] using h
  have hg : ∀ (s : Shared) (H : Hp) (C : Addr) (cl : List (Str × Addr)) (fp : List Addr), PG (X.blk s H scope (compEnvC scope cl C X.env) fp) tg (tTg c tt) := fun s H C cl fp => chk_tg (K.blk hk s H cl C fp) tt tg htg
  have ht : ∀ (s : Shared) (H : Hp) (C : Addr) (cl : List (Str × Addr)) (fp : List Addr), PTs (X.blk s H scope (compEnvC scope cl C X.env) fp) ifs (tT c cf cn) := fun s H C cl fp => by
    rcases hcn with ⟨rfl, rfl⟩ | ⟨f, rfl, h⟩
    · refine ⟨fun pins s σ H Q I q => pts_nil.run pins s σ H Q I ?_⟩
      obtain ⟨F0, H0, F, ρ, R, b', R', S, ev, q⟩ := q
      simp only [evE] at ev
      obtain ⟨d, R2, e0, e9⟩ := bnd_ok ev
      obtain ⟨rfl, rfl⟩ := ret_ok e0
      obtain ⟨eb, rfl⟩ := asB_ok e9
      cases eb
      exact q F _ (Ext.refl S.sub) S.row
    · exact pts_one (h _ (K.blk hk s H cl C fp)).t
  have hv : ∀ (s : Shared) (H : Hp) (C : Addr) (cl : List (Str × Addr)) (fp : List Addr), PE (X.blk s H scope (compEnvC scope cl C X.env) fp) e (tG c cf elt) := fun s H C cl fp => chk_gf elt _ _ e (K.blk hk s H cl C fp) h7 hf
  refine ⟨fun i hi => by
    have := List.all_eq_true.mp hown i hi
    simpa using this, fun hy hyl hsw => ?_⟩
  have := ps_setLc K.ok.calm K.ok.nd hy hyl hsw hi.o ok' hg ht hv (okE_fold hit)
  rw [e2] at this
  exact this
end
end Pu
end

section
set_option autoImplicit false
set_option linter.all false
set_option maxRecDepth 100000
set_option maxHeartbeats 4000000
set_option Elab.async false
namespace Pu
open PySem PySem.Spec PyProof.Rows L2

def noComp : Expr → Bool
  | .ListComp .. => false
  | .SetComp .. => false
  | .DictComp .. => false
  | _ => true
/-- a comprehension whose list goes to the local name y -/
def swapC (k : Ck) (y : Str) (line : Nat) : Expr → Bool
  | .ListComp _ _ s p => decide (k.sc.names.lookup y = some .local) && (line == p.line) && !(s.names.any fun (n, kk) => n == y && (kk == .local || kk == .cell))
  | _ => false
/-- .. that is told to go otherwise -/
def swapN (k : Ck) (y : Str) (line : Nat) : Expr → Bool
  | .ListComp _ _ s p => !(decide (k.sc.names.lookup y = some .local) && (line == p.line) && !(s.names.any fun (n, kk) => n == y && (kk == .local || kk == .cell)))
  | .SetComp .. => false
  | .DictComp .. => false
  | _ => true
def notTup : Expr → Bool
  | .Tuple .. => false
  | _ => true
def isTupT : Expr → Bool
  | .Tuple .. => true
  | _ => false
def chkPs : List (Bool × Nat) → List E → Ck → List Expr → Bool
  | [], [], _, [] => true
  | (o, _) :: ts, a :: as, k, e :: es => okE e && chkE a k e && (!o || freshE a) && chkPs ts as k es
  | _, _, _, _ => false
def locN (k : Ck) (i : Nat) : Expr → Bool
  | .Name x _ => decide (k.N[i]? = some x) && decide (k.sc.names.lookup x = some .local)
  | _ => false
def nameOf : Expr → Str
  | .Name x _ => x
  | _ => Str.empty
/-- names to be stored at once -/
def chkPar (ts : List (Bool × Nat)) (k : Ck) (tes xs : List Expr) : Bool :=
  match swP k.sc.names tes xs with
  | none => false
  | some none => decide (tes.length = ts.length) && decide (ts.length ≤ 1000) && tes.all noStar && ((ts.map (·.2)).zip tes).all (fun p => chkTg (.slot p.1) k p.2)
  | some (some ns) => match ts, tes, xs with
    | [(_, i), (_, j)], [t1, t2], [_, _] => locN k i t1 && locN k j t2 && decide (i ≠ j) && decide (ns = [nameOf t1, nameOf t2])
    | [(_, i), (_, j), (_, m)], [t1, t2, t3], [_, _, _] => locN k i t1 && locN k j t2 && locN k m t3 && decide (i ≠ j) && decide (i ≠ m) && decide (j ≠ m) && decide (ns = [nameOf t1, nameOf t2, nameOf t3])
    | _, _, _ => false
def isFrz : S → Bool
  | .frz _ => true
  | _ => false
def isComp : E → Bool
  | .comp .. => true
  | _ => false
mutual
def chkS : S → Ck → Stmt → Bool
  | .expr a, k, st => match st with
    | .Expr e _ => noComp e && chkE a k e
    | _ => false
  | .asg t a, k, st => match st with
    | .Assign [tg] e _ => (match t, tg with
      | .slot i, .Name y py => chkTg (.slot i) k (.Name y py) && chkE a k e && (swapN k y py.line e || (swapC k y py.line e && isComp a))
      | .tup ts, .Tuple es n p => chkTg (.tup ts) k (.Tuple es n p) && chkE a k e && notTup e && noComp e
      | _, _ => false)
    | _ => false
  | .own i a, k, st => match st with
    | .Assign [.Name y py] e _ => chkTg (.slot i) k (.Name y py) && chkE a k e && freshE a && (swapN k y py.line e || (swapC k y py.line e && isComp a))
    | _ => false
  | .own2 i a, k, st => match a, st with
    | .comp elt t kk x y cn own, .Assign [.Name z py] e _ => chkTg (.slot i) k (.Name z py) && chkE (.comp elt t kk x y cn own) k e && freshE elt && swapC k z py.line e
    | _, _ => false
  | .par ts as, k, st => match st with
    | .Assign [.Tuple tes _ _] (.Tuple xs _ _) _ => chkPs ts as k xs && chkPar ts k tes xs
    | _ => false
  | .app i a, k, st => match st with
    | .Expr (.Call (.Attribute (.Name x _) m pa) [e] [] cp) _ => decide (m = "append") && decide (k.N[i]? = some x) && visB k x && okName x && (pa.endLine == cp.line) && okE e && chkE a k e
    | _ => false
  | .seti i kE a, k, st => match st with
    | .Assign [.Subscript (.Name x _) ek _] e _ => decide (k.N[i]? = some x) && visB k x && okName x && ixB ek && chkE kE k ek && chkE a k e
    | _ => false
  | .seti2 i kA kB a, k, st => match st with
    | .Assign [.Subscript (.Subscript (.Name x _) ea _) eb _] e _ => decide (k.N[i]? = some x) && visB k x && okName x && ixB ea && ixB eb && chkE kA k ea && chkE kB k eb && chkE a k e
    | _ => false
  | .aug i o a, k, st => match st with
    | .AugAssign (.Name x _) op e _ => chkTg (.slot i) k (.Name x ⟨0, 0, 0, 0⟩) && chkE a k e && (match o, op with | .add, .Add => true | .sub, .Sub => true | _, _ => false)
    | _ => false
  | .popTo j i, k, st => match st with
    | .Assign [.Name y py] (.Call (.Attribute (.Name x _) m pa) [] [] cp) _ => decide (m = "pop") && decide (k.N[i]? = some x) && visB k x && okName x && (pa.endLine == cp.line) && chkTg (.slot j) k (.Name y py)
    | _ => false
  | .frz _, _, _ => false
  | .retE a, k, st => match st with
    | .Return (some e) _ => chkE a k e
    | .Return none _ => isNon a
    | _ => false
  | .ifS a s1 s2, k, st => match st with
    | .If e b1 b2 _ => chkE a k e && chkSs s1 k b1 && chkSs s2 k b2
    | _ => false
  | .whileS a s1, k, st => match st with
    | .While e b1 [] _ => chkE a k e && chkSs s1 k b1
    | _ => false
  | .forS t kk a b s1, k, st => match st with
    | .For tg it b1 [] _ => okE it && chkTg t k tg && (match argIt k kk tg it with
        | some (e1, o2) => okE e1 && chkE a k e1 && (match o2 with | none => isNon b | some e2 => okE e2 && chkE b k e2)
        | none => false) && chkSs s1 k b1
    | _ => false
  | .brk, _, st => match st with
    | .Break _ => true
    | _ => false
  | .cont, _, st => match st with
    | .Continue _ => true
    | _ => false
  | .pass, _, st => match st with
    | .Pass _ => true
    | _ => false
  | .raise _ _, _, _ => true
  | .tryS _ _ _ _, _, _ => false
def chkSs : List S → Ck → List Stmt → Bool
  | [], _, sts => sts.isEmpty
  | s :: ss, k, sts => (isFrz s && chkSs ss k sts) || match sts with
    | st :: sts => chkS s k st && chkSs ss k sts
    | [] => false
end
section
variable {X : Cx} {c : Ct} {cf : Cf} {wh : Wh} {k : Ck}
theorem swaps_no {y : Str} {py : Pos} {e : Expr} {l : Nat} (K : Kx X c cf k) (h : swapN k y py.line e = true) : swapsWith e (some (.Name y py)) l X.env = pure false := by
  have hb : X.env.blockKind = .function := by unfold Env.blockKind; rw [K.sc, K.kind]; rfl
  cases e <;> first
    | rfl
    | (simp only [swapN] at h; cases h; done)
    | skip
  rename_i e' gs s p
  simp only [swapN] at h
  unfold swapsWith
  have hk : (X.env.kindOf y == some NameKind.local) = decide (k.sc.names.lookup y = some .local) := by
    show (X.env.scope.names.lookup y == some NameKind.local) = _
    rw [K.sc]
    by_cases hh : List.lookup y k.sc.names = some .local <;> simp [hh]
  simp only [hb, hk, Expr.pos]
  congr 1
  simp only [Bool.not_eq_true'] at h
  exact h
theorem swaps_yes {y : Str} {py : Pos} {e : Expr} {l : Nat} (K : Kx X c cf k) (h : swapC k y py.line e = true) : swapsWith e (some (.Name y py)) l X.env = pure true := by
  have hb : X.env.blockKind = .function := by unfold Env.blockKind; rw [K.sc, K.kind]; rfl
  cases e <;> first
    | (simp only [swapC] at h; cases h; done)
    | skip
  rename_i e' gs s p
  simp only [swapC] at h
  unfold swapsWith
  have hk : (X.env.kindOf y == some NameKind.local) = decide (k.sc.names.lookup y = some .local) := by
    show (X.env.scope.names.lookup y == some NameKind.local) = _
    rw [K.sc]
    by_cases hh : List.lookup y k.sc.names = some .local <;> simp [hh]
  simp only [hb, hk, Expr.pos]
  congr 1
theorem swapC_loc {y : Str} {l : Nat} {e : Expr} (K : Kx X c cf k) (h : swapC k y l e = true) : X.env.scope.names.lookup y = some .local := by
  rw [K.sc]
  cases e <;> first
    | (simp only [swapC] at h; cases h; done)
    | skip
  simp only [swapC, Bool.and_eq_true, decide_eq_true_eq] at h
  exact h.1.1
theorem noComp_sole {tg e : Expr} {l : Nat} {env : PySem.Env} (h : noComp e = true) : swapsWithSole [tg] e l env = pure false := by
  cases e <;> first | rfl | cases h
theorem sub_sole {a b e : Expr} {p : Pos} {l : Nat} {env : PySem.Env} : swapsWithSole [.Subscript a b p] e l env = pure false := by cases e <;> rfl
theorem noComp_none {e : Expr} {l : Nat} {env : PySem.Env} (h : noComp e = true) : swapsWith e none l env = pure false := by
  cases e <;> first | rfl | cases h
theorem notTup_no {tg e : Expr} {env : PySem.Env} (h : notTup e = true) : swappedStores [tg] e env = pure none := by
  cases tg <;> cases e <;> first | rfl | cases h
theorem name_no {y : Str} {py : Pos} {e : Expr} {env : PySem.Env} : swappedStores [.Name y py] e env = pure none := by
  cases e <;> rfl
theorem sub_no {o i : Expr} {py : Pos} {e : Expr} {env : PySem.Env} : swappedStores [.Subscript o i py] e env = pure none := by
  cases e <;> rfl
theorem slot_of {i : Nat} {y : Str} {py : Pos} (K : Kx X c cf k) (h : chkTg (.slot i) k (.Name y py) = true) : X.N[i]? = some y ∧ Loc X.env.scope y ∧ (X.fn y = true ∨ X.env.scope.names.lookup y = some .local) := by
  simp only [chkTg, Bool.and_eq_true, decide_eq_true_eq] at h
  obtain ⟨h1, h2⟩ := K.st _ h.2
  exact ⟨by rw [K.N]; exact h.1, by rw [K.sc]; exact h1, by rw [K.sc]; exact h2⟩
theorem chk_gp (K : Kx X c cf k) : ∀ {ts : List (Bool × Nat)} {as : List E} {es : List Expr}, chkPs ts as k es = true → PA X es (tPs c cf ts as)
  | [], [], [], _ => gp_nil
  | [], [], _ :: _, h => by simp [chkPs] at h
  | [], _ :: _, es, h => by simp [chkPs] at h
  | _ :: _, [], es, h => by simp [chkPs] at h
  | _ :: _, _ :: _, [], h => by simp [chkPs] at h
  | (o, i) :: ts, a :: as, e :: es, h => by
    simp only [chkPs, Bool.and_eq_true, Bool.or_eq_true, Bool.not_eq_true'] at h
    obtain ⟨⟨⟨h1, h2⟩, h3⟩, h4⟩ := h
    have p := chk_gp K h4
    cases o with
    | false => exact gp_val (chk_ge a X k e K h2).v p (okE_star h1)
    | true =>
      rcases h3 with z | z
      · cases z
      · exact gp_own (chk_gf a X k e K h2 z) p (okE_star h1)
theorem locN_of {i : Nat} {t : Expr} (K : Kx X c cf k) (h : locN k i t = true) : ∃ x p, t = .Name x p ∧ X.N[i]? = some x ∧ X.env.scope.names.lookup x = some .local := by
  cases t <;> try (cases h; done)
  simp only [locN, Bool.and_eq_true, decide_eq_true_eq] at h
  exact ⟨_, _, rfl, by rw [K.N]; exact h.1, by rw [K.sc]; exact h.2⟩
theorem chk_par (K : Kx X c cf k) {ts : List (Bool × Nat)} {as : List E} {tes xs : List Expr} {n1 n2 : Nat} {p1 p2 pos : Pos} (ha : PA X xs (tPs c cf ts as)) (h : chkPar ts k tes xs = true) :
    PS X (.Assign [.Tuple tes n1 p1] (.Tuple xs n2 p2) pos) (tS c cf wh (.par ts as)) := by
  unfold chkPar at h
  have hsc : X.env.scope.names = k.sc.names := by rw [K.sc]
  have hkd : X.env.scope.kind = .function := by rw [K.sc]; exact K.kind
  split at h
  · cases h
  · rename_i hw
    simp only [Bool.and_eq_true, decide_eq_true_eq] at h
    obtain ⟨⟨⟨h1, h2⟩, h3⟩, h4⟩ := h
    exact gs_parG K.ok.calm ha (pgs_nms K (by rw [List.length_map, h1]) fun p hp => List.all_eq_true.mp h4 p hp) h3 h1 h2 (swP_of hsc hkd hw)
  · rename_i ns hw
    split at h
    · simp only [Bool.and_eq_true, decide_eq_true_eq] at h
      obtain ⟨⟨⟨h1, h2⟩, h3⟩, h4⟩ := h
      obtain ⟨x, px, rfl, a1, a2⟩ := locN_of K h1
      obtain ⟨y, py, rfl, b1, b2⟩ := locN_of K h2
      rw [h4] at hw
      exact gs_par2 K.ok.calm K.ok.nd a1 b1 h3 a2 b2 ha (swP_of hsc hkd hw)
    · simp only [Bool.and_eq_true, decide_eq_true_eq] at h
      obtain ⟨⟨⟨⟨⟨⟨h1, h2⟩, h3⟩, h4⟩, h5⟩, h6⟩, h7⟩ := h
      obtain ⟨x, px, rfl, a1, a2⟩ := locN_of K h1
      obtain ⟨y, py, rfl, b1, b2⟩ := locN_of K h2
      obtain ⟨z, pz, rfl, c1, c2⟩ := locN_of K h3
      rw [h7] at hw
      exact gs_par3 K.ok.calm K.ok.nd a1 b1 c1 h4 h5 h6 a2 b2 c2 ha (swP_of hsc hkd hw)
    · cases h
theorem comp_of {a : E} (h : isComp a = true) : ∃ elt t kk x y cn own, a = .comp elt t kk x y cn own := by
  cases a <;> first | exact ⟨_, _, _, _, _, _, _, rfl⟩ | cases h
/-- a fresh thing goes to a name -/
theorem chk_asgG (K : Kx X c cf k) {i : Nat} {y : Str} {py pos : Pos} {a : E} {e : Expr} (h1 : chkTg (.slot i) k (.Name y py) = true) (h2 : chkE a k e = true) (hf : freshE a = true) (h3 : (swapN k y py.line e || (swapC k y py.line e && isComp a)) = true) :
    PS X (.Assign [.Name y py] e pos) (tAsg (tG c cf a) (gName i)) := by
  obtain ⟨a1, a2, a3⟩ := slot_of K h1
  simp only [Bool.or_eq_true, Bool.and_eq_true] at h3
  rcases h3 with h3 | ⟨h3, h4⟩
  · exact ps_setG K.ok.nd a1 a2 a3 (chk_gf a X k e K h2 hf) (swaps_no K h3)
  · obtain ⟨elt, t, kk, x, z, cn, own, rfl⟩ := comp_of h4
    exact (chk_lc X k e K h2).2 a1 (swapC_loc K h3) (swaps_yes K h3)
theorem chk_src (K : Kx X c cf k) {kk : ItK} {a b : E} {tg it : Expr} (h : (match argIt k kk tg it with
        | some (e1, o2) => okE e1 && chkE a k e1 && (match o2 with | none => isNon b | some e2 => okE e2 && chkE b k e2)
        | none => false) = true) : GI X c cf kk a b tg it := by
  split at h
  · rename_i e1 o2 ha
    simp only [Bool.and_eq_true] at h
    refine argIt_gi K ha h.1.1 (chk_ge a X k _ K h.1.2) ?_
    have h6 := h.2
    split at h6
    · exact .inl ⟨rfl, isNon_of h6⟩
    · rw [Bool.and_eq_true] at h6
      exact .inr ⟨_, rfl, h6.1, chk_ge b X k _ K h6.2⟩
  · cases h
theorem frz_of {s : S} {ss : List S} {sts : List Stmt} (h : isFrz s = true) (h2 : PSs X sts (tSs c cf wh ss)) : PSs X sts (tSs c cf wh (s :: ss)) := by
  cases s <;> first | exact gs_frz h2 | cases h
mutual
theorem chk_s (hw : WhOk wh) (K : Kx X c cf k) (hp : PassesOwn (model X.prog X.w) X.A X.env X.xe) : ∀ (s : S) (st : Stmt), chkS s k st = true → PS X st (tS c cf wh s)
  | .expr a, st, h => by
    simp only [chkS] at h
    split at h <;> first | cases h; done | skip
    rw [Bool.and_eq_true] at h
    exact gs_expr (chk_ge a X k _ K h.2).v (noComp_none h.1)
  | .asg t a, st, h => by
    simp only [chkS] at h
    split at h <;> first | cases h; done | skip
    rename_i tg e pos
    split at h
    · rename_i i y py
      simp only [Bool.and_eq_true] at h
      obtain ⟨⟨h1, h2⟩, h3⟩ := h
      obtain ⟨a1, a2, a3⟩ := slot_of K h1
      simp only [Bool.or_eq_true, Bool.and_eq_true] at h3
      rcases h3 with h3 | ⟨h3, h4⟩
      · exact gs_asg (chk_ge a X k _ K h2).v (chk_tg K _ _ h1) (show swapsWithSole _ _ _ _ = _ from swaps_no (l := pos.line) K h3) name_no rfl
      · obtain ⟨elt, t, kk, x, z, cn, own, rfl⟩ := comp_of h4
        exact gs_asgG ((chk_lc X k e K h2).2 a1 (swapC_loc K h3) (swaps_yes K h3))
    · simp only [Bool.and_eq_true] at h
      obtain ⟨⟨⟨h1, h2⟩, h3⟩, h4⟩ := h
      exact gs_asg (chk_ge a X k _ K h2).v (chk_tg K _ _ h1) (noComp_sole h4) (notTup_no h3) rfl
    · cases h
  | .own i a, st, h => by
    simp only [chkS] at h
    split at h <;> first | cases h; done | skip
    simp only [Bool.and_eq_true] at h
    obtain ⟨⟨⟨h1, h2⟩, h3⟩, h4⟩ := h
    exact gs_own (chk_asgG K h1 h2 h3 h4)
  | .own2 i a, st, h => by
    simp only [chkS] at h
    split at h <;> first | cases h; done | skip
    simp only [Bool.and_eq_true] at h
    obtain ⟨⟨⟨h1, h2⟩, h3⟩, h4⟩ := h
    obtain ⟨a1, a2, a3⟩ := slot_of K h1
    obtain ⟨g1, g2⟩ := chk_lc2 X k _ K h2 h3
    exact PS.imp (g2 a1 (swapC_loc K h4) (swaps_yes K h4)) fun D σ H q => tS_own2 g1 D σ H q
  | .par ts as, st, h => by
    simp only [chkS] at h
    split at h <;> first | cases h; done | skip
    rw [Bool.and_eq_true] at h
    exact chk_par K (chk_gp K h.1) h.2
  | .app i a, st, h => by
    simp only [chkS] at h
    split at h <;> first | cases h; done | skip
    simp only [Bool.and_eq_true, decide_eq_true_eq] at h
    obtain ⟨⟨⟨⟨⟨⟨rfl, h1⟩, h2⟩, h3⟩, h4⟩, h5⟩, h6⟩ := h
    obtain ⟨n1, n2, _⟩ := okName_of h3
    exact gs_app K.ok (by rw [K.N]; exact h1) (visB_of K h2) n1 n2 h4 (chk_ge a X k _ K h6).v (okE_star h5)
  | .seti i kE a, st, h => by
    simp only [chkS] at h
    split at h <;> first | cases h; done | skip
    simp only [Bool.and_eq_true, decide_eq_true_eq] at h
    obtain ⟨⟨⟨⟨⟨h1, h2⟩, h3⟩, h4⟩, h5⟩, h6⟩ := h
    obtain ⟨n1, n2, _⟩ := okName_of h3
    refine gs_setL K.ok (by rw [K.N]; exact h1) (visB_of K h2) n1 n2 (chk_ge a X k _ K h6).v (chk_ge kE X k _ K h5).v (PSet.or set_list (set_dt K.ok)) ?_ ?_ h4 sub_sole sub_no
    · exact fun y us m j v H Q e1 e2 q => .inl ⟨y, us, m, j, rfl, rfl, e1, e2, q⟩
    · exact fun F y ks vs kd d kv v H Q s hd r1 r2 e1 e2 q => .inr ⟨F, y, ks, vs, kd, d, rfl, s, hd, r1, r2, e1, e2, q⟩
  | .seti2 i kA kB a, st, h => by
    simp only [chkS] at h
    split at h <;> first | cases h; done | skip
    simp only [Bool.and_eq_true, decide_eq_true_eq] at h
    obtain ⟨⟨⟨⟨⟨⟨⟨h1, h2⟩, h3⟩, h4⟩, h5⟩, h6⟩, h7⟩, h8⟩ := h
    obtain ⟨n1, n2, _⟩ := okName_of h3
    exact gs_seti2 (by rw [K.N]; exact h1) (visB_of K h2) n1 n2 (chk_ge a X k _ K h8).v (chk_ge kA X k _ K h6).v (chk_ge kB X k _ K h7).v (ixB_plain h4) h5 sub_sole sub_no
  | .aug i o a, st, h => by
    simp only [chkS] at h
    split at h <;> first | cases h; done | skip
    simp only [Bool.and_eq_true] at h
    obtain ⟨⟨h1, h2⟩, h3⟩ := h
    obtain ⟨a1, a2, a3⟩ := slot_of K h1
    split at h3
    · exact gs_aug ip_add (fun _ _ _ => rfl) K.ok.nd a1 a2 a3 (chk_ge a X k _ K h2).v
    · exact gs_aug ip_sub (fun _ _ _ => rfl) K.ok.nd a1 a2 a3 (chk_ge a X k _ K h2).v
    · cases h3
  | .popTo j i, st, h => by
    simp only [chkS] at h
    split at h <;> first | cases h; done | skip
    simp only [Bool.and_eq_true, decide_eq_true_eq] at h
    obtain ⟨⟨⟨⟨⟨rfl, h1⟩, h2⟩, h3⟩, h4⟩, h5⟩ := h
    obtain ⟨n1, n2, _⟩ := okName_of h3
    obtain ⟨a1, a2, a3⟩ := slot_of K h5
    exact gs_popTo K.ok (by rw [K.N]; exact h1) (visB_of K h2) n1 n2 h4 a1 a2 a3
  | .frz _, st, h => by simp [chkS] at h
  | .retE a, st, h => by
    simp only [chkS] at h
    split at h <;> first | cases h; done | skip
    · exact gs_ret (chk_ge a X k _ K h).v
    · rw [isNon_of h]; exact gs_retN
  | .ifS a s1 s2, st, h => by
    simp only [chkS] at h
    split at h <;> first | cases h; done | skip
    simp only [Bool.and_eq_true] at h
    exact gs_if (chk_ge a X k _ K h.1.1).t (chk_ss hw K hp s1 _ h.1.2) (chk_ss hw K hp s2 _ h.2)
  | .whileS a s1, st, h => by
    simp only [chkS] at h
    split at h <;> first | cases h; done | skip
    simp only [Bool.and_eq_true] at h
    exact gs_while hw hp (chk_ge a X k _ K h.1).t (chk_ss hw K hp s1 _ h.2)
  | .forS t kk a b s1, st, h => by
    simp only [chkS] at h
    split at h <;> first | cases h; done | skip
    simp only [Bool.and_eq_true] at h
    obtain ⟨⟨⟨h1, h2⟩, h3⟩, h4⟩ := h
    exact gs_for hp K.ok.calm (chk_src K h3).v (chk_tg K _ _ h2) (chk_ss hw K hp s1 _ h4) (okE_fold h1)
  | .brk, st, h => by
    simp only [chkS] at h
    split at h <;> first | cases h; done | exact gs_brk
  | .cont, st, h => by
    simp only [chkS] at h
    split at h <;> first | cases h; done | exact gs_cont
  | .pass, st, h => by
    simp only [chkS] at h
    split at h <;> first | cases h; done | exact gs_pass
  | .raise _ _, st, h => gs_raise
  | .tryS _ _ _ _, st, h => by simp [chkS] at h
theorem chk_ss (hw : WhOk wh) (K : Kx X c cf k) (hp : PassesOwn (model X.prog X.w) X.A X.env X.xe) : ∀ (ss : List S) (sts : List Stmt), chkSs ss k sts = true → PSs X sts (tSs c cf wh ss)
  | [], sts, h => by
    simp only [chkSs] at h
    cases sts with
    | nil => exact gs_nil
    | cons => cases h
  | s :: ss, sts, h => by
    simp only [chkSs, Bool.or_eq_true, Bool.and_eq_true] at h
    rcases h with h | h
    · exact frz_of h.1 (chk_ss hw K hp ss _ h.2)
    · cases sts with
      | nil => cases h
      | cons st sts =>
        have h : (chkS s k st && chkSs ss k sts) = true := h
        rw [Bool.and_eq_true] at h
        exact gs_cons (chk_s hw K hp s _ h.1) (chk_ss hw K hp ss _ h.2)
end
end
end Pu
end

section
set_option autoImplicit false
set_option linter.all false
set_option maxRecDepth 100000
set_option maxHeartbeats 4000000
set_option Elab.async false
namespace Pu
open PySem PySem.Spec PyProof.Rows L2

/-- FnScope, told by a test -/
def fnScB (N ps : List Str) (sc : Scope) : Bool :=
  (match sc.kind with | .function => true | _ => false) && !sc.isCoroutine && !sc.isGenerator && decide N.Nodup && decide (N.take ps.length = ps) &&
  (ps.all fun x => decide (sc.names.lookup x = some .local) || decide (sc.names.lookup x = some .cell)) && (sc.names.all fun y => decide (y.2 ≠ .free))
theorem fnScB_of {N ps : List Str} {sc : Scope} (h : fnScB N ps sc = true) : FnScope N ps sc := by
  unfold fnScB at h
  simp only [Bool.and_eq_true, decide_eq_true_eq, Bool.not_eq_true'] at h
  obtain ⟨⟨⟨⟨⟨⟨h1, h2⟩, h3⟩, h4⟩, h5⟩, h6⟩, h7⟩ := h
  refine ⟨?_, h2, h3, h4, h5, fun x hx => ?_, fun y hy => ?_⟩
  · cases hk : sc.kind <;> rw [hk] at h1 <;> first | rfl | cases h1
  · have := List.all_eq_true.mp h6 x hx
    simpa only [Bool.or_eq_true, decide_eq_true_eq] using this
  · have := List.all_eq_true.mp h7 y hy
    simpa only [decide_eq_true_eq] using this
/-- what is known in a def's body -/
def fnCk (N : List Str) (sc : Scope) (fnT : Str → Option Nat) (cstT : Str → D → Bool) : Ck := ⟨N, sc, fun x => decide (sc.names.lookup x = some .local) || decide (sc.names.lookup x = some .cell), fnT, cstT⟩
section
variable {P : Program} {w : World} {K : PySem.W.Frag} {mg : Str → Option Value} {base : Heap}
/-- callees, constants, builtins -/
structure Env0K (P : Program) (w : World) (K : PySem.W.Frag) (mg : Str → Option Value) (base : Heap) (c : Ct) (cf : Cf) (n : Nat) (fnT : Str → Option Nat) (cstT : Str → D → Bool) : Prop where
  hK : c.K = K
  hP : c.P = P
  hw : c.w = w
  bl : ∀ x ∈ bnames, mg x = none
  fns : ∀ x g, fnT x = some g → ∃ fd ps, FnOk P w K mg base CX0 n (c.fa g) fd ps (spG c cf g) ∧ mg x = some (.ref (c.fa g)) ∧ PySem.W.keepIn K (.ref (c.fa g)) = true ∧ Binds K fd ps []
  cst : ∀ x d, cstT x d = true → ∃ u v, mg x = some u ∧ RelV v u ∧ ∀ F, RelD c F d v
theorem fn_kx {c : Ct} {cf : Cf} {n : Nat} {fnT : Str → Option Nat} {cstT : Str → D → Bool} (E : Env0K P w K mg base c cf n fnT cstT) {N ps : List Str} {sc : Scope} (S : FnScope N ps sc) {qual : Str} {f : Addr} {cdv : Value} {A : Around} {outer : List PySem.Env} {s : Shared} {H : Hp} {X0 : XK}
    (hr : Room n (A.deeper (envOfC qual sc s.heap.objs.size f cdv))) : Kx (cxOf CX0 P w K mg base N qual sc f cdv A outer s H X0).nox c cf (fnCk N sc fnT cstT) where
  ok := ⟨E.hK.symm, E.hP.symm, E.hw.symm, rfl, S.nd, by have := hr.un; show (A.deeper _).units + 100 < cLine; omega, E.bl⟩
  N := rfl
  sc := rfl
  kind := S.kind
  st x h := by
    have h : (decide (sc.names.lookup x = some .local) || decide (sc.names.lookup x = some .cell)) = true := h
    simp only [Bool.or_eq_true, decide_eq_true_eq] at h
    refine ⟨h, ?_⟩
    rcases h with h | h
    · exact .inr h
    · exact .inl rfl
  fns x g h := by
    obtain ⟨fd, ps, h1, h2, h3, h4⟩ := E.fns x g h
    exact ⟨n, fd, ps, h1, hr, h2, h3, h4⟩
  cst x d h := E.cst x d h
theorem start_st {c : Ct} {F H : Hp} {R ds : List D} {vs : List V} {N : List Str} {m : Nat} (hs : Sub F H) (hr : RowR c F H R) (rv : RelDs c F ds vs) (hN : N.length = m) (hl : ds.length ≤ m) : StR c F H F H (L2.start N vs) (ds.map .val ++ List.replicate (m - ds.length) .none) R := by
  have hlen := rv.length
  refine ⟨hs, Ext.refl hs, ?_, ⟨fun _ => [], fun i s h => ?_, fun i j a _ h => by cases h⟩, hr⟩
  · unfold L2.start
    simp [hlen, hN]
  · rw [List.getElem?_append] at h
    split at h
    · rename_i hi
      rw [List.length_map] at hi
      rw [List.getElem?_map, List.getElem?_eq_getElem hi] at h
      cases h
      obtain ⟨x, hx, rx⟩ := rv.get (List.getElem?_eq_getElem hi)
      refine ⟨rfl, x, ?_, rx⟩
      unfold L2.start
      rw [List.getElem?_append_left (by rw [List.length_map, hlen]; exact hi), List.getElem?_map, hx]
      rfl
    · obtain ⟨_, h⟩ := List.getElem?_eq_some_iff.mp h
      rw [List.getElem_replicate] at h
      subst h
      exact rfl
/-- a def by its term -/
theorem fn_ok {c : Ct} {tbl : Nat → Option FD} {wh : Wh} (hw : WhOk wh) {n g : Nat} {d : FD} {fnT : Str → Option Nat} {cstT : Str → D → Bool} {x : Str} {qual : Str} {st : Stmt} {f : Addr} {fd : FuncData} {N ps : List Str} (F : Fun K x qual st f fd)
    (E : Env0K P w K mg base c (callN tbl wh n) n fnT cstT) (hg : tbl g = some d) (hS : fnScB N ps (defScope st) = true) (hps : ps.length = d.np) (hN : N.length = d.ns) (hc : chkSs d.body (fnCk N (defScope st) fnT cstT) (defBody st) = true) :
    FnOk P w K mg base CX0 (n + 1) f fd ps (spG c (callN tbl wh (n + 1)) g) := by
  have S := fnScB_of hS
  have run : ∀ {ds : List D} {R R' : List D} {r : D}, callN tbl wh (n + 1) g ds R = .ok r R' → ds.length = d.np ∧ bnd (exSs (callN tbl wh n) wh d.body (ds.map .val ++ List.replicate (d.ns - d.np) .none)) (fun fl => match fl with
      | .rt d => Pu.ret d
      | .nx _ => Pu.ret .non
      | _ => halt) R = .ok r R' := by
    intro ds R R' r h
    have h : (match tbl g with | some fd => runF (callN tbl wh n) wh fd ds | none => halt) R = .ok r R' := h
    rw [hg] at h
    have h : runF (callN tbl wh n) wh d ds R = .ok r R' := h
    unfold runF at h
    split at h
    · rename_i hl; exact ⟨hl, h⟩
    · cases h
  refine F.ok S (fun vs H Q E' h => ?_) (fun cdv A outer s H vs Q E' hr h => ?_)
  · obtain ⟨F0, R, ds, r, R', hs, hrow, rv, ev, q⟩ := h
    rw [rv.length, (run ev).1, hps]
  · obtain ⟨F0, R, ds, r, R', hs, hrow, rv, ev, q⟩ := h
    obtain ⟨hl, ev⟩ := run ev
    have Kk := fn_kx (X0 := E') (outer := outer) (H := H) E S hr
    refine ⟨tSs c (callN tbl wh n) wh d.body, chk_ss hw Kk PassesOwn.never d.body _ hc, ?_⟩
    obtain ⟨fl, R1, e1, e2⟩ := bnd_ok ev
    have hle : ds.length ≤ d.ns := by
      have : (N.take ps.length).length = ps.length := by rw [S.pre]
      rw [List.length_take] at this
      omega
    refine ⟨F0, H, F0, _, R, fl, R1, start_st hs hrow rv hN hle, by rw [hl]; exact e1, ?_⟩
    cases fl with
    | nx ρ' =>
      obtain ⟨rfl, rfl⟩ := ret_ok e2
      exact fun F' H' σ' k S' => q F' H' .non S'.ext S'.row (by simp only [RelD])
    | rt d' =>
      obtain ⟨rfl, rfl⟩ := ret_ok e2
      exact fun F' H' v ex r rv => q F' H' v ex r rv
    | bk _ => cases e2
    | ct _ => cases e2
theorem fn_zero {c : Ct} {tbl : Nat → Option FD} {wh : Wh} {g : Nat} {f : Addr} {fd : FuncData} {ps : List Str} : FnOk P w K mg base CX0 0 f fd ps (spG c (callN tbl wh 0) g) := by
  have no : ∀ {vs H Q E'}, ¬ spG c (callN tbl wh 0) g vs H Q E' := by
    rintro vs H Q E' ⟨F0, R, ds, r, R', _, _, _, ev, _⟩
    cases ev
  exact ⟨fun _ _ _ _ h => (no h).elim, fun _ _ _ _ _ _ _ _ _ _ _ _ _ h => (no h).elim⟩
end
end Pu
end

section
set_option autoImplicit false
set_option linter.all false
set_option maxRecDepth 100000
set_option maxHeartbeats 4000000
set_option Elab.async false
namespace Pu
open PySem PySem.Spec PyProof.Rows L2

/-- a def: its name, its number, its place in the module, its names, its parameters -/
structure DTop where
  x : Str
  g : Nat
  i : Nat
  N : List Str
  ps : List Str
  /-- the def's own name -/
  y : Str
def AllT {α : Type} (P : α → Prop) : List α → Prop
  | [] => True
  | r :: rs => P r ∧ AllT P rs
theorem AllT.mem {α : Type} {P : α → Prop} : ∀ {l : List α}, AllT P l → ∀ r ∈ l, P r
  | [], _, _, h => by cases h
  | r :: rs, h, q, hq => by
    rcases List.mem_cons.mp hq with rfl | hq
    · exact h.1
    · exact AllT.mem h.2 q hq
def fnOfT (tops : List DTop) (x : Str) : Option Nat := (tops.find? fun r => decide (r.x = x)).map (·.g)
theorem fnOfT_mem {tops : List DTop} {x : Str} {g : Nat} (h : fnOfT tops x = some g) : ∃ r ∈ tops, r.x = x ∧ r.g = g := by
  obtain ⟨r, h1, rfl⟩ := Option.map_eq_some_iff.mp h
  exact ⟨r, List.mem_of_find?_eq_some h1, by simpa using List.find?_some h1, rfl⟩
mutual
def sameD : D → D → Bool
  | .non, .non => true
  | .bl a, .bl b => a == b
  | .int i, .int j => decide (i = j)
  | .str x, .str y => decide (x = y)
  | .tup xs, .tup ys => sameDs xs ys
  | _, _ => false
def sameDs : List D → List D → Bool
  | [], [] => true
  | x :: xs, y :: ys => sameD x y && sameDs xs ys
  | _, _ => false
end
mutual
theorem sameD_eq : ∀ x y : D, sameD x y = true → x = y
  | .non, y, h => by cases y <;> first | rfl | (simp [sameD] at h)
  | .bl a, y, h => by
    cases y <;> try (simp [sameD] at h; done)
    simp only [sameD] at h
    rw [eq_of_beq h]
  | .int a, y, h => by
    cases y <;> try (simp [sameD] at h; done)
    simp only [sameD, decide_eq_true_eq] at h
    rw [h]
  | .str a, y, h => by
    cases y <;> try (simp [sameD] at h; done)
    simp only [sameD, decide_eq_true_eq] at h
    rw [h]
  | .tup xs, y, h => by
    cases y <;> try (simp [sameD] at h; done)
    simp only [sameD] at h
    rw [sameDs_eq _ _ h]
  | .lst _, y, h => by simp [sameD] at h
  | .dt _ _, y, h => by simp [sameD] at h
  | .dk _ _, y, h => by simp [sameD] at h
  | .scr _, y, h => by simp [sameD] at h
  | .row, y, h => by simp [sameD] at h
  | .fn _, y, h => by simp [sameD] at h
  | .err _ _, y, h => by simp [sameD] at h
  | .ntp _, y, h => by simp [sameD] at h
theorem sameDs_eq : ∀ xs ys : List D, sameDs xs ys = true → xs = ys
  | [], [], _ => rfl
  | [], _ :: _, h => by simp [sameDs] at h
  | _ :: _, [], h => by simp [sameDs] at h
  | x :: xs, y :: ys, h => by
    simp only [sameDs, Bool.and_eq_true] at h
    rw [sameD_eq x y h.1, sameDs_eq xs ys h.2]
end
def cstOfT (tops : List DTop) (cs : List (Str × D)) (x : Str) : D → Bool
  | .fn g => decide (fnOfT tops x = some g)
  | d => cs.any fun p => decide (p.1 = x) && sameD p.2 d
/-- the check of a def -/
def chkTop (tbl : Nat → Option FD) (top : Nat → Stmt) (tops : List DTop) (cs : List (Str × D)) (r : DTop) : Bool := match tbl r.g with
  | some d => fnScB r.N r.ps (defScope (top r.i)) && decide (r.ps.length = d.np) && decide (r.N.length = d.ns) && chkSs d.body (fnCk r.N (defScope (top r.i)) (fnOfT tops) (cstOfT tops cs)) (defBody (top r.i))
  | none => false
section
variable {P : Program} {w : World} {K : PySem.W.Frag} {mg : Str → Option Value} {base : Heap} {tops : List DTop} {top : Nat → Stmt} {cs : List (Str × D)} {tbl : Nat → Option FD} {wh : Wh}
def DefAt (K : PySem.W.Frag) (mg : Str → Option Value) (top : Nat → Stmt) (r : DTop) (f : Addr) : Prop := mg r.x = some (.ref f) ∧ ∃ fd, Fun K r.y r.y (top r.i) f fd
/-- what the top of the module has written -/
structure ModT (K : PySem.W.Frag) (mg : Str → Option Value) (tops : List DTop) (top : Nat → Stmt) (cs : List (Str × D)) : Prop where
  defs : AllT (fun r => ∃ f, DefAt K mg top r f) tops
  bnd : AllT (fun r => ∀ f fd, Fun K r.y r.y (top r.i) f fd → Binds K fd r.ps []) tops
  bl : AllT (fun x => mg x = none) bnames
  cst : AllT (fun p => ∃ u v, mg p.1 = some u ∧ RelV v u ∧ ∀ (c : Ct) F, c.K = K → RelD c F p.2 v) cs
  nd : (tops.map (·.g)).Nodup
def faT (mg : Str → Option Value) (tops : List DTop) (g : Nat) : Addr := match tops.find? fun r => decide (r.g = g) with
  | some r => match mg r.x with
    | some (.ref f) => f
    | _ => 0
  | none => 0
theorem nodup_g : ∀ {tops : List DTop}, (tops.map (·.g)).Nodup → ∀ {r q : DTop}, r ∈ tops → q ∈ tops → r.g = q.g → r = q
  | [], _, _, _, h, _, _ => by cases h
  | t :: ts, h, r, q, hr, hq, e => by
    rw [List.map_cons, List.nodup_cons] at h
    rcases List.mem_cons.mp hr with e1 | hr1
    · rcases List.mem_cons.mp hq with e2 | hq1
      · rw [e1, e2]
      · refine absurd ?_ h.1
        rw [← e1, e]; exact List.mem_map_of_mem hq1
    · rcases List.mem_cons.mp hq with e2 | hq1
      · refine absurd ?_ h.1
        rw [← e2, ← e]; exact List.mem_map_of_mem hr1
      · exact nodup_g h.2 hr1 hq1 e
theorem faT_of (M : ModT K mg tops top cs) {r : DTop} (hr : r ∈ tops) {f : Addr} (h : mg r.x = some (.ref f)) : faT mg tops r.g = f := by
  unfold faT
  cases hf : tops.find? fun q => decide (q.g = r.g) with
  | none =>
    have := List.find?_eq_none.mp hf r hr
    simp at this
  | some q =>
    have e := nodup_g M.nd (List.mem_of_find?_eq_some hf) hr (by simpa using List.find?_some hf)
    subst e
    show (match mg q.x with | some (.ref f) => f | _ => 0) = f
    rw [h]
theorem mod_env (hw : WhOk wh) (M : ModT K mg tops top cs) (hc : tops.all (chkTop tbl top tops cs) = true) : ∀ (n : Nat) (ar : Addr), Env0K P w K mg base ⟨K, P, w, faT mg tops, ar⟩ (callN tbl wh n) n (fnOfT tops) (cstOfT tops cs) := by
  intro n
  induction n with
  | zero =>
    intro ar
    refine ⟨rfl, rfl, rfl, fun x hx => M.bl.mem x hx, fun x g h => ?_, fun x d h => ?_⟩
    · obtain ⟨r, hr, rfl, rfl⟩ := fnOfT_mem h
      obtain ⟨f, h1, fd, F⟩ := M.defs.mem r hr
      have e : faT mg tops r.g = f := faT_of M hr h1
      rw [show (Ct.mk K P w (faT mg tops) ar).fa r.g = f from e]
      exact ⟨fd, r.ps, fn_zero, h1, F.kp, M.bnd.mem r hr f fd F⟩
    · exact cst_of M h
  | succ n ih =>
    intro ar
    refine ⟨rfl, rfl, rfl, fun x hx => M.bl.mem x hx, fun x g h => ?_, fun x d h => ?_⟩
    · obtain ⟨r, hr, rfl, rfl⟩ := fnOfT_mem h
      obtain ⟨f, h1, fd, F⟩ := M.defs.mem r hr
      have e : faT mg tops r.g = f := faT_of M hr h1
      have hk := List.all_eq_true.mp hc r hr
      unfold chkTop at hk
      rw [show (Ct.mk K P w (faT mg tops) ar).fa r.g = f from e]
      split at hk
      · rename_i d hd
        simp only [Bool.and_eq_true, decide_eq_true_eq] at hk
        exact ⟨fd, r.ps, fn_ok hw F (ih ar) hd hk.1.1.1 hk.1.1.2 hk.1.2 hk.2, h1, F.kp, M.bnd.mem r hr f fd F⟩
      · cases hk
    · exact cst_of M h
where
  cst_of {P : Program} {w : World} {K : PySem.W.Frag} {mg : Str → Option Value} {tops : List DTop} {top : Nat → Stmt} {cs : List (Str × D)} (M : ModT K mg tops top cs) {ar : Addr} {x : Str} {d : D} (h : cstOfT tops cs x d = true) : ∃ u v, mg x = some u ∧ RelV v u ∧ ∀ F, RelD (Ct.mk K P w (faT mg tops) ar) F d v := by
    have any : (∀ g, d ≠ .fn g) → ∃ u v, mg x = some u ∧ RelV v u ∧ ∀ F, RelD (Ct.mk K P w (faT mg tops) ar) F d v := by
      intro hn
      have h2 : (cs.any fun p => decide (p.1 = x) && sameD p.2 d) = true := by
        cases d <;> first | exact h | exact absurd rfl (hn _)
      obtain ⟨p, hp, h3⟩ := List.any_eq_true.mp h2
      simp only [Bool.and_eq_true, decide_eq_true_eq] at h3
      obtain ⟨rfl, h4⟩ := h3
      obtain ⟨u, v, k1, k2, k3⟩ := M.cst.mem p hp
      rw [sameD_eq _ _ h4] at k3
      exact ⟨u, v, k1, k2, fun F => k3 _ F rfl⟩
    cases d with
    | fn g =>
      have h : fnOfT tops x = some g := of_decide_eq_true h
      obtain ⟨r, hr, rfl, rfl⟩ := fnOfT_mem h
      obtain ⟨f, h1, _⟩ := M.defs.mem r hr
      refine ⟨_, .ref f, h1, rfl, fun F => ?_⟩
      simp only [RelD]
      rw [show faT mg tops r.g = f from faT_of M hr h1]
    | _ => exact any fun g z => by cases z

def spLaw (K : PySem.W.Frag) : Sp := fun vs H Q _ => ∃ (a : Addr) (ns : List Int), vs = [.ref a] ∧ SqL K H a (ns.map V.int) ∧ ns.length ≤ 63 ∧ (∀ z ∈ ns, Builtin.Int.intBits z ≤ 1048576) ∧ ∀ H', Q (.bl true) H'
theorem law_ok {n : Nat} {d : FD} {f : Addr} {fd : FuncData} {N : List Str} {st : Stmt} {rest : List Stmt} {seed : Int} {p0 p1 p2 p3 p4 p5 p6 : Pos} {k1 k2 k3 : Nat} (hw : WhOk wh) (M : ModT K mg tops top cs) (hc : tops.all (chkTop tbl top tops cs) = true) (F : Fun K "law" "law" st f fd)
    (hb : defBody st = .Assign [.Name "row" p0] (.List [.Name "script" p1, .Constant (.int 0) k1 p2, .Constant (.int seed) k2 p3, .Constant (.int 0) k3 p4] p5) p6 :: rest)
    (hS : fnScB N ["script"] (defScope st) = true) (hN : N.length = d.ns) (hN0 : N[0]? = some (Str.ofString "script")) (hN1 : N[1]? = some (Str.ofString "row"))
    (hv : visB (fnCk N (defScope st) (fnOfT tops) (cstOfT tops cs)) "script" = true) (hst : (fnCk N (defScope st) (fnOfT tops) (cstOfT tops cs)).st "row" = true)
    (hk : chkSs d.body (fnCk N (defScope st) (fnOfT tops) (cstOfT tops cs)) rest = true)
    (hev : ∀ ns : List Int, ns.length ≤ 63 → (∀ z ∈ ns, Builtin.Int.intBits z ≤ 1048576) → ∃ R', exSs (callN tbl wh n) wh d.body (.val (.scr ns) :: .val .row :: List.replicate (d.ns - 2) .none) [.scr ns, .int 0, .int seed, .int 0] = .ok (.rt (.bl true)) R') :
    FnOk P w K mg base CX0 (n + 1) f fd ["script"] (spLaw K) := by
  have S := fnScB_of hS
  refine F.ok S (fun vs H Q E' h => ?_) (fun cdv A outer s H vs Q E' hr h => ?_)
  · obtain ⟨a, ns, rfl, _⟩ := h
    rfl
  · obtain ⟨a, ns, rfl, hL, hlen, hbits, q⟩ := h
    obtain ⟨R', ev⟩ := hev ns hlen hbits
    have Kk : ∀ ar, Kx (cxOf CX0 P w K mg base N "law" (defScope st) f cdv A outer s H E').nox ⟨K, P, w, faT mg tops, ar⟩ (callN tbl wh n) (fnCk N (defScope st) (fnOfT tops) (cstOfT tops cs)) := fun ar => fn_kx (mod_env hw M hc n ar) S hr
    rw [hb]
    have hrest : PSs (cxOf CX0 P w K mg base N "law" (defScope st) f cdv A outer s H E').nox rest (fun D σ H => ∃ ar, tSs ⟨K, P, w, faT mg tops, ar⟩ (callN tbl wh n) wh d.body D σ H) :=
      ⟨fun pins s σ H D I ⟨ar, q⟩ => (chk_ss hw (Kk ar) PassesOwn.never d.body _ hk).run pins s σ H D I q⟩
    obtain ⟨k1', k2'⟩ := (Kk 0).st _ hst
    refine ⟨_, pss_cons (ps_set (i := 1) S.nd hN1 k1' (pe_lst (pa_cons (pe_var (i := 0) hN0 (visB_of (Kk 0) hv) (by decide +kernel) (by decide +kernel)) (pa_cons pe_int (pa_cons pe_int (pa_cons pe_int pa_nil rfl) rfl) rfl) rfl)) rfl k2') hrest, ?_⟩
    have hlenN : 2 ≤ N.length := by
      have := (List.getElem?_eq_some_iff.mp hN1).1
      omega
    have hst0 : L2.start N [V.ref a] = some (.ref a) :: none :: List.replicate (N.length - 2) none := by
      unfold L2.start
      have : N.length - 1 = (N.length - 2) + 1 := by omega
      simp only [List.map_cons, List.map_nil, List.length_singleton, this, List.replicate_succ]
      rfl
    rw [hst0]
    refine ⟨.ref a, rfl, by show 4 ≤ sizeLine; rw [sizeLine_eq]; omega, fun p hp => ⟨p, ?_⟩⟩
    -- the script alone is known
    let F1 : Hp := fun x => if x = a then H a else none
    have hs1 : Sub F1 H := fun x o e => by
      by_cases hx : x = a
      · subst hx; simpa [F1] using e
      · simp [F1, hx] at e
    have hL1 : SqL K F1 a (ns.map V.int) := by
      have e : F1 a = H a := by simp [F1]
      rcases hL with (h | ⟨o, h⟩) | h
      · exact .inl (.inl (e.trans h))
      · exact .inl (.inr ⟨o, e.trans h⟩)
      · exact .inr h
    have hpF : F1 p = none := hs1.none hp
    have rs : RelD ⟨K, P, w, faT mg tops, p⟩ F1 (.scr ns) (.ref a) := by simp only [RelD]; exact ⟨a, rfl, hL1⟩
    have row : RowR ⟨K, P, w, faT mg tops, p⟩ F1 (upd H p (.lst [.ref a, .int 0, .int seed, .int 0])) [.scr ns, .int 0, .int seed, .int 0] := by
      refine ⟨_, upd_same, ?_, hpF⟩
      simp only [RelDs]
      exact ⟨rs, by simp only [RelD], by simp only [RelD], by simp only [RelD], trivial⟩
    have hs2 : Sub F1 (upd H p (.lst [.ref a, .int 0, .int seed, .int 0])) := hs1.upd hpF
    refine ⟨F1, _, F1, .val (.scr ns) :: .val .row :: List.replicate (d.ns - 2) .none, _, _, R', ⟨hs2, Ext.refl hs2, by simp [hN], ⟨fun _ => [], fun i s' h => ?_, fun i j b _ hb => by cases hb⟩, row⟩, ev, fun F' H' v ex r rv => ?_⟩
    · match i, h with
      | 0, h => cases h; exact ⟨rfl, .ref a, rfl, rs⟩
      | 1, h => cases h; exact ⟨rfl, .ref p, rfl, by simp only [RelD]⟩
      | i + 2, h =>
        have h : (List.replicate (d.ns - 2) Slot.none)[i]? = some s' := h
        obtain ⟨_, h⟩ := List.getElem?_eq_some_iff.mp h
        rw [List.getElem_replicate] at h
        subst h
        rfl
    · cases (show v = _ from rv)
      exact q H'
end
end Pu
end

section
set_option autoImplicit false
set_option maxRecDepth 4000
namespace Pu
open PySem
/-- 0 is_in(value, least, most) | 0 value, 1 least, 2 most -/
abbrev f_is_in : Nat := 0
def d_is_in : FD := ⟨3, 3, [.retE (.and (.o1 .isInt (.var 0)) (.and (.o1 .notB (.o1 .isBool (.var 0))) (.chain .le .le (.var 1) (.var 0) (.var 2))))]⟩
/-- 1 are_counts(value, many, most) | 0 value, 1 many, 2 most, 3 one -/
abbrev f_are_counts : Nat := 1
def d_are_counts : FD := ⟨3, 4, [.retE (.and (.o1 .isTup (.var 0)) (.and (.o2 .eq (.o1 .len (.var 0)) (.var 1)) (.o2 .eq (.comp (.var 3) (.slot 3) .val (.var 0) .non (.o1 .notB (.call 0 [(.var 3), (.int 0), (.var 2)])) [3]) (.lst []))))]⟩
/-- 2 is_place(value, many) | 0 value, 1 many -/
abbrev f_is_place : Nat := 2
def d_is_place : FD := ⟨2, 2, [.ifS (.or (.o1 .notB (.o1 .isTup (.var 0))) (.o2 .ne (.o1 .len (.var 0)) (.int 2))) [.retE (.bl false)] [],
    .retE (.and (.call 1 [(.o2 .idx (.var 0) (.int 0)), (.var 1), (.cst (Str.ofString "MOST_TOKENS") (.int 9))]) (.call 1 [(.o2 .idx (.var 0) (.int 1)), (.var 1), (.cst (Str.ofString "MOST_TOKENS") (.int 9))]))]⟩
/-- 3 is_rule(value, many) | 0 value, 1 many, 2 one -/
abbrev f_is_rule : Nat := 3
def d_is_rule : FD := ⟨2, 3, [.ifS (.or (.o1 .notB (.o1 .isTup (.var 0))) (.o1 .notB (.chain .le .le (.int 1) (.o1 .len (.var 0)) (.cst (Str.ofString "MOST_LONG") (.int 3))))) [.retE (.bl false)] [],
    .ifS (.o2 .ne (.comp (.var 2) (.slot 2) .val (.var 0) .non (.o1 .notB (.call 2 [(.var 2), (.var 1)])) [2]) (.lst [])) [.retE (.bl false)] [],
    .retE (.o2 .ne (.comp (.var 2) (.slot 2) .val (.var 0) .non (.o2 .ne (.o2 .idx (.var 2) (.int 0)) (.o2 .idx (.var 2) (.int 1))) [2]) (.lst []))]⟩
/-- 4 need_net(net) | 0 net, 1 index, 2 one -/
abbrev f_need_net : Nat := 4
def d_need_net : FD := ⟨1, 3, [.ifS (.or (.o1 .notB (.o1 .isTup (.var 0))) (.or (.o2 .ne (.o1 .len (.var 0)) (.int 2)) (.o1 .notB (.call 0 [(.o2 .idx (.var 0) (.int 0)), (.int 1), (.cst (Str.ofString "MOST_POOLS") (.int 4))])))) [.raise 0 [.non]] [],
    .ifS (.or (.o1 .notB (.o1 .isTup (.o2 .idx (.var 0) (.int 1)))) (.o2 .gt (.o1 .len (.o2 .idx (.var 0) (.int 1))) (.cst (Str.ofString "MOST_RULES") (.int 8)))) [.raise 0 [.non]] [],
    .forS (.tup [(.slot 1), (.slot 2)]) .enum (.o2 .idx (.var 0) (.int 1)) .non [.ifS (.or (.o1 .notB (.call 3 [(.var 2), (.o2 .idx (.var 0) (.int 0))])) (.and (.o2 .gt (.var 1) (.int 0)) (.o2 .le (.var 2) (.o2 .idx (.o2 .idx (.var 0) (.int 1)) (.o2 .sub (.var 1) (.int 1)))))) [.raise 0 [(.var 1)]] []]]⟩
/-- 5 need_row(net, row) | 0 net, 1 row, 2 index, 3 one -/
abbrev f_need_row : Nat := 5
def d_need_row : FD := ⟨2, 4, [.ifS (.or (.o1 .notB (.o1 .isTup (.var 1))) (.o1 .notB (.chain .le .le (.int 1) (.o1 .len (.var 1)) (.cst (Str.ofString "MOST_PLACES") (.int 6))))) [.raise 1 [.non]] [],
    .forS (.tup [(.slot 2), (.slot 3)]) .enum (.var 1) .non [.ifS (.o1 .notB (.call 1 [(.var 3), (.o2 .idx (.var 0) (.int 0)), (.cst (Str.ofString "MOST_FILLED") (.int 99))])) [.raise 1 [(.var 2)]] []]]⟩
/-- 6 need_both(net, row) | 0 net, 1 row -/
abbrev f_need_both : Nat := 6
def d_need_both : FD := ⟨2, 2, [.expr (.call 4 [(.var 0)]),
    .expr (.call 5 [(.var 0), (.var 1)])]⟩
/-- 7 spots(many, long) | 0 many, 1 long, 2 found, 3 turn, 4 more, 5 line, 6 first, 7 at -/
abbrev f_spots : Nat := 7
def d_spots : FD := ⟨2, 8, [.asg (.slot 2) (.lst [(.tup [])]),
    .forS (.slot 3) .range1 (.var 1) .non [.asg (.slot 4) (.lst []), .forS (.slot 5) .val (.var 2) .non [.asg (.slot 6) (.ite (.o2 .ne (.var 5) (.tup [])) (.o2 .add (.o2 .idx (.var 5) (.o1 .neg (.int 1))) (.int 1)) (.int 0)), .asg (.slot 4) (.o2 .add (.var 4) (.comp (.o2 .add (.var 5) (.tup [(.var 7)])) (.slot 7) .range2 (.var 6) (.var 0) (.bl true) [7]))], .asg (.slot 2) (.var 4)],
    .retE (.var 2)]⟩
/-- 8 can_do(net, row, deed) | 0 net, 1 row, 2 deed, 3 at, 4 takes, 5 puts, 6 pool, 7 one -/
abbrev f_can_do : Nat := 8
def d_can_do : FD := ⟨3, 8, [.forS (.tup [(.slot 3), (.tup [(.slot 4), (.slot 5)])]) .zip (.o2 .idx (.var 2) (.int 1)) (.o2 .idx (.o2 .idx (.var 0) (.int 1)) (.o2 .idx (.var 2) (.int 0))) [.ifS (.o2 .ne (.comp (.var 6) (.tup [(.slot 6), (.slot 7)]) .enum (.var 4) .non (.o2 .lt (.o2 .idx (.o2 .idx (.var 1) (.var 3)) (.var 6)) (.var 7)) [6, 7]) (.lst [])) [.retE (.bl false)] []],
    .retE (.bl true)]⟩
/-- 9 changed(net, row, deed) | 0 net, 1 row, 2 deed, 3 found, 4 at, 5 takes, 6 puts, 7 pool, 8 one -/
abbrev f_changed : Nat := 9
def d_changed : FD := ⟨3, 9, [.own 3 (.o1 .listOf (.var 1)),
    .forS (.tup [(.slot 4), (.tup [(.slot 5), (.slot 6)])]) .zip (.o2 .idx (.var 2) (.int 1)) (.o2 .idx (.o2 .idx (.var 0) (.int 1)) (.o2 .idx (.var 2) (.int 0))) [.seti 3 (.var 4) (.o1 .tupleOf (.comp (.o2 .add (.o2 .sub (.var 8) (.o2 .idx (.var 5) (.var 7))) (.o2 .idx (.var 6) (.var 7))) (.tup [(.slot 7), (.slot 8)]) .enum (.o2 .idx (.var 3) (.var 4)) .non (.bl true) [7, 8]))],
    .retE (.o1 .tupleOf (.var 3))]⟩
/-- 10 deeds_in(net, row) | 0 net, 1 row, 2 found, 3 rule, 4 line -/
abbrev f_deeds_in : Nat := 10
def d_deeds_in : FD := ⟨2, 5, [.asg (.slot 2) (.lst []),
    .forS (.slot 3) .range1 (.o1 .len (.o2 .idx (.var 0) (.int 1))) .non [.asg (.slot 2) (.o2 .add (.var 2) (.comp (.tup [(.var 3), (.var 4)]) (.slot 4) .val (.call 7 [(.o1 .len (.var 1)), (.o1 .len (.o2 .idx (.o2 .idx (.var 0) (.int 1)) (.var 3)))]) .non (.call 8 [(.var 0), (.var 1), (.tup [(.var 3), (.var 4)])]) [4]))],
    .retE (.var 2)]⟩
/-- 11 deeds(net, row) | 0 net, 1 row -/
abbrev f_deeds : Nat := 11
def d_deeds : FD := ⟨2, 2, [.expr (.call 6 [(.var 0), (.var 1)]),
    .retE (.o1 .tupleOf (.call 10 [(.var 0), (.var 1)]))]⟩
/-- 12 is_deed(net, row, value) | 0 net, 1 row, 2 value, 3 one -/
abbrev f_is_deed : Nat := 12
def d_is_deed : FD := ⟨3, 4, [.ifS (.or (.o1 .notB (.o1 .isTup (.var 2))) (.or (.o2 .ne (.o1 .len (.var 2)) (.int 2)) (.o1 .notB (.call 0 [(.o2 .idx (.var 2) (.int 0)), (.int 0), (.o2 .sub (.o1 .len (.o2 .idx (.var 0) (.int 1))) (.int 1))])))) [.retE (.bl false)] [],
    .ifS (.or (.o1 .notB (.o1 .isTup (.o2 .idx (.var 2) (.int 1)))) (.o2 .ne (.comp (.var 3) (.slot 3) .val (.o2 .idx (.var 2) (.int 1)) .non (.o1 .notB (.call 0 [(.var 3), (.int 0), (.o2 .sub (.o1 .len (.var 1)) (.int 1))])) [3]) (.lst []))) [.retE (.bl false)] [],
    .retE (.o2 .isIn (.o2 .idx (.var 2) (.int 1)) (.call 7 [(.o1 .len (.var 1)), (.o1 .len (.o2 .idx (.o2 .idx (.var 0) (.int 1)) (.o2 .idx (.var 2) (.int 0))))]))]⟩
/-- 13 done(net, row, deed) | 0 net, 1 row, 2 deed -/
abbrev f_done : Nat := 13
def d_done : FD := ⟨3, 3, [.expr (.call 6 [(.var 0), (.var 1)]),
    .ifS (.or (.o1 .notB (.call 12 [(.var 0), (.var 1), (.var 2)])) (.o1 .notB (.call 8 [(.var 0), (.var 1), (.var 2)]))) [.raise 2 []] [],
    .retE (.call 9 [(.var 0), (.var 1), (.var 2)])]⟩
/-- 14 after(net, row, run) | 0 net, 1 row, 2 run, 3 one, 4 found, 5 index, 6 deed -/
abbrev f_after : Nat := 14
def d_after : FD := ⟨3, 7, [.expr (.call 6 [(.var 0), (.var 1)]),
    .ifS (.or (.o1 .notB (.o1 .isTup (.var 2))) (.or (.o2 .gt (.o1 .len (.var 2)) (.cst (Str.ofString "MOST_RUN") (.int 200))) (.o2 .ne (.comp (.var 3) (.slot 3) .val (.var 2) .non (.o1 .notB (.call 12 [(.var 0), (.var 1), (.var 3)])) [3]) (.lst [])))) [.raise 3 [.non]] [],
    .asg (.slot 4) (.var 1),
    .forS (.tup [(.slot 5), (.slot 6)]) .enum (.var 2) .non [.ifS (.o1 .notB (.call 8 [(.var 0), (.var 4), (.var 6)])) [.raise 3 [(.var 5)]] [], .asg (.slot 4) (.call 9 [(.var 0), (.var 4), (.var 6)])],
    .retE (.var 4)]⟩
/-- 15 law_taken(row, many) | 0 row, 1 many, 2 found, 3 cell -/
abbrev f_law_taken : Nat := 15
/-- 16 law_pick(row, things) | 0 row, 1 things -/
abbrev f_law_pick : Nat := 16
/-- 17 law_counts(row, many, most) | 0 row, 1 many, 2 most, 3 pool -/
abbrev f_law_counts : Nat := 17
/-- 18 law_net(row, most, long) | 0 row, 1 most, 2 long, 3 many, 4 way, 5 rules, 6 weights, 7 pool, 8 turn, 9 size, 10 places, 11 spot, 12 falls, 13 takes, 14 puts, 15 at, 16 one -/
abbrev f_law_net : Nat := 18
/-- 19 law_filling(row, many, long, most) | 0 row, 1 many, 2 long, 3 most, 4 pool, 5 place -/
abbrev f_law_filling : Nat := 19
/-- 20 law_spots(many, long) | 0 many, 1 long, 2 found, 3 turn, 4 more, 5 line, 6 at -/
abbrev f_law_spots : Nat := 20
/-- 21 law_does(net, filling, deed) | 0 net, 1 filling, 2 deed, 3 found, 4 k, 5 takes, 6 puts, 7 here, 8 pool -/
abbrev f_law_does : Nat := 21
/-- 22 law_deeds(net, filling) | 0 net, 1 filling, 2 found, 3 rule, 4 line, 5 there -/
abbrev f_law_deeds : Nat := 22
/-- 23 law_alike(found, due) | 0 found, 1 due, 2 k -/
abbrev f_law_alike : Nat := 23
def d_law_alike : FD := ⟨2, 3, [.ifS (.o1 .isTupList (.var 1)) [.ifS (.or (.o1 .notB (.o1 .isTupList (.var 0))) (.o2 .ne (.o1 .isList (.var 0)) (.o1 .isList (.var 1)))) [.retE (.bl false)] [], .ifS (.o2 .ne (.o1 .len (.var 0)) (.o1 .len (.var 1))) [.retE (.bl false)] [], .retE (.o2 .eq (.comp (.var 2) (.slot 2) .range1 (.o1 .len (.var 1)) .non (.o1 .notB (.call 23 [(.o2 .idx (.var 0) (.var 2)), (.o2 .idx (.var 1) (.var 2))])) [2]) (.lst []))] [],
    .ifS (.or (.o2 .is (.var 1) .non) (.o1 .isStr (.var 1))) [.retE (.and (.o2 .eq (.var 0) (.var 1)) (.o2 .eq (.o1 .isStr (.var 0)) (.o1 .isStr (.var 1))))] [],
    .retE (.and (.o1 .isInt (.var 0)) (.and (.o2 .eq (.o1 .isBool (.var 0)) (.o1 .isBool (.var 1))) (.o2 .eq (.var 0) (.var 1))))]⟩
/-- 24 come_in(net, row) | 0 net, 1 row, 2 found, 3 rows, 4 here, 5 deed -/
abbrev f_come_in : Nat := 24
def d_come_in : FD := ⟨2, 6, [.par [(true, 2), (true, 3)] [(.dnew true), (.lst [(.var 1)])],
    .whileS (.o2 .ne (.var 3) (.lst [])) [.popTo 4 3, .ifS (.o2 .notIn (.var 4) (.var 2)) [.seti 2 (.var 4) (.comp (.call 9 [(.var 0), (.var 4), (.var 5)]) (.slot 5) .val (.call 10 [(.var 0), (.var 4)]) .non (.bl true) [5]), .ifS (.o2 .gt (.o1 .len (.var 2)) (.cst (Str.ofString "MOST_WALKED") (.int 1500))) [.raise 4 [(.cst (Str.ofString "MOST_WALKED") (.int 1500))]] [], .own 3 (.o2 .add (.var 3) (.o2 .idx (.var 2) (.var 4)))] []],
    .frz 2,
    .retE (.var 2)]⟩
/-- 25 all_come(net, row) | 0 net, 1 row -/
abbrev f_all_come : Nat := 25
def d_all_come : FD := ⟨2, 2, [.expr (.call 6 [(.var 0), (.var 1)]),
    .retE (.o1 .sortedKeys (.call 24 [(.var 0), (.var 1)]))]⟩
/-- 26 order_in(told) | 0 told, 1 found, 2 left, 3 ends, 4 here, 5 there -/
abbrev f_order_in : Nat := 26
def d_order_in : FD := ⟨1, 6, [.par [(false, 1), (false, 2)] [(.lst []), (.o1 .dictOf (.var 0))],
    .whileS (.o2 .ne (.var 2) (.dnew true)) [.asg (.slot 3) (.comp (.var 4) (.slot 4) .keys (.var 2) .non (.o2 .eq (.comp (.var 5) (.slot 5) .val (.o2 .idx (.var 2) (.var 4)) .non (.o2 .isIn (.var 5) (.var 2)) [5]) (.lst [])) [4]), .ifS (.o2 .eq (.var 3) (.lst [])) [.retE .non] [], .asg (.slot 1) (.o2 .add (.var 1) (.o1 .sorted (.var 3))), .asg (.slot 2) (.o1 .dictOf (.comp (.tup [(.var 4), (.o2 .idx (.var 2) (.var 4))]) (.slot 4) .keys (.var 2) .non (.o2 .notIn (.var 4) (.var 3)) [4]))],
    .retE (.var 1)]⟩
/-- 27 goes_on(net, row) | 0 net, 1 row -/
abbrev f_goes_on : Nat := 27
def d_goes_on : FD := ⟨2, 2, [.expr (.call 6 [(.var 0), (.var 1)]),
    .retE (.o2 .is (.call 26 [(.call 24 [(.var 0), (.var 1)])]) .non)]⟩
/-- 28 longest(net, row) | 0 net, 1 row, 2 told, 3 order, 4 found, 5 here, 6 there -/
abbrev f_longest : Nat := 28
def d_longest : FD := ⟨2, 7, [.expr (.call 6 [(.var 0), (.var 1)]),
    .asg (.slot 2) (.call 24 [(.var 0), (.var 1)]),
    .asg (.slot 3) (.call 26 [(.var 2)]),
    .ifS (.o2 .is (.var 3) .non) [.raise 5 []] [],
    .own 4 (.dnew true),
    .forS (.slot 5) .val (.var 3) .non [.seti 4 (.var 5) (.o2 .add (.o1 .max1 (.o2 .add (.lst [(.o1 .neg (.int 1))]) (.comp (.o2 .idx (.var 4) (.var 6)) (.slot 6) .val (.o2 .idx (.var 2) (.var 5)) .non (.bl true) [6]))) (.int 1))],
    .retE (.o2 .idx (.var 4) (.var 1))]⟩
/-- 29 law_walk(net, filling, most) | 0 net, 1 filling, 2 most, 3 found, 4 rows, 5 here, 6 deed, 7 there -/
abbrev f_law_walk : Nat := 29
/-- 30 law_layers(told) | 0 told, 1 found, 2 left, 3 calm, 4 here, 5 there -/
abbrev f_law_layers : Nat := 30
/-- 31 renamed(net, order) | 0 net, 1 order, 2 one, 3 back, 4 pool, 5 rules, 6 rule, 7 side, 8 place -/
abbrev f_renamed : Nat := 31
def d_renamed : FD := ⟨2, 9, [.expr (.call 4 [(.var 0)]),
    .ifS (.or (.o1 .notB (.o1 .isTup (.o1 .asT (.var 1)))) (.o2 .ne (.comp (.var 2) (.slot 2) .val (.o1 .asT (.var 1)) .non (.o1 .notB (.call 0 [(.var 2), (.int 0), (.o2 .sub (.o2 .idx (.var 0) (.int 0)) (.int 1))])) [2]) (.lst []))) [.raise 6 []] [],
    .ifS (.o2 .ne (.o1 .sorted (.o1 .asT (.var 1))) (.o1 .listRange (.o2 .idx (.var 0) (.int 0)))) [.raise 6 []] [],
    .asg (.slot 3) (.comp (.o2 .index (.var 1) (.var 4)) (.slot 4) .range1 (.o2 .idx (.var 0) (.int 0)) .non (.bl true) [4]),
    .own 5 (.lst []),
    .forS (.slot 6) .val (.o2 .idx (.var 0) (.int 1)) .non [.app 5 (.o1 .tupleOf (.comp (.o1 .tupleOf (.comp (.o1 .tupleOf (.comp (.o2 .idx (.var 7) (.var 4)) (.slot 4) .val (.var 3) .non (.bl true) [4])) (.slot 7) .val (.var 8) .non (.bl true) [7])) (.slot 8) .val (.var 6) .non (.bl true) [8]))],
    .retE (.tup [(.o2 .idx (.var 0) (.int 0)), (.o1 .tupleOf (.o1 .sorted (.var 5)))])]⟩
/-- 32 mirrored(net) | 0 net, 1 rule -/
abbrev f_mirrored : Nat := 32
def d_mirrored : FD := ⟨1, 2, [.expr (.call 4 [(.var 0)]),
    .retE (.tup [(.o2 .idx (.var 0) (.int 0)), (.o1 .tupleOf (.o1 .sorted (.comp (.o1 .rev (.var 1)) (.slot 1) .val (.o2 .idx (.var 0) (.int 1)) .non (.bl true) [1])))])]⟩
/-- 33 turned(net) | 0 net, 1 place, 2 rule -/
abbrev f_turned : Nat := 33
def d_turned : FD := ⟨1, 3, [.expr (.call 4 [(.var 0)]),
    .retE (.tup [(.o2 .idx (.var 0) (.int 0)), (.o1 .tupleOf (.o1 .sorted (.comp (.o1 .tupleOf (.comp (.o1 .rev (.var 1)) (.slot 1) .val (.var 2) .non (.bl true) [1])) (.slot 2) .val (.o2 .idx (.var 0) (.int 1)) .non (.bl true) [2])))])]⟩
/-- 34 joined(net, other) | 0 net, 1 other, 2 many, 3 rules, 4 one, 5 more, 6 rule, 7 side, 8 place -/
abbrev f_joined : Nat := 34
def d_joined : FD := ⟨2, 9, [.expr (.call 4 [(.var 0)]),
    .expr (.call 4 [(.var 1)]),
    .par [(false, 2), (true, 3)] [(.o2 .max2 (.o2 .idx (.var 0) (.int 0)) (.o2 .idx (.var 1) (.int 0))), (.lst [])],
    .forS (.slot 4) .val (.tup [(.var 0), (.var 1)]) .non [.asg (.slot 5) (.o2 .mul (.tup [(.int 0)]) (.o2 .sub (.var 2) (.o2 .idx (.var 4) (.int 0)))), .forS (.slot 6) .val (.o2 .idx (.var 4) (.int 1)) .non [.app 3 (.o1 .tupleOf (.comp (.o1 .tupleOf (.comp (.o2 .add (.var 7) (.var 5)) (.slot 7) .val (.var 8) .non (.bl true) [7])) (.slot 8) .val (.var 6) .non (.bl true) [8]))]],
    .asg (.slot 3) (.o1 .tupleOf (.o1 .sortedSet (.var 3))),
    .ifS (.o2 .gt (.o1 .len (.var 3)) (.cst (Str.ofString "MOST_RULES") (.int 8))) [.raise 4 [(.cst (Str.ofString "MOST_RULES") (.int 8))]] [],
    .frz 3,
    .retE (.tup [(.var 2), (.var 3)])]⟩
/-- 35 side_text(side) | 0 side, 1 one -/
abbrev f_side_text : Nat := 35
def d_side_text : FD := ⟨1, 2, [.retE (.o2 .join (.str (Str.ofString "")) (.comp (.o1 .toStr (.var 1)) (.slot 1) .val (.var 0) .non (.bl true) [1]))]⟩
/-- 36 write_net(net) | 0 net, 1 found, 2 rule, 3 takes, 4 puts -/
abbrev f_write_net : Nat := 36
def d_write_net : FD := ⟨1, 5, [.expr (.call 4 [(.var 0)]),
    .own 1 (.lst [(.o2 .add (.o1 .toStr (.o2 .idx (.var 0) (.int 0))) (.str (Str.ofString ":")))]),
    .forS (.slot 2) .val (.o2 .idx (.var 0) (.int 1)) .non [.app 1 (.o2 .join (.str (Str.ofString "|")) (.comp (.o2 .add (.o2 .add (.call 35 [(.var 3)]) (.str (Str.ofString ">"))) (.call 35 [(.var 4)])) (.tup [(.slot 3), (.slot 4)]) .val (.var 2) .non (.bl true) [3, 4]))],
    .retE (.o2 .join (.str (Str.ofString " ")) (.var 1))]⟩
/-- 37 skip(text, at) | 0 text, 1 at -/
abbrev f_skip : Nat := 37
def d_skip : FD := ⟨2, 2, [.whileS (.o2 .eq (.o3 .slice (.var 0) (.var 1) (.o2 .add (.var 1) (.int 1))) (.str (Str.ofString " "))) [.aug 1 .add (.int 1)],
    .retE (.var 1)]⟩
/-- 38 digit(text, at, least, most) | 0 text, 1 at, 2 least, 3 most, 4 sign -/
abbrev f_digit : Nat := 38
def d_digit : FD := ⟨4, 5, [.asg (.slot 4) (.o3 .slice (.var 0) (.var 1) (.o2 .add (.var 1) (.int 1))),
    .ifS (.or (.o2 .eq (.var 4) (.str (Str.ofString ""))) (.or (.o2 .notIn (.var 4) (.str (Str.ofString "0123456789"))) (.o1 .notB (.chain .le .le (.var 2) (.o1 .toInt (.var 4)) (.var 3))))) [.raise 7 [(.var 1)]] [],
    .retE (.o1 .toInt (.var 4))]⟩
/-- 39 rule_at(text, at, many) | 0 text, 1 at, 2 many, 3 places, 4 going, 5 takes, 6 k, 7 puts -/
abbrev f_rule_at : Nat := 39
def d_rule_at : FD := ⟨3, 8, [.par [(true, 3), (false, 4)] [(.lst []), (.bl true)],
    .whileS (.var 4) [.ifS (.o2 .eq (.o1 .len (.var 3)) (.cst (Str.ofString "MOST_LONG") (.int 3))) [.raise 7 [(.o2 .sub (.var 1) (.int 1))]] [], .asg (.slot 5) (.o1 .tupleOf (.comp (.call 38 [(.var 0), (.o2 .add (.var 1) (.var 6)), (.int 0), (.int 9)]) (.slot 6) .range1 (.var 2) .non (.bl true) [6])), .ifS (.o2 .ne (.o3 .slice (.var 0) (.o2 .add (.var 1) (.var 2)) (.o2 .add (.o2 .add (.var 1) (.var 2)) (.int 1))) (.str (Str.ofString ">"))) [.raise 7 [(.o2 .add (.var 1) (.var 2))]] [], .asg (.slot 7) (.o1 .tupleOf (.comp (.call 38 [(.var 0), (.o2 .add (.o2 .add (.o2 .add (.var 1) (.var 2)) (.int 1)) (.var 6)), (.int 0), (.int 9)]) (.slot 6) .range1 (.var 2) .non (.bl true) [6])), .app 3 (.tup [(.var 5), (.var 7)]), .aug 1 .add (.o2 .add (.o2 .mul (.int 2) (.var 2)) (.int 1)), .asg (.slot 4) (.o2 .eq (.o3 .slice (.var 0) (.var 1) (.o2 .add (.var 1) (.int 1))) (.str (Str.ofString "|"))), .aug 1 .add (.ite (.var 4) (.int 1) (.int 0))],
    .retE (.tup [(.o1 .tupleOf (.var 3)), (.var 1)])]⟩
/-- 40 read_net(text) | 0 text, 1 at, 2 many, 3 rules, 4 rule, 5 behind, 6 one -/
abbrev f_read_net : Nat := 40
def d_read_net : FD := ⟨1, 7, [.ifS (.o1 .notB (.o1 .isStr (.var 0))) [.raise 8 []] [],
    .asg (.slot 1) (.call 37 [(.var 0), (.int 0)]),
    .par [(false, 2), (true, 3)] [(.call 38 [(.var 0), (.var 1), (.int 1), (.cst (Str.ofString "MOST_POOLS") (.int 4))]), (.lst [])],
    .ifS (.o2 .ne (.o3 .slice (.var 0) (.o2 .add (.var 1) (.int 1)) (.o2 .add (.var 1) (.int 2))) (.str (Str.ofString ":"))) [.raise 7 [(.o2 .add (.var 1) (.int 1))]] [],
    .asg (.slot 1) (.call 37 [(.var 0), (.o2 .add (.var 1) (.int 2))]),
    .whileS (.o2 .lt (.var 1) (.o1 .len (.var 0))) [.asg (.tup [(.slot 4), (.slot 5)]) (.call 39 [(.var 0), (.var 1), (.var 2)]), .ifS (.or (.o2 .eq (.o1 .len (.var 3)) (.cst (Str.ofString "MOST_RULES") (.int 8))) (.and (.o2 .ne (.var 3) (.lst [])) (.o2 .le (.var 4) (.o2 .idx (.var 3) (.o1 .neg (.int 1)))))) [.raise 7 [(.var 1)]] [], .ifS (.o2 .eq (.comp (.var 6) (.slot 6) .val (.var 4) .non (.o2 .ne (.o2 .idx (.var 6) (.int 0)) (.o2 .idx (.var 6) (.int 1))) [6]) (.lst [])) [.raise 7 [(.var 1)]] [], .app 3 (.var 4), .ifS (.o2 .notIn (.o3 .slice (.var 0) (.var 5) (.o2 .add (.var 5) (.int 1))) (.tup [(.str (Str.ofString "")), (.str (Str.ofString " "))])) [.raise 7 [(.var 5)]] [], .asg (.slot 1) (.call 37 [(.var 0), (.var 5)])],
    .retE (.tup [(.var 2), (.o1 .tupleOf (.var 3))])]⟩
/-- 41 law_order(row, many) | 0 row, 1 many, 2 left, 3 found, 4 turn, 5 at -/
abbrev f_law_order : Nat := 41
/-- 42 law_skip(text, at) | 0 text, 1 at, 2 turn -/
abbrev f_law_skip : Nat := 42
/-- 43 law_text_due(text) | 0 text, 1 at, 2 rules, 3 many, 4 places, 5 spot, 6 going, 7 sides, 8 k, 9 sign, 10 side, 11 rule, 12 one -/
abbrev f_law_text_due : Nat := 43
/-- 44 gcd(one, other) | 0 one, 1 other -/
abbrev f_gcd : Nat := 44
def d_gcd : FD := ⟨2, 2, [.par [(false, 0), (false, 1)] [(.o1 .abs (.var 0)), (.o1 .abs (.var 1))],
    .whileS (.o2 .ne (.var 1) (.int 0)) [.par [(false, 0), (false, 1)] [(.var 1), (.o2 .mod (.var 0) (.var 1))]],
    .retE (.var 0)]⟩
/-- 45 reduced(numerator, denominator) | 0 numerator, 1 denominator, 2 common -/
abbrev f_reduced : Nat := 45
def d_reduced : FD := ⟨2, 3, [.asg (.slot 2) (.call 44 [(.var 0), (.var 1)]),
    .ifS (.o2 .lt (.var 1) (.int 0)) [.asg (.slot 2) (.o1 .neg (.var 2))] [],
    .retE (.tup [(.o2 .fdiv (.var 0) (.var 2)), (.o2 .fdiv (.var 1) (.var 2))])]⟩
/-- 46 plus(one, other) | 0 one, 1 other -/
abbrev f_plus : Nat := 46
def d_plus : FD := ⟨2, 2, [.retE (.call 45 [(.o2 .add (.o2 .mul (.o2 .idx (.var 0) (.int 0)) (.o2 .idx (.var 1) (.int 1))) (.o2 .mul (.o2 .idx (.var 1) (.int 0)) (.o2 .idx (.var 0) (.int 1)))), (.o2 .mul (.o2 .idx (.var 0) (.int 1)) (.o2 .idx (.var 1) (.int 1)))])]⟩
/-- 47 minus(one, other) | 0 one, 1 other -/
abbrev f_minus : Nat := 47
def d_minus : FD := ⟨2, 2, [.retE (.call 45 [(.o2 .sub (.o2 .mul (.o2 .idx (.var 0) (.int 0)) (.o2 .idx (.var 1) (.int 1))) (.o2 .mul (.o2 .idx (.var 1) (.int 0)) (.o2 .idx (.var 0) (.int 1)))), (.o2 .mul (.o2 .idx (.var 0) (.int 1)) (.o2 .idx (.var 1) (.int 1)))])]⟩
/-- 48 times(one, other) | 0 one, 1 other -/
abbrev f_times : Nat := 48
def d_times : FD := ⟨2, 2, [.retE (.call 45 [(.o2 .mul (.o2 .idx (.var 0) (.int 0)) (.o2 .idx (.var 1) (.int 0))), (.o2 .mul (.o2 .idx (.var 0) (.int 1)) (.o2 .idx (.var 1) (.int 1)))])]⟩
/-- 49 over(one, other) | 0 one, 1 other -/
abbrev f_over : Nat := 49
def d_over : FD := ⟨2, 2, [.retE (.call 45 [(.o2 .mul (.o2 .idx (.var 0) (.int 0)) (.o2 .idx (.var 1) (.int 1))), (.o2 .mul (.o2 .idx (.var 0) (.int 1)) (.o2 .idx (.var 1) (.int 0)))])]⟩
/-- 50 less(one, other) | 0 one, 1 other -/
abbrev f_less : Nat := 50
def d_less : FD := ⟨2, 2, [.retE (.o2 .lt (.o2 .mul (.o2 .idx (.var 0) (.int 0)) (.o2 .idx (.var 1) (.int 1))) (.o2 .mul (.o2 .idx (.var 1) (.int 0)) (.o2 .idx (.var 0) (.int 1))))]⟩
/-- 51 whole(ratios) | 0 ratios, 1 below, 2 common, 3 one, 4 found -/
abbrev f_whole : Nat := 51
def d_whole : FD := ⟨1, 5, [.par [(false, 1), (false, 2)] [(.int 1), (.int 0)],
    .forS (.slot 3) .val (.var 0) .non [.asg (.slot 1) (.o2 .fdiv (.o2 .mul (.var 1) (.o2 .idx (.var 3) (.int 1))) (.call 44 [(.var 1), (.o2 .idx (.var 3) (.int 1))]))],
    .asg (.slot 4) (.comp (.o2 .fdiv (.o2 .mul (.o2 .idx (.var 3) (.int 0)) (.var 1)) (.o2 .idx (.var 3) (.int 1))) (.slot 3) .val (.var 0) .non (.bl true) [3]),
    .forS (.slot 3) .val (.var 4) .non [.asg (.slot 2) (.call 44 [(.var 2), (.var 3)])],
    .retE (.ite (.o2 .gt (.var 2) (.int 0)) (.comp (.o2 .fdiv (.var 3) (.var 2)) (.slot 3) .val (.var 4) .non (.bl true) [3]) (.var 4))]⟩
/-- 52 first_tableau(columns, goal) | 0 columns, 1 goal, 2 height, 3 rows, 4 at, 5 turn, 6 signs, 7 k, 8 one, 9 costs, 10 row, 11 cost -/
abbrev f_first_tableau : Nat := 52
def d_first_tableau : FD := ⟨2, 12, [.par [(false, 2), (true, 3)] [(.o1 .len (.var 1)), (.lst [])],
    .forS (.slot 4) .range1 (.var 2) .non [.asg (.slot 5) (.ite (.o2 .lt (.o2 .idx (.var 1) (.var 4)) (.int 0)) (.o1 .neg (.int 1)) (.int 1)), .asg (.slot 6) (.comp (.tup [(.o1 .toInt (.o2 .eq (.var 7) (.var 4))), (.int 1)]) (.slot 7) .range1 (.var 2) .non (.bl true) [7]), .app 3 (.o2 .add (.o2 .add (.comp (.tup [(.o2 .mul (.var 5) (.o2 .idx (.var 8) (.var 4))), (.int 1)]) (.slot 8) .val (.var 0) .non (.bl true) [8]) (.var 6)) (.lst [(.tup [(.o2 .mul (.var 5) (.o2 .idx (.var 1) (.var 4))), (.int 1)])]))],
    .own 9 (.o2 .mul (.lst [(.tup [(.int 0), (.int 1)])]) (.o2 .add (.o2 .add (.o1 .len (.var 0)) (.var 2)) (.int 1))),
    .frz 3,
    .forS (.slot 10) .val (.var 3) .non [.own 9 (.comp (.call 47 [(.var 11), (.o2 .idx (.var 10) (.var 4))]) (.tup [(.slot 4), (.slot 11)]) .enum (.var 9) .non (.bl true) [4, 11])],
    .forS (.slot 4) .range1 (.var 2) .non [.seti 9 (.o2 .add (.o1 .len (.var 0)) (.var 4)) (.tup [(.int 0), (.int 1)])],
    .frz 3,
    .frz 9,
    .retE (.tup [(.var 3), (.var 9), (.comp (.o2 .add (.o1 .len (.var 0)) (.var 4)) (.slot 4) .range1 (.var 2) .non (.bl true) [4])])]⟩
/-- 53 taken_off(row, other, factor) | 0 row, 1 other, 2 factor, 3 at, 4 one -/
abbrev f_taken_off : Nat := 53
def d_taken_off : FD := ⟨3, 5, [.retE (.comp (.call 47 [(.var 4), (.call 48 [(.var 2), (.o2 .idx (.var 1) (.var 3))])]) (.tup [(.slot 3), (.slot 4)]) .enum (.var 0) .non (.bl true) [3, 4])]⟩
/-- 54 turned_2(rows, costs, basis, row, column) | 0 rows, 1 costs, 2 basis, 3 row, 4 column, 5 pivot, 6 line, 7 one, 8 at -/
abbrev f_turned_2 : Nat := 54
def d_turned_2 : FD := ⟨5, 9, [.asg (.slot 5) (.o2 .idx (.o2 .idx (.var 0) (.var 3)) (.var 4)),
    .asg (.slot 6) (.comp (.call 49 [(.var 7), (.var 5)]) (.slot 7) .val (.o2 .idx (.var 0) (.var 3)) .non (.bl true) [7]),
    .asg (.slot 0) (.comp (.ite (.o2 .eq (.var 8) (.var 3)) (.var 6) (.call 53 [(.var 7), (.var 6), (.o2 .idx (.var 7) (.var 4))])) (.tup [(.slot 8), (.slot 7)]) .enum (.var 0) .non (.bl true) [8, 7]),
    .retE (.tup [(.var 0), (.call 53 [(.var 1), (.var 6), (.o2 .idx (.var 1) (.var 4))]), (.o2 .add (.o2 .add (.o3 .slice (.var 2) .non (.var 3)) (.lst [(.var 4)])) (.o3 .slice (.var 2) (.o2 .add (.var 3) (.int 1)) .non))])]⟩
/-- 55 leaving(rows, basis, column) | 0 rows, 1 basis, 2 column, 3 best, 4 at, 5 row, 6 share -/
abbrev f_leaving : Nat := 55
def d_leaving : FD := ⟨3, 7, [.asg (.slot 3) .non,
    .forS (.tup [(.slot 4), (.slot 5)]) .enum (.var 0) .non [.ifS (.call 50 [(.tup [(.int 0), (.int 1)]), (.o2 .idx (.var 5) (.var 2))]) [.asg (.slot 6) (.call 49 [(.o2 .idx (.var 5) (.o1 .neg (.int 1))), (.o2 .idx (.var 5) (.var 2))]), .ifS (.or (.o2 .is (.var 3) .non) (.or (.call 50 [(.var 6), (.o2 .idx (.var 3) (.int 0))]) (.and (.o2 .eq (.var 6) (.o2 .idx (.var 3) (.int 0))) (.o2 .lt (.o2 .idx (.var 1) (.var 4)) (.o2 .idx (.var 3) (.int 1)))))) [.asg (.slot 3) (.tup [(.var 6), (.o2 .idx (.var 1) (.var 4)), (.var 4)])] []] []],
    .retE (.o2 .idx (.var 3) (.int 2))]⟩
/-- 56 solve(columns, goal) | 0 columns, 1 goal, 2 rows, 3 costs, 4 basis, 5 some, 6 at, 7 found, 8 column, 9 told, 10 one -/
abbrev f_solve : Nat := 56
def d_solve : FD := ⟨2, 11, [.asg (.tup [(.slot 2), (.slot 3), (.slot 4)]) (.call 52 [(.var 0), (.var 1)]),
    .whileS (.bl true) [.asg (.slot 5) (.comp (.var 6) (.slot 6) .range1 (.o1 .len (.var 0)) .non (.call 50 [(.o2 .idx (.var 3) (.var 6)), (.tup [(.int 0), (.int 1)])]) [6]), .ifS (.o2 .eq (.var 5) (.lst [])) [.brk] [], .asg (.tup [(.slot 2), (.slot 3), (.slot 4)]) (.call 54 [(.var 2), (.var 3), (.var 4), (.call 55 [(.var 2), (.var 4), (.o2 .idx (.var 5) (.int 0))]), (.o2 .idx (.var 5) (.int 0))])],
    .ifS (.o2 .eq (.o2 .idx (.o2 .idx (.var 3) (.o1 .neg (.int 1))) (.int 0)) (.int 0)) [.own 7 (.o2 .mul (.lst [(.tup [(.int 0), (.int 1)])]) (.o1 .len (.var 0))), .forS (.tup [(.slot 6), (.slot 8)]) .enum (.var 4) .non [.ifS (.o2 .lt (.var 8) (.o1 .len (.var 0))) [.seti 7 (.var 8) (.o2 .idx (.o2 .idx (.var 2) (.var 6)) (.o1 .neg (.int 1)))] []], .frz 7, .retE (.tup [(.var 7), .non])] [],
    .own 9 (.lst []),
    .forS (.tup [(.slot 6), (.slot 10)]) .enum (.var 1) .non [.app 9 (.call 48 [(.tup [(.ite (.o2 .lt (.var 10) (.int 0)) (.o1 .neg (.int 1)) (.int 1)), (.int 1)]), (.call 47 [(.tup [(.int 1), (.int 1)]), (.o2 .idx (.var 3) (.o2 .add (.o1 .len (.var 0)) (.var 6)))])])],
    .frz 9,
    .retE (.tup [.non, (.var 9)])]⟩
/-- 57 drops(net) | 0 net, 1 one, 2 other, 3 takes, 4 puts, 5 rule -/
abbrev f_drops : Nat := 57
def d_drops : FD := ⟨1, 6, [.retE (.comp (.comp (.comp (.o2 .sub (.var 1) (.var 2)) (.tup [(.slot 1), (.slot 2)]) .zip (.var 3) (.var 4) (.bl true) [1, 2]) (.tup [(.slot 3), (.slot 4)]) .val (.var 5) .non (.bl true) [3, 4]) (.slot 5) .val (.o2 .idx (.var 0) (.int 1)) .non (.bl true) [5])]⟩
/-- 58 falls(net, weights) | 0 net, 1 weights, 2 found, 3 rule, 4 pool, 5 one, 6 line -/
abbrev f_falls : Nat := 58
def d_falls : FD := ⟨2, 7, [.own 2 (.lst []),
    .forS (.slot 3) .val (.call 57 [(.var 0)]) .non [.app 2 (.comp (.o1 .sum (.comp (.o2 .mul (.o2 .idx (.var 1) (.var 4)) (.var 5)) (.tup [(.slot 4), (.slot 5)]) .enum (.var 6) .non (.bl true) [4, 5])) (.slot 6) .val (.var 3) .non (.bl true) [6])],
    .frz 2,
    .retE (.var 2)]⟩
/-- 59 opposites(some) | 0 some, 1 one, 2 vector -/
abbrev f_opposites : Nat := 59
def d_opposites : FD := ⟨1, 3, [.retE (.comp (.call 56 [(.var 0), (.comp (.o1 .neg (.var 1)) (.slot 1) .val (.var 2) .non (.bl true) [1])]) (.slot 2) .val (.var 0) .non (.bl true) [2])]⟩
/-- 60 weights_of(many, told) | 0 many, 1 told, 2 found, 3 multiples, 4 against, 5 at, 6 one -/
abbrev f_weights_of : Nat := 60
def d_weights_of : FD := ⟨2, 7, [.asg (.slot 2) (.o2 .mul (.lst [(.tup [(.int 0), (.int 1)])]) (.var 0)),
    .forS (.tup [(.slot 3), (.slot 4)]) .val (.var 1) .non [.ifS (.o2 .isNot (.var 4) .non) [.asg (.slot 2) (.comp (.call 46 [(.var 6), (.tup [(.o1 .neg (.o2 .idx (.o2 .idx (.var 4) (.var 5)) (.int 0))), (.o2 .idx (.o2 .idx (.var 4) (.var 5)) (.int 1))])]) (.tup [(.slot 5), (.slot 6)]) .enum (.var 2) .non (.bl true) [5, 6])] []],
    .retE (.o1 .tupleOf (.call 51 [(.var 2)]))]⟩
/-- 61 units(net, pools) | 0 net, 1 pools, 2 pool, 3 one -/
abbrev f_units : Nat := 61
def d_units : FD := ⟨2, 4, [.retE (.comp (.comp (.o1 .toInt (.o2 .eq (.var 2) (.var 3))) (.slot 2) .range1 (.o2 .idx (.var 0) (.int 0)) .non (.bl true) [2]) (.slot 3) .val (.var 1) .non (.bl true) [3])]⟩
/-- 62 place_at(net, rule, depth, word) | 0 net, 1 rule, 2 depth, 3 word -/
abbrev f_place_at : Nat := 62
def d_place_at : FD := ⟨4, 4, [.retE (.ite (.o2 .eq (.var 3) (.str (Str.ofString "early"))) (.var 2) (.o2 .sub (.o2 .sub (.o1 .len (.o2 .idx (.o2 .idx (.var 0) (.int 1)) (.var 1))) (.int 1)) (.var 2)))]⟩
/-- 63 at_hand(net, rules, closed) | 0 net, 1 rules, 2 closed, 3 found, 4 rule, 5 depth -/
abbrev f_at_hand : Nat := 63
def d_at_hand : FD := ⟨3, 6, [.own 3 (.comp (.tup [(.var 4), (.int 0)]) (.slot 4) .val (.var 1) .non (.bl true) [4]),
    .forS (.tup [(.slot 4), (.slot 5)]) .val (.var 2) .non [.ifS (.o2 .lt (.o2 .add (.var 5) (.int 1)) (.o1 .len (.o2 .idx (.o2 .idx (.var 0) (.int 1)) (.var 4)))) [.app 3 (.tup [(.var 4), (.o2 .add (.var 5) (.int 1))])] []],
    .retE (.o1 .sorted (.var 3))]⟩
/-- 64 spread_of(net, places, told, word) | 0 net, 1 places, 2 told, 3 word, 4 found, 5 rule, 6 at, 7 depth, 8 spot, 9 one, 10 deep, 11 more, 12 flat, 13 rows, 14 line -/
abbrev f_spread_of : Nat := 64
def d_spread_of : FD := ⟨4, 15, [.own2 4 (.comp (.o2 .mul (.lst [(.tup [(.int 0), (.int 1)])]) (.o1 .len (.var 5))) (.slot 5) .val (.o2 .idx (.var 0) (.int 1)) .non (.bl true) [5]),
    .forS (.tup [(.slot 6), (.tup [(.slot 5), (.slot 7)])]) .enum (.var 1) .non [.ifS (.o2 .isNot (.o2 .idx (.o2 .idx (.var 2) (.var 6)) (.int 0)) .non) [.asg (.slot 8) (.call 62 [(.var 0), (.var 5), (.var 7), (.var 3)]), .seti2 4 (.var 5) (.var 8) (.call 46 [(.ix2 4 (.var 5) (.var 8)), (.tup [(.int 1), (.int 1)])]), .forS (.tup [(.tup [(.slot 9), (.slot 10)]), (.slot 11)]) .zip (.var 1) (.o2 .idx (.o2 .idx (.var 2) (.var 6)) (.int 0)) [.asg (.slot 8) (.call 62 [(.var 0), (.var 9), (.var 10), (.var 3)]), .seti2 4 (.var 9) (.var 8) (.call 46 [(.ix2 4 (.var 9) (.var 8)), (.var 11)])]] []],
    .par [(false, 12), (true, 13)] [(.lst []), (.lst [])],
    .frz 4,
    .forS (.slot 14) .val (.var 4) .non [.asg (.slot 12) (.o2 .add (.var 12) (.var 14))],
    .asg (.slot 12) (.call 51 [(.var 12)]),
    .forS (.slot 5) .val (.o2 .idx (.var 0) (.int 1)) .non [.app 13 (.o1 .tupleOf (.o3 .slice (.var 12) .non (.o1 .len (.var 5)))), .asg (.slot 12) (.o3 .slice (.var 12) (.o1 .len (.var 5)) .non)],
    .retE (.o1 .tupleOf (.var 13))]⟩
/-- 65 closing(net, rules, pools, word) | 0 net, 1 rules, 2 pools, 3 word, 4 counts, 5 closed, 6 spreads, 7 places, 8 vectors, 9 rule, 10 depth, 11 told, 12 more, 13 at, 14 one -/
abbrev f_closing : Nat := 65
def d_closing : FD := ⟨4, 15, [.par [(false, 4), (false, 5), (true, 6)] [(.call 57 [(.var 0)]), (.lst []), (.lst [])],
    .whileS (.bl true) [.asg (.slot 7) (.call 63 [(.var 0), (.var 1), (.var 5)]), .asg (.slot 8) (.comp (.o2 .idx (.o2 .idx (.var 4) (.var 9)) (.call 62 [(.var 0), (.var 9), (.var 10), (.var 3)])) (.tup [(.slot 9), (.slot 10)]) .val (.var 7) .non (.bl true) [9, 10]), .asg (.slot 11) (.call 59 [(.o2 .add (.var 8) (.call 61 [(.var 0), (.var 2)]))]), .asg (.slot 12) (.comp (.var 14) (.tup [(.slot 13), (.slot 14)]) .enum (.var 7) .non (.o2 .isNot (.o2 .idx (.o2 .idx (.var 11) (.var 13)) (.int 0)) .non) [13, 14]), .ifS (.o2 .eq (.var 12) (.var 5)) [.frz 6, .retE (.tup [(.call 60 [(.o2 .idx (.var 0) (.int 0)), (.var 11)]), (.var 6)])] [], .app 6 (.call 64 [(.var 0), (.var 7), (.var 11), (.var 3)]), .asg (.slot 5) (.var 12)]]⟩
/-- 66 sums_of(net, rules) | 0 net, 1 rules, 2 counts, 3 found, 4 rule, 5 line, 6 pool -/
abbrev f_sums_of : Nat := 66
def d_sums_of : FD := ⟨2, 7, [.par [(false, 2), (true, 3)] [(.call 57 [(.var 0)]), (.lst [])],
    .forS (.slot 4) .val (.var 1) .non [.app 3 (.comp (.o1 .sum (.comp (.o2 .idx (.var 5) (.var 6)) (.slot 5) .val (.o2 .idx (.var 2) (.var 4)) .non (.bl true) [5])) (.slot 6) .range1 (.o2 .idx (.var 0) (.int 0)) .non (.bl true) [6])],
    .frz 3,
    .retE (.var 3)]⟩
/-- 67 level(net, word, rules, pools) | 0 net, 1 word, 2 rules, 3 pools -/
abbrev f_level : Nat := 67
def d_level : FD := ⟨4, 4, [.ifS (.o2 .eq (.var 1) (.str (Str.ofString "even"))) [.retE (.call 60 [(.o2 .idx (.var 0) (.int 0)), (.call 59 [(.o2 .add (.call 66 [(.var 0), (.var 2)]) (.call 61 [(.var 0), (.var 3)]))])])] [],
    .retE (.o2 .idx (.call 65 [(.var 0), (.var 2), (.var 3), (.var 1)]) (.int 0))]⟩
/-- 68 turn_of(word, line) | 0 word, 1 line, 2 some, 3 one -/
abbrev f_turn_of : Nat := 68
def d_turn_of : FD := ⟨2, 4, [.ifS (.o2 .eq (.var 0) (.str (Str.ofString "even"))) [.retE (.o1 .sum (.var 1))] [],
    .asg (.slot 2) (.comp (.var 3) (.slot 3) .val (.var 1) .non (.o2 .ne (.var 3) (.int 0)) [3]),
    .ifS (.o2 .eq (.var 2) (.lst [])) [.retE (.int 0)] [],
    .retE (.ite (.o2 .eq (.var 0) (.str (Str.ofString "early"))) (.o2 .idx (.var 2) (.int 0)) (.o2 .idx (.var 2) (.o1 .neg (.int 1))))]⟩
/-- 69 left_behind(net, word, weights, rules, pools) | 0 net, 1 word, 2 weights, 3 rules, 4 pools, 5 told, 6 rule, 7 pool -/
abbrev f_left_behind : Nat := 69
def d_left_behind : FD := ⟨5, 8, [.asg (.slot 5) (.call 58 [(.var 0), (.var 2)]),
    .retE (.tup [(.comp (.var 6) (.slot 6) .val (.var 3) .non (.o2 .eq (.call 68 [(.var 1), (.o2 .idx (.var 5) (.var 6))]) (.int 0)) [6]), (.comp (.var 7) (.slot 7) .val (.var 4) .non (.o2 .eq (.o2 .idx (.var 2) (.var 7)) (.int 0)) [7])])]⟩
/-- 70 climb(net) | 0 net, 1 rules, 2 pools, 3 found, 4 best, 5 word, 6 weights, 7 less -/
abbrev f_climb : Nat := 70
def d_climb : FD := ⟨1, 8, [.par [(false, 1), (false, 2), (true, 3)] [(.o1 .listRange (.o1 .len (.o2 .idx (.var 0) (.int 1)))), (.o1 .listRange (.o2 .idx (.var 0) (.int 0))), (.lst [])],
    .whileS (.bl true) [.asg (.slot 4) .non, .forS (.slot 5) .val (.cst (Str.ofString "WORDS") (.tup [(.str (Str.ofString "early")), (.str (Str.ofString "even")), (.str (Str.ofString "late"))])) .non [.asg (.slot 6) (.call 67 [(.var 0), (.var 5), (.var 1), (.var 2)]), .asg (.slot 7) (.call 69 [(.var 0), (.var 5), (.var 6), (.var 1), (.var 2)]), .ifS (.or (.o2 .is (.var 4) .non) (.o2 .lt (.o2 .add (.o1 .len (.o2 .idx (.var 7) (.int 0))) (.o1 .len (.o2 .idx (.var 7) (.int 1)))) (.o2 .add (.o1 .len (.o2 .idx (.var 4) (.int 2))) (.o1 .len (.o2 .idx (.var 4) (.int 3)))))) [.asg (.slot 4) (.o2 .add (.tup [(.var 5), (.var 6)]) (.var 7))] []], .ifS (.o2 .eq (.o2 .add (.o1 .len (.o2 .idx (.var 4) (.int 2))) (.o1 .len (.o2 .idx (.var 4) (.int 3)))) (.o2 .add (.o1 .len (.var 1)) (.o1 .len (.var 2)))) [.frz 3, .retE (.tup [(.var 3), (.var 1), (.var 2)])] [], .app 3 (.o3 .slice (.var 4) .non (.int 2)), .par [(false, 1), (false, 2)] [(.o2 .idx (.var 4) (.int 2)), (.o2 .idx (.var 4) (.int 3))]]]⟩
/-- 71 ends(net) | 0 net -/
abbrev f_ends : Nat := 71
def d_ends : FD := ⟨1, 1, [.expr (.call 4 [(.var 0)]),
    .retE (.o2 .eq (.o2 .idx (.call 70 [(.var 0)]) (.int 1)) (.lst []))]⟩
/-- 72 bounded(net) | 0 net -/
abbrev f_bounded : Nat := 72
def d_bounded : FD := ⟨1, 1, [.expr (.call 4 [(.var 0)]),
    .retE (.o2 .eq (.o2 .idx (.call 70 [(.var 0)]) (.int 2)) (.lst []))]⟩
/-- 73 falling(net) | 0 net, 1 found, 2 rules, 3 pools -/
abbrev f_falling : Nat := 73
def d_falling : FD := ⟨1, 4, [.expr (.call 4 [(.var 0)]),
    .asg (.tup [(.slot 1), (.slot 2), (.slot 3)]) (.call 70 [(.var 0)]),
    .retE (.ite (.o2 .eq (.var 2) (.lst [])) (.o1 .tupleOf (.var 1)) .non)]⟩
/-- 74 holding(net) | 0 net, 1 found, 2 rules, 3 pools -/
abbrev f_holding : Nat := 74
def d_holding : FD := ⟨1, 4, [.expr (.call 4 [(.var 0)]),
    .asg (.tup [(.slot 1), (.slot 2), (.slot 3)]) (.call 70 [(.var 0)]),
    .retE (.ite (.o2 .eq (.var 3) (.lst [])) (.o1 .tupleOf (.var 1)) .non)]⟩
/-- 75 is_weights(net, value) | 0 net, 1 value, 2 one -/
abbrev f_is_weights : Nat := 75
def d_is_weights : FD := ⟨2, 3, [.ifS (.or (.o1 .notB (.o1 .isTup (.var 1))) (.o2 .ne (.o1 .len (.var 1)) (.o2 .idx (.var 0) (.int 0)))) [.retE (.bl false)] [],
    .retE (.o2 .eq (.comp (.var 2) (.slot 2) .val (.var 1) .non (.or (.o1 .notB (.o1 .isInt (.var 2))) (.o1 .isBool (.var 2))) [2]) (.lst []))]⟩
/-- 76 left_by(net, value) | 0 net, 1 value, 2 rules, 3 pools, 4 one, 5 pool, 6 told, 7 rule -/
abbrev f_left_by : Nat := 76
def d_left_by : FD := ⟨2, 8, [.ifS (.o1 .notB (.o1 .isTup (.var 1))) [.retE .non] [],
    .par [(false, 2), (false, 3)] [(.o1 .listRange (.o1 .len (.o2 .idx (.var 0) (.int 1)))), (.o1 .listRange (.o2 .idx (.var 0) (.int 0)))],
    .forS (.slot 4) .val (.var 1) .non [.ifS (.or (.o1 .notB (.o1 .isTup (.var 4))) (.or (.o2 .ne (.o1 .len (.var 4)) (.int 2)) (.or (.o1 .notB (.o1 .isStr (.o2 .idx (.var 4) (.int 0)))) (.o2 .notIn (.o2 .idx (.var 4) (.int 0)) (.cst (Str.ofString "WORDS") (.tup [(.str (Str.ofString "early")), (.str (Str.ofString "even")), (.str (Str.ofString "late"))])))))) [.retE .non] [], .ifS (.or (.o1 .notB (.call 75 [(.var 0), (.o2 .idx (.var 4) (.int 1))])) (.o2 .ne (.comp (.var 5) (.slot 5) .val (.var 3) .non (.o2 .lt (.o2 .idx (.o2 .idx (.var 4) (.int 1)) (.var 5)) (.int 0)) [5]) (.lst []))) [.retE .non] [], .asg (.slot 6) (.call 58 [(.var 0), (.o2 .idx (.var 4) (.int 1))]), .ifS (.o2 .ne (.comp (.var 7) (.slot 7) .val (.var 2) .non (.o2 .lt (.call 68 [(.o2 .idx (.var 4) (.int 0)), (.o2 .idx (.var 6) (.var 7))]) (.int 0)) [7]) (.lst [])) [.retE .non] [], .asg (.tup [(.slot 2), (.slot 3)]) (.call 69 [(.var 0), (.o2 .idx (.var 4) (.int 0)), (.o2 .idx (.var 4) (.int 1)), (.var 2), (.var 3)])],
    .retE (.tup [(.var 2), (.var 3)])]⟩
/-- 77 shows_falling(net, value) | 0 net, 1 value, 2 left -/
abbrev f_shows_falling : Nat := 77
def d_shows_falling : FD := ⟨2, 3, [.expr (.call 4 [(.var 0)]),
    .ifS (.o2 .ne (.o2 .idx (.call 70 [(.var 0)]) (.int 1)) (.lst [])) [.retE (.o2 .is (.var 1) .non)] [],
    .asg (.slot 2) (.call 76 [(.var 0), (.var 1)]),
    .retE (.and (.o2 .isNot (.var 2) .non) (.o2 .eq (.o2 .idx (.var 2) (.int 0)) (.lst [])))]⟩
/-- 78 shows_holding(net, value) | 0 net, 1 value, 2 left -/
abbrev f_shows_holding : Nat := 78
def d_shows_holding : FD := ⟨2, 3, [.expr (.call 4 [(.var 0)]),
    .ifS (.o2 .ne (.o2 .idx (.call 70 [(.var 0)]) (.int 2)) (.lst [])) [.retE (.o2 .is (.var 1) .non)] [],
    .asg (.slot 2) (.call 76 [(.var 0), (.var 1)]),
    .retE (.and (.o2 .isNot (.var 2) .non) (.o2 .eq (.o2 .idx (.var 2) (.int 1)) (.lst [])))]⟩
/-- 79 knot_in(net, rules, pools) | 0 net, 1 rules, 2 pools, 3 lot, 4 at, 5 multiples, 6 against, 7 spot, 8 rule, 9 firsts, 10 lasts -/
abbrev f_knot_in : Nat := 79
def d_knot_in : FD := ⟨3, 11, [.own 3 (.o2 .mul (.lst [(.tup [(.int 0), (.int 1)])]) (.o1 .len (.o2 .idx (.var 0) (.int 1)))),
    .forS (.tup [(.slot 4), (.tup [(.slot 5), (.slot 6)])]) .enum (.call 59 [(.o2 .add (.call 66 [(.var 0), (.var 1)]) (.call 61 [(.var 0), (.var 2)]))]) .non [.ifS (.o2 .lt (.var 4) (.o1 .len (.var 1))) [.seti 3 (.o2 .idx (.var 1) (.var 4)) (.call 46 [(.o2 .idx (.var 3) (.o2 .idx (.var 1) (.var 4))), (.tup [(.int 1), (.int 1)])])] [], .forS (.tup [(.slot 7), (.slot 8)]) .enum (.var 1) .non [.seti 3 (.var 8) (.call 46 [(.o2 .idx (.var 3) (.var 8)), (.o2 .idx (.var 5) (.var 7))])]],
    .par [(false, 9), (false, 10)] [(.o2 .idx (.call 65 [(.var 0), (.var 1), (.var 2), (.str (Str.ofString "early"))]) (.int 1)), (.o2 .idx (.call 65 [(.var 0), (.var 1), (.var 2), (.str (Str.ofString "late"))]) (.int 1))],
    .frz 3,
    .retE (.tup [(.o1 .tupleOf (.call 51 [(.var 3)])), (.o1 .tupleOf (.var 9)), (.o1 .tupleOf (.var 10))])]⟩
/-- 80 knot(net) | 0 net, 1 found, 2 rules, 3 pools -/
abbrev f_knot : Nat := 80
def d_knot : FD := ⟨1, 4, [.expr (.call 4 [(.var 0)]),
    .asg (.tup [(.slot 1), (.slot 2), (.slot 3)]) (.call 70 [(.var 0)]),
    .retE (.ite (.o2 .ne (.var 2) (.lst [])) (.call 79 [(.var 0), (.var 2), (.var 3)]) .non)]⟩
/-- 81 rising(net) | 0 net, 1 found, 2 rules, 3 pools -/
abbrev f_rising : Nat := 81
def d_rising : FD := ⟨1, 4, [.expr (.call 4 [(.var 0)]),
    .asg (.tup [(.slot 1), (.slot 2), (.slot 3)]) (.call 70 [(.var 0)]),
    .retE (.ite (.o2 .ne (.var 3) (.lst [])) (.call 79 [(.var 0), (.var 2), (.var 3)]) .non)]⟩
/-- 82 is_numbers(value, many) | 0 value, 1 many, 2 one -/
abbrev f_is_numbers : Nat := 82
def d_is_numbers : FD := ⟨2, 3, [.ifS (.or (.o1 .notB (.o1 .isTup (.var 0))) (.o2 .ne (.o1 .len (.var 0)) (.var 1))) [.retE (.bl false)] [],
    .retE (.o2 .eq (.comp (.var 2) (.slot 2) .val (.var 0) .non (.or (.o1 .notB (.o1 .isInt (.var 2))) (.or (.o1 .isBool (.var 2)) (.o2 .lt (.var 2) (.int 0)))) [2]) (.lst []))]⟩
/-- 83 is_spread(net, value) | 0 net, 1 value, 2 at, 3 one -/
abbrev f_is_spread : Nat := 83
def d_is_spread : FD := ⟨2, 4, [.ifS (.or (.o1 .notB (.o1 .isTup (.var 1))) (.o2 .ne (.o1 .len (.var 1)) (.o1 .len (.o2 .idx (.var 0) (.int 1))))) [.retE (.bl false)] [],
    .retE (.o2 .eq (.comp (.var 2) (.tup [(.slot 2), (.slot 3)]) .enum (.var 1) .non (.o1 .notB (.call 82 [(.var 3), (.o1 .len (.o2 .idx (.o2 .idx (.var 0) (.int 1)) (.var 2)))])) [2, 3]) (.lst []))]⟩
/-- 84 raised(net, spread) | 0 net, 1 spread, 2 counts, 3 found, 4 pool, 5 total, 6 rule, 7 line, 8 spot, 9 times -/
abbrev f_raised : Nat := 84
def d_raised : FD := ⟨2, 10, [.par [(false, 2), (true, 3)] [(.call 57 [(.var 0)]), (.lst [])],
    .forS (.slot 4) .range1 (.o2 .idx (.var 0) (.int 0)) .non [.asg (.slot 5) (.int 0), .forS (.tup [(.slot 6), (.slot 7)]) .enum (.var 1) .non [.aug 5 .add (.o1 .sum (.comp (.o2 .mul (.var 9) (.o2 .idx (.o2 .idx (.o2 .idx (.var 2) (.var 6)) (.var 8)) (.var 4))) (.tup [(.slot 8), (.slot 9)]) .enum (.var 7) .non (.bl true) [8, 9]))], .app 3 (.o1 .neg (.var 5))],
    .frz 3,
    .retE (.var 3)]⟩
/-- 85 line_of(net, value, word) | 0 net, 1 value, 2 word, 3 reached, 4 pools, 5 spread, 6 here, 7 rule, 8 line, 9 depth, 10 one, 11 pool, 12 more -/
abbrev f_line_of : Nat := 85
def d_line_of : FD := ⟨3, 13, [.ifS (.o1 .notB (.o1 .isTup (.var 1))) [.retE .non] [],
    .par [(false, 3), (false, 4)] [(.lst []), (.lst [])],
    .forS (.slot 5) .val (.var 1) .non [.ifS (.or (.o1 .notB (.call 83 [(.var 0), (.var 5)])) (.o2 .lt (.o1 .min1 (.call 84 [(.var 0), (.var 5)])) (.int 0))) [.retE .non] [], .own 6 (.lst []), .forS (.tup [(.slot 7), (.slot 8)]) .enum (.var 5) .non [.forS (.slot 9) .range1 (.o1 .len (.var 8)) .non [.ifS (.o2 .gt (.o2 .idx (.var 8) (.call 62 [(.var 0), (.var 7), (.var 9), (.var 2)])) (.int 0)) [.app 6 (.tup [(.var 7), (.var 9)])] []]], .ifS (.o2 .ne (.comp (.var 10) (.slot 10) .val (.var 6) .non (.and (.o2 .gt (.o2 .idx (.var 10) (.int 1)) (.int 0)) (.o2 .notIn (.tup [(.o2 .idx (.var 10) (.int 0)), (.o2 .sub (.o2 .idx (.var 10) (.int 1)) (.int 1))]) (.var 3))) [10]) (.lst [])) [.retE .non] [], .asg (.slot 3) (.o1 .sortedSet (.o2 .add (.var 3) (.var 6))), .asg (.slot 4) (.o2 .add (.var 4) (.comp (.var 11) (.tup [(.slot 11), (.slot 12)]) .enum (.call 84 [(.var 0), (.var 5)]) .non (.o2 .gt (.var 12) (.int 0)) [11, 12]))],
    .retE (.tup [(.var 3), (.var 4)])]⟩
/-- 86 gains_of(net, value) | 0 net, 1 value, 2 more, 3 rule, 4 one, 5 gains, 6 pool, 7 due, 8 at, 9 depth, 10 line, 11 word, 12 told -/
abbrev f_gains_of : Nat := 86
def d_gains_of : FD := ⟨2, 13, [.ifS (.or (.o1 .notB (.o1 .isTup (.var 1))) (.or (.o2 .ne (.o1 .len (.var 1)) (.int 3)) (.or (.o1 .notB (.call 82 [(.o2 .idx (.var 1) (.int 0)), (.o1 .len (.o2 .idx (.var 0) (.int 1)))])) (.o2 .eq (.o1 .sum (.o2 .idx (.var 1) (.int 0))) (.int 0))))) [.retE .non] [],
    .asg (.slot 2) (.call 84 [(.var 0), (.o1 .tupleOf (.comp (.o2 .mul (.tup [(.var 4)]) (.o1 .len (.o2 .idx (.o2 .idx (.var 0) (.int 1)) (.var 3)))) (.tup [(.slot 3), (.slot 4)]) .enum (.o2 .idx (.var 1) (.int 0)) .non (.bl true) [3, 4]))]),
    .asg (.slot 5) (.comp (.var 6) (.tup [(.slot 6), (.slot 4)]) .enum (.var 2) .non (.o2 .gt (.var 4) (.int 0)) [6, 4]),
    .asg (.slot 7) (.lst []),
    .forS (.slot 3) .val (.comp (.var 8) (.tup [(.slot 8), (.slot 4)]) .enum (.o2 .idx (.var 1) (.int 0)) .non (.o2 .gt (.var 4) (.int 0)) [8, 4]) .non [.asg (.slot 7) (.o2 .add (.var 7) (.comp (.tup [(.var 3), (.var 9)]) (.slot 9) .range1 (.o1 .len (.o2 .idx (.o2 .idx (.var 0) (.int 1)) (.var 3))) .non (.bl true) [9]))],
    .forS (.tup [(.slot 10), (.slot 11)]) .val (.tup [(.tup [(.o2 .idx (.var 1) (.int 1)), (.str (Str.ofString "early"))]), (.tup [(.o2 .idx (.var 1) (.int 2)), (.str (Str.ofString "late"))])]) .non [.asg (.slot 12) (.call 85 [(.var 0), (.var 10), (.var 11)]), .ifS (.or (.o2 .is (.var 12) .non) (.or (.o2 .ne (.o2 .idx (.var 12) (.int 0)) (.var 7)) (.o2 .ne (.comp (.var 6) (.slot 6) .val (.o2 .idx (.var 12) (.int 1)) .non (.o2 .notIn (.var 6) (.var 5)) [6]) (.lst [])))) [.retE .non] []],
    .retE (.ite (.o2 .ge (.o1 .min1 (.var 2)) (.int 0)) (.var 5) .non)]⟩
/-- 87 shows_knot(net, value) | 0 net, 1 value -/
abbrev f_shows_knot : Nat := 87
def d_shows_knot : FD := ⟨2, 2, [.expr (.call 4 [(.var 0)]),
    .ifS (.o2 .eq (.o2 .idx (.call 70 [(.var 0)]) (.int 1)) (.lst [])) [.retE (.o2 .is (.var 1) .non)] [],
    .retE (.o2 .isNot (.call 86 [(.var 0), (.var 1)]) .non)]⟩
/-- 88 shows_rising(net, value) | 0 net, 1 value, 2 gains -/
abbrev f_shows_rising : Nat := 88
def d_shows_rising : FD := ⟨2, 3, [.expr (.call 4 [(.var 0)]),
    .ifS (.o2 .eq (.o2 .idx (.call 70 [(.var 0)]) (.int 2)) (.lst [])) [.retE (.o2 .is (.var 1) .non)] [],
    .asg (.slot 2) (.call 86 [(.var 0), (.var 1)]),
    .retE (.and (.o2 .isNot (.var 2) .non) (.o2 .ne (.var 2) (.lst [])))]⟩
/-- 89 law_is_vector(value, size) | 0 value, 1 size, 2 x -/
abbrev f_law_is_vector : Nat := 89
/-- 90 law_turn(word, line) | 0 word, 1 line, 2 some, 3 one -/
abbrev f_law_turn : Nat := 90
/-- 91 law_falls(rule, weights) | 0 rule, 1 weights, 2 pool, 3 takes, 4 puts -/
abbrev f_law_falls : Nat := 91
/-- 92 law_left(net, value) | 0 net, 1 value, 2 rules, 3 pools, 4 one, 5 told, 6 rule, 7 number, 8 pool, 9 k -/
abbrev f_law_left : Nat := 92
/-- 93 law_raised(net, spread) | 0 net, 1 spread, 2 found, 3 k, 4 spot, 5 takes, 6 puts, 7 pool -/
abbrev f_law_raised : Nat := 93
/-- 94 law_is_spread(net, value) | 0 net, 1 value, 2 k -/
abbrev f_law_is_spread : Nat := 94
/-- 95 law_gains(net, value) | 0 net, 1 value, 2 more, 3 k, 4 gains, 5 due, 6 pool, 7 spot, 8 line, 9 step, 10 reached, 11 spread, 12 up, 13 here, 14 one -/
abbrev f_law_gains : Nat := 95
/-- 96 law(script, row) | 0 script, 1 row, 2 net, 3 down, 4 kept, 5 some, 6 more, 7 left -/
abbrev f_law : Nat := 96
/-- 97 law_weighing(net, levels, many) | 0 net, 1 levels, 2 many, 3 most, 4 word, 5 weights, 6 one, 7 base, 8 scale, 9 found, 10 k, 11 step, 12 turn, 13 pool -/
abbrev f_law_weighing : Nat := 97
/-- 98 law_heavy(found, filling) | 0 found, 1 filling, 2 pool, 3 k -/
abbrev f_law_heavy : Nat := 98
/-- 99 law_2(script, row) | 0 script, 1 row, 2 net, 3 down, 4 kept, 5 turn, 6 many, 7 filling, 8 levels, 9 strict, 10 weights, 11 line, 12 deed, 13 fall -/
abbrev f_law_2 : Nat := 99
/-- 100 law_scaled(line) | 0 line, 1 most, 2 found, 3 scale, 4 spread, 5 numbers, 6 one -/
abbrev f_law_scaled : Nat := 100
/-- 101 law_added(rows, net) | 0 rows, 1 net, 2 found, 3 rule, 4 spread, 5 spot, 6 k -/
abbrev f_law_added : Nat := 101
/-- 102 law_times(spread, many) | 0 spread, 1 many, 2 one, 3 numbers -/
abbrev f_law_times : Nat := 102
/-- 103 law_path(net, paper) | 0 net, 1 paper, 2 rules, 3 k, 4 firsts, 5 lasts, 6 first, 7 last, 8 times_v, 9 cuts, 10 spot, 11 middle, 12 slack, 13 spread -/
abbrev f_law_path : Nat := 103
/-- 104 law_goes(rows, here) | 0 rows, 1 here, 2 spread, 3 there, 4 k, 5 line, 6 spot -/
abbrev f_law_goes : Nat := 104
/-- 105 law_3(script, row) | 0 script, 1 row, 2 net, 3 paper, 4 due, 5 path, 6 ahead, 7 middle, 8 cuts, 9 behind, 10 rule, 11 spread, 12 there, 13 turn, 14 here, 15 spot, 16 k, 17 line -/
abbrev f_law_3 : Nat := 105
/-- 106 law_signed(row, most) | 0 row, 1 most -/
abbrev f_law_signed : Nat := 106
/-- 107 law_4(script, row) | 0 script, 1 row, 2 net, 3 many, 4 good_one, 5 good_two, 6 base, 7 other, 8 line, 9 values, 10 k, 11 word, 12 weights, 13 some, 14 one, 15 turn, 16 value, 17 left -/
abbrev f_law_4 : Nat := 107
/-- 108 law_5(script, row) | 0 script, 1 row, 2 net, 3 many, 4 flat, 5 good_one, 6 good_two, 7 rule, 8 base, 9 lot, 10 firsts, 11 lasts, 12 values, 13 one, 14 k, 15 spread, 16 line, 17 value, 18 turn, 19 gains -/
abbrev f_law_5 : Nat := 108
/-- 109 off(row, line, pool) | 0 row, 1 line, 2 pool, 3 at, 4 one -/
abbrev f_off : Nat := 109
def d_off : FD := ⟨3, 5, [.retE (.comp (.call 47 [(.var 4), (.call 48 [(.o2 .idx (.var 0) (.var 2)), (.o2 .idx (.var 1) (.var 3))])]) (.tup [(.slot 3), (.slot 4)]) .enum (.var 0) .non (.bl true) [3, 4])]⟩
/-- 110 kept_by(many, vectors) | 0 many, 1 vectors, 2 rows, 3 one, 4 vector, 5 lines, 6 leads, 7 found, 8 pool, 9 some, 10 row, 11 line, 12 free, 13 weights, 14 lead -/
abbrev f_kept_by : Nat := 110
def d_kept_by : FD := ⟨2, 15, [.asg (.slot 2) (.comp (.comp (.tup [(.var 3), (.int 1)]) (.slot 3) .val (.var 4) .non (.bl true) [3]) (.slot 4) .val (.var 1) .non (.bl true) [4]),
    .par [(false, 5), (true, 6), (true, 7)] [(.lst []), (.lst []), (.lst [])],
    .forS (.slot 8) .range1 (.var 0) .non [.asg (.slot 9) (.comp (.var 10) (.slot 10) .val (.var 2) .non (.o2 .ne (.o2 .idx (.o2 .idx (.var 10) (.var 8)) (.int 0)) (.int 0)) [10]), .ifS (.o2 .ne (.var 9) (.lst [])) [.asg (.slot 11) (.comp (.call 49 [(.var 3), (.o2 .idx (.o2 .idx (.var 9) (.int 0)) (.var 8))]) (.slot 3) .val (.o2 .idx (.var 9) (.int 0)) .non (.bl true) [3]), .asg (.slot 2) (.comp (.call 109 [(.var 10), (.var 11), (.var 8)]) (.slot 10) .val (.var 2) .non (.o2 .ne (.var 10) (.o2 .idx (.var 9) (.int 0))) [10]), .asg (.slot 5) (.o2 .add (.comp (.call 109 [(.var 10), (.var 11), (.var 8)]) (.slot 10) .val (.var 5) .non (.bl true) [10]) (.lst [(.var 11)])), .app 6 (.var 8)] []],
    .forS (.slot 12) .val (.comp (.var 8) (.slot 8) .range1 (.var 0) .non (.o2 .notIn (.var 8) (.var 6)) [8]) .non [.own 13 (.comp (.tup [(.o1 .toInt (.o2 .eq (.var 8) (.var 12))), (.int 1)]) (.slot 8) .range1 (.var 0) .non (.bl true) [8]), .frz 6, .forS (.tup [(.slot 10), (.slot 14)]) .zip (.var 5) (.var 6) [.seti 13 (.var 14) (.call 47 [(.tup [(.int 0), (.int 1)]), (.o2 .idx (.var 10) (.var 12))])], .frz 13, .app 7 (.o1 .tupleOf (.call 51 [(.var 13)]))],
    .retE (.o1 .tupleOf (.var 7))]⟩
/-- 111 kept_sums(net) | 0 net -/
abbrev f_kept_sums : Nat := 111
def d_kept_sums : FD := ⟨1, 1, [.expr (.call 4 [(.var 0)]),
    .retE (.call 110 [(.o2 .idx (.var 0) (.int 0)), (.call 66 [(.var 0), (.o1 .listRange (.o1 .len (.o2 .idx (.var 0) (.int 1))))])])]⟩
/-- 112 kept_at_places(net) | 0 net, 1 vectors, 2 rule -/
abbrev f_kept_at_places : Nat := 112
def d_kept_at_places : FD := ⟨1, 3, [.expr (.call 4 [(.var 0)]),
    .asg (.slot 1) (.lst []),
    .forS (.slot 2) .val (.call 57 [(.var 0)]) .non [.asg (.slot 1) (.o2 .add (.var 1) (.var 2))],
    .retE (.call 110 [(.o2 .idx (.var 0) (.int 0)), (.var 1)])]⟩
/-- 113 can_fill(net, pools) | 0 net, 1 pools, 2 one, 3 found, 4 moving, 5 rule, 6 need, 7 give, 8 takes, 9 puts, 10 pool, 11 fresh -/
abbrev f_can_fill : Nat := 113
def d_can_fill : FD := ⟨2, 12, [.expr (.call 4 [(.var 0)]),
    .ifS (.or (.o1 .notB (.o1 .isTup (.var 1))) (.o2 .ne (.comp (.var 2) (.slot 2) .val (.var 1) .non (.o1 .notB (.call 0 [(.var 2), (.int 0), (.o2 .sub (.o2 .idx (.var 0) (.int 0)) (.int 1))])) [2]) (.lst []))) [.raise 9 []] [],
    .ifS (.o2 .ne (.o1 .listOf (.var 1)) (.o1 .sortedSet (.var 1))) [.raise 9 []] [],
    .par [(false, 3), (false, 4)] [(.o1 .listOf (.var 1)), (.bl true)],
    .whileS (.var 4) [.asg (.slot 4) (.bl false), .forS (.slot 5) .val (.o2 .idx (.var 0) (.int 1)) .non [.par [(false, 6), (false, 7)] [(.lst []), (.lst [])], .forS (.tup [(.slot 8), (.slot 9)]) .val (.var 5) .non [.asg (.slot 6) (.o2 .add (.var 6) (.comp (.var 10) (.tup [(.slot 10), (.slot 2)]) .enum (.var 8) .non (.o2 .gt (.var 2) (.int 0)) [10, 2])), .asg (.slot 7) (.o2 .add (.var 7) (.comp (.var 10) (.tup [(.slot 10), (.slot 2)]) .enum (.var 9) .non (.o2 .gt (.var 2) (.int 0)) [10, 2]))], .asg (.slot 11) (.comp (.var 10) (.slot 10) .val (.var 7) .non (.o2 .notIn (.var 10) (.var 3)) [10]), .ifS (.and (.o2 .eq (.comp (.var 10) (.slot 10) .val (.var 6) .non (.o2 .notIn (.var 10) (.var 3)) [10]) (.lst [])) (.o2 .ne (.var 11) (.lst []))) [.par [(false, 3), (false, 4)] [(.o1 .sortedSet (.o2 .add (.var 3) (.var 11))), (.bl true)]] []]],
    .retE (.o1 .tupleOf (.var 3))]⟩
/-- 114 law_gcd(one, other) | 0 one, 1 other -/
abbrev f_law_gcd : Nat := 114
/-- 115 law_rank(rows) | 0 rows, 1 found, 2 row, 3 some, 4 one, 5 k -/
abbrev f_law_rank : Nat := 115
/-- 116 law_6(script, row) | 0 script, 1 row, 2 net, 3 many, 4 even, 5 single, 6 rule, 7 drops_v, 8 pool, 9 takes, 10 puts, 11 line, 12 told, 13 vectors, 14 last, 15 weights, 16 free, 17 common, 18 one, 19 pools, 20 known, 21 turn, 22 need -/
abbrev f_law_6 : Nat := 116
/-- 117 law_7(script, row) | 0 script, 1 row, 2 on, 3 grow, 4 turn, 5 found, 6 due, 7 spread, 8 back, 9 pair -/
abbrev f_law_7 : Nat := 117
def d_law_7 : FD := ⟨2, 10, [.par [(false, 2), (false, 3), (false, 4)] [(.call 40 [(.str (Str.ofString "1: 1>0|0>1"))]), (.call 40 [(.str (Str.ofString "1: 1>2"))]), (.call 40 [(.str (Str.ofString "2: 01>10 10>01"))])],
    .asg (.slot 5) (.lst [(.call 36 [(.var 2)]), (.call 11 [(.var 2), (.tup [(.tup [(.int 1)]), (.tup [(.int 0)]), (.tup [(.int 0)])])]), (.call 13 [(.var 2), (.tup [(.tup [(.int 1)]), (.tup [(.int 0)]), (.tup [(.int 0)])]), (.tup [(.int 0), (.tup [(.int 0), (.int 2)])])])]),
    .asg (.slot 5) (.o2 .add (.var 5) (.lst [(.call 14 [(.var 2), (.tup [(.tup [(.int 2)]), (.tup [(.int 0)]), (.tup [(.int 0)])]), (.tup [(.tup [(.int 0), (.tup [(.int 0), (.int 1)])]), (.tup [(.int 0), (.tup [(.int 1), (.int 2)])])])]), (.call 28 [(.var 2), (.tup [(.tup [(.int 2)]), (.tup [(.int 0)]), (.tup [(.int 0)])])])])),
    .asg (.slot 6) (.lst [(.str (Str.ofString "1: 1>0|0>1")), (.tup [(.tup [(.int 0), (.tup [(.int 0), (.int 1)])]), (.tup [(.int 0), (.tup [(.int 0), (.int 2)])])]), (.tup [(.tup [(.int 0)]), (.tup [(.int 0)]), (.tup [(.int 1)])]), (.tup [(.tup [(.int 1)]), (.tup [(.int 0)]), (.tup [(.int 1)])]), (.int 4)]),
    .ifS (.or (.o1 .notB (.call 23 [(.var 5), (.var 6)])) (.o2 .ne (.call 25 [(.var 2), (.tup [(.tup [(.int 1)]), (.tup [(.int 0)])])]) (.lst [(.tup [(.tup [(.int 0)]), (.tup [(.int 1)])]), (.tup [(.tup [(.int 1)]), (.tup [(.int 0)])])]))) [.retE (.bl false)] [],
    .ifS (.o2 .isNot (.call 27 [(.var 4), (.tup [(.tup [(.int 1), (.int 0)])])]) (.bl true)) [.retE (.bl false)] [],
    .asg (.slot 5) (.lst [(.call 71 [(.var 2)]), (.call 72 [(.var 2)]), (.call 77 [(.var 2), (.tup [(.tup [(.str (Str.ofString "early")), (.tup [(.int 1)])])])]), (.call 77 [(.var 2), (.tup [(.tup [(.str (Str.ofString "late")), (.tup [(.int 1)])])])])]),
    .asg (.slot 5) (.o2 .add (.var 5) (.lst [(.call 77 [(.var 2), (.tup [(.tup [(.str (Str.ofString "even")), (.tup [(.int 1)])])])]), (.call 78 [(.var 2), (.tup [(.tup [(.str (Str.ofString "even")), (.tup [(.int 1)])])])]), (.call 80 [(.var 2)])])),
    .asg (.slot 5) (.o2 .add (.var 5) (.lst [(.call 81 [(.var 2)])])),
    .ifS (.o1 .notB (.call 23 [(.var 5), (.lst [(.bl true), (.bl true), (.bl true), (.bl false), (.bl false), (.bl true), .non, .non])])) [.retE (.bl false)] [],
    .asg (.slot 7) (.tup [(.tup [(.int 1)])]),
    .asg (.slot 5) (.lst [(.call 71 [(.var 3)]), (.call 72 [(.var 3)]), (.call 73 [(.var 3)]), (.call 74 [(.var 3)])]),
    .asg (.slot 5) (.o2 .add (.var 5) (.lst [(.call 87 [(.var 3), (.tup [(.tup [(.int 1)]), (.tup [(.var 7)]), (.tup [(.var 7)])])])])),
    .asg (.slot 5) (.o2 .add (.var 5) (.lst [(.call 88 [(.var 3), (.tup [(.tup [(.int 1)]), (.tup [(.var 7)]), (.tup [(.var 7)])])]), (.call 87 [(.var 3), (.call 80 [(.var 3)])])])),
    .ifS (.o1 .notB (.call 23 [(.var 5), (.lst [(.bl false), (.bl false), .non, .non, (.bl true), (.bl true), (.bl true)])])) [.retE (.bl false)] [],
    .asg (.slot 7) (.tup [(.tup [(.int 1)]), (.tup [(.int 1)])]),
    .asg (.slot 5) (.lst [(.call 71 [(.var 4)]), (.call 72 [(.var 4)]), (.call 87 [(.var 4), (.tup [(.tup [(.int 1), (.int 1)]), (.tup [(.var 7)]), (.tup [(.var 7)])])]), (.call 81 [(.var 4)])]),
    .asg (.slot 5) (.o2 .add (.var 5) (.lst [(.call 78 [(.var 4), (.tup [(.tup [(.str (Str.ofString "even")), (.tup [(.int 1), (.int 1)])])])]), (.call 78 [(.var 4), (.tup [(.tup [(.str (Str.ofString "late")), (.tup [(.int 1), (.int 0)])])])])])),
    .ifS (.o1 .notB (.call 23 [(.var 5), (.lst [(.bl false), (.bl true), (.bl true), .non, (.bl true), (.bl false)])])) [.retE (.bl false)] [],
    .asg (.slot 8) (.call 40 [(.str (Str.ofString "1: 0>2|1>0"))]),
    .asg (.slot 5) (.lst [(.call 71 [(.var 8)]), (.call 72 [(.var 8)]), (.call 77 [(.var 8), (.tup [(.tup [(.str (Str.ofString "late")), (.tup [(.int 1)])])])]), (.call 71 [(.call 32 [(.var 8)])])]),
    .asg (.slot 5) (.o2 .add (.var 5) (.lst [(.call 71 [(.call 34 [(.var 8), (.call 32 [(.var 8)])])]), (.call 33 [(.var 8)]), (.call 72 [(.call 33 [(.var 8)])])])),
    .ifS (.o1 .notB (.call 23 [(.var 5), (.lst [(.bl true), (.bl true), (.bl true), (.bl true), (.bl false), (.call 40 [(.str (Str.ofString "1: 2>0|0>1"))]), (.bl true)])])) [.retE (.bl false)] [],
    .asg (.slot 9) (.call 40 [(.str (Str.ofString "3: 110>001 200>010|000>001"))]),
    .asg (.slot 5) (.lst [(.call 111 [(.var 9)]), (.call 112 [(.var 9)]), (.call 113 [(.var 9), (.tup [(.int 0)])]), (.call 113 [(.var 9), (.tup [(.int 1)])])]),
    .asg (.slot 5) (.o2 .add (.var 5) (.lst [(.call 113 [(.var 9), (.tup [])]), (.call 31 [(.call 40 [(.str (Str.ofString "2: 10>01"))]), (.o1 .dispN (.tup [(.int 1), (.int 0)]))]), (.call 111 [(.call 40 [(.str (Str.ofString "1:"))])])])),
    .asg (.slot 6) (.lst [(.tup [(.tup [(.int 2), (.int 1), (.int 3)])]), (.tup []), (.tup [(.int 0), (.int 1), (.int 2)]), (.tup [(.int 1)]), (.tup []), (.call 40 [(.str (Str.ofString "2: 01>10"))]), (.tup [(.tup [(.int 1)])])]),
    .retE (.call 23 [(.var 5), (.var 6)])]⟩
/-- 118 law_8(script, row) | 0 script, 1 row, 2 net, 3 many, 4 order, 5 other, 6 flip, 7 back, 8 pool, 9 filling, 10 named, 11 place, 12 pools, 13 words, 14 levels, 15 judge, 16 one, 17 word, 18 weights, 19 spots_v, 20 rule, 21 paper, 22 lines, 23 k, 24 spread, 25 line -/
abbrev f_law_8 : Nat := 118
/-- 119 law_9(script, row) | 0 script, 1 row, 2 net, 3 other, 4 both, 5 more, 6 wide, 7 takes, 8 puts, 9 rule, 10 filling, 11 pools, 12 pool, 13 down, 14 kept, 15 round_one, 16 told, 17 used, 18 k -/
abbrev f_law_9 : Nat := 119
/-- 120 law_10(script, row) | 0 script, 1 row, 2 net, 3 levels, 4 least, 5 scale, 6 weights, 7 word, 8 some, 9 pool, 10 most, 11 one, 12 rule, 13 lot, 14 up -/
abbrev f_law_10 : Nat := 120
/-- 121 law_11(script, row) | 0 script, 1 row, 2 many, 3 rules, 4 units_v, 5 pool, 6 one, 7 turn, 8 places, 9 spot, 10 net, 11 word, 12 k -/
abbrev f_law_11 : Nat := 121
/-- 122 law_12(script, row) | 0 script, 1 row, 2 net, 3 text, 4 other, 5 one, 6 rule -/
abbrev f_law_12 : Nat := 122
/-- 123 part_sums(word, line) | 0 word, 1 line, 2 at -/
abbrev f_part_sums : Nat := 123
/-- 124 late_vectors(net, rules) | 0 net, 1 rules, 2 counts, 3 found, 4 names, 5 rule, 6 at, 7 line, 8 pool -/
abbrev f_late_vectors : Nat := 124
/-- 125 left_mild(net, word, weights, rules, pools) | 0 net, 1 word, 2 weights, 3 rules, 4 pools, 5 told, 6 less, 7 rule, 8 one, 9 pool -/
abbrev f_left_mild : Nat := 125
/-- 126 settled_by(net, word, rules, pools) | 0 net, 1 word, 2 rules, 3 pools, 4 some, 5 weights -/
abbrev f_settled_by : Nat := 126
/-- 127 evened(net, rules, pools) | 0 net, 1 rules, 2 pools, 3 found, 4 one, 5 less, 6 fewer -/
abbrev f_evened : Nat := 127
/-- 128 lot_of(net, rules, pools) | 0 net, 1 rules, 2 pools, 3 lot, 4 at, 5 multiples, 6 against, 7 spot, 8 rule -/
abbrev f_lot_of : Nat := 128
/-- 129 rise_of(net, rules, pools) | 0 net, 1 rules, 2 pools, 3 vectors, 4 names, 5 sums, 6 at, 7 multiples, 8 against, 9 spot, 10 name, 11 flat, 12 rows, 13 rule, 14 places, 15 total -/
abbrev f_rise_of : Nat := 129
/-- 130 stages(net) | 0 net, 1 levels, 2 rules, 3 pools, 4 ladder, 5 found, 6 one, 7 less, 8 same, 9 more -/
abbrev f_stages : Nat := 130
/-- 131 stage_of(net, part) | 0 net, 1 part, 2 rows, 3 slopes, 4 row -/
abbrev f_stage_of : Nat := 131
/-- 132 degree_of(net, part) | 0 net, 1 part, 2 slopes -/
abbrev f_degree_of : Nat := 132
/-- 133 run_degree(net) | 0 net -/
abbrev f_run_degree : Nat := 133
/-- 134 token_degree(net) | 0 net -/
abbrev f_token_degree : Nat := 134
/-- 135 levels_of(net, part) | 0 net, 1 part, 2 slopes, 3 rows -/
abbrev f_levels_of : Nat := 135
/-- 136 run_levels(net) | 0 net -/
abbrev f_run_levels : Nat := 136
/-- 137 token_levels(net) | 0 net -/
abbrev f_token_levels : Nat := 137
/-- 138 ladder_of(net, part) | 0 net, 1 part, 2 slopes, 3 rows -/
abbrev f_ladder_of : Nat := 138
/-- 139 run_ladder(net) | 0 net -/
abbrev f_run_ladder : Nat := 139
/-- 140 token_ladder(net) | 0 net -/
abbrev f_token_ladder : Nat := 140
/-- 141 left_by_2(net, value) | 0 net, 1 value, 2 rules, 3 pools, 4 slopes, 5 one, 6 pool, 7 told, 8 rule -/
abbrev f_left_by_2 : Nat := 141
/-- 142 shows_levels(net, value, part) | 0 net, 1 value, 2 part, 3 slopes, 4 told -/
abbrev f_shows_levels : Nat := 142
/-- 143 shows_run_levels(net, value) | 0 net, 1 value -/
abbrev f_shows_run_levels : Nat := 143
/-- 144 shows_token_levels(net, value) | 0 net, 1 value -/
abbrev f_shows_token_levels : Nat := 144
/-- 145 lot_next(net, value, rules, pools) | 0 net, 1 value, 2 rules, 3 pools, 4 here, 5 rule, 6 one, 7 more, 8 gains, 9 pool -/
abbrev f_lot_next : Nat := 145
/-- 146 rise_next(net, value, rules, pools) | 0 net, 1 value, 2 rules, 3 pools, 4 more, 5 pool, 6 one, 7 found, 8 rule, 9 line, 10 at -/
abbrev f_rise_next : Nat := 146
/-- 147 shows_ladder(net, value, part) | 0 net, 1 value, 2 part, 3 slopes, 4 rules, 5 pools, 6 at, 7 one, 8 told -/
abbrev f_shows_ladder : Nat := 147
/-- 148 shows_run_ladder(net, value) | 0 net, 1 value -/
abbrev f_shows_run_ladder : Nat := 148
/-- 149 shows_token_ladder(net, value) | 0 net, 1 value -/
abbrev f_shows_token_ladder : Nat := 149
/-- 150 law_steep(row, net) | 0 row, 1 net, 2 some, 3 three, 4 many, 5 rules, 6 order, 7 turn, 8 found, 9 rule, 10 one, 11 k, 12 takes, 13 puts -/
abbrev f_law_steep : Nat := 150
/-- 151 law_parts(word, line) | 0 word, 1 line, 2 k -/
abbrev f_law_parts : Nat := 151
/-- 152 law_mild_left(net, value) | 0 net, 1 value, 2 rules, 3 pools, 4 slopes, 5 one, 6 told, 7 rule, 8 sums, 9 pool, 10 k -/
abbrev f_law_mild_left : Nat := 152
/-- 153 law_ladder(net, value) | 0 net, 1 value, 2 rules, 3 pools, 4 k, 5 one, 6 up, 7 rule, 8 pool -/
abbrev f_law_ladder : Nat := 153
/-- 154 law_13(script, row) | 0 script, 1 row, 2 net, 3 runs, 4 tokens, 5 told, 6 part, 7 slopes, 8 left, 9 ladder -/
abbrev f_law_13 : Nat := 154
/-- 155 law_mild_weighing(net, levels, many) | 0 net, 1 levels, 2 many, 3 most, 4 scale, 5 word, 6 weights, 7 one, 8 found, 9 k, 10 step, 11 pool -/
abbrev f_law_mild_weighing : Nat := 155
/-- 156 law_14(script, row) | 0 script, 1 row, 2 net, 3 many, 4 filling, 5 told, 6 levels, 7 strict, 8 weights, 9 line, 10 deed, 11 fall, 12 place, 13 there -/
abbrev f_law_14 : Nat := 156
/-- 157 law_15(script, row) | 0 script, 1 row, 2 net, 3 many, 4 degrees, 5 slopes, 6 one, 7 other, 8 line, 9 values, 10 k, 11 word, 12 x, 13 value, 14 turn, 15 left, 16 good, 17 flat, 18 lot, 19 rule, 20 base, 21 near, 22 numbers, 23 some, 24 told -/
abbrev f_law_15 : Nat := 157
/-- 158 law_16(script, row) | 0 script, 1 row, 2 net, 3 other, 4 order, 5 both, 6 told, 7 one, 8 degree, 9 some, 10 texts, 11 text -/
abbrev f_law_16 : Nat := 158
def table : Nat → Option FD
  | 0 => some d_is_in
  | 1 => some d_are_counts
  | 2 => some d_is_place
  | 3 => some d_is_rule
  | 4 => some d_need_net
  | 5 => some d_need_row
  | 6 => some d_need_both
  | 7 => some d_spots
  | 8 => some d_can_do
  | 9 => some d_changed
  | 10 => some d_deeds_in
  | 11 => some d_deeds
  | 12 => some d_is_deed
  | 13 => some d_done
  | 14 => some d_after
  | 23 => some d_law_alike
  | 24 => some d_come_in
  | 25 => some d_all_come
  | 26 => some d_order_in
  | 27 => some d_goes_on
  | 28 => some d_longest
  | 31 => some d_renamed
  | 32 => some d_mirrored
  | 33 => some d_turned
  | 34 => some d_joined
  | 35 => some d_side_text
  | 36 => some d_write_net
  | 37 => some d_skip
  | 38 => some d_digit
  | 39 => some d_rule_at
  | 40 => some d_read_net
  | 44 => some d_gcd
  | 45 => some d_reduced
  | 46 => some d_plus
  | 47 => some d_minus
  | 48 => some d_times
  | 49 => some d_over
  | 50 => some d_less
  | 51 => some d_whole
  | 52 => some d_first_tableau
  | 53 => some d_taken_off
  | 54 => some d_turned_2
  | 55 => some d_leaving
  | 56 => some d_solve
  | 57 => some d_drops
  | 58 => some d_falls
  | 59 => some d_opposites
  | 60 => some d_weights_of
  | 61 => some d_units
  | 62 => some d_place_at
  | 63 => some d_at_hand
  | 64 => some d_spread_of
  | 65 => some d_closing
  | 66 => some d_sums_of
  | 67 => some d_level
  | 68 => some d_turn_of
  | 69 => some d_left_behind
  | 70 => some d_climb
  | 71 => some d_ends
  | 72 => some d_bounded
  | 73 => some d_falling
  | 74 => some d_holding
  | 75 => some d_is_weights
  | 76 => some d_left_by
  | 77 => some d_shows_falling
  | 78 => some d_shows_holding
  | 79 => some d_knot_in
  | 80 => some d_knot
  | 81 => some d_rising
  | 82 => some d_is_numbers
  | 83 => some d_is_spread
  | 84 => some d_raised
  | 85 => some d_line_of
  | 86 => some d_gains_of
  | 87 => some d_shows_knot
  | 88 => some d_shows_rising
  | 109 => some d_off
  | 110 => some d_kept_by
  | 111 => some d_kept_sums
  | 112 => some d_kept_at_places
  | 113 => some d_can_fill
  | 117 => some d_law_7
  | _ => none
end Pu
end

section
set_option autoImplicit false
set_option linter.all false
set_option maxRecDepth 100000
set_option Elab.async false
namespace Pu.V
open PySem

inductive WhR (c : Env → M Bool) (b : Env → M Fl) : Env → List D → Fl → List D → Prop where
  | stop {ρ : Env} {R R1 : List D} (h : c ρ R = .ok false R1) : WhR c b ρ R (.nx ρ) R1
  | nx {ρ ρ' : Env} {R R1 R2 R3 : List D} {fl : Fl} (h : c ρ R = .ok true R1) (hb : b ρ R1 = .ok (.nx ρ') R2) (k : WhR c b ρ' R2 fl R3) : WhR c b ρ R fl R3
  | ct {ρ ρ' : Env} {R R1 R2 R3 : List D} {fl : Fl} (h : c ρ R = .ok true R1) (hb : b ρ R1 = .ok (.ct ρ') R2) (k : WhR c b ρ' R2 fl R3) : WhR c b ρ R fl R3
  | bk {ρ ρ' : Env} {R R1 R2 : List D} (h : c ρ R = .ok true R1) (hb : b ρ R1 = .ok (.bk ρ') R2) : WhR c b ρ R (.nx ρ') R2
  | rt {ρ : Env} {R R1 R2 : List D} {d : D} (h : c ρ R = .ok true R1) (hb : b ρ R1 = .ok (.rt d) R2) : WhR c b ρ R (.rt d) R2
theorem bnd_eq {α β : Type} {x : M α} {f : α → M β} {r r1 : List D} {a : α} (h : x r = .ok a r1) : bnd x f r = f a r1 := by
  unfold bnd; rw [h]; rfl
theorem whF_succ {c : Env → M Bool} {b : Env → M Fl} : ∀ {k : Nat} {ρ : Env} {R : List D}, (whF k c b ρ R).isStuck = false → whF (k + 1) c b ρ R = whF k c b ρ R := by
  intro k
  induction k with
  | zero => intro ρ R h; cases h
  | succ k ih =>
    intro ρ R h
    rw [whF] at h
    rw [whF]
    conv => rhs; rw [whF]
    cases hc : c ρ R with
    | stuck => unfold bnd at h; rw [hc] at h; cases h
    | exc q fs r => unfold bnd; rw [hc]; rfl
    | ok t R1 =>
      rw [bnd_eq hc, bnd_eq hc]
      rw [bnd_eq hc] at h
      cases t with
      | false => rfl
      | true =>
        rw [if_pos rfl] at h ⊢
        rw [if_pos rfl]
        cases hb : b ρ R1 with
        | stuck => unfold bnd at h; rw [hb] at h; cases h
        | exc q fs r => unfold bnd; rw [hb]; rfl
        | ok f R2 =>
          rw [bnd_eq hb, bnd_eq hb]
          rw [bnd_eq hb] at h
          cases f with
          | nx ρ' => exact ih h
          | ct ρ' => exact ih h
          | bk ρ' => rfl
          | rt d => rfl
theorem whF_le {c : Env → M Bool} {b : Env → M Fl} {k : Nat} {ρ : Env} {R : List D} (h : (whF k c b ρ R).isStuck = false) : ∀ m, whF (k + m) c b ρ R = whF k c b ρ R
  | 0 => rfl
  | m + 1 => by
    have ih := whF_le h m
    rw [← ih, ← Nat.add_assoc]
    exact whF_succ (by rw [ih]; exact h)
theorem whP_of_whF {c : Env → M Bool} {b : Env → M Fl} {k : Nat} {ρ : Env} {R : List D} (h : (whF k c b ρ R).isStuck = false) : whP c b ρ R = whF k c b ρ R := by
  unfold whP
  have ex : ∃ k, (whF k c b ρ R).isStuck = false := ⟨k, h⟩
  rw [dif_pos ex]
  have h1 := Classical.choose_spec ex
  rcases Nat.le_total k (Classical.choose ex) with hl | hl
  · obtain ⟨m, e⟩ := Nat.le.dest hl
    rw [← e]; exact whF_le h m
  · obtain ⟨m, e⟩ := Nat.le.dest hl
    conv => rhs; rw [← e]
    exact (whF_le h1 m).symm
theorem call_eq {wh : Wh} {n g : Nat} {fd : FD} {ds : List D} {R R' : List D} {d : D} (hg : table g = some fd) (hl : ds.length = fd.np) (h : exSs (callN table wh n) wh fd.body (ds.map .val ++ List.replicate (fd.ns - fd.np) .none) R = .ok (.rt d) R') : callN table wh (n + 1) g ds R = .ok d R' := by
  show (match table g with | some fd => runF (callN table wh n) wh fd ds | none => halt) R = _
  rw [hg]
  show runF _ _ _ _ _ = _
  unfold runF
  rw [if_pos hl, bnd_eq h]
  rfl
end Pu.V
end

section
set_option autoImplicit false
set_option linter.all false
set_option maxRecDepth 100000
set_option maxHeartbeats 4000000
set_option Elab.async false
namespace Pu.V
open PySem
def notVar : E → Bool
  | .var _ => false
  | _ => true
section
variable {cf : Cf} {wh : Wh} {ρ ρ' : Env} {R R1 R2 R3 R' : List D} {a b c : E} {as : List E} {x y z d : D} {ds : List D} {ss : List S} {fl : Fl}
theorem e_o1 {o : Op1} (h1 : opn a ρ (evE cf a ρ) R = .ok x R1) (h2 : op1 o x = some d) : evE cf (.o1 o a) ρ R = .ok d R1 := by
  rw [evE, bnd_eq h1]; unfold lft; simp only [h2]
theorem e_o2 {o : Op2} (h1 : opn a ρ (evE cf a ρ) R = .ok x R1) (h2 : opn b ρ (evE cf b ρ) R1 = .ok y R2) (h3 : op2 R2 o x y = some d) : evE cf (.o2 o a b) ρ R = .ok d R2 := by
  rw [evE, bnd_eq h1, bnd_eq h2]; unfold lft; simp only [h3]
theorem e_o3 {o : Op3} (h1 : opn a ρ (evE cf a ρ) R = .ok x R1) (h2 : opn b ρ (evE cf b ρ) R1 = .ok y R2) (h3 : opn c ρ (evE cf c ρ) R2 = .ok z R3) (h4 : op3 o x y z = some d) : evE cf (.o3 o a b c) ρ R = .ok d R3 := by
  rw [evE, bnd_eq h1, bnd_eq h2, bnd_eq h3]; unfold lft; simp only [h4]
/-- an operand that is no name -/
theorem e_opn (h : evE cf a ρ R = .ok x R1) (hn : notVar a = true) : opn a ρ (evE cf a ρ) R = .ok x R1 := by
  cases a <;> first | exact h | cases hn
theorem e_var {i : Nat} (h : ρ[i]? = some (.val d)) : evE cf (.var i) ρ R = .ok d R := by
  rw [evE]; unfold rdV; rw [h]; rfl
theorem e_vopn {i : Nat} {m : M D} (h : ρ[i]? = some (.val d)) : opn (.var i) ρ m R = .ok d R := by
  show rdA ρ i R = _; unfold rdA; rw [h]; rfl
theorem e_oopn {i : Nat} {m : M D} (h : ρ[i]? = some (.own (.lst ds))) : opn (.var i) ρ m R = .ok (.lst ds) R := by
  show rdA ρ i R = _; unfold rdA; rw [h]; rfl
theorem e_tup (h : evEs cf as ρ R = .ok ds R1) : evE cf (.tup as) ρ R = .ok (.tup ds) R1 := by rw [evE, bnd_eq h]; rfl
theorem e_lst (h : evEs cf as ρ R = .ok ds R1) : evE cf (.lst as) ρ R = .ok (.lst ds) R1 := by rw [evE, bnd_eq h]; rfl
theorem e_nil : evEs cf [] ρ R = .ok [] R := by rw [evEs]; rfl
theorem e_cons (h1 : evE cf a ρ R = .ok x R1) (h2 : evEs cf as ρ R1 = .ok ds R2) : evEs cf (a :: as) ρ R = .ok (x :: ds) R2 := by rw [evEs, bnd_eq h1, bnd_eq h2]; rfl
theorem e_call {g : Nat} (h1 : evEs cf as ρ R = .ok ds R1) (h2 : cf g ds R1 = .ok d R2) : evE cf (.call g as) ρ R = .ok d R2 := by rw [evE, bnd_eq h1]; exact h2
theorem e_chain {o p : Op2} {k q : Bool} (h1 : opn a ρ (evE cf a ρ) R = .ok x R) (h2 : opn b ρ (evE cf b ρ) R = .ok y R) (h3 : op2 R o x y = some (.bl k)) (h4 : opn c ρ (evE cf c ρ) R = .ok z R) (h5 : op2 R p y z = some (.bl q)) : evE cf (.chain o p a b c) ρ R = .ok (.bl (k && q)) R := by
  rw [evE, bnd_eq h1, bnd_eq h2]
  have : bnd (lft fun R => op2 R o x y) asB R = .ok k R := by
    have : (lft fun R => op2 R o x y) R = .ok (.bl k) R := by unfold lft; simp only [h3]
    rw [bnd_eq this]; rfl
  rw [bnd_eq this]
  cases k with
  | false => rfl
  | true => rw [if_pos rfl, bnd_eq h4]; unfold lft; simp only [h5]; rfl
theorem eqB_int' (i j : Int) : eqB (.int i) (.int j) = (i == j) := by simp [eqB]
theorem eqD_int (i j : Int) : eqD (.int i) (.int j) = some (i == j) := by
  unfold eqD eqOk
  simp [plain, dep, eqB_int']
theorem o_eqI {i j : Int} : op2 R .eq (.int i) (.int j) = some (.bl (i == j)) := by unfold op2; simp only [eqD_int, Option.map]
theorem o_neI {i j : Int} : op2 R .ne (.int i) (.int j) = some (.bl (!(i == j))) := by unfold op2 neD; simp only [eqD_int, Option.map]
theorem o_mul {i j : Int} (h : mulOk i j = true) : op2 R .mul (.int i) (.int j) = some (.int (i * j)) := by show (if _ then _ else _) = _; rw [if_pos h]
theorem o_div {i j : Int} (h : divOk j = true) : op2 R .fdiv (.int i) (.int j) = some (.int (i.fdiv j)) := by show (if _ then _ else _) = _; rw [if_pos h]
theorem o_mod {i j : Int} (h : j ≠ 0) : op2 R .mod (.int i) (.int j) = some (.int (i.fmod j)) := by show (if _ then _ else _) = _; rw [if_pos h]
end
theorem e_int {cf : Cf} {ρ : Env} {R : List D} {i : Int} : evE cf (.int i) ρ R = .ok (.int i) R := by rw [evE]; rfl
theorem e_bl {cf : Cf} {ρ : Env} {R : List D} {i : Bool} : evE cf (.bl i) ρ R = .ok (.bl i) R := by rw [evE]; rfl
theorem e_non {cf : Cf} {ρ : Env} {R : List D} : evE cf .non ρ R = .ok .non R := by rw [evE]; rfl
theorem e_cst {cf : Cf} {ρ : Env} {R : List D} {x : Str} {d : D} : evE cf (.cst x d) ρ R = .ok d R := by rw [evE]; rfl
end Pu.V
end

section
set_option autoImplicit false
set_option linter.all false
set_option maxRecDepth 100000
set_option maxHeartbeats 4000000
set_option Elab.async false
namespace Pu.V
open PySem
/-- where x is not stuck, y is the same -/
def Sm {α : Type} (x y : M α) : Prop := ∀ R, (x R).isStuck = false → y R = x R
theorem Sm.refl {α : Type} {x : M α} : Sm x x := fun _ _ => rfl
theorem Sm.bnd {α β : Type} {x x' : M α} {f f' : α → M β} (h : Sm x x') (k : ∀ a, Sm (f a) (f' a)) : Sm (Pu.bnd x f) (Pu.bnd x' f') := fun R hs => by
  unfold Pu.bnd at hs ⊢
  cases hx : x R with
  | stuck => rw [hx] at hs; cases hs
  | exc c fs r => rw [h R (by rw [hx]; rfl), hx]; rfl
  | ok a r =>
    rw [hx] at hs
    rw [h R (by rw [hx]; rfl), hx]
    exact k a r hs
theorem Sm.ite {α : Type} {x x' y y' : M α} {t : Bool} (h : Sm x x') (k : Sm y y') : Sm (if t = true then x else y) (if t = true then x' else y') := by
  cases t
  · exact k
  · exact h
theorem sm_cmpL {f f' : D → M (Option D)} (h : ∀ d, Sm (f d) (f' d)) : ∀ ds, Sm (cmpL f ds) (cmpL f' ds)
  | [] => Sm.refl
  | d :: ds => Sm.bnd (h d) fun o => Sm.bnd (sm_cmpL h ds) fun ys => Sm.refl
theorem sm_forL {f f' : D → Env → M Fl} (h : ∀ d ρ, Sm (f d ρ) (f' d ρ)) : ∀ ds ρ, Sm (forL f ds ρ) (forL f' ds ρ)
  | [], ρ => Sm.refl
  | d :: ds, ρ => Sm.bnd (h d ρ) fun fl => by
    cases fl with
    | nx ρ' => exact sm_forL h ds ρ'
    | ct ρ' => exact sm_forL h ds ρ'
    | bk ρ' => exact Sm.refl
    | rt d => exact Sm.refl
theorem sm_opn {a : E} {ρ : Env} {x x' : M D} (h : Sm x x') : Sm (opn a ρ x) (opn a ρ x') := by
  cases a <;> first | exact h | exact Sm.refl
section
variable {cf cf' : Cf} (hc : ∀ g ds, Sm (cf g ds) (cf' g ds))
include hc
mutual
theorem sm_evE : ∀ (e : E) (ρ : Env), Sm (evE cf e ρ) (evE cf' e ρ)
  | .var i, ρ => by simp only [evE]; exact Sm.refl
  | .non, ρ => by simp only [evE]; exact Sm.refl
  | .bl b, ρ => by simp only [evE]; exact Sm.refl
  | .int i, ρ => by simp only [evE]; exact Sm.refl
  | .str s, ρ => by simp only [evE]; exact Sm.refl
  | .cst x d, ρ => by simp only [evE]; exact Sm.refl
  | .tup es, ρ => by simp only [evE]; exact Sm.bnd (sm_evEs es ρ) fun _ => Sm.refl
  | .lst es, ρ => by simp only [evE]; exact Sm.bnd (sm_evEs es ρ) fun _ => Sm.refl
  | .o1 o a, ρ => by simp only [evE]; exact Sm.bnd (sm_opn (sm_evE a ρ)) fun _ => Sm.refl
  | .o2 o a b, ρ => by simp only [evE]; exact Sm.bnd (sm_opn (sm_evE a ρ)) fun _ => Sm.bnd (sm_opn (sm_evE b ρ)) fun _ => Sm.refl
  | .o3 o a b d, ρ => by simp only [evE]; exact Sm.bnd (sm_opn (sm_evE a ρ)) fun _ => Sm.bnd (sm_opn (sm_evE b ρ)) fun _ => Sm.bnd (sm_opn (sm_evE d ρ)) fun _ => Sm.refl
  | .chain o p a b d, ρ => by simp only [evE]; exact Sm.bnd (sm_opn (sm_evE a ρ)) fun _ => Sm.bnd (sm_opn (sm_evE b ρ)) fun _ => Sm.bnd Sm.refl fun t => Sm.ite (Sm.bnd (sm_opn (sm_evE d ρ)) fun _ => Sm.refl) Sm.refl
  | .and a b, ρ => by simp only [evE]; exact Sm.bnd (Sm.bnd (sm_evE a ρ) fun _ => Sm.refl) fun t => Sm.ite (sm_evE b ρ) Sm.refl
  | .or a b, ρ => by simp only [evE]; exact Sm.bnd (Sm.bnd (sm_evE a ρ) fun _ => Sm.refl) fun t => Sm.ite Sm.refl (sm_evE b ρ)
  | .orT a b, ρ => by simp only [evE]; exact Sm.bnd (sm_evE a ρ) fun x => Sm.bnd Sm.refl fun t => Sm.ite Sm.refl (sm_evE b ρ)
  | .ite t a b, ρ => by simp only [evE]; exact Sm.bnd (Sm.bnd (sm_evE t ρ) fun _ => Sm.refl) fun t => Sm.ite (sm_evE a ρ) (sm_evE b ρ)
  | .call g es, ρ => by simp only [evE]; exact Sm.bnd (sm_evEs es ρ) fun ds => hc g ds
  | .calle f gs es, ρ => by
    simp only [evE]
    refine Sm.bnd (sm_evE f ρ) fun x => ?_
    cases x <;> first
      | exact Sm.refl
      | exact Sm.ite (Sm.bnd (sm_evEs es ρ) fun ds => hc _ ds) Sm.refl
  | .ix2 i a b, ρ => by simp only [evE]; exact Sm.bnd (sm_evE a ρ) fun _ => Sm.bnd (sm_evE b ρ) fun _ => Sm.refl
  | .comp elt t k a b d own, ρ => by
    simp only [evE]
    refine Sm.bnd (sm_opn (sm_evE a ρ)) fun _ => Sm.bnd (sm_opn (sm_evE b ρ)) fun _ => Sm.bnd Sm.refl fun ds => Sm.ite (Sm.bnd (sm_cmpL (fun x => ?_) ds) fun _ => Sm.refl) Sm.refl
    cases setTg t x (wipeE ρ own) with
    | none => exact Sm.refl
    | some ρ' => exact Sm.bnd (Sm.bnd (sm_evE d ρ') fun _ => Sm.refl) fun keep => Sm.ite (Sm.bnd (sm_evE elt ρ') fun _ => Sm.refl) Sm.refl
  | .dnew n, ρ => by simp only [evE]; exact Sm.refl
  | .ddisp ks es, ρ => by simp only [evE]; exact Sm.bnd (sm_evEs es ρ) fun _ => Sm.refl
  | .fld i k, ρ => by simp only [evE]; exact Sm.refl
theorem sm_evEs : ∀ (es : List E) (ρ : Env), Sm (evEs cf es ρ) (evEs cf' es ρ)
  | [], ρ => by simp only [evEs]; exact Sm.refl
  | e :: es, ρ => by simp only [evEs]; exact Sm.bnd (sm_evE e ρ) fun _ => Sm.bnd (sm_evEs es ρ) fun _ => Sm.refl
end
variable {wh wh' : Wh} (hw : ∀ (c c' : Env → M Bool) (b b' : Env → M Fl), (∀ ρ, Sm (c ρ) (c' ρ)) → (∀ ρ, Sm (b ρ) (b' ρ)) → ∀ ρ, Sm (wh c b ρ) (wh' c' b' ρ))
include hw
mutual
theorem sm_exS : ∀ (s : S) (ρ : Env), Sm (exS cf wh s ρ) (exS cf' wh' s ρ)
  | .expr e, ρ => by simp only [exS]; exact Sm.bnd (sm_evE hc e ρ) fun _ => Sm.refl
  | .asg t e, ρ => by simp only [exS]; exact Sm.bnd (sm_evE hc e ρ) fun _ => Sm.refl
  | .own i e, ρ => by simp only [exS]; exact Sm.ite (Sm.bnd (sm_evE hc e ρ) fun _ => Sm.refl) Sm.refl
  | .own2 i e, ρ => by
    cases e <;> simp only [exS] <;> first
      | exact Sm.refl
      | exact Sm.bnd (sm_evE hc _ ρ) fun _ => Sm.refl
  | .seti2 i a b e, ρ => by simp only [exS]; exact Sm.bnd (sm_evE hc e ρ) fun _ => Sm.bnd (sm_evE hc a ρ) fun _ => Sm.bnd (sm_evE hc b ρ) fun _ => Sm.refl
  | .par ts es, ρ => by simp only [exS]; exact Sm.bnd (sm_evEs hc es ρ) fun _ => Sm.refl
  | .app i e, ρ => by simp only [exS]; exact Sm.bnd (sm_evE hc e ρ) fun _ => Sm.refl
  | .seti i k e, ρ => by simp only [exS]; exact Sm.bnd (sm_evE hc e ρ) fun _ => Sm.bnd (sm_evE hc k ρ) fun _ => Sm.refl
  | .aug i o e, ρ => by simp only [exS]; exact Sm.bnd Sm.refl fun _ => Sm.bnd (sm_evE hc e ρ) fun _ => Sm.refl
  | .popTo j i, ρ => by simp only [exS]; exact Sm.refl
  | .frz i, ρ => by simp only [exS]; exact Sm.refl
  | .retE e, ρ => by simp only [exS]; exact Sm.bnd (sm_evE hc e ρ) fun _ => Sm.refl
  | .ifS e a b, ρ => by simp only [exS]; exact Sm.bnd (Sm.bnd (sm_evE hc e ρ) fun _ => Sm.refl) fun t => Sm.ite (sm_exSs a ρ) (sm_exSs b ρ)
  | .whileS e b, ρ => by simp only [exS]; exact hw _ _ _ _ (fun ρ => Sm.bnd (sm_evE hc e ρ) fun _ => Sm.refl) (fun ρ => sm_exSs b ρ) ρ
  | .forS t k a b body, ρ => by
    simp only [exS]
    refine Sm.bnd (sm_evE hc a ρ) fun _ => Sm.bnd (sm_evE hc b ρ) fun _ => Sm.bnd Sm.refl fun ds => sm_forL (fun d ρ => ?_) ds ρ
    cases setTg t d ρ with
    | none => exact Sm.refl
    | some ρ' => exact sm_exSs body ρ'
  | .brk, ρ => by simp only [exS]; exact Sm.refl
  | .cont, ρ => by simp only [exS]; exact Sm.refl
  | .pass, ρ => by simp only [exS]; exact Sm.refl
  | .raise q es, ρ => by simp only [exS]; exact Sm.bnd (sm_evEs hc es ρ) fun _ => Sm.refl
  | .tryS _ _ _ _, ρ => by simp only [exS]; exact Sm.refl
theorem sm_exSs : ∀ (ss : List S) (ρ : Env), Sm (exSs cf wh ss ρ) (exSs cf' wh' ss ρ)
  | [], ρ => by simp only [exSs]; exact Sm.refl
  | s :: ss, ρ => by
    simp only [exSs]
    refine Sm.bnd (sm_exS s ρ) fun fl => ?_
    cases fl with
    | nx ρ' => exact sm_exSs ss ρ'
    | _ => exact Sm.refl
end
end
theorem sm_whF {c c' : Env → M Bool} {b b' : Env → M Fl} (h : ∀ ρ, Sm (c ρ) (c' ρ)) (k : ∀ ρ, Sm (b ρ) (b' ρ)) : ∀ (n : Nat) (ρ : Env), Sm (whF n c b ρ) (whF n c' b' ρ)
  | 0, ρ => Sm.refl
  | n + 1, ρ => Sm.bnd (h ρ) fun t => Sm.ite (Sm.bnd (k ρ) fun fl => by
    cases fl with
    | nx ρ' => exact sm_whF h k n ρ'
    | ct ρ' => exact sm_whF h k n ρ'
    | bk ρ' => exact Sm.refl
    | rt d => exact Sm.refl) Sm.refl
theorem sm_whP {n : Nat} (c c' : Env → M Bool) (b b' : Env → M Fl) (h : ∀ ρ, Sm (c ρ) (c' ρ)) (k : ∀ ρ, Sm (b ρ) (b' ρ)) (ρ : Env) : Sm (whF n c b ρ) (whP c' b' ρ) := fun R hs => by
  have e := sm_whF h k n ρ R hs
  rw [← e] at hs ⊢
  exact whP_of_whF hs
theorem sm_callN {P : Nat → Option FD} {k : Nat} : ∀ (n : Nat) (g : Nat) (ds : List D), Sm (callN P (whF k) n g ds) (callN P whP n g ds)
  | 0, g, ds => Sm.refl
  | n + 1, g, ds => by
    unfold callN
    cases P g with
    | none => exact Sm.refl
    | some fd =>
      show Sm (runF (callN P (whF k) n) (whF k) fd ds) (runF (callN P whP n) whP fd ds)
      unfold runF
      split
      · exact Sm.bnd (sm_exSs (sm_callN n) sm_whP fd.body _) fun fl => Sm.refl
      · exact Sm.refl
/-- a body told with fuel -/
theorem ex_fuel {P : Nat → Option FD} {k n : Nat} {ss : List S} {ρ : Env} {R R' : List D} {fl : Fl} (h : exSs (callN P (whF k) n) (whF k) ss ρ R = .ok fl R') : exSs (callN P whP n) whP ss ρ R = .ok fl R' := by
  rw [sm_exSs (sm_callN n) (sm_whP (n := k)) ss ρ R (by rw [h]; rfl), h]
end Pu.V
end

section
set_option autoImplicit false
set_option linter.all false
set_option maxRecDepth 1000000
set_option maxHeartbeats 4000000
set_option Elab.async false
namespace Pu.V
open PySem
def saysT (o : Out Fl) : Bool := match o with
  | .ok (.rt (.bl b)) _ => b
  | _ => false
theorem says_of {o : Out Fl} (h : saysT o = true) : ∃ R, o = .ok (.rt (.bl true)) R := by
  unfold saysT at h
  split at h
  · subst h; exact ⟨_, rfl⟩
  · cases h
theorem run9 (ns : List Int) : saysT (exSs (callN table (whF 400) 20) (whF 400) d_law_7.body (.val (.scr ns) :: .val .row :: List.replicate (d_law_7.ns - 2) .none) [.scr ns, .int 0, .int 10509, .int 0]) = true := by kernel_rfl
theorem hev9 : ∀ ns : List Int, ∃ R, exSs (callN table whP 20) whP d_law_7.body (.val (.scr ns) :: .val .row :: List.replicate (d_law_7.ns - 2) .none) [.scr ns, .int 0, .int 10509, .int 0] = .ok (.rt (.bl true)) R := fun ns => by
  obtain ⟨R, h⟩ := says_of (run9 ns)
  exact ⟨R, ex_fuel h⟩
end Pu.V
end

set_option Elab.async false
set_option linter.all false
set_option maxRecDepth 100000
set_option maxHeartbeats 4000000
namespace Pu
open PySem
theorem hev_k09 : ∀ ns : List Int, ns.length ≤ 63 → (∀ z ∈ ns, PySem.Builtin.Int.intBits z ≤ 1048576) → ∃ R, exSs (callN table whP 20) whP d_law_7.body (.val (.scr ns) :: .val .row :: List.replicate (d_law_7.ns - 2) .none) [.scr ns, .int 0, .int 10509, .int 0] = .ok (.rt (.bl true)) R := fun ns _ _ => V.hev9 ns
end Pu
namespace Pu
open PySem PySem.Spec PyProof.Rows L2
def top_k09 (i : Nat) : Stmt := PySem.Challenge.pw_poolrows_k09_known_nets.main.body.getD i (.Pass ⟨0, 0, 0, 0⟩)
def tops_k09 : List DTop := [
  ⟨"is_in", 0, 1, ["value", "least", "most"], ["value", "least", "most"], "is_in"⟩,
  ⟨"gcd", 44, 2, ["one", "other"], ["one", "other"], "gcd"⟩,
  ⟨"reduced", 45, 3, ["numerator", "denominator", "common"], ["numerator", "denominator"], "reduced"⟩,
  ⟨"plus", 46, 4, ["one", "other"], ["one", "other"], "plus"⟩,
  ⟨"minus", 47, 5, ["one", "other"], ["one", "other"], "minus"⟩,
  ⟨"times", 48, 6, ["one", "other"], ["one", "other"], "times"⟩,
  ⟨"over", 49, 7, ["one", "other"], ["one", "other"], "over"⟩,
  ⟨"less", 50, 8, ["one", "other"], ["one", "other"], "less"⟩,
  ⟨"whole", 51, 9, ["ratios", "below", "common", "one", "found"], ["ratios"], "whole"⟩,
  ⟨"first_tableau", 52, 11, ["columns", "goal", "height", "rows", "at", "turn", "signs", "k", "one", "costs", "row", "cost"], ["columns", "goal"], "first_tableau"⟩,
  ⟨"taken_off", 53, 12, ["row", "other", "factor", "at", "one"], ["row", "other", "factor"], "taken_off"⟩,
  ⟨"turned_linear", 54, 13, ["rows", "costs", "basis", "row", "column", "pivot", "line", "one", "at"], ["rows", "costs", "basis", "row", "column"], "turned"⟩,
  ⟨"leaving", 55, 15, ["rows", "basis", "column", "best", "at", "row", "share"], ["rows", "basis", "column"], "leaving"⟩,
  ⟨"solve", 56, 16, ["columns", "goal", "rows", "costs", "basis", "some", "at", "found", "column", "told", "one"], ["columns", "goal"], "solve"⟩,
  ⟨"are_counts", 1, 34, ["value", "many", "most", "one"], ["value", "many", "most"], "are_counts"⟩,
  ⟨"is_place", 2, 35, ["value", "many"], ["value", "many"], "is_place"⟩,
  ⟨"is_rule", 3, 36, ["value", "many", "one"], ["value", "many"], "is_rule"⟩,
  ⟨"need_net", 4, 37, ["net", "index", "one"], ["net"], "need_net"⟩,
  ⟨"drops", 57, 38, ["net", "one", "other", "takes", "puts", "rule"], ["net"], "drops"⟩,
  ⟨"falls", 58, 39, ["net", "weights", "found", "rule", "pool", "one", "line"], ["net", "weights"], "falls"⟩,
  ⟨"renamed", 31, 40, ["net", "order", "one", "back", "pool", "rules", "rule", "side", "place"], ["net", "order"], "renamed"⟩,
  ⟨"mirrored", 32, 41, ["net", "rule"], ["net"], "mirrored"⟩,
  ⟨"turned_nets", 33, 42, ["net", "place", "rule"], ["net"], "turned"⟩,
  ⟨"joined", 34, 44, ["net", "other", "many", "rules", "one", "more", "rule", "side", "place"], ["net", "other"], "joined"⟩,
  ⟨"opposites", 59, 47, ["some", "one", "vector"], ["some"], "opposites"⟩,
  ⟨"weights_of", 60, 48, ["many", "told", "found", "multiples", "against", "at", "one"], ["many", "told"], "weights_of"⟩,
  ⟨"units", 61, 49, ["net", "pools", "pool", "one"], ["net", "pools"], "units"⟩,
  ⟨"place_at", 62, 50, ["net", "rule", "depth", "word"], ["net", "rule", "depth", "word"], "place_at"⟩,
  ⟨"at_hand", 63, 51, ["net", "rules", "closed", "found", "rule", "depth"], ["net", "rules", "closed"], "at_hand"⟩,
  ⟨"spread_of", 64, 52, ["net", "places", "told", "word", "found", "rule", "at", "depth", "spot", "one", "deep", "more", "flat", "rows", "line"], ["net", "places", "told", "word"], "spread_of"⟩,
  ⟨"closing", 65, 53, ["net", "rules", "pools", "word", "counts", "closed", "spreads", "places", "vectors", "rule", "depth", "told", "more", "at", "one"], ["net", "rules", "pools", "word"], "closing"⟩,
  ⟨"sums_of", 66, 54, ["net", "rules", "counts", "found", "rule", "line", "pool"], ["net", "rules"], "sums_of"⟩,
  ⟨"level", 67, 55, ["net", "word", "rules", "pools"], ["net", "word", "rules", "pools"], "level"⟩,
  ⟨"turn_of", 68, 56, ["word", "line", "some", "one"], ["word", "line"], "turn_of"⟩,
  ⟨"left_behind", 69, 57, ["net", "word", "weights", "rules", "pools", "told", "rule", "pool"], ["net", "word", "weights", "rules", "pools"], "left_behind"⟩,
  ⟨"climb", 70, 58, ["net", "rules", "pools", "found", "best", "word", "weights", "less"], ["net"], "climb"⟩,
  ⟨"ends", 71, 59, ["net"], ["net"], "ends"⟩,
  ⟨"bounded", 72, 60, ["net"], ["net"], "bounded"⟩,
  ⟨"falling", 73, 61, ["net", "found", "rules", "pools"], ["net"], "falling"⟩,
  ⟨"holding", 74, 62, ["net", "found", "rules", "pools"], ["net"], "holding"⟩,
  ⟨"is_weights", 75, 63, ["net", "value", "one"], ["net", "value"], "is_weights"⟩,
  ⟨"left_by", 76, 64, ["net", "value", "rules", "pools", "one", "pool", "told", "rule"], ["net", "value"], "left_by"⟩,
  ⟨"shows_falling", 77, 65, ["net", "value", "left"], ["net", "value"], "shows_falling"⟩,
  ⟨"shows_holding", 78, 66, ["net", "value", "left"], ["net", "value"], "shows_holding"⟩,
  ⟨"knot_in", 79, 68, ["net", "rules", "pools", "lot", "at", "multiples", "against", "spot", "rule", "firsts", "lasts"], ["net", "rules", "pools"], "knot_in"⟩,
  ⟨"knot", 80, 69, ["net", "found", "rules", "pools"], ["net"], "knot"⟩,
  ⟨"rising", 81, 70, ["net", "found", "rules", "pools"], ["net"], "rising"⟩,
  ⟨"is_numbers", 82, 71, ["value", "many", "one"], ["value", "many"], "is_numbers"⟩,
  ⟨"is_spread", 83, 72, ["net", "value", "at", "one"], ["net", "value"], "is_spread"⟩,
  ⟨"raised", 84, 73, ["net", "spread", "counts", "found", "pool", "total", "rule", "line", "spot", "times"], ["net", "spread"], "raised"⟩,
  ⟨"line_of", 85, 74, ["net", "value", "word", "reached", "pools", "spread", "here", "rule", "line", "depth", "one", "pool", "more"], ["net", "value", "word"], "line_of"⟩,
  ⟨"gains_of", 86, 75, ["net", "value", "more", "rule", "one", "gains", "pool", "due", "at", "depth", "line", "word", "told"], ["net", "value"], "gains_of"⟩,
  ⟨"shows_knot", 87, 76, ["net", "value"], ["net", "value"], "shows_knot"⟩,
  ⟨"shows_rising", 88, 77, ["net", "value", "gains"], ["net", "value"], "shows_rising"⟩,
  ⟨"side_text", 35, 79, ["side", "one"], ["side"], "side_text"⟩,
  ⟨"write_net", 36, 80, ["net", "found", "rule", "takes", "puts"], ["net"], "write_net"⟩,
  ⟨"skip", 37, 81, ["text", "at"], ["text", "at"], "skip"⟩,
  ⟨"digit", 38, 82, ["text", "at", "least", "most", "sign"], ["text", "at", "least", "most"], "digit"⟩,
  ⟨"rule_at", 39, 83, ["text", "at", "many", "places", "going", "takes", "k", "puts"], ["text", "at", "many"], "rule_at"⟩,
  ⟨"read_net", 40, 84, ["text", "at", "many", "rules", "rule", "behind", "one"], ["text"], "read_net"⟩,
  ⟨"need_row", 5, 90, ["net", "row", "index", "one"], ["net", "row"], "need_row"⟩,
  ⟨"need_both", 6, 91, ["net", "row"], ["net", "row"], "need_both"⟩,
  ⟨"spots", 7, 92, ["many", "long", "found", "turn", "more", "line", "first", "at"], ["many", "long"], "spots"⟩,
  ⟨"can_do", 8, 93, ["net", "row", "deed", "at", "takes", "puts", "pool", "one"], ["net", "row", "deed"], "can_do"⟩,
  ⟨"changed", 9, 94, ["net", "row", "deed", "found", "at", "takes", "puts", "pool", "one"], ["net", "row", "deed"], "changed"⟩,
  ⟨"deeds_in", 10, 95, ["net", "row", "found", "rule", "line"], ["net", "row"], "deeds_in"⟩,
  ⟨"deeds", 11, 96, ["net", "row"], ["net", "row"], "deeds"⟩,
  ⟨"is_deed", 12, 97, ["net", "row", "value", "one"], ["net", "row", "value"], "is_deed"⟩,
  ⟨"done", 13, 98, ["net", "row", "deed"], ["net", "row", "deed"], "done"⟩,
  ⟨"after", 14, 99, ["net", "row", "run", "one", "found", "index", "deed"], ["net", "row", "run"], "after"⟩,
  ⟨"come_in", 24, 100, ["net", "row", "found", "rows", "here", "deed"], ["net", "row"], "come_in"⟩,
  ⟨"all_come", 25, 101, ["net", "row"], ["net", "row"], "all_come"⟩,
  ⟨"order_in", 26, 102, ["told", "found", "left", "ends", "here", "there"], ["told"], "order_in"⟩,
  ⟨"goes_on", 27, 103, ["net", "row"], ["net", "row"], "goes_on"⟩,
  ⟨"longest", 28, 104, ["net", "row", "told", "order", "found", "here", "there"], ["net", "row"], "longest"⟩,
  ⟨"off", 109, 106, ["row", "line", "pool", "at", "one"], ["row", "line", "pool"], "off"⟩,
  ⟨"kept_by", 110, 107, ["many", "vectors", "rows", "one", "vector", "lines", "leads", "found", "pool", "some", "row", "line", "free", "weights", "lead"], ["many", "vectors"], "kept_by"⟩,
  ⟨"kept_sums", 111, 108, ["net"], ["net"], "kept_sums"⟩,
  ⟨"kept_at_places", 112, 109, ["net", "vectors", "rule"], ["net"], "kept_at_places"⟩,
  ⟨"can_fill", 113, 110, ["net", "pools", "one", "found", "moving", "rule", "need", "give", "takes", "puts", "pool", "fresh"], ["net", "pools"], "can_fill"⟩,
  ⟨"_law_alike", 23, 112, ["found", "due", "k"], ["found", "due"], "_law_alike"⟩]
def cs_k09 : List (Str × D) := [("MOST_FILLED", .int (99)), ("MOST_LONG", .int (3)), ("MOST_PLACES", .int (6)), ("MOST_POOLS", .int (4)), ("MOST_RULES", .int (8)), ("MOST_RUN", .int (200)), ("MOST_TOKENS", .int (9)), ("MOST_WALKED", .int (1500)), ("WORDS", .tup [.str "early", .str "even", .str "late"])]
set_option maxRecDepth 1000000 in
theorem chk_k09 : tops_k09.all (chkTop table top_k09 tops_k09 cs_k09) = true := by decide +kernel
theorem nd_k09 : (tops_k09.map (·.g)).Nodup := by decide +kernel
section
variable {K : PySem.W.Frag} {mg : Str → Option Value} {h : Heap}
theorem bn_k09_0 {f : Addr} {fd : FuncData} (F : Fun K "is_in" "is_in" (top_k09 1) f fd) : Binds K fd ["value", "least", "most"] [] := F.binds fun _ _ _ _ _ _ us hl => match us, hl with | [_, _, _], _ => rfl
theorem bn_k09_1 {f : Addr} {fd : FuncData} (F : Fun K "gcd" "gcd" (top_k09 2) f fd) : Binds K fd ["one", "other"] [] := F.binds fun _ _ _ _ _ _ us hl => match us, hl with | [_, _], _ => rfl
theorem bn_k09_2 {f : Addr} {fd : FuncData} (F : Fun K "reduced" "reduced" (top_k09 3) f fd) : Binds K fd ["numerator", "denominator"] [] := F.binds fun _ _ _ _ _ _ us hl => match us, hl with | [_, _], _ => rfl
theorem bn_k09_3 {f : Addr} {fd : FuncData} (F : Fun K "plus" "plus" (top_k09 4) f fd) : Binds K fd ["one", "other"] [] := F.binds fun _ _ _ _ _ _ us hl => match us, hl with | [_, _], _ => rfl
theorem bn_k09_4 {f : Addr} {fd : FuncData} (F : Fun K "minus" "minus" (top_k09 5) f fd) : Binds K fd ["one", "other"] [] := F.binds fun _ _ _ _ _ _ us hl => match us, hl with | [_, _], _ => rfl
theorem bn_k09_5 {f : Addr} {fd : FuncData} (F : Fun K "times" "times" (top_k09 6) f fd) : Binds K fd ["one", "other"] [] := F.binds fun _ _ _ _ _ _ us hl => match us, hl with | [_, _], _ => rfl
theorem bn_k09_6 {f : Addr} {fd : FuncData} (F : Fun K "over" "over" (top_k09 7) f fd) : Binds K fd ["one", "other"] [] := F.binds fun _ _ _ _ _ _ us hl => match us, hl with | [_, _], _ => rfl
theorem bn_k09_7 {f : Addr} {fd : FuncData} (F : Fun K "less" "less" (top_k09 8) f fd) : Binds K fd ["one", "other"] [] := F.binds fun _ _ _ _ _ _ us hl => match us, hl with | [_, _], _ => rfl
theorem bn_k09_8 {f : Addr} {fd : FuncData} (F : Fun K "whole" "whole" (top_k09 9) f fd) : Binds K fd ["ratios"] [] := F.binds fun _ _ _ _ _ _ us hl => match us, hl with | [_], _ => rfl
theorem bn_k09_9 {f : Addr} {fd : FuncData} (F : Fun K "first_tableau" "first_tableau" (top_k09 11) f fd) : Binds K fd ["columns", "goal"] [] := F.binds fun _ _ _ _ _ _ us hl => match us, hl with | [_, _], _ => rfl
theorem bn_k09_10 {f : Addr} {fd : FuncData} (F : Fun K "taken_off" "taken_off" (top_k09 12) f fd) : Binds K fd ["row", "other", "factor"] [] := F.binds fun _ _ _ _ _ _ us hl => match us, hl with | [_, _, _], _ => rfl
theorem bn_k09_11 {f : Addr} {fd : FuncData} (F : Fun K "turned" "turned" (top_k09 13) f fd) : Binds K fd ["rows", "costs", "basis", "row", "column"] [] := F.binds fun _ _ _ _ _ _ us hl => match us, hl with | [_, _, _, _, _], _ => rfl
theorem bn_k09_12 {f : Addr} {fd : FuncData} (F : Fun K "leaving" "leaving" (top_k09 15) f fd) : Binds K fd ["rows", "basis", "column"] [] := F.binds fun _ _ _ _ _ _ us hl => match us, hl with | [_, _, _], _ => rfl
theorem bn_k09_13 {f : Addr} {fd : FuncData} (F : Fun K "solve" "solve" (top_k09 16) f fd) : Binds K fd ["columns", "goal"] [] := F.binds fun _ _ _ _ _ _ us hl => match us, hl with | [_, _], _ => rfl
theorem bn_k09_14 {f : Addr} {fd : FuncData} (F : Fun K "are_counts" "are_counts" (top_k09 34) f fd) : Binds K fd ["value", "many", "most"] [] := F.binds fun _ _ _ _ _ _ us hl => match us, hl with | [_, _, _], _ => rfl
theorem bn_k09_15 {f : Addr} {fd : FuncData} (F : Fun K "is_place" "is_place" (top_k09 35) f fd) : Binds K fd ["value", "many"] [] := F.binds fun _ _ _ _ _ _ us hl => match us, hl with | [_, _], _ => rfl
theorem bn_k09_16 {f : Addr} {fd : FuncData} (F : Fun K "is_rule" "is_rule" (top_k09 36) f fd) : Binds K fd ["value", "many"] [] := F.binds fun _ _ _ _ _ _ us hl => match us, hl with | [_, _], _ => rfl
theorem bn_k09_17 {f : Addr} {fd : FuncData} (F : Fun K "need_net" "need_net" (top_k09 37) f fd) : Binds K fd ["net"] [] := F.binds fun _ _ _ _ _ _ us hl => match us, hl with | [_], _ => rfl
theorem bn_k09_18 {f : Addr} {fd : FuncData} (F : Fun K "drops" "drops" (top_k09 38) f fd) : Binds K fd ["net"] [] := F.binds fun _ _ _ _ _ _ us hl => match us, hl with | [_], _ => rfl
theorem bn_k09_19 {f : Addr} {fd : FuncData} (F : Fun K "falls" "falls" (top_k09 39) f fd) : Binds K fd ["net", "weights"] [] := F.binds fun _ _ _ _ _ _ us hl => match us, hl with | [_, _], _ => rfl
theorem bn_k09_20 {f : Addr} {fd : FuncData} (F : Fun K "renamed" "renamed" (top_k09 40) f fd) : Binds K fd ["net", "order"] [] := F.binds fun _ _ _ _ _ _ us hl => match us, hl with | [_, _], _ => rfl
theorem bn_k09_21 {f : Addr} {fd : FuncData} (F : Fun K "mirrored" "mirrored" (top_k09 41) f fd) : Binds K fd ["net"] [] := F.binds fun _ _ _ _ _ _ us hl => match us, hl with | [_], _ => rfl
theorem bn_k09_22 {f : Addr} {fd : FuncData} (F : Fun K "turned" "turned" (top_k09 42) f fd) : Binds K fd ["net"] [] := F.binds fun _ _ _ _ _ _ us hl => match us, hl with | [_], _ => rfl
theorem bn_k09_23 {f : Addr} {fd : FuncData} (F : Fun K "joined" "joined" (top_k09 44) f fd) : Binds K fd ["net", "other"] [] := F.binds fun _ _ _ _ _ _ us hl => match us, hl with | [_, _], _ => rfl
theorem bn_k09_24 {f : Addr} {fd : FuncData} (F : Fun K "opposites" "opposites" (top_k09 47) f fd) : Binds K fd ["some"] [] := F.binds fun _ _ _ _ _ _ us hl => match us, hl with | [_], _ => rfl
theorem bn_k09_25 {f : Addr} {fd : FuncData} (F : Fun K "weights_of" "weights_of" (top_k09 48) f fd) : Binds K fd ["many", "told"] [] := F.binds fun _ _ _ _ _ _ us hl => match us, hl with | [_, _], _ => rfl
theorem bn_k09_26 {f : Addr} {fd : FuncData} (F : Fun K "units" "units" (top_k09 49) f fd) : Binds K fd ["net", "pools"] [] := F.binds fun _ _ _ _ _ _ us hl => match us, hl with | [_, _], _ => rfl
theorem bn_k09_27 {f : Addr} {fd : FuncData} (F : Fun K "place_at" "place_at" (top_k09 50) f fd) : Binds K fd ["net", "rule", "depth", "word"] [] := F.binds fun _ _ _ _ _ _ us hl => match us, hl with | [_, _, _, _], _ => rfl
theorem bn_k09_28 {f : Addr} {fd : FuncData} (F : Fun K "at_hand" "at_hand" (top_k09 51) f fd) : Binds K fd ["net", "rules", "closed"] [] := F.binds fun _ _ _ _ _ _ us hl => match us, hl with | [_, _, _], _ => rfl
theorem bn_k09_29 {f : Addr} {fd : FuncData} (F : Fun K "spread_of" "spread_of" (top_k09 52) f fd) : Binds K fd ["net", "places", "told", "word"] [] := F.binds fun _ _ _ _ _ _ us hl => match us, hl with | [_, _, _, _], _ => rfl
theorem bn_k09_30 {f : Addr} {fd : FuncData} (F : Fun K "closing" "closing" (top_k09 53) f fd) : Binds K fd ["net", "rules", "pools", "word"] [] := F.binds fun _ _ _ _ _ _ us hl => match us, hl with | [_, _, _, _], _ => rfl
theorem bn_k09_31 {f : Addr} {fd : FuncData} (F : Fun K "sums_of" "sums_of" (top_k09 54) f fd) : Binds K fd ["net", "rules"] [] := F.binds fun _ _ _ _ _ _ us hl => match us, hl with | [_, _], _ => rfl
theorem bn_k09_32 {f : Addr} {fd : FuncData} (F : Fun K "level" "level" (top_k09 55) f fd) : Binds K fd ["net", "word", "rules", "pools"] [] := F.binds fun _ _ _ _ _ _ us hl => match us, hl with | [_, _, _, _], _ => rfl
theorem bn_k09_33 {f : Addr} {fd : FuncData} (F : Fun K "turn_of" "turn_of" (top_k09 56) f fd) : Binds K fd ["word", "line"] [] := F.binds fun _ _ _ _ _ _ us hl => match us, hl with | [_, _], _ => rfl
theorem bn_k09_34 {f : Addr} {fd : FuncData} (F : Fun K "left_behind" "left_behind" (top_k09 57) f fd) : Binds K fd ["net", "word", "weights", "rules", "pools"] [] := F.binds fun _ _ _ _ _ _ us hl => match us, hl with | [_, _, _, _, _], _ => rfl
theorem bn_k09_35 {f : Addr} {fd : FuncData} (F : Fun K "climb" "climb" (top_k09 58) f fd) : Binds K fd ["net"] [] := F.binds fun _ _ _ _ _ _ us hl => match us, hl with | [_], _ => rfl
theorem bn_k09_36 {f : Addr} {fd : FuncData} (F : Fun K "ends" "ends" (top_k09 59) f fd) : Binds K fd ["net"] [] := F.binds fun _ _ _ _ _ _ us hl => match us, hl with | [_], _ => rfl
theorem bn_k09_37 {f : Addr} {fd : FuncData} (F : Fun K "bounded" "bounded" (top_k09 60) f fd) : Binds K fd ["net"] [] := F.binds fun _ _ _ _ _ _ us hl => match us, hl with | [_], _ => rfl
theorem bn_k09_38 {f : Addr} {fd : FuncData} (F : Fun K "falling" "falling" (top_k09 61) f fd) : Binds K fd ["net"] [] := F.binds fun _ _ _ _ _ _ us hl => match us, hl with | [_], _ => rfl
theorem bn_k09_39 {f : Addr} {fd : FuncData} (F : Fun K "holding" "holding" (top_k09 62) f fd) : Binds K fd ["net"] [] := F.binds fun _ _ _ _ _ _ us hl => match us, hl with | [_], _ => rfl
theorem bn_k09_40 {f : Addr} {fd : FuncData} (F : Fun K "is_weights" "is_weights" (top_k09 63) f fd) : Binds K fd ["net", "value"] [] := F.binds fun _ _ _ _ _ _ us hl => match us, hl with | [_, _], _ => rfl
theorem bn_k09_41 {f : Addr} {fd : FuncData} (F : Fun K "left_by" "left_by" (top_k09 64) f fd) : Binds K fd ["net", "value"] [] := F.binds fun _ _ _ _ _ _ us hl => match us, hl with | [_, _], _ => rfl
theorem bn_k09_42 {f : Addr} {fd : FuncData} (F : Fun K "shows_falling" "shows_falling" (top_k09 65) f fd) : Binds K fd ["net", "value"] [] := F.binds fun _ _ _ _ _ _ us hl => match us, hl with | [_, _], _ => rfl
theorem bn_k09_43 {f : Addr} {fd : FuncData} (F : Fun K "shows_holding" "shows_holding" (top_k09 66) f fd) : Binds K fd ["net", "value"] [] := F.binds fun _ _ _ _ _ _ us hl => match us, hl with | [_, _], _ => rfl
theorem bn_k09_44 {f : Addr} {fd : FuncData} (F : Fun K "knot_in" "knot_in" (top_k09 68) f fd) : Binds K fd ["net", "rules", "pools"] [] := F.binds fun _ _ _ _ _ _ us hl => match us, hl with | [_, _, _], _ => rfl
theorem bn_k09_45 {f : Addr} {fd : FuncData} (F : Fun K "knot" "knot" (top_k09 69) f fd) : Binds K fd ["net"] [] := F.binds fun _ _ _ _ _ _ us hl => match us, hl with | [_], _ => rfl
theorem bn_k09_46 {f : Addr} {fd : FuncData} (F : Fun K "rising" "rising" (top_k09 70) f fd) : Binds K fd ["net"] [] := F.binds fun _ _ _ _ _ _ us hl => match us, hl with | [_], _ => rfl
theorem bn_k09_47 {f : Addr} {fd : FuncData} (F : Fun K "is_numbers" "is_numbers" (top_k09 71) f fd) : Binds K fd ["value", "many"] [] := F.binds fun _ _ _ _ _ _ us hl => match us, hl with | [_, _], _ => rfl
theorem bn_k09_48 {f : Addr} {fd : FuncData} (F : Fun K "is_spread" "is_spread" (top_k09 72) f fd) : Binds K fd ["net", "value"] [] := F.binds fun _ _ _ _ _ _ us hl => match us, hl with | [_, _], _ => rfl
theorem bn_k09_49 {f : Addr} {fd : FuncData} (F : Fun K "raised" "raised" (top_k09 73) f fd) : Binds K fd ["net", "spread"] [] := F.binds fun _ _ _ _ _ _ us hl => match us, hl with | [_, _], _ => rfl
theorem bn_k09_50 {f : Addr} {fd : FuncData} (F : Fun K "line_of" "line_of" (top_k09 74) f fd) : Binds K fd ["net", "value", "word"] [] := F.binds fun _ _ _ _ _ _ us hl => match us, hl with | [_, _, _], _ => rfl
theorem bn_k09_51 {f : Addr} {fd : FuncData} (F : Fun K "gains_of" "gains_of" (top_k09 75) f fd) : Binds K fd ["net", "value"] [] := F.binds fun _ _ _ _ _ _ us hl => match us, hl with | [_, _], _ => rfl
theorem bn_k09_52 {f : Addr} {fd : FuncData} (F : Fun K "shows_knot" "shows_knot" (top_k09 76) f fd) : Binds K fd ["net", "value"] [] := F.binds fun _ _ _ _ _ _ us hl => match us, hl with | [_, _], _ => rfl
theorem bn_k09_53 {f : Addr} {fd : FuncData} (F : Fun K "shows_rising" "shows_rising" (top_k09 77) f fd) : Binds K fd ["net", "value"] [] := F.binds fun _ _ _ _ _ _ us hl => match us, hl with | [_, _], _ => rfl
theorem bn_k09_54 {f : Addr} {fd : FuncData} (F : Fun K "side_text" "side_text" (top_k09 79) f fd) : Binds K fd ["side"] [] := F.binds fun _ _ _ _ _ _ us hl => match us, hl with | [_], _ => rfl
theorem bn_k09_55 {f : Addr} {fd : FuncData} (F : Fun K "write_net" "write_net" (top_k09 80) f fd) : Binds K fd ["net"] [] := F.binds fun _ _ _ _ _ _ us hl => match us, hl with | [_], _ => rfl
theorem bn_k09_56 {f : Addr} {fd : FuncData} (F : Fun K "skip" "skip" (top_k09 81) f fd) : Binds K fd ["text", "at"] [] := F.binds fun _ _ _ _ _ _ us hl => match us, hl with | [_, _], _ => rfl
theorem bn_k09_57 {f : Addr} {fd : FuncData} (F : Fun K "digit" "digit" (top_k09 82) f fd) : Binds K fd ["text", "at", "least", "most"] [] := F.binds fun _ _ _ _ _ _ us hl => match us, hl with | [_, _, _, _], _ => rfl
theorem bn_k09_58 {f : Addr} {fd : FuncData} (F : Fun K "rule_at" "rule_at" (top_k09 83) f fd) : Binds K fd ["text", "at", "many"] [] := F.binds fun _ _ _ _ _ _ us hl => match us, hl with | [_, _, _], _ => rfl
theorem bn_k09_59 {f : Addr} {fd : FuncData} (F : Fun K "read_net" "read_net" (top_k09 84) f fd) : Binds K fd ["text"] [] := F.binds fun _ _ _ _ _ _ us hl => match us, hl with | [_], _ => rfl
theorem bn_k09_60 {f : Addr} {fd : FuncData} (F : Fun K "need_row" "need_row" (top_k09 90) f fd) : Binds K fd ["net", "row"] [] := F.binds fun _ _ _ _ _ _ us hl => match us, hl with | [_, _], _ => rfl
theorem bn_k09_61 {f : Addr} {fd : FuncData} (F : Fun K "need_both" "need_both" (top_k09 91) f fd) : Binds K fd ["net", "row"] [] := F.binds fun _ _ _ _ _ _ us hl => match us, hl with | [_, _], _ => rfl
theorem bn_k09_62 {f : Addr} {fd : FuncData} (F : Fun K "spots" "spots" (top_k09 92) f fd) : Binds K fd ["many", "long"] [] := F.binds fun _ _ _ _ _ _ us hl => match us, hl with | [_, _], _ => rfl
theorem bn_k09_63 {f : Addr} {fd : FuncData} (F : Fun K "can_do" "can_do" (top_k09 93) f fd) : Binds K fd ["net", "row", "deed"] [] := F.binds fun _ _ _ _ _ _ us hl => match us, hl with | [_, _, _], _ => rfl
theorem bn_k09_64 {f : Addr} {fd : FuncData} (F : Fun K "changed" "changed" (top_k09 94) f fd) : Binds K fd ["net", "row", "deed"] [] := F.binds fun _ _ _ _ _ _ us hl => match us, hl with | [_, _, _], _ => rfl
theorem bn_k09_65 {f : Addr} {fd : FuncData} (F : Fun K "deeds_in" "deeds_in" (top_k09 95) f fd) : Binds K fd ["net", "row"] [] := F.binds fun _ _ _ _ _ _ us hl => match us, hl with | [_, _], _ => rfl
theorem bn_k09_66 {f : Addr} {fd : FuncData} (F : Fun K "deeds" "deeds" (top_k09 96) f fd) : Binds K fd ["net", "row"] [] := F.binds fun _ _ _ _ _ _ us hl => match us, hl with | [_, _], _ => rfl
theorem bn_k09_67 {f : Addr} {fd : FuncData} (F : Fun K "is_deed" "is_deed" (top_k09 97) f fd) : Binds K fd ["net", "row", "value"] [] := F.binds fun _ _ _ _ _ _ us hl => match us, hl with | [_, _, _], _ => rfl
theorem bn_k09_68 {f : Addr} {fd : FuncData} (F : Fun K "done" "done" (top_k09 98) f fd) : Binds K fd ["net", "row", "deed"] [] := F.binds fun _ _ _ _ _ _ us hl => match us, hl with | [_, _, _], _ => rfl
theorem bn_k09_69 {f : Addr} {fd : FuncData} (F : Fun K "after" "after" (top_k09 99) f fd) : Binds K fd ["net", "row", "run"] [] := F.binds fun _ _ _ _ _ _ us hl => match us, hl with | [_, _, _], _ => rfl
theorem bn_k09_70 {f : Addr} {fd : FuncData} (F : Fun K "come_in" "come_in" (top_k09 100) f fd) : Binds K fd ["net", "row"] [] := F.binds fun _ _ _ _ _ _ us hl => match us, hl with | [_, _], _ => rfl
theorem bn_k09_71 {f : Addr} {fd : FuncData} (F : Fun K "all_come" "all_come" (top_k09 101) f fd) : Binds K fd ["net", "row"] [] := F.binds fun _ _ _ _ _ _ us hl => match us, hl with | [_, _], _ => rfl
theorem bn_k09_72 {f : Addr} {fd : FuncData} (F : Fun K "order_in" "order_in" (top_k09 102) f fd) : Binds K fd ["told"] [] := F.binds fun _ _ _ _ _ _ us hl => match us, hl with | [_], _ => rfl
theorem bn_k09_73 {f : Addr} {fd : FuncData} (F : Fun K "goes_on" "goes_on" (top_k09 103) f fd) : Binds K fd ["net", "row"] [] := F.binds fun _ _ _ _ _ _ us hl => match us, hl with | [_, _], _ => rfl
theorem bn_k09_74 {f : Addr} {fd : FuncData} (F : Fun K "longest" "longest" (top_k09 104) f fd) : Binds K fd ["net", "row"] [] := F.binds fun _ _ _ _ _ _ us hl => match us, hl with | [_, _], _ => rfl
theorem bn_k09_75 {f : Addr} {fd : FuncData} (F : Fun K "off" "off" (top_k09 106) f fd) : Binds K fd ["row", "line", "pool"] [] := F.binds fun _ _ _ _ _ _ us hl => match us, hl with | [_, _, _], _ => rfl
theorem bn_k09_76 {f : Addr} {fd : FuncData} (F : Fun K "kept_by" "kept_by" (top_k09 107) f fd) : Binds K fd ["many", "vectors"] [] := F.binds fun _ _ _ _ _ _ us hl => match us, hl with | [_, _], _ => rfl
theorem bn_k09_77 {f : Addr} {fd : FuncData} (F : Fun K "kept_sums" "kept_sums" (top_k09 108) f fd) : Binds K fd ["net"] [] := F.binds fun _ _ _ _ _ _ us hl => match us, hl with | [_], _ => rfl
theorem bn_k09_78 {f : Addr} {fd : FuncData} (F : Fun K "kept_at_places" "kept_at_places" (top_k09 109) f fd) : Binds K fd ["net"] [] := F.binds fun _ _ _ _ _ _ us hl => match us, hl with | [_], _ => rfl
theorem bn_k09_79 {f : Addr} {fd : FuncData} (F : Fun K "can_fill" "can_fill" (top_k09 110) f fd) : Binds K fd ["net", "pools"] [] := F.binds fun _ _ _ _ _ _ us hl => match us, hl with | [_, _], _ => rfl
theorem bn_k09_80 {f : Addr} {fd : FuncData} (F : Fun K "_law_alike" "_law_alike" (top_k09 112) f fd) : Binds K fd ["found", "due"] [] := F.binds fun _ _ _ _ _ _ us hl => match us, hl with | [_, _], _ => rfl
end
/-- what the top has written -/
theorem all_k09 {l : PySem.W.OpenLaw} {w : World} {K : PySem.W.Frag} {h : Heap} {mg : Str → Option Value} {fa : Addr} (X : K.In h) (G : h.Ns mainGlobals mg) (hfa : mg "law" = some (.ref fa))
    {f0 : Addr} {od0 an0 : Option Addr} {sl0 : Array (Option Value)} {oc0 kV0 dc0 pm0 cd0 ct0 : Value}
    {f1 : Addr} {od1 an1 : Option Addr} {sl1 : Array (Option Value)} {oc1 kV1 dc1 pm1 cd1 ct1 : Value}
    {f2 : Addr} {od2 an2 : Option Addr} {sl2 : Array (Option Value)} {oc2 kV2 dc2 pm2 cd2 ct2 : Value}
    {f3 : Addr} {od3 an3 : Option Addr} {sl3 : Array (Option Value)} {oc3 kV3 dc3 pm3 cd3 ct3 : Value}
    {f4 : Addr} {od4 an4 : Option Addr} {sl4 : Array (Option Value)} {oc4 kV4 dc4 pm4 cd4 ct4 : Value}
    {f5 : Addr} {od5 an5 : Option Addr} {sl5 : Array (Option Value)} {oc5 kV5 dc5 pm5 cd5 ct5 : Value}
    {f6 : Addr} {od6 an6 : Option Addr} {sl6 : Array (Option Value)} {oc6 kV6 dc6 pm6 cd6 ct6 : Value}
    {f7 : Addr} {od7 an7 : Option Addr} {sl7 : Array (Option Value)} {oc7 kV7 dc7 pm7 cd7 ct7 : Value}
    {f8 : Addr} {od8 an8 : Option Addr} {sl8 : Array (Option Value)} {oc8 kV8 dc8 pm8 cd8 ct8 : Value}
    {f9 : Addr} {od9 an9 : Option Addr} {sl9 : Array (Option Value)} {oc9 kV9 dc9 pm9 cd9 ct9 : Value}
    {f10 : Addr} {od10 an10 : Option Addr} {sl10 : Array (Option Value)} {oc10 kV10 dc10 pm10 cd10 ct10 : Value}
    {f11 : Addr} {od11 an11 : Option Addr} {sl11 : Array (Option Value)} {oc11 kV11 dc11 pm11 cd11 ct11 : Value}
    {f12 : Addr} {od12 an12 : Option Addr} {sl12 : Array (Option Value)} {oc12 kV12 dc12 pm12 cd12 ct12 : Value}
    {f13 : Addr} {od13 an13 : Option Addr} {sl13 : Array (Option Value)} {oc13 kV13 dc13 pm13 cd13 ct13 : Value}
    {f14 : Addr} {od14 an14 : Option Addr} {sl14 : Array (Option Value)} {oc14 kV14 dc14 pm14 cd14 ct14 : Value}
    {f15 : Addr} {od15 an15 : Option Addr} {sl15 : Array (Option Value)} {oc15 kV15 dc15 pm15 cd15 ct15 : Value}
    {f16 : Addr} {od16 an16 : Option Addr} {sl16 : Array (Option Value)} {oc16 kV16 dc16 pm16 cd16 ct16 : Value}
    {f17 : Addr} {od17 an17 : Option Addr} {sl17 : Array (Option Value)} {oc17 kV17 dc17 pm17 cd17 ct17 : Value}
    {f18 : Addr} {od18 an18 : Option Addr} {sl18 : Array (Option Value)} {oc18 kV18 dc18 pm18 cd18 ct18 : Value}
    {f19 : Addr} {od19 an19 : Option Addr} {sl19 : Array (Option Value)} {oc19 kV19 dc19 pm19 cd19 ct19 : Value}
    {f20 : Addr} {od20 an20 : Option Addr} {sl20 : Array (Option Value)} {oc20 kV20 dc20 pm20 cd20 ct20 : Value}
    {f21 : Addr} {od21 an21 : Option Addr} {sl21 : Array (Option Value)} {oc21 kV21 dc21 pm21 cd21 ct21 : Value}
    {f22 : Addr} {od22 an22 : Option Addr} {sl22 : Array (Option Value)} {oc22 kV22 dc22 pm22 cd22 ct22 : Value}
    {f23 : Addr} {od23 an23 : Option Addr} {sl23 : Array (Option Value)} {oc23 kV23 dc23 pm23 cd23 ct23 : Value}
    {f24 : Addr} {od24 an24 : Option Addr} {sl24 : Array (Option Value)} {oc24 kV24 dc24 pm24 cd24 ct24 : Value}
    {f25 : Addr} {od25 an25 : Option Addr} {sl25 : Array (Option Value)} {oc25 kV25 dc25 pm25 cd25 ct25 : Value}
    {f26 : Addr} {od26 an26 : Option Addr} {sl26 : Array (Option Value)} {oc26 kV26 dc26 pm26 cd26 ct26 : Value}
    {f27 : Addr} {od27 an27 : Option Addr} {sl27 : Array (Option Value)} {oc27 kV27 dc27 pm27 cd27 ct27 : Value}
    {f28 : Addr} {od28 an28 : Option Addr} {sl28 : Array (Option Value)} {oc28 kV28 dc28 pm28 cd28 ct28 : Value}
    {f29 : Addr} {od29 an29 : Option Addr} {sl29 : Array (Option Value)} {oc29 kV29 dc29 pm29 cd29 ct29 : Value}
    {f30 : Addr} {od30 an30 : Option Addr} {sl30 : Array (Option Value)} {oc30 kV30 dc30 pm30 cd30 ct30 : Value}
    {f31 : Addr} {od31 an31 : Option Addr} {sl31 : Array (Option Value)} {oc31 kV31 dc31 pm31 cd31 ct31 : Value}
    {f32 : Addr} {od32 an32 : Option Addr} {sl32 : Array (Option Value)} {oc32 kV32 dc32 pm32 cd32 ct32 : Value}
    {f33 : Addr} {od33 an33 : Option Addr} {sl33 : Array (Option Value)} {oc33 kV33 dc33 pm33 cd33 ct33 : Value}
    {f34 : Addr} {od34 an34 : Option Addr} {sl34 : Array (Option Value)} {oc34 kV34 dc34 pm34 cd34 ct34 : Value}
    {f35 : Addr} {od35 an35 : Option Addr} {sl35 : Array (Option Value)} {oc35 kV35 dc35 pm35 cd35 ct35 : Value}
    {f36 : Addr} {od36 an36 : Option Addr} {sl36 : Array (Option Value)} {oc36 kV36 dc36 pm36 cd36 ct36 : Value}
    {f37 : Addr} {od37 an37 : Option Addr} {sl37 : Array (Option Value)} {oc37 kV37 dc37 pm37 cd37 ct37 : Value}
    {f38 : Addr} {od38 an38 : Option Addr} {sl38 : Array (Option Value)} {oc38 kV38 dc38 pm38 cd38 ct38 : Value}
    {f39 : Addr} {od39 an39 : Option Addr} {sl39 : Array (Option Value)} {oc39 kV39 dc39 pm39 cd39 ct39 : Value}
    {f40 : Addr} {od40 an40 : Option Addr} {sl40 : Array (Option Value)} {oc40 kV40 dc40 pm40 cd40 ct40 : Value}
    {f41 : Addr} {od41 an41 : Option Addr} {sl41 : Array (Option Value)} {oc41 kV41 dc41 pm41 cd41 ct41 : Value}
    {f42 : Addr} {od42 an42 : Option Addr} {sl42 : Array (Option Value)} {oc42 kV42 dc42 pm42 cd42 ct42 : Value}
    {f43 : Addr} {od43 an43 : Option Addr} {sl43 : Array (Option Value)} {oc43 kV43 dc43 pm43 cd43 ct43 : Value}
    {f44 : Addr} {od44 an44 : Option Addr} {sl44 : Array (Option Value)} {oc44 kV44 dc44 pm44 cd44 ct44 : Value}
    {f45 : Addr} {od45 an45 : Option Addr} {sl45 : Array (Option Value)} {oc45 kV45 dc45 pm45 cd45 ct45 : Value}
    {f46 : Addr} {od46 an46 : Option Addr} {sl46 : Array (Option Value)} {oc46 kV46 dc46 pm46 cd46 ct46 : Value}
    {f47 : Addr} {od47 an47 : Option Addr} {sl47 : Array (Option Value)} {oc47 kV47 dc47 pm47 cd47 ct47 : Value}
    {f48 : Addr} {od48 an48 : Option Addr} {sl48 : Array (Option Value)} {oc48 kV48 dc48 pm48 cd48 ct48 : Value}
    {f49 : Addr} {od49 an49 : Option Addr} {sl49 : Array (Option Value)} {oc49 kV49 dc49 pm49 cd49 ct49 : Value}
    {f50 : Addr} {od50 an50 : Option Addr} {sl50 : Array (Option Value)} {oc50 kV50 dc50 pm50 cd50 ct50 : Value}
    {f51 : Addr} {od51 an51 : Option Addr} {sl51 : Array (Option Value)} {oc51 kV51 dc51 pm51 cd51 ct51 : Value}
    {f52 : Addr} {od52 an52 : Option Addr} {sl52 : Array (Option Value)} {oc52 kV52 dc52 pm52 cd52 ct52 : Value}
    {f53 : Addr} {od53 an53 : Option Addr} {sl53 : Array (Option Value)} {oc53 kV53 dc53 pm53 cd53 ct53 : Value}
    {f54 : Addr} {od54 an54 : Option Addr} {sl54 : Array (Option Value)} {oc54 kV54 dc54 pm54 cd54 ct54 : Value}
    {f55 : Addr} {od55 an55 : Option Addr} {sl55 : Array (Option Value)} {oc55 kV55 dc55 pm55 cd55 ct55 : Value}
    {f56 : Addr} {od56 an56 : Option Addr} {sl56 : Array (Option Value)} {oc56 kV56 dc56 pm56 cd56 ct56 : Value}
    {f57 : Addr} {od57 an57 : Option Addr} {sl57 : Array (Option Value)} {oc57 kV57 dc57 pm57 cd57 ct57 : Value}
    {f58 : Addr} {od58 an58 : Option Addr} {sl58 : Array (Option Value)} {oc58 kV58 dc58 pm58 cd58 ct58 : Value}
    {f59 : Addr} {od59 an59 : Option Addr} {sl59 : Array (Option Value)} {oc59 kV59 dc59 pm59 cd59 ct59 : Value}
    {f60 : Addr} {od60 an60 : Option Addr} {sl60 : Array (Option Value)} {oc60 kV60 dc60 pm60 cd60 ct60 : Value}
    {f61 : Addr} {od61 an61 : Option Addr} {sl61 : Array (Option Value)} {oc61 kV61 dc61 pm61 cd61 ct61 : Value}
    {f62 : Addr} {od62 an62 : Option Addr} {sl62 : Array (Option Value)} {oc62 kV62 dc62 pm62 cd62 ct62 : Value}
    {f63 : Addr} {od63 an63 : Option Addr} {sl63 : Array (Option Value)} {oc63 kV63 dc63 pm63 cd63 ct63 : Value}
    {f64 : Addr} {od64 an64 : Option Addr} {sl64 : Array (Option Value)} {oc64 kV64 dc64 pm64 cd64 ct64 : Value}
    {f65 : Addr} {od65 an65 : Option Addr} {sl65 : Array (Option Value)} {oc65 kV65 dc65 pm65 cd65 ct65 : Value}
    {f66 : Addr} {od66 an66 : Option Addr} {sl66 : Array (Option Value)} {oc66 kV66 dc66 pm66 cd66 ct66 : Value}
    {f67 : Addr} {od67 an67 : Option Addr} {sl67 : Array (Option Value)} {oc67 kV67 dc67 pm67 cd67 ct67 : Value}
    {f68 : Addr} {od68 an68 : Option Addr} {sl68 : Array (Option Value)} {oc68 kV68 dc68 pm68 cd68 ct68 : Value}
    {f69 : Addr} {od69 an69 : Option Addr} {sl69 : Array (Option Value)} {oc69 kV69 dc69 pm69 cd69 ct69 : Value}
    {f70 : Addr} {od70 an70 : Option Addr} {sl70 : Array (Option Value)} {oc70 kV70 dc70 pm70 cd70 ct70 : Value}
    {f71 : Addr} {od71 an71 : Option Addr} {sl71 : Array (Option Value)} {oc71 kV71 dc71 pm71 cd71 ct71 : Value}
    {f72 : Addr} {od72 an72 : Option Addr} {sl72 : Array (Option Value)} {oc72 kV72 dc72 pm72 cd72 ct72 : Value}
    {f73 : Addr} {od73 an73 : Option Addr} {sl73 : Array (Option Value)} {oc73 kV73 dc73 pm73 cd73 ct73 : Value}
    {f74 : Addr} {od74 an74 : Option Addr} {sl74 : Array (Option Value)} {oc74 kV74 dc74 pm74 cd74 ct74 : Value}
    {f75 : Addr} {od75 an75 : Option Addr} {sl75 : Array (Option Value)} {oc75 kV75 dc75 pm75 cd75 ct75 : Value}
    {f76 : Addr} {od76 an76 : Option Addr} {sl76 : Array (Option Value)} {oc76 kV76 dc76 pm76 cd76 ct76 : Value}
    {f77 : Addr} {od77 an77 : Option Addr} {sl77 : Array (Option Value)} {oc77 kV77 dc77 pm77 cd77 ct77 : Value}
    {f78 : Addr} {od78 an78 : Option Addr} {sl78 : Array (Option Value)} {oc78 kV78 dc78 pm78 cd78 ct78 : Value}
    {f79 : Addr} {od79 an79 : Option Addr} {sl79 : Array (Option Value)} {oc79 kV79 dc79 pm79 cd79 ct79 : Value}
    {f80 : Addr} {od80 an80 : Option Addr} {sl80 : Array (Option Value)} {oc80 kV80 dc80 pm80 cd80 ct80 : Value}
    {fL : Addr} {odL anL : Option Addr} {slL : Array (Option Value)} {ocL kVL dcL pmL cdL ctL : Value}
    {tk0 tk1 tk2 tk3 tk4 tk5 tk6 tk7 : Tok}
    {ta8 : Addr} {td8 : Option Addr} {tn8 : Nat} {ts8 : Array (Option Value)} {tj8_0 tj8_1 tj8_2 : Tok}
    (a0 : PySem.W.nsIn K mainGlobals "is_in" = some (some (.ref f0))) (l0 : K.lookup f0 = some ⟨oc0, od0, .func (PySem.W.fnOf "is_in" "is_in" (defArgs (top_k09 1)) (defBody (top_k09 1)) (defScope (top_k09 1)) .none kV0 dc0 pm0 an0 cd0 ct0), sl0⟩) (c0 : PySem.W.codeIn K cd0 "is_in" = true) (k0 : PySem.W.keepIn K (.ref f0) = true)
    (a1 : PySem.W.nsIn K mainGlobals "gcd" = some (some (.ref f1))) (l1 : K.lookup f1 = some ⟨oc1, od1, .func (PySem.W.fnOf "gcd" "gcd" (defArgs (top_k09 2)) (defBody (top_k09 2)) (defScope (top_k09 2)) .none kV1 dc1 pm1 an1 cd1 ct1), sl1⟩) (c1 : PySem.W.codeIn K cd1 "gcd" = true) (k1 : PySem.W.keepIn K (.ref f1) = true)
    (a2 : PySem.W.nsIn K mainGlobals "reduced" = some (some (.ref f2))) (l2 : K.lookup f2 = some ⟨oc2, od2, .func (PySem.W.fnOf "reduced" "reduced" (defArgs (top_k09 3)) (defBody (top_k09 3)) (defScope (top_k09 3)) .none kV2 dc2 pm2 an2 cd2 ct2), sl2⟩) (c2 : PySem.W.codeIn K cd2 "reduced" = true) (k2 : PySem.W.keepIn K (.ref f2) = true)
    (a3 : PySem.W.nsIn K mainGlobals "plus" = some (some (.ref f3))) (l3 : K.lookup f3 = some ⟨oc3, od3, .func (PySem.W.fnOf "plus" "plus" (defArgs (top_k09 4)) (defBody (top_k09 4)) (defScope (top_k09 4)) .none kV3 dc3 pm3 an3 cd3 ct3), sl3⟩) (c3 : PySem.W.codeIn K cd3 "plus" = true) (k3 : PySem.W.keepIn K (.ref f3) = true)
    (a4 : PySem.W.nsIn K mainGlobals "minus" = some (some (.ref f4))) (l4 : K.lookup f4 = some ⟨oc4, od4, .func (PySem.W.fnOf "minus" "minus" (defArgs (top_k09 5)) (defBody (top_k09 5)) (defScope (top_k09 5)) .none kV4 dc4 pm4 an4 cd4 ct4), sl4⟩) (c4 : PySem.W.codeIn K cd4 "minus" = true) (k4 : PySem.W.keepIn K (.ref f4) = true)
    (a5 : PySem.W.nsIn K mainGlobals "times" = some (some (.ref f5))) (l5 : K.lookup f5 = some ⟨oc5, od5, .func (PySem.W.fnOf "times" "times" (defArgs (top_k09 6)) (defBody (top_k09 6)) (defScope (top_k09 6)) .none kV5 dc5 pm5 an5 cd5 ct5), sl5⟩) (c5 : PySem.W.codeIn K cd5 "times" = true) (k5 : PySem.W.keepIn K (.ref f5) = true)
    (a6 : PySem.W.nsIn K mainGlobals "over" = some (some (.ref f6))) (l6 : K.lookup f6 = some ⟨oc6, od6, .func (PySem.W.fnOf "over" "over" (defArgs (top_k09 7)) (defBody (top_k09 7)) (defScope (top_k09 7)) .none kV6 dc6 pm6 an6 cd6 ct6), sl6⟩) (c6 : PySem.W.codeIn K cd6 "over" = true) (k6 : PySem.W.keepIn K (.ref f6) = true)
    (a7 : PySem.W.nsIn K mainGlobals "less" = some (some (.ref f7))) (l7 : K.lookup f7 = some ⟨oc7, od7, .func (PySem.W.fnOf "less" "less" (defArgs (top_k09 8)) (defBody (top_k09 8)) (defScope (top_k09 8)) .none kV7 dc7 pm7 an7 cd7 ct7), sl7⟩) (c7 : PySem.W.codeIn K cd7 "less" = true) (k7 : PySem.W.keepIn K (.ref f7) = true)
    (a8 : PySem.W.nsIn K mainGlobals "whole" = some (some (.ref f8))) (l8 : K.lookup f8 = some ⟨oc8, od8, .func (PySem.W.fnOf "whole" "whole" (defArgs (top_k09 9)) (defBody (top_k09 9)) (defScope (top_k09 9)) .none kV8 dc8 pm8 an8 cd8 ct8), sl8⟩) (c8 : PySem.W.codeIn K cd8 "whole" = true) (k8 : PySem.W.keepIn K (.ref f8) = true)
    (a9 : PySem.W.nsIn K mainGlobals "first_tableau" = some (some (.ref f9))) (l9 : K.lookup f9 = some ⟨oc9, od9, .func (PySem.W.fnOf "first_tableau" "first_tableau" (defArgs (top_k09 11)) (defBody (top_k09 11)) (defScope (top_k09 11)) .none kV9 dc9 pm9 an9 cd9 ct9), sl9⟩) (c9 : PySem.W.codeIn K cd9 "first_tableau" = true) (k9 : PySem.W.keepIn K (.ref f9) = true)
    (a10 : PySem.W.nsIn K mainGlobals "taken_off" = some (some (.ref f10))) (l10 : K.lookup f10 = some ⟨oc10, od10, .func (PySem.W.fnOf "taken_off" "taken_off" (defArgs (top_k09 12)) (defBody (top_k09 12)) (defScope (top_k09 12)) .none kV10 dc10 pm10 an10 cd10 ct10), sl10⟩) (c10 : PySem.W.codeIn K cd10 "taken_off" = true) (k10 : PySem.W.keepIn K (.ref f10) = true)
    (a11 : PySem.W.nsIn K mainGlobals "turned_linear" = some (some (.ref f11))) (l11 : K.lookup f11 = some ⟨oc11, od11, .func (PySem.W.fnOf "turned" "turned" (defArgs (top_k09 13)) (defBody (top_k09 13)) (defScope (top_k09 13)) .none kV11 dc11 pm11 an11 cd11 ct11), sl11⟩) (c11 : PySem.W.codeIn K cd11 "turned" = true) (k11 : PySem.W.keepIn K (.ref f11) = true)
    (a12 : PySem.W.nsIn K mainGlobals "leaving" = some (some (.ref f12))) (l12 : K.lookup f12 = some ⟨oc12, od12, .func (PySem.W.fnOf "leaving" "leaving" (defArgs (top_k09 15)) (defBody (top_k09 15)) (defScope (top_k09 15)) .none kV12 dc12 pm12 an12 cd12 ct12), sl12⟩) (c12 : PySem.W.codeIn K cd12 "leaving" = true) (k12 : PySem.W.keepIn K (.ref f12) = true)
    (a13 : PySem.W.nsIn K mainGlobals "solve" = some (some (.ref f13))) (l13 : K.lookup f13 = some ⟨oc13, od13, .func (PySem.W.fnOf "solve" "solve" (defArgs (top_k09 16)) (defBody (top_k09 16)) (defScope (top_k09 16)) .none kV13 dc13 pm13 an13 cd13 ct13), sl13⟩) (c13 : PySem.W.codeIn K cd13 "solve" = true) (k13 : PySem.W.keepIn K (.ref f13) = true)
    (a14 : PySem.W.nsIn K mainGlobals "are_counts" = some (some (.ref f14))) (l14 : K.lookup f14 = some ⟨oc14, od14, .func (PySem.W.fnOf "are_counts" "are_counts" (defArgs (top_k09 34)) (defBody (top_k09 34)) (defScope (top_k09 34)) .none kV14 dc14 pm14 an14 cd14 ct14), sl14⟩) (c14 : PySem.W.codeIn K cd14 "are_counts" = true) (k14 : PySem.W.keepIn K (.ref f14) = true)
    (a15 : PySem.W.nsIn K mainGlobals "is_place" = some (some (.ref f15))) (l15 : K.lookup f15 = some ⟨oc15, od15, .func (PySem.W.fnOf "is_place" "is_place" (defArgs (top_k09 35)) (defBody (top_k09 35)) (defScope (top_k09 35)) .none kV15 dc15 pm15 an15 cd15 ct15), sl15⟩) (c15 : PySem.W.codeIn K cd15 "is_place" = true) (k15 : PySem.W.keepIn K (.ref f15) = true)
    (a16 : PySem.W.nsIn K mainGlobals "is_rule" = some (some (.ref f16))) (l16 : K.lookup f16 = some ⟨oc16, od16, .func (PySem.W.fnOf "is_rule" "is_rule" (defArgs (top_k09 36)) (defBody (top_k09 36)) (defScope (top_k09 36)) .none kV16 dc16 pm16 an16 cd16 ct16), sl16⟩) (c16 : PySem.W.codeIn K cd16 "is_rule" = true) (k16 : PySem.W.keepIn K (.ref f16) = true)
    (a17 : PySem.W.nsIn K mainGlobals "need_net" = some (some (.ref f17))) (l17 : K.lookup f17 = some ⟨oc17, od17, .func (PySem.W.fnOf "need_net" "need_net" (defArgs (top_k09 37)) (defBody (top_k09 37)) (defScope (top_k09 37)) .none kV17 dc17 pm17 an17 cd17 ct17), sl17⟩) (c17 : PySem.W.codeIn K cd17 "need_net" = true) (k17 : PySem.W.keepIn K (.ref f17) = true)
    (a18 : PySem.W.nsIn K mainGlobals "drops" = some (some (.ref f18))) (l18 : K.lookup f18 = some ⟨oc18, od18, .func (PySem.W.fnOf "drops" "drops" (defArgs (top_k09 38)) (defBody (top_k09 38)) (defScope (top_k09 38)) .none kV18 dc18 pm18 an18 cd18 ct18), sl18⟩) (c18 : PySem.W.codeIn K cd18 "drops" = true) (k18 : PySem.W.keepIn K (.ref f18) = true)
    (a19 : PySem.W.nsIn K mainGlobals "falls" = some (some (.ref f19))) (l19 : K.lookup f19 = some ⟨oc19, od19, .func (PySem.W.fnOf "falls" "falls" (defArgs (top_k09 39)) (defBody (top_k09 39)) (defScope (top_k09 39)) .none kV19 dc19 pm19 an19 cd19 ct19), sl19⟩) (c19 : PySem.W.codeIn K cd19 "falls" = true) (k19 : PySem.W.keepIn K (.ref f19) = true)
    (a20 : PySem.W.nsIn K mainGlobals "renamed" = some (some (.ref f20))) (l20 : K.lookup f20 = some ⟨oc20, od20, .func (PySem.W.fnOf "renamed" "renamed" (defArgs (top_k09 40)) (defBody (top_k09 40)) (defScope (top_k09 40)) .none kV20 dc20 pm20 an20 cd20 ct20), sl20⟩) (c20 : PySem.W.codeIn K cd20 "renamed" = true) (k20 : PySem.W.keepIn K (.ref f20) = true)
    (a21 : PySem.W.nsIn K mainGlobals "mirrored" = some (some (.ref f21))) (l21 : K.lookup f21 = some ⟨oc21, od21, .func (PySem.W.fnOf "mirrored" "mirrored" (defArgs (top_k09 41)) (defBody (top_k09 41)) (defScope (top_k09 41)) .none kV21 dc21 pm21 an21 cd21 ct21), sl21⟩) (c21 : PySem.W.codeIn K cd21 "mirrored" = true) (k21 : PySem.W.keepIn K (.ref f21) = true)
    (a22 : PySem.W.nsIn K mainGlobals "turned_nets" = some (some (.ref f22))) (l22 : K.lookup f22 = some ⟨oc22, od22, .func (PySem.W.fnOf "turned" "turned" (defArgs (top_k09 42)) (defBody (top_k09 42)) (defScope (top_k09 42)) .none kV22 dc22 pm22 an22 cd22 ct22), sl22⟩) (c22 : PySem.W.codeIn K cd22 "turned" = true) (k22 : PySem.W.keepIn K (.ref f22) = true)
    (a23 : PySem.W.nsIn K mainGlobals "joined" = some (some (.ref f23))) (l23 : K.lookup f23 = some ⟨oc23, od23, .func (PySem.W.fnOf "joined" "joined" (defArgs (top_k09 44)) (defBody (top_k09 44)) (defScope (top_k09 44)) .none kV23 dc23 pm23 an23 cd23 ct23), sl23⟩) (c23 : PySem.W.codeIn K cd23 "joined" = true) (k23 : PySem.W.keepIn K (.ref f23) = true)
    (a24 : PySem.W.nsIn K mainGlobals "opposites" = some (some (.ref f24))) (l24 : K.lookup f24 = some ⟨oc24, od24, .func (PySem.W.fnOf "opposites" "opposites" (defArgs (top_k09 47)) (defBody (top_k09 47)) (defScope (top_k09 47)) .none kV24 dc24 pm24 an24 cd24 ct24), sl24⟩) (c24 : PySem.W.codeIn K cd24 "opposites" = true) (k24 : PySem.W.keepIn K (.ref f24) = true)
    (a25 : PySem.W.nsIn K mainGlobals "weights_of" = some (some (.ref f25))) (l25 : K.lookup f25 = some ⟨oc25, od25, .func (PySem.W.fnOf "weights_of" "weights_of" (defArgs (top_k09 48)) (defBody (top_k09 48)) (defScope (top_k09 48)) .none kV25 dc25 pm25 an25 cd25 ct25), sl25⟩) (c25 : PySem.W.codeIn K cd25 "weights_of" = true) (k25 : PySem.W.keepIn K (.ref f25) = true)
    (a26 : PySem.W.nsIn K mainGlobals "units" = some (some (.ref f26))) (l26 : K.lookup f26 = some ⟨oc26, od26, .func (PySem.W.fnOf "units" "units" (defArgs (top_k09 49)) (defBody (top_k09 49)) (defScope (top_k09 49)) .none kV26 dc26 pm26 an26 cd26 ct26), sl26⟩) (c26 : PySem.W.codeIn K cd26 "units" = true) (k26 : PySem.W.keepIn K (.ref f26) = true)
    (a27 : PySem.W.nsIn K mainGlobals "place_at" = some (some (.ref f27))) (l27 : K.lookup f27 = some ⟨oc27, od27, .func (PySem.W.fnOf "place_at" "place_at" (defArgs (top_k09 50)) (defBody (top_k09 50)) (defScope (top_k09 50)) .none kV27 dc27 pm27 an27 cd27 ct27), sl27⟩) (c27 : PySem.W.codeIn K cd27 "place_at" = true) (k27 : PySem.W.keepIn K (.ref f27) = true)
    (a28 : PySem.W.nsIn K mainGlobals "at_hand" = some (some (.ref f28))) (l28 : K.lookup f28 = some ⟨oc28, od28, .func (PySem.W.fnOf "at_hand" "at_hand" (defArgs (top_k09 51)) (defBody (top_k09 51)) (defScope (top_k09 51)) .none kV28 dc28 pm28 an28 cd28 ct28), sl28⟩) (c28 : PySem.W.codeIn K cd28 "at_hand" = true) (k28 : PySem.W.keepIn K (.ref f28) = true)
    (a29 : PySem.W.nsIn K mainGlobals "spread_of" = some (some (.ref f29))) (l29 : K.lookup f29 = some ⟨oc29, od29, .func (PySem.W.fnOf "spread_of" "spread_of" (defArgs (top_k09 52)) (defBody (top_k09 52)) (defScope (top_k09 52)) .none kV29 dc29 pm29 an29 cd29 ct29), sl29⟩) (c29 : PySem.W.codeIn K cd29 "spread_of" = true) (k29 : PySem.W.keepIn K (.ref f29) = true)
    (a30 : PySem.W.nsIn K mainGlobals "closing" = some (some (.ref f30))) (l30 : K.lookup f30 = some ⟨oc30, od30, .func (PySem.W.fnOf "closing" "closing" (defArgs (top_k09 53)) (defBody (top_k09 53)) (defScope (top_k09 53)) .none kV30 dc30 pm30 an30 cd30 ct30), sl30⟩) (c30 : PySem.W.codeIn K cd30 "closing" = true) (k30 : PySem.W.keepIn K (.ref f30) = true)
    (a31 : PySem.W.nsIn K mainGlobals "sums_of" = some (some (.ref f31))) (l31 : K.lookup f31 = some ⟨oc31, od31, .func (PySem.W.fnOf "sums_of" "sums_of" (defArgs (top_k09 54)) (defBody (top_k09 54)) (defScope (top_k09 54)) .none kV31 dc31 pm31 an31 cd31 ct31), sl31⟩) (c31 : PySem.W.codeIn K cd31 "sums_of" = true) (k31 : PySem.W.keepIn K (.ref f31) = true)
    (a32 : PySem.W.nsIn K mainGlobals "level" = some (some (.ref f32))) (l32 : K.lookup f32 = some ⟨oc32, od32, .func (PySem.W.fnOf "level" "level" (defArgs (top_k09 55)) (defBody (top_k09 55)) (defScope (top_k09 55)) .none kV32 dc32 pm32 an32 cd32 ct32), sl32⟩) (c32 : PySem.W.codeIn K cd32 "level" = true) (k32 : PySem.W.keepIn K (.ref f32) = true)
    (a33 : PySem.W.nsIn K mainGlobals "turn_of" = some (some (.ref f33))) (l33 : K.lookup f33 = some ⟨oc33, od33, .func (PySem.W.fnOf "turn_of" "turn_of" (defArgs (top_k09 56)) (defBody (top_k09 56)) (defScope (top_k09 56)) .none kV33 dc33 pm33 an33 cd33 ct33), sl33⟩) (c33 : PySem.W.codeIn K cd33 "turn_of" = true) (k33 : PySem.W.keepIn K (.ref f33) = true)
    (a34 : PySem.W.nsIn K mainGlobals "left_behind" = some (some (.ref f34))) (l34 : K.lookup f34 = some ⟨oc34, od34, .func (PySem.W.fnOf "left_behind" "left_behind" (defArgs (top_k09 57)) (defBody (top_k09 57)) (defScope (top_k09 57)) .none kV34 dc34 pm34 an34 cd34 ct34), sl34⟩) (c34 : PySem.W.codeIn K cd34 "left_behind" = true) (k34 : PySem.W.keepIn K (.ref f34) = true)
    (a35 : PySem.W.nsIn K mainGlobals "climb" = some (some (.ref f35))) (l35 : K.lookup f35 = some ⟨oc35, od35, .func (PySem.W.fnOf "climb" "climb" (defArgs (top_k09 58)) (defBody (top_k09 58)) (defScope (top_k09 58)) .none kV35 dc35 pm35 an35 cd35 ct35), sl35⟩) (c35 : PySem.W.codeIn K cd35 "climb" = true) (k35 : PySem.W.keepIn K (.ref f35) = true)
    (a36 : PySem.W.nsIn K mainGlobals "ends" = some (some (.ref f36))) (l36 : K.lookup f36 = some ⟨oc36, od36, .func (PySem.W.fnOf "ends" "ends" (defArgs (top_k09 59)) (defBody (top_k09 59)) (defScope (top_k09 59)) .none kV36 dc36 pm36 an36 cd36 ct36), sl36⟩) (c36 : PySem.W.codeIn K cd36 "ends" = true) (k36 : PySem.W.keepIn K (.ref f36) = true)
    (a37 : PySem.W.nsIn K mainGlobals "bounded" = some (some (.ref f37))) (l37 : K.lookup f37 = some ⟨oc37, od37, .func (PySem.W.fnOf "bounded" "bounded" (defArgs (top_k09 60)) (defBody (top_k09 60)) (defScope (top_k09 60)) .none kV37 dc37 pm37 an37 cd37 ct37), sl37⟩) (c37 : PySem.W.codeIn K cd37 "bounded" = true) (k37 : PySem.W.keepIn K (.ref f37) = true)
    (a38 : PySem.W.nsIn K mainGlobals "falling" = some (some (.ref f38))) (l38 : K.lookup f38 = some ⟨oc38, od38, .func (PySem.W.fnOf "falling" "falling" (defArgs (top_k09 61)) (defBody (top_k09 61)) (defScope (top_k09 61)) .none kV38 dc38 pm38 an38 cd38 ct38), sl38⟩) (c38 : PySem.W.codeIn K cd38 "falling" = true) (k38 : PySem.W.keepIn K (.ref f38) = true)
    (a39 : PySem.W.nsIn K mainGlobals "holding" = some (some (.ref f39))) (l39 : K.lookup f39 = some ⟨oc39, od39, .func (PySem.W.fnOf "holding" "holding" (defArgs (top_k09 62)) (defBody (top_k09 62)) (defScope (top_k09 62)) .none kV39 dc39 pm39 an39 cd39 ct39), sl39⟩) (c39 : PySem.W.codeIn K cd39 "holding" = true) (k39 : PySem.W.keepIn K (.ref f39) = true)
    (a40 : PySem.W.nsIn K mainGlobals "is_weights" = some (some (.ref f40))) (l40 : K.lookup f40 = some ⟨oc40, od40, .func (PySem.W.fnOf "is_weights" "is_weights" (defArgs (top_k09 63)) (defBody (top_k09 63)) (defScope (top_k09 63)) .none kV40 dc40 pm40 an40 cd40 ct40), sl40⟩) (c40 : PySem.W.codeIn K cd40 "is_weights" = true) (k40 : PySem.W.keepIn K (.ref f40) = true)
    (a41 : PySem.W.nsIn K mainGlobals "left_by" = some (some (.ref f41))) (l41 : K.lookup f41 = some ⟨oc41, od41, .func (PySem.W.fnOf "left_by" "left_by" (defArgs (top_k09 64)) (defBody (top_k09 64)) (defScope (top_k09 64)) .none kV41 dc41 pm41 an41 cd41 ct41), sl41⟩) (c41 : PySem.W.codeIn K cd41 "left_by" = true) (k41 : PySem.W.keepIn K (.ref f41) = true)
    (a42 : PySem.W.nsIn K mainGlobals "shows_falling" = some (some (.ref f42))) (l42 : K.lookup f42 = some ⟨oc42, od42, .func (PySem.W.fnOf "shows_falling" "shows_falling" (defArgs (top_k09 65)) (defBody (top_k09 65)) (defScope (top_k09 65)) .none kV42 dc42 pm42 an42 cd42 ct42), sl42⟩) (c42 : PySem.W.codeIn K cd42 "shows_falling" = true) (k42 : PySem.W.keepIn K (.ref f42) = true)
    (a43 : PySem.W.nsIn K mainGlobals "shows_holding" = some (some (.ref f43))) (l43 : K.lookup f43 = some ⟨oc43, od43, .func (PySem.W.fnOf "shows_holding" "shows_holding" (defArgs (top_k09 66)) (defBody (top_k09 66)) (defScope (top_k09 66)) .none kV43 dc43 pm43 an43 cd43 ct43), sl43⟩) (c43 : PySem.W.codeIn K cd43 "shows_holding" = true) (k43 : PySem.W.keepIn K (.ref f43) = true)
    (a44 : PySem.W.nsIn K mainGlobals "knot_in" = some (some (.ref f44))) (l44 : K.lookup f44 = some ⟨oc44, od44, .func (PySem.W.fnOf "knot_in" "knot_in" (defArgs (top_k09 68)) (defBody (top_k09 68)) (defScope (top_k09 68)) .none kV44 dc44 pm44 an44 cd44 ct44), sl44⟩) (c44 : PySem.W.codeIn K cd44 "knot_in" = true) (k44 : PySem.W.keepIn K (.ref f44) = true)
    (a45 : PySem.W.nsIn K mainGlobals "knot" = some (some (.ref f45))) (l45 : K.lookup f45 = some ⟨oc45, od45, .func (PySem.W.fnOf "knot" "knot" (defArgs (top_k09 69)) (defBody (top_k09 69)) (defScope (top_k09 69)) .none kV45 dc45 pm45 an45 cd45 ct45), sl45⟩) (c45 : PySem.W.codeIn K cd45 "knot" = true) (k45 : PySem.W.keepIn K (.ref f45) = true)
    (a46 : PySem.W.nsIn K mainGlobals "rising" = some (some (.ref f46))) (l46 : K.lookup f46 = some ⟨oc46, od46, .func (PySem.W.fnOf "rising" "rising" (defArgs (top_k09 70)) (defBody (top_k09 70)) (defScope (top_k09 70)) .none kV46 dc46 pm46 an46 cd46 ct46), sl46⟩) (c46 : PySem.W.codeIn K cd46 "rising" = true) (k46 : PySem.W.keepIn K (.ref f46) = true)
    (a47 : PySem.W.nsIn K mainGlobals "is_numbers" = some (some (.ref f47))) (l47 : K.lookup f47 = some ⟨oc47, od47, .func (PySem.W.fnOf "is_numbers" "is_numbers" (defArgs (top_k09 71)) (defBody (top_k09 71)) (defScope (top_k09 71)) .none kV47 dc47 pm47 an47 cd47 ct47), sl47⟩) (c47 : PySem.W.codeIn K cd47 "is_numbers" = true) (k47 : PySem.W.keepIn K (.ref f47) = true)
    (a48 : PySem.W.nsIn K mainGlobals "is_spread" = some (some (.ref f48))) (l48 : K.lookup f48 = some ⟨oc48, od48, .func (PySem.W.fnOf "is_spread" "is_spread" (defArgs (top_k09 72)) (defBody (top_k09 72)) (defScope (top_k09 72)) .none kV48 dc48 pm48 an48 cd48 ct48), sl48⟩) (c48 : PySem.W.codeIn K cd48 "is_spread" = true) (k48 : PySem.W.keepIn K (.ref f48) = true)
    (a49 : PySem.W.nsIn K mainGlobals "raised" = some (some (.ref f49))) (l49 : K.lookup f49 = some ⟨oc49, od49, .func (PySem.W.fnOf "raised" "raised" (defArgs (top_k09 73)) (defBody (top_k09 73)) (defScope (top_k09 73)) .none kV49 dc49 pm49 an49 cd49 ct49), sl49⟩) (c49 : PySem.W.codeIn K cd49 "raised" = true) (k49 : PySem.W.keepIn K (.ref f49) = true)
    (a50 : PySem.W.nsIn K mainGlobals "line_of" = some (some (.ref f50))) (l50 : K.lookup f50 = some ⟨oc50, od50, .func (PySem.W.fnOf "line_of" "line_of" (defArgs (top_k09 74)) (defBody (top_k09 74)) (defScope (top_k09 74)) .none kV50 dc50 pm50 an50 cd50 ct50), sl50⟩) (c50 : PySem.W.codeIn K cd50 "line_of" = true) (k50 : PySem.W.keepIn K (.ref f50) = true)
    (a51 : PySem.W.nsIn K mainGlobals "gains_of" = some (some (.ref f51))) (l51 : K.lookup f51 = some ⟨oc51, od51, .func (PySem.W.fnOf "gains_of" "gains_of" (defArgs (top_k09 75)) (defBody (top_k09 75)) (defScope (top_k09 75)) .none kV51 dc51 pm51 an51 cd51 ct51), sl51⟩) (c51 : PySem.W.codeIn K cd51 "gains_of" = true) (k51 : PySem.W.keepIn K (.ref f51) = true)
    (a52 : PySem.W.nsIn K mainGlobals "shows_knot" = some (some (.ref f52))) (l52 : K.lookup f52 = some ⟨oc52, od52, .func (PySem.W.fnOf "shows_knot" "shows_knot" (defArgs (top_k09 76)) (defBody (top_k09 76)) (defScope (top_k09 76)) .none kV52 dc52 pm52 an52 cd52 ct52), sl52⟩) (c52 : PySem.W.codeIn K cd52 "shows_knot" = true) (k52 : PySem.W.keepIn K (.ref f52) = true)
    (a53 : PySem.W.nsIn K mainGlobals "shows_rising" = some (some (.ref f53))) (l53 : K.lookup f53 = some ⟨oc53, od53, .func (PySem.W.fnOf "shows_rising" "shows_rising" (defArgs (top_k09 77)) (defBody (top_k09 77)) (defScope (top_k09 77)) .none kV53 dc53 pm53 an53 cd53 ct53), sl53⟩) (c53 : PySem.W.codeIn K cd53 "shows_rising" = true) (k53 : PySem.W.keepIn K (.ref f53) = true)
    (a54 : PySem.W.nsIn K mainGlobals "side_text" = some (some (.ref f54))) (l54 : K.lookup f54 = some ⟨oc54, od54, .func (PySem.W.fnOf "side_text" "side_text" (defArgs (top_k09 79)) (defBody (top_k09 79)) (defScope (top_k09 79)) .none kV54 dc54 pm54 an54 cd54 ct54), sl54⟩) (c54 : PySem.W.codeIn K cd54 "side_text" = true) (k54 : PySem.W.keepIn K (.ref f54) = true)
    (a55 : PySem.W.nsIn K mainGlobals "write_net" = some (some (.ref f55))) (l55 : K.lookup f55 = some ⟨oc55, od55, .func (PySem.W.fnOf "write_net" "write_net" (defArgs (top_k09 80)) (defBody (top_k09 80)) (defScope (top_k09 80)) .none kV55 dc55 pm55 an55 cd55 ct55), sl55⟩) (c55 : PySem.W.codeIn K cd55 "write_net" = true) (k55 : PySem.W.keepIn K (.ref f55) = true)
    (a56 : PySem.W.nsIn K mainGlobals "skip" = some (some (.ref f56))) (l56 : K.lookup f56 = some ⟨oc56, od56, .func (PySem.W.fnOf "skip" "skip" (defArgs (top_k09 81)) (defBody (top_k09 81)) (defScope (top_k09 81)) .none kV56 dc56 pm56 an56 cd56 ct56), sl56⟩) (c56 : PySem.W.codeIn K cd56 "skip" = true) (k56 : PySem.W.keepIn K (.ref f56) = true)
    (a57 : PySem.W.nsIn K mainGlobals "digit" = some (some (.ref f57))) (l57 : K.lookup f57 = some ⟨oc57, od57, .func (PySem.W.fnOf "digit" "digit" (defArgs (top_k09 82)) (defBody (top_k09 82)) (defScope (top_k09 82)) .none kV57 dc57 pm57 an57 cd57 ct57), sl57⟩) (c57 : PySem.W.codeIn K cd57 "digit" = true) (k57 : PySem.W.keepIn K (.ref f57) = true)
    (a58 : PySem.W.nsIn K mainGlobals "rule_at" = some (some (.ref f58))) (l58 : K.lookup f58 = some ⟨oc58, od58, .func (PySem.W.fnOf "rule_at" "rule_at" (defArgs (top_k09 83)) (defBody (top_k09 83)) (defScope (top_k09 83)) .none kV58 dc58 pm58 an58 cd58 ct58), sl58⟩) (c58 : PySem.W.codeIn K cd58 "rule_at" = true) (k58 : PySem.W.keepIn K (.ref f58) = true)
    (a59 : PySem.W.nsIn K mainGlobals "read_net" = some (some (.ref f59))) (l59 : K.lookup f59 = some ⟨oc59, od59, .func (PySem.W.fnOf "read_net" "read_net" (defArgs (top_k09 84)) (defBody (top_k09 84)) (defScope (top_k09 84)) .none kV59 dc59 pm59 an59 cd59 ct59), sl59⟩) (c59 : PySem.W.codeIn K cd59 "read_net" = true) (k59 : PySem.W.keepIn K (.ref f59) = true)
    (a60 : PySem.W.nsIn K mainGlobals "need_row" = some (some (.ref f60))) (l60 : K.lookup f60 = some ⟨oc60, od60, .func (PySem.W.fnOf "need_row" "need_row" (defArgs (top_k09 90)) (defBody (top_k09 90)) (defScope (top_k09 90)) .none kV60 dc60 pm60 an60 cd60 ct60), sl60⟩) (c60 : PySem.W.codeIn K cd60 "need_row" = true) (k60 : PySem.W.keepIn K (.ref f60) = true)
    (a61 : PySem.W.nsIn K mainGlobals "need_both" = some (some (.ref f61))) (l61 : K.lookup f61 = some ⟨oc61, od61, .func (PySem.W.fnOf "need_both" "need_both" (defArgs (top_k09 91)) (defBody (top_k09 91)) (defScope (top_k09 91)) .none kV61 dc61 pm61 an61 cd61 ct61), sl61⟩) (c61 : PySem.W.codeIn K cd61 "need_both" = true) (k61 : PySem.W.keepIn K (.ref f61) = true)
    (a62 : PySem.W.nsIn K mainGlobals "spots" = some (some (.ref f62))) (l62 : K.lookup f62 = some ⟨oc62, od62, .func (PySem.W.fnOf "spots" "spots" (defArgs (top_k09 92)) (defBody (top_k09 92)) (defScope (top_k09 92)) .none kV62 dc62 pm62 an62 cd62 ct62), sl62⟩) (c62 : PySem.W.codeIn K cd62 "spots" = true) (k62 : PySem.W.keepIn K (.ref f62) = true)
    (a63 : PySem.W.nsIn K mainGlobals "can_do" = some (some (.ref f63))) (l63 : K.lookup f63 = some ⟨oc63, od63, .func (PySem.W.fnOf "can_do" "can_do" (defArgs (top_k09 93)) (defBody (top_k09 93)) (defScope (top_k09 93)) .none kV63 dc63 pm63 an63 cd63 ct63), sl63⟩) (c63 : PySem.W.codeIn K cd63 "can_do" = true) (k63 : PySem.W.keepIn K (.ref f63) = true)
    (a64 : PySem.W.nsIn K mainGlobals "changed" = some (some (.ref f64))) (l64 : K.lookup f64 = some ⟨oc64, od64, .func (PySem.W.fnOf "changed" "changed" (defArgs (top_k09 94)) (defBody (top_k09 94)) (defScope (top_k09 94)) .none kV64 dc64 pm64 an64 cd64 ct64), sl64⟩) (c64 : PySem.W.codeIn K cd64 "changed" = true) (k64 : PySem.W.keepIn K (.ref f64) = true)
    (a65 : PySem.W.nsIn K mainGlobals "deeds_in" = some (some (.ref f65))) (l65 : K.lookup f65 = some ⟨oc65, od65, .func (PySem.W.fnOf "deeds_in" "deeds_in" (defArgs (top_k09 95)) (defBody (top_k09 95)) (defScope (top_k09 95)) .none kV65 dc65 pm65 an65 cd65 ct65), sl65⟩) (c65 : PySem.W.codeIn K cd65 "deeds_in" = true) (k65 : PySem.W.keepIn K (.ref f65) = true)
    (a66 : PySem.W.nsIn K mainGlobals "deeds" = some (some (.ref f66))) (l66 : K.lookup f66 = some ⟨oc66, od66, .func (PySem.W.fnOf "deeds" "deeds" (defArgs (top_k09 96)) (defBody (top_k09 96)) (defScope (top_k09 96)) .none kV66 dc66 pm66 an66 cd66 ct66), sl66⟩) (c66 : PySem.W.codeIn K cd66 "deeds" = true) (k66 : PySem.W.keepIn K (.ref f66) = true)
    (a67 : PySem.W.nsIn K mainGlobals "is_deed" = some (some (.ref f67))) (l67 : K.lookup f67 = some ⟨oc67, od67, .func (PySem.W.fnOf "is_deed" "is_deed" (defArgs (top_k09 97)) (defBody (top_k09 97)) (defScope (top_k09 97)) .none kV67 dc67 pm67 an67 cd67 ct67), sl67⟩) (c67 : PySem.W.codeIn K cd67 "is_deed" = true) (k67 : PySem.W.keepIn K (.ref f67) = true)
    (a68 : PySem.W.nsIn K mainGlobals "done" = some (some (.ref f68))) (l68 : K.lookup f68 = some ⟨oc68, od68, .func (PySem.W.fnOf "done" "done" (defArgs (top_k09 98)) (defBody (top_k09 98)) (defScope (top_k09 98)) .none kV68 dc68 pm68 an68 cd68 ct68), sl68⟩) (c68 : PySem.W.codeIn K cd68 "done" = true) (k68 : PySem.W.keepIn K (.ref f68) = true)
    (a69 : PySem.W.nsIn K mainGlobals "after" = some (some (.ref f69))) (l69 : K.lookup f69 = some ⟨oc69, od69, .func (PySem.W.fnOf "after" "after" (defArgs (top_k09 99)) (defBody (top_k09 99)) (defScope (top_k09 99)) .none kV69 dc69 pm69 an69 cd69 ct69), sl69⟩) (c69 : PySem.W.codeIn K cd69 "after" = true) (k69 : PySem.W.keepIn K (.ref f69) = true)
    (a70 : PySem.W.nsIn K mainGlobals "come_in" = some (some (.ref f70))) (l70 : K.lookup f70 = some ⟨oc70, od70, .func (PySem.W.fnOf "come_in" "come_in" (defArgs (top_k09 100)) (defBody (top_k09 100)) (defScope (top_k09 100)) .none kV70 dc70 pm70 an70 cd70 ct70), sl70⟩) (c70 : PySem.W.codeIn K cd70 "come_in" = true) (k70 : PySem.W.keepIn K (.ref f70) = true)
    (a71 : PySem.W.nsIn K mainGlobals "all_come" = some (some (.ref f71))) (l71 : K.lookup f71 = some ⟨oc71, od71, .func (PySem.W.fnOf "all_come" "all_come" (defArgs (top_k09 101)) (defBody (top_k09 101)) (defScope (top_k09 101)) .none kV71 dc71 pm71 an71 cd71 ct71), sl71⟩) (c71 : PySem.W.codeIn K cd71 "all_come" = true) (k71 : PySem.W.keepIn K (.ref f71) = true)
    (a72 : PySem.W.nsIn K mainGlobals "order_in" = some (some (.ref f72))) (l72 : K.lookup f72 = some ⟨oc72, od72, .func (PySem.W.fnOf "order_in" "order_in" (defArgs (top_k09 102)) (defBody (top_k09 102)) (defScope (top_k09 102)) .none kV72 dc72 pm72 an72 cd72 ct72), sl72⟩) (c72 : PySem.W.codeIn K cd72 "order_in" = true) (k72 : PySem.W.keepIn K (.ref f72) = true)
    (a73 : PySem.W.nsIn K mainGlobals "goes_on" = some (some (.ref f73))) (l73 : K.lookup f73 = some ⟨oc73, od73, .func (PySem.W.fnOf "goes_on" "goes_on" (defArgs (top_k09 103)) (defBody (top_k09 103)) (defScope (top_k09 103)) .none kV73 dc73 pm73 an73 cd73 ct73), sl73⟩) (c73 : PySem.W.codeIn K cd73 "goes_on" = true) (k73 : PySem.W.keepIn K (.ref f73) = true)
    (a74 : PySem.W.nsIn K mainGlobals "longest" = some (some (.ref f74))) (l74 : K.lookup f74 = some ⟨oc74, od74, .func (PySem.W.fnOf "longest" "longest" (defArgs (top_k09 104)) (defBody (top_k09 104)) (defScope (top_k09 104)) .none kV74 dc74 pm74 an74 cd74 ct74), sl74⟩) (c74 : PySem.W.codeIn K cd74 "longest" = true) (k74 : PySem.W.keepIn K (.ref f74) = true)
    (a75 : PySem.W.nsIn K mainGlobals "off" = some (some (.ref f75))) (l75 : K.lookup f75 = some ⟨oc75, od75, .func (PySem.W.fnOf "off" "off" (defArgs (top_k09 106)) (defBody (top_k09 106)) (defScope (top_k09 106)) .none kV75 dc75 pm75 an75 cd75 ct75), sl75⟩) (c75 : PySem.W.codeIn K cd75 "off" = true) (k75 : PySem.W.keepIn K (.ref f75) = true)
    (a76 : PySem.W.nsIn K mainGlobals "kept_by" = some (some (.ref f76))) (l76 : K.lookup f76 = some ⟨oc76, od76, .func (PySem.W.fnOf "kept_by" "kept_by" (defArgs (top_k09 107)) (defBody (top_k09 107)) (defScope (top_k09 107)) .none kV76 dc76 pm76 an76 cd76 ct76), sl76⟩) (c76 : PySem.W.codeIn K cd76 "kept_by" = true) (k76 : PySem.W.keepIn K (.ref f76) = true)
    (a77 : PySem.W.nsIn K mainGlobals "kept_sums" = some (some (.ref f77))) (l77 : K.lookup f77 = some ⟨oc77, od77, .func (PySem.W.fnOf "kept_sums" "kept_sums" (defArgs (top_k09 108)) (defBody (top_k09 108)) (defScope (top_k09 108)) .none kV77 dc77 pm77 an77 cd77 ct77), sl77⟩) (c77 : PySem.W.codeIn K cd77 "kept_sums" = true) (k77 : PySem.W.keepIn K (.ref f77) = true)
    (a78 : PySem.W.nsIn K mainGlobals "kept_at_places" = some (some (.ref f78))) (l78 : K.lookup f78 = some ⟨oc78, od78, .func (PySem.W.fnOf "kept_at_places" "kept_at_places" (defArgs (top_k09 109)) (defBody (top_k09 109)) (defScope (top_k09 109)) .none kV78 dc78 pm78 an78 cd78 ct78), sl78⟩) (c78 : PySem.W.codeIn K cd78 "kept_at_places" = true) (k78 : PySem.W.keepIn K (.ref f78) = true)
    (a79 : PySem.W.nsIn K mainGlobals "can_fill" = some (some (.ref f79))) (l79 : K.lookup f79 = some ⟨oc79, od79, .func (PySem.W.fnOf "can_fill" "can_fill" (defArgs (top_k09 110)) (defBody (top_k09 110)) (defScope (top_k09 110)) .none kV79 dc79 pm79 an79 cd79 ct79), sl79⟩) (c79 : PySem.W.codeIn K cd79 "can_fill" = true) (k79 : PySem.W.keepIn K (.ref f79) = true)
    (a80 : PySem.W.nsIn K mainGlobals "_law_alike" = some (some (.ref f80))) (l80 : K.lookup f80 = some ⟨oc80, od80, .func (PySem.W.fnOf "_law_alike" "_law_alike" (defArgs (top_k09 112)) (defBody (top_k09 112)) (defScope (top_k09 112)) .none kV80 dc80 pm80 an80 cd80 ct80), sl80⟩) (c80 : PySem.W.codeIn K cd80 "_law_alike" = true) (k80 : PySem.W.keepIn K (.ref f80) = true)
    (aL : PySem.W.nsIn K mainGlobals "law" = some (some (.ref fL))) (lL : K.lookup fL = some ⟨ocL, odL, .func (PySem.W.fnOf "law" "law" (defArgs (top_k09 113)) (defBody (top_k09 113)) (defScope (top_k09 113)) .none kVL dcL pmL anL cdL ctL), slL⟩) (cL : PySem.W.codeIn K cdL "law" = true) (kL : PySem.W.keepIn K (.ref fL) = true)
    (z0 : PySem.W.nsIn K mainGlobals "isinstance" = some none)
    (z1 : PySem.W.nsIn K mainGlobals "int" = some none)
    (z2 : PySem.W.nsIn K mainGlobals "bool" = some none)
    (z3 : PySem.W.nsIn K mainGlobals "tuple" = some none)
    (z4 : PySem.W.nsIn K mainGlobals "str" = some none)
    (z5 : PySem.W.nsIn K mainGlobals "list" = some none)
    (z6 : PySem.W.nsIn K mainGlobals "len" = some none)
    (z7 : PySem.W.nsIn K mainGlobals "abs" = some none)
    (z8 : PySem.W.nsIn K mainGlobals "sum" = some none)
    (z9 : PySem.W.nsIn K mainGlobals "max" = some none)
    (z10 : PySem.W.nsIn K mainGlobals "min" = some none)
    (z11 : PySem.W.nsIn K mainGlobals "sorted" = some none)
    (z12 : PySem.W.nsIn K mainGlobals "set" = some none)
    (z13 : PySem.W.nsIn K mainGlobals "range" = some none)
    (z14 : PySem.W.nsIn K mainGlobals "enumerate" = some none)
    (z15 : PySem.W.nsIn K mainGlobals "zip" = some none)
    (z16 : PySem.W.nsIn K mainGlobals "dict" = some none)
    (n0 : PySem.W.nsIn K mainGlobals "MOST_FILLED" = some (some (.int (99) tk0)))
    (n1 : PySem.W.nsIn K mainGlobals "MOST_LONG" = some (some (.int (3) tk1)))
    (n2 : PySem.W.nsIn K mainGlobals "MOST_PLACES" = some (some (.int (6) tk2)))
    (n3 : PySem.W.nsIn K mainGlobals "MOST_POOLS" = some (some (.int (4) tk3)))
    (n4 : PySem.W.nsIn K mainGlobals "MOST_RULES" = some (some (.int (8) tk4)))
    (n5 : PySem.W.nsIn K mainGlobals "MOST_RUN" = some (some (.int (200) tk5)))
    (n6 : PySem.W.nsIn K mainGlobals "MOST_TOKENS" = some (some (.int (9) tk6)))
    (n7 : PySem.W.nsIn K mainGlobals "MOST_WALKED" = some (some (.int (1500) tk7)))
    (n8 : PySem.W.nsIn K mainGlobals "WORDS" = some (some (.ref ta8)))
    (m8 : K.lookup ta8 = some ⟨.type "tuple", td8, .seq #[.str "early" tj8_0, .str "even" tj8_1, .str "late" tj8_2] tn8, ts8⟩) :
    ∃ fd : FuncData, (∀ (s : Shared) (v : Value), BindsTo s fd ⟨[v], []⟩ [("script", v)]) ∧ ∀ base : Heap, K.In base → base.Ns mainGlobals mg → FnOk l.prog w K mg base CX0 21 fa fd ["script"] (spLaw K) := by
  have e := hfa.symm.trans (PySem.W.mg_of X G aL)
  cases e
  have M : ModT K mg tops_k09 top_k09 cs_k09 := ⟨⟨⟨f0, PySem.W.mg_of X G a0, _, fun_mk (st := top_k09 1) l0 c0 k0⟩, ⟨f1, PySem.W.mg_of X G a1, _, fun_mk (st := top_k09 2) l1 c1 k1⟩, ⟨f2, PySem.W.mg_of X G a2, _, fun_mk (st := top_k09 3) l2 c2 k2⟩, ⟨f3, PySem.W.mg_of X G a3, _, fun_mk (st := top_k09 4) l3 c3 k3⟩, ⟨f4, PySem.W.mg_of X G a4, _, fun_mk (st := top_k09 5) l4 c4 k4⟩, ⟨f5, PySem.W.mg_of X G a5, _, fun_mk (st := top_k09 6) l5 c5 k5⟩, ⟨f6, PySem.W.mg_of X G a6, _, fun_mk (st := top_k09 7) l6 c6 k6⟩, ⟨f7, PySem.W.mg_of X G a7, _, fun_mk (st := top_k09 8) l7 c7 k7⟩, ⟨f8, PySem.W.mg_of X G a8, _, fun_mk (st := top_k09 9) l8 c8 k8⟩, ⟨f9, PySem.W.mg_of X G a9, _, fun_mk (st := top_k09 11) l9 c9 k9⟩, ⟨f10, PySem.W.mg_of X G a10, _, fun_mk (st := top_k09 12) l10 c10 k10⟩, ⟨f11, PySem.W.mg_of X G a11, _, fun_mk (st := top_k09 13) l11 c11 k11⟩, ⟨f12, PySem.W.mg_of X G a12, _, fun_mk (st := top_k09 15) l12 c12 k12⟩, ⟨f13, PySem.W.mg_of X G a13, _, fun_mk (st := top_k09 16) l13 c13 k13⟩, ⟨f14, PySem.W.mg_of X G a14, _, fun_mk (st := top_k09 34) l14 c14 k14⟩, ⟨f15, PySem.W.mg_of X G a15, _, fun_mk (st := top_k09 35) l15 c15 k15⟩, ⟨f16, PySem.W.mg_of X G a16, _, fun_mk (st := top_k09 36) l16 c16 k16⟩, ⟨f17, PySem.W.mg_of X G a17, _, fun_mk (st := top_k09 37) l17 c17 k17⟩, ⟨f18, PySem.W.mg_of X G a18, _, fun_mk (st := top_k09 38) l18 c18 k18⟩, ⟨f19, PySem.W.mg_of X G a19, _, fun_mk (st := top_k09 39) l19 c19 k19⟩, ⟨f20, PySem.W.mg_of X G a20, _, fun_mk (st := top_k09 40) l20 c20 k20⟩, ⟨f21, PySem.W.mg_of X G a21, _, fun_mk (st := top_k09 41) l21 c21 k21⟩, ⟨f22, PySem.W.mg_of X G a22, _, fun_mk (st := top_k09 42) l22 c22 k22⟩, ⟨f23, PySem.W.mg_of X G a23, _, fun_mk (st := top_k09 44) l23 c23 k23⟩, ⟨f24, PySem.W.mg_of X G a24, _, fun_mk (st := top_k09 47) l24 c24 k24⟩, ⟨f25, PySem.W.mg_of X G a25, _, fun_mk (st := top_k09 48) l25 c25 k25⟩, ⟨f26, PySem.W.mg_of X G a26, _, fun_mk (st := top_k09 49) l26 c26 k26⟩, ⟨f27, PySem.W.mg_of X G a27, _, fun_mk (st := top_k09 50) l27 c27 k27⟩, ⟨f28, PySem.W.mg_of X G a28, _, fun_mk (st := top_k09 51) l28 c28 k28⟩, ⟨f29, PySem.W.mg_of X G a29, _, fun_mk (st := top_k09 52) l29 c29 k29⟩, ⟨f30, PySem.W.mg_of X G a30, _, fun_mk (st := top_k09 53) l30 c30 k30⟩, ⟨f31, PySem.W.mg_of X G a31, _, fun_mk (st := top_k09 54) l31 c31 k31⟩, ⟨f32, PySem.W.mg_of X G a32, _, fun_mk (st := top_k09 55) l32 c32 k32⟩, ⟨f33, PySem.W.mg_of X G a33, _, fun_mk (st := top_k09 56) l33 c33 k33⟩, ⟨f34, PySem.W.mg_of X G a34, _, fun_mk (st := top_k09 57) l34 c34 k34⟩, ⟨f35, PySem.W.mg_of X G a35, _, fun_mk (st := top_k09 58) l35 c35 k35⟩, ⟨f36, PySem.W.mg_of X G a36, _, fun_mk (st := top_k09 59) l36 c36 k36⟩, ⟨f37, PySem.W.mg_of X G a37, _, fun_mk (st := top_k09 60) l37 c37 k37⟩, ⟨f38, PySem.W.mg_of X G a38, _, fun_mk (st := top_k09 61) l38 c38 k38⟩, ⟨f39, PySem.W.mg_of X G a39, _, fun_mk (st := top_k09 62) l39 c39 k39⟩, ⟨f40, PySem.W.mg_of X G a40, _, fun_mk (st := top_k09 63) l40 c40 k40⟩, ⟨f41, PySem.W.mg_of X G a41, _, fun_mk (st := top_k09 64) l41 c41 k41⟩, ⟨f42, PySem.W.mg_of X G a42, _, fun_mk (st := top_k09 65) l42 c42 k42⟩, ⟨f43, PySem.W.mg_of X G a43, _, fun_mk (st := top_k09 66) l43 c43 k43⟩, ⟨f44, PySem.W.mg_of X G a44, _, fun_mk (st := top_k09 68) l44 c44 k44⟩, ⟨f45, PySem.W.mg_of X G a45, _, fun_mk (st := top_k09 69) l45 c45 k45⟩, ⟨f46, PySem.W.mg_of X G a46, _, fun_mk (st := top_k09 70) l46 c46 k46⟩, ⟨f47, PySem.W.mg_of X G a47, _, fun_mk (st := top_k09 71) l47 c47 k47⟩, ⟨f48, PySem.W.mg_of X G a48, _, fun_mk (st := top_k09 72) l48 c48 k48⟩, ⟨f49, PySem.W.mg_of X G a49, _, fun_mk (st := top_k09 73) l49 c49 k49⟩, ⟨f50, PySem.W.mg_of X G a50, _, fun_mk (st := top_k09 74) l50 c50 k50⟩, ⟨f51, PySem.W.mg_of X G a51, _, fun_mk (st := top_k09 75) l51 c51 k51⟩, ⟨f52, PySem.W.mg_of X G a52, _, fun_mk (st := top_k09 76) l52 c52 k52⟩, ⟨f53, PySem.W.mg_of X G a53, _, fun_mk (st := top_k09 77) l53 c53 k53⟩, ⟨f54, PySem.W.mg_of X G a54, _, fun_mk (st := top_k09 79) l54 c54 k54⟩, ⟨f55, PySem.W.mg_of X G a55, _, fun_mk (st := top_k09 80) l55 c55 k55⟩, ⟨f56, PySem.W.mg_of X G a56, _, fun_mk (st := top_k09 81) l56 c56 k56⟩, ⟨f57, PySem.W.mg_of X G a57, _, fun_mk (st := top_k09 82) l57 c57 k57⟩, ⟨f58, PySem.W.mg_of X G a58, _, fun_mk (st := top_k09 83) l58 c58 k58⟩, ⟨f59, PySem.W.mg_of X G a59, _, fun_mk (st := top_k09 84) l59 c59 k59⟩, ⟨f60, PySem.W.mg_of X G a60, _, fun_mk (st := top_k09 90) l60 c60 k60⟩, ⟨f61, PySem.W.mg_of X G a61, _, fun_mk (st := top_k09 91) l61 c61 k61⟩, ⟨f62, PySem.W.mg_of X G a62, _, fun_mk (st := top_k09 92) l62 c62 k62⟩, ⟨f63, PySem.W.mg_of X G a63, _, fun_mk (st := top_k09 93) l63 c63 k63⟩, ⟨f64, PySem.W.mg_of X G a64, _, fun_mk (st := top_k09 94) l64 c64 k64⟩, ⟨f65, PySem.W.mg_of X G a65, _, fun_mk (st := top_k09 95) l65 c65 k65⟩, ⟨f66, PySem.W.mg_of X G a66, _, fun_mk (st := top_k09 96) l66 c66 k66⟩, ⟨f67, PySem.W.mg_of X G a67, _, fun_mk (st := top_k09 97) l67 c67 k67⟩, ⟨f68, PySem.W.mg_of X G a68, _, fun_mk (st := top_k09 98) l68 c68 k68⟩, ⟨f69, PySem.W.mg_of X G a69, _, fun_mk (st := top_k09 99) l69 c69 k69⟩, ⟨f70, PySem.W.mg_of X G a70, _, fun_mk (st := top_k09 100) l70 c70 k70⟩, ⟨f71, PySem.W.mg_of X G a71, _, fun_mk (st := top_k09 101) l71 c71 k71⟩, ⟨f72, PySem.W.mg_of X G a72, _, fun_mk (st := top_k09 102) l72 c72 k72⟩, ⟨f73, PySem.W.mg_of X G a73, _, fun_mk (st := top_k09 103) l73 c73 k73⟩, ⟨f74, PySem.W.mg_of X G a74, _, fun_mk (st := top_k09 104) l74 c74 k74⟩, ⟨f75, PySem.W.mg_of X G a75, _, fun_mk (st := top_k09 106) l75 c75 k75⟩, ⟨f76, PySem.W.mg_of X G a76, _, fun_mk (st := top_k09 107) l76 c76 k76⟩, ⟨f77, PySem.W.mg_of X G a77, _, fun_mk (st := top_k09 108) l77 c77 k77⟩, ⟨f78, PySem.W.mg_of X G a78, _, fun_mk (st := top_k09 109) l78 c78 k78⟩, ⟨f79, PySem.W.mg_of X G a79, _, fun_mk (st := top_k09 110) l79 c79 k79⟩, ⟨f80, PySem.W.mg_of X G a80, _, fun_mk (st := top_k09 112) l80 c80 k80⟩, trivial⟩, ⟨fun f fd F => bn_k09_0 F, fun f fd F => bn_k09_1 F, fun f fd F => bn_k09_2 F, fun f fd F => bn_k09_3 F, fun f fd F => bn_k09_4 F, fun f fd F => bn_k09_5 F, fun f fd F => bn_k09_6 F, fun f fd F => bn_k09_7 F, fun f fd F => bn_k09_8 F, fun f fd F => bn_k09_9 F, fun f fd F => bn_k09_10 F, fun f fd F => bn_k09_11 F, fun f fd F => bn_k09_12 F, fun f fd F => bn_k09_13 F, fun f fd F => bn_k09_14 F, fun f fd F => bn_k09_15 F, fun f fd F => bn_k09_16 F, fun f fd F => bn_k09_17 F, fun f fd F => bn_k09_18 F, fun f fd F => bn_k09_19 F, fun f fd F => bn_k09_20 F, fun f fd F => bn_k09_21 F, fun f fd F => bn_k09_22 F, fun f fd F => bn_k09_23 F, fun f fd F => bn_k09_24 F, fun f fd F => bn_k09_25 F, fun f fd F => bn_k09_26 F, fun f fd F => bn_k09_27 F, fun f fd F => bn_k09_28 F, fun f fd F => bn_k09_29 F, fun f fd F => bn_k09_30 F, fun f fd F => bn_k09_31 F, fun f fd F => bn_k09_32 F, fun f fd F => bn_k09_33 F, fun f fd F => bn_k09_34 F, fun f fd F => bn_k09_35 F, fun f fd F => bn_k09_36 F, fun f fd F => bn_k09_37 F, fun f fd F => bn_k09_38 F, fun f fd F => bn_k09_39 F, fun f fd F => bn_k09_40 F, fun f fd F => bn_k09_41 F, fun f fd F => bn_k09_42 F, fun f fd F => bn_k09_43 F, fun f fd F => bn_k09_44 F, fun f fd F => bn_k09_45 F, fun f fd F => bn_k09_46 F, fun f fd F => bn_k09_47 F, fun f fd F => bn_k09_48 F, fun f fd F => bn_k09_49 F, fun f fd F => bn_k09_50 F, fun f fd F => bn_k09_51 F, fun f fd F => bn_k09_52 F, fun f fd F => bn_k09_53 F, fun f fd F => bn_k09_54 F, fun f fd F => bn_k09_55 F, fun f fd F => bn_k09_56 F, fun f fd F => bn_k09_57 F, fun f fd F => bn_k09_58 F, fun f fd F => bn_k09_59 F, fun f fd F => bn_k09_60 F, fun f fd F => bn_k09_61 F, fun f fd F => bn_k09_62 F, fun f fd F => bn_k09_63 F, fun f fd F => bn_k09_64 F, fun f fd F => bn_k09_65 F, fun f fd F => bn_k09_66 F, fun f fd F => bn_k09_67 F, fun f fd F => bn_k09_68 F, fun f fd F => bn_k09_69 F, fun f fd F => bn_k09_70 F, fun f fd F => bn_k09_71 F, fun f fd F => bn_k09_72 F, fun f fd F => bn_k09_73 F, fun f fd F => bn_k09_74 F, fun f fd F => bn_k09_75 F, fun f fd F => bn_k09_76 F, fun f fd F => bn_k09_77 F, fun f fd F => bn_k09_78 F, fun f fd F => bn_k09_79 F, fun f fd F => bn_k09_80 F, trivial⟩, ⟨PySem.W.mg_none_of X G z0, PySem.W.mg_none_of X G z1, PySem.W.mg_none_of X G z2, PySem.W.mg_none_of X G z3, PySem.W.mg_none_of X G z4, PySem.W.mg_none_of X G z5, PySem.W.mg_none_of X G z6, PySem.W.mg_none_of X G z7, PySem.W.mg_none_of X G z8, PySem.W.mg_none_of X G z9, PySem.W.mg_none_of X G z10, PySem.W.mg_none_of X G z11, PySem.W.mg_none_of X G z12, PySem.W.mg_none_of X G z13, PySem.W.mg_none_of X G z14, PySem.W.mg_none_of X G z15, PySem.W.mg_none_of X G z16, trivial⟩, ⟨⟨_, (V.int (99)), PySem.W.mg_of X G n0, ⟨_, rfl⟩, fun c F _ => by simp only [RelD]⟩, ⟨_, (V.int (3)), PySem.W.mg_of X G n1, ⟨_, rfl⟩, fun c F _ => by simp only [RelD]⟩, ⟨_, (V.int (6)), PySem.W.mg_of X G n2, ⟨_, rfl⟩, fun c F _ => by simp only [RelD]⟩, ⟨_, (V.int (4)), PySem.W.mg_of X G n3, ⟨_, rfl⟩, fun c F _ => by simp only [RelD]⟩, ⟨_, (V.int (8)), PySem.W.mg_of X G n4, ⟨_, rfl⟩, fun c F _ => by simp only [RelD]⟩, ⟨_, (V.int (200)), PySem.W.mg_of X G n5, ⟨_, rfl⟩, fun c F _ => by simp only [RelD]⟩, ⟨_, (V.int (9)), PySem.W.mg_of X G n6, ⟨_, rfl⟩, fun c F _ => by simp only [RelD]⟩, ⟨_, (V.int (1500)), PySem.W.mg_of X G n7, ⟨_, rfl⟩, fun c F _ => by simp only [RelD]⟩, ⟨.ref ta8, V.ref ta8, PySem.W.mg_of X G n8, rfl, fun c F hc => by simp only [RelD, RelDs]; exact ⟨ta8, [(V.str "early"), (V.str "even"), (V.str "late")], rfl, .inr ⟨⟨.type "tuple", td8, .seq #[.str "early" tj8_0, .str "even" tj8_1, .str "late" tj8_2] tn8, ts8⟩, #[.str "early" tj8_0, .str "even" tj8_1, .str "late" tj8_2], tn8, by rw [hc]; exact m8, rfl, rfl, by show 3 ≤ sizeLine; rw [sizeLine_eq]; decide, (.cons ⟨_, rfl⟩ (.cons ⟨_, rfl⟩ (.cons ⟨_, rfl⟩ .nil)))⟩, by simp only [RelDs, RelD]; exact ⟨⟨trivial, by decide +kernel, by decide +kernel⟩, ⟨trivial, by decide +kernel, by decide +kernel⟩, ⟨trivial, by decide +kernel, by decide +kernel⟩, trivial⟩⟩⟩, trivial⟩, nd_k09⟩
  exact ⟨PySem.W.fnOf "law" "law" (defArgs (top_k09 113)) (defBody (top_k09 113)) (defScope (top_k09 113)) .none kVL dcL pmL anL cdL ctL, fun s v => .of_eq rfl, fun base _ _ =>
    law_ok (n := 20) (d := d_law_7) (N := ["script", "row", "on", "grow", "turn", "found", "due", "spread", "back", "pair"]) whP_ok M chk_k09 (fun_mk (st := top_k09 113) lL cL kL) rfl (by decide +kernel) rfl rfl rfl (by decide +kernel) (by decide +kernel) (by decide +kernel) hev_k09⟩
theorem walk_k09 {l : PySem.W.OpenLaw} {q : Program} {loose : List Str} {XP : (Str → Option Value) → Heap → Prop} {YP : World → Heap → Prop} {d : DefRec} {K : Params → PySem.W.Frag} (hn : l.most = some 63) (hdf : d.params.defaults = [])
    (hY : ∀ (w : World) (h : Heap), YP w h → (K w.params).In h)
    (F : ∀ (w : World) (mg : Str → Option Value) (fa : Addr) (h : Heap), (K w.params).In h → h.Ns mainGlobals mg → mg d.name = some (.ref fa) →
      ∃ fd : FuncData, (∀ (s : Shared) (u : Value), BindsTo s fd ⟨[u], []⟩ [("script", u)]) ∧ ∀ base : Heap, (K w.params).In base → base.Ns mainGlobals mg → FnOk l.prog w (K w.params) mg base CX0 21 fa fd ["script"] (spLaw (K w.params))) :
    PySem.W.WalkO q loose XP YP l.row.toRowW d [] (fun f vs => PySem.call f vs) :=
  L2.walk_ofB (n := 63) (k := 21) (x := "script") (CX := fun _ => CX0) (sp := fun w => spLaw (K w.params)) hn (by decide) hdf ⟨rfl, by decide, by decide⟩ hY F (fun _ _ a ns hl hb _ hS => ⟨a, ns, rfl, hS, hl, hb, fun _ => rfl⟩) fun _ _ _ _ _ z => z
end Pu

open PySem PySem.W PyProof.Rows in
set_option maxRecDepth 100000 in
set_option maxHeartbeats 0 in
theorem PySem.Challenge.cw_poolrows_k09_known_nets_holds : PySem.Challenge.rw_poolrows_k09_known_nets.Holds := by
  w_on; o_law; k_head; (case hw => w_witness2)
  k_fill
  refine Pu.walk_k09 (l := PySem.Challenge.rw_poolrows_k09_known_nets) rfl rfl (fun w h Y => PySem.W.kIn_of Y) ?F
  case F =>
    intro w mg fa h KX G hmg
    refine' Pu.all_k09 KX G hmg ?a0 ?l0 ?c0 ?k0 ?a1 ?l1 ?c1 ?k1 ?a2 ?l2 ?c2 ?k2 ?a3 ?l3 ?c3 ?k3 ?a4 ?l4 ?c4 ?k4 ?a5 ?l5 ?c5 ?k5 ?a6 ?l6 ?c6 ?k6 ?a7 ?l7 ?c7 ?k7 ?a8 ?l8 ?c8 ?k8 ?a9 ?l9 ?c9 ?k9 ?a10 ?l10 ?c10 ?k10 ?a11 ?l11 ?c11 ?k11 ?a12 ?l12 ?c12 ?k12 ?a13 ?l13 ?c13 ?k13 ?a14 ?l14 ?c14 ?k14 ?a15 ?l15 ?c15 ?k15 ?a16 ?l16 ?c16 ?k16 ?a17 ?l17 ?c17 ?k17 ?a18 ?l18 ?c18 ?k18 ?a19 ?l19 ?c19 ?k19 ?a20 ?l20 ?c20 ?k20 ?a21 ?l21 ?c21 ?k21 ?a22 ?l22 ?c22 ?k22 ?a23 ?l23 ?c23 ?k23 ?a24 ?l24 ?c24 ?k24 ?a25 ?l25 ?c25 ?k25 ?a26 ?l26 ?c26 ?k26 ?a27 ?l27 ?c27 ?k27 ?a28 ?l28 ?c28 ?k28 ?a29 ?l29 ?c29 ?k29 ?a30 ?l30 ?c30 ?k30 ?a31 ?l31 ?c31 ?k31 ?a32 ?l32 ?c32 ?k32 ?a33 ?l33 ?c33 ?k33 ?a34 ?l34 ?c34 ?k34 ?a35 ?l35 ?c35 ?k35 ?a36 ?l36 ?c36 ?k36 ?a37 ?l37 ?c37 ?k37 ?a38 ?l38 ?c38 ?k38 ?a39 ?l39 ?c39 ?k39 ?a40 ?l40 ?c40 ?k40 ?a41 ?l41 ?c41 ?k41 ?a42 ?l42 ?c42 ?k42 ?a43 ?l43 ?c43 ?k43 ?a44 ?l44 ?c44 ?k44 ?a45 ?l45 ?c45 ?k45 ?a46 ?l46 ?c46 ?k46 ?a47 ?l47 ?c47 ?k47 ?a48 ?l48 ?c48 ?k48 ?a49 ?l49 ?c49 ?k49 ?a50 ?l50 ?c50 ?k50 ?a51 ?l51 ?c51 ?k51 ?a52 ?l52 ?c52 ?k52 ?a53 ?l53 ?c53 ?k53 ?a54 ?l54 ?c54 ?k54 ?a55 ?l55 ?c55 ?k55 ?a56 ?l56 ?c56 ?k56 ?a57 ?l57 ?c57 ?k57 ?a58 ?l58 ?c58 ?k58 ?a59 ?l59 ?c59 ?k59 ?a60 ?l60 ?c60 ?k60 ?a61 ?l61 ?c61 ?k61 ?a62 ?l62 ?c62 ?k62 ?a63 ?l63 ?c63 ?k63 ?a64 ?l64 ?c64 ?k64 ?a65 ?l65 ?c65 ?k65 ?a66 ?l66 ?c66 ?k66 ?a67 ?l67 ?c67 ?k67 ?a68 ?l68 ?c68 ?k68 ?a69 ?l69 ?c69 ?k69 ?a70 ?l70 ?c70 ?k70 ?a71 ?l71 ?c71 ?k71 ?a72 ?l72 ?c72 ?k72 ?a73 ?l73 ?c73 ?k73 ?a74 ?l74 ?c74 ?k74 ?a75 ?l75 ?c75 ?k75 ?a76 ?l76 ?c76 ?k76 ?a77 ?l77 ?c77 ?k77 ?a78 ?l78 ?c78 ?k78 ?a79 ?l79 ?c79 ?k79 ?a80 ?l80 ?c80 ?k80 ?aL ?lL ?cL ?kL ?z0 ?z1 ?z2 ?z3 ?z4 ?z5 ?z6 ?z7 ?z8 ?z9 ?z10 ?z11 ?z12 ?z13 ?z14 ?z15 ?z16 ?n0 ?n1 ?n2 ?n3 ?n4 ?n5 ?n6 ?n7 ?n8 ?m8
    (case a0 => k_is)
    (case l0 => k_is)
    (case c0 => k_is)
    (case k0 => k_is)
    (case a1 => k_is)
    (case l1 => k_is)
    (case c1 => k_is)
    (case k1 => k_is)
    (case a2 => k_is)
    (case l2 => k_is)
    (case c2 => k_is)
    (case k2 => k_is)
    (case a3 => k_is)
    (case l3 => k_is)
    (case c3 => k_is)
    (case k3 => k_is)
    (case a4 => k_is)
    (case l4 => k_is)
    (case c4 => k_is)
    (case k4 => k_is)
    (case a5 => k_is)
    (case l5 => k_is)
    (case c5 => k_is)
    (case k5 => k_is)
    (case a6 => k_is)
    (case l6 => k_is)
    (case c6 => k_is)
    (case k6 => k_is)
    (case a7 => k_is)
    (case l7 => k_is)
    (case c7 => k_is)
    (case k7 => k_is)
    (case a8 => k_is)
    (case l8 => k_is)
    (case c8 => k_is)
    (case k8 => k_is)
    (case a9 => k_is)
    (case l9 => k_is)
    (case c9 => k_is)
    (case k9 => k_is)
    (case a10 => k_is)
    (case l10 => k_is)
    (case c10 => k_is)
    (case k10 => k_is)
    (case a11 => k_is)
    (case l11 => k_is)
    (case c11 => k_is)
    (case k11 => k_is)
    (case a12 => k_is)
    (case l12 => k_is)
    (case c12 => k_is)
    (case k12 => k_is)
    (case a13 => k_is)
    (case l13 => k_is)
    (case c13 => k_is)
    (case k13 => k_is)
    (case a14 => k_is)
    (case l14 => k_is)
    (case c14 => k_is)
    (case k14 => k_is)
    (case a15 => k_is)
    (case l15 => k_is)
    (case c15 => k_is)
    (case k15 => k_is)
    (case a16 => k_is)
    (case l16 => k_is)
    (case c16 => k_is)
    (case k16 => k_is)
    (case a17 => k_is)
    (case l17 => k_is)
    (case c17 => k_is)
    (case k17 => k_is)
    (case a18 => k_is)
    (case l18 => k_is)
    (case c18 => k_is)
    (case k18 => k_is)
    (case a19 => k_is)
    (case l19 => k_is)
    (case c19 => k_is)
    (case k19 => k_is)
    (case a20 => k_is)
    (case l20 => k_is)
    (case c20 => k_is)
    (case k20 => k_is)
    (case a21 => k_is)
    (case l21 => k_is)
    (case c21 => k_is)
    (case k21 => k_is)
    (case a22 => k_is)
    (case l22 => k_is)
    (case c22 => k_is)
    (case k22 => k_is)
    (case a23 => k_is)
    (case l23 => k_is)
    (case c23 => k_is)
    (case k23 => k_is)
    (case a24 => k_is)
    (case l24 => k_is)
    (case c24 => k_is)
    (case k24 => k_is)
    (case a25 => k_is)
    (case l25 => k_is)
    (case c25 => k_is)
    (case k25 => k_is)
    (case a26 => k_is)
    (case l26 => k_is)
    (case c26 => k_is)
    (case k26 => k_is)
    (case a27 => k_is)
    (case l27 => k_is)
    (case c27 => k_is)
    (case k27 => k_is)
    (case a28 => k_is)
    (case l28 => k_is)
    (case c28 => k_is)
    (case k28 => k_is)
    (case a29 => k_is)
    (case l29 => k_is)
    (case c29 => k_is)
    (case k29 => k_is)
    (case a30 => k_is)
    (case l30 => k_is)
    (case c30 => k_is)
    (case k30 => k_is)
    (case a31 => k_is)
    (case l31 => k_is)
    (case c31 => k_is)
    (case k31 => k_is)
    (case a32 => k_is)
    (case l32 => k_is)
    (case c32 => k_is)
    (case k32 => k_is)
    (case a33 => k_is)
    (case l33 => k_is)
    (case c33 => k_is)
    (case k33 => k_is)
    (case a34 => k_is)
    (case l34 => k_is)
    (case c34 => k_is)
    (case k34 => k_is)
    (case a35 => k_is)
    (case l35 => k_is)
    (case c35 => k_is)
    (case k35 => k_is)
    (case a36 => k_is)
    (case l36 => k_is)
    (case c36 => k_is)
    (case k36 => k_is)
    (case a37 => k_is)
    (case l37 => k_is)
    (case c37 => k_is)
    (case k37 => k_is)
    (case a38 => k_is)
    (case l38 => k_is)
    (case c38 => k_is)
    (case k38 => k_is)
    (case a39 => k_is)
    (case l39 => k_is)
    (case c39 => k_is)
    (case k39 => k_is)
    (case a40 => k_is)
    (case l40 => k_is)
    (case c40 => k_is)
    (case k40 => k_is)
    (case a41 => k_is)
    (case l41 => k_is)
    (case c41 => k_is)
    (case k41 => k_is)
    (case a42 => k_is)
    (case l42 => k_is)
    (case c42 => k_is)
    (case k42 => k_is)
    (case a43 => k_is)
    (case l43 => k_is)
    (case c43 => k_is)
    (case k43 => k_is)
    (case a44 => k_is)
    (case l44 => k_is)
    (case c44 => k_is)
    (case k44 => k_is)
    (case a45 => k_is)
    (case l45 => k_is)
    (case c45 => k_is)
    (case k45 => k_is)
    (case a46 => k_is)
    (case l46 => k_is)
    (case c46 => k_is)
    (case k46 => k_is)
    (case a47 => k_is)
    (case l47 => k_is)
    (case c47 => k_is)
    (case k47 => k_is)
    (case a48 => k_is)
    (case l48 => k_is)
    (case c48 => k_is)
    (case k48 => k_is)
    (case a49 => k_is)
    (case l49 => k_is)
    (case c49 => k_is)
    (case k49 => k_is)
    (case a50 => k_is)
    (case l50 => k_is)
    (case c50 => k_is)
    (case k50 => k_is)
    (case a51 => k_is)
    (case l51 => k_is)
    (case c51 => k_is)
    (case k51 => k_is)
    (case a52 => k_is)
    (case l52 => k_is)
    (case c52 => k_is)
    (case k52 => k_is)
    (case a53 => k_is)
    (case l53 => k_is)
    (case c53 => k_is)
    (case k53 => k_is)
    (case a54 => k_is)
    (case l54 => k_is)
    (case c54 => k_is)
    (case k54 => k_is)
    (case a55 => k_is)
    (case l55 => k_is)
    (case c55 => k_is)
    (case k55 => k_is)
    (case a56 => k_is)
    (case l56 => k_is)
    (case c56 => k_is)
    (case k56 => k_is)
    (case a57 => k_is)
    (case l57 => k_is)
    (case c57 => k_is)
    (case k57 => k_is)
    (case a58 => k_is)
    (case l58 => k_is)
    (case c58 => k_is)
    (case k58 => k_is)
    (case a59 => k_is)
    (case l59 => k_is)
    (case c59 => k_is)
    (case k59 => k_is)
    (case a60 => k_is)
    (case l60 => k_is)
    (case c60 => k_is)
    (case k60 => k_is)
    (case a61 => k_is)
    (case l61 => k_is)
    (case c61 => k_is)
    (case k61 => k_is)
    (case a62 => k_is)
    (case l62 => k_is)
    (case c62 => k_is)
    (case k62 => k_is)
    (case a63 => k_is)
    (case l63 => k_is)
    (case c63 => k_is)
    (case k63 => k_is)
    (case a64 => k_is)
    (case l64 => k_is)
    (case c64 => k_is)
    (case k64 => k_is)
    (case a65 => k_is)
    (case l65 => k_is)
    (case c65 => k_is)
    (case k65 => k_is)
    (case a66 => k_is)
    (case l66 => k_is)
    (case c66 => k_is)
    (case k66 => k_is)
    (case a67 => k_is)
    (case l67 => k_is)
    (case c67 => k_is)
    (case k67 => k_is)
    (case a68 => k_is)
    (case l68 => k_is)
    (case c68 => k_is)
    (case k68 => k_is)
    (case a69 => k_is)
    (case l69 => k_is)
    (case c69 => k_is)
    (case k69 => k_is)
    (case a70 => k_is)
    (case l70 => k_is)
    (case c70 => k_is)
    (case k70 => k_is)
    (case a71 => k_is)
    (case l71 => k_is)
    (case c71 => k_is)
    (case k71 => k_is)
    (case a72 => k_is)
    (case l72 => k_is)
    (case c72 => k_is)
    (case k72 => k_is)
    (case a73 => k_is)
    (case l73 => k_is)
    (case c73 => k_is)
    (case k73 => k_is)
    (case a74 => k_is)
    (case l74 => k_is)
    (case c74 => k_is)
    (case k74 => k_is)
    (case a75 => k_is)
    (case l75 => k_is)
    (case c75 => k_is)
    (case k75 => k_is)
    (case a76 => k_is)
    (case l76 => k_is)
    (case c76 => k_is)
    (case k76 => k_is)
    (case a77 => k_is)
    (case l77 => k_is)
    (case c77 => k_is)
    (case k77 => k_is)
    (case a78 => k_is)
    (case l78 => k_is)
    (case c78 => k_is)
    (case k78 => k_is)
    (case a79 => k_is)
    (case l79 => k_is)
    (case c79 => k_is)
    (case k79 => k_is)
    (case a80 => k_is)
    (case l80 => k_is)
    (case c80 => k_is)
    (case k80 => k_is)
    (case aL => k_is)
    (case lL => k_is)
    (case cL => k_is)
    (case kL => k_is)
    (case z0 => k_is)
    (case z1 => k_is)
    (case z2 => k_is)
    (case z3 => k_is)
    (case z4 => k_is)
    (case z5 => k_is)
    (case z6 => k_is)
    (case z7 => k_is)
    (case z8 => k_is)
    (case z9 => k_is)
    (case z10 => k_is)
    (case z11 => k_is)
    (case z12 => k_is)
    (case z13 => k_is)
    (case z14 => k_is)
    (case z15 => k_is)
    (case z16 => k_is)
    (case n0 => k_is)
    (case n1 => k_is)
    (case n2 => k_is)
    (case n3 => k_is)
    (case n4 => k_is)
    (case n5 => k_is)
    (case n6 => k_is)
    (case n7 => k_is)
    (case n8 => k_is)
    (case m8 => k_is)

