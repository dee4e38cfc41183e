import PyProof.Rows.All
import Wide.All
import OpenK.AllK
import Wide.FinOn
import KE.KStateDown
import HandS.Base
import HandS.Call
import HandS.ForMost
import HandS.TupAny
import HandS.TupMul
import HandS.TupLe
import HandS.TupLen
import HandS.Wide
import HandS.Style
import HandS.Flow
import HandS.Deep
import HandS.Zip
import HandS.Rev
import HandS.RevRange
import HandS.SortInts
import HandS.SortKw
import HandS.SortRule
import HandS.IsInst
import HandS.Conv
import HandS.DictComp
import HandS.DictTup
import HandS.Defaults
import HandS.SetFor
import HandS.SetKeys
import HandS.WideMore
import HandS.Strs
import HandS.Ends
import HandS.More
import HandS.Words
import HandS.WordsExc
import HandS.Head0
import HandS.Head1
import HandS.Head2
import HandS.HeadEnd
import HandS.HeadHook1
import HandS.HeadHook2
import PySem.Challenge.RW_rootstold_k92_stay_paths
set_option linter.all false
set_option Elab.async false
set_option maxRecDepth 100000
set_option maxHeartbeats 4000000
namespace PV
open PySem
/-- plain data -/
inductive D where
  | non | bl (b : Bool) | int (i : Int) | str (x : Str)
  | tup (xs : List D) | lst (xs : List D) | scr (xs : List D) | dct (t : Bool) (ks vs : List D)
  deriving Inhabited

inductive Bop where
  | add | sub | mul | fdiv | mod | pow | shl | shr | band | bor | bxor
  deriving DecidableEq
inductive Cop where
  | eq | ne | lt | le | gt | ge | isN | notN | in_ | notIn
  deriving DecidableEq
inductive Bi where
  | len | abs | int | max | min | sum | any | all | sorted | tuple | list | divmod
  deriving DecidableEq
inductive Ty where
  | int | bool | str | tuple | list | dict
  deriving DecidableEq

/-- expressions, iterables, clauses and targets of the core -/
inductive C where
  | k (d : D) | v (i : Nat)
  | bin (op : Bop) (a b : C) | neg (a : C) | nt (a : C)
  | cmp (op : Cop) (a b : C) | chn (a : C) (o1 : Cop) (b : C) (o2 : Cop) (c : C)
  | an (a b : C) | oo (a b : C) | ite (t a b : C)
  | tup (es : List C) | lst (es : List C) | dct (t : Bool) (ks vs : List C)
  | idx (a i : C) | slc (a lo hi : C) | rv (a : C)
  | bi (f : Bi) (es : List C) | isi (a : C) (tys : List Ty) | cal (f : Nat) (es : List C)
  | get (d a x : C) | cnt (a x : C) | sset (a : C)
  | lc (g : C) | dc (t : Bool) (g : C) | keys (a : C) | bd (a : C)
  | gen (vs : List Nat) (tg it : C) (cs : List C) (inner : C) | elt (e : C) | el2 (a b : C)
  | rng (es : List C) | enu (a : C) | zip (a b : C) | rvi (a : C)
/-- statements -/
inductive S where
  | asg (tg e : C) | aug (op : Bop) (tg e : C)
  | app (i : Nat) (e : C) | ext (i : Nat) (e : C) | pop (tg : C) (i : Nat) (ix : C)
  | exp (e : C) | ret (e : C)
  | ite (t : C) (a b : List S) | whl (t : C) (b : List S) (kill : List Nat)
  | fo (tg it : C) (b : List S) (kill : List Nat)
  | brk | cont | pass | del (i : Nat) (a : C)
inductive Out where
  | nxt | brk | cnt | ret (d : D)

abbrev Env := List (Option D)

/-! ### values -/
def b2i (b : Bool) : Int := if b then 1 else 0
def mulOk (i j : Int) : Bool := decide (i.natAbs.log2 + j.natAbs.log2 < 1000000) || decide (i.natAbs < 2 ^ 64) || decide (j.natAbs < 2 ^ 64)
def divOk (j : Int) : Bool := decide (j ≠ 0) && (decide (j.natAbs < 1073741824) || (decide (0 < j) && decide (j.natAbs.log2 < 9000)))
def pyDiv (i j : Int) : Int := if 0 < j then i / j else i.fdiv j
def pyMod (i j : Int) : Int := if 0 < j then i % j else i.fmod j
def powOk (i j : Int) : Bool := decide (0 ≤ j) && decide (j ≤ 1000000) && decide (i.natAbs < 2 ^ 64)
abbrev szOk (n : Nat) : Bool := decide (n ≤ 1000000)

mutual
/-- equality as the language has it -/
def eqB : D → D → Bool
  | .non, .non => true
  | .bl a, .bl b => a == b
  | .bl a, .int j => b2i a == j
  | .int i, .bl b => i == b2i b
  | .int i, .int j => i == j
  | .str x, .str y => x == y
  | .tup xs, .tup ys => eqBs xs ys
  | .lst xs, .lst ys => eqBs xs ys
  | _, _ => false
def eqBs : List D → List D → Bool
  | [], [] => true
  | x :: xs, y :: ys => eqB x y && eqBs xs ys
  | _, _ => false
end
mutual
/-- of a nesting of at most n, without dicts -/
def shap : Nat → D → Bool
  | _, .non => true
  | _, .bl _ => true
  | _, .int _ => true
  | _, .str x => PyData.canLay0 (.str x)
  | n + 1, .tup xs => shaps n xs
  | n + 1, .lst xs => shaps n xs
  | _, _ => false
def shaps : Nat → List D → Bool
  | _, [] => true
  | n, x :: xs => shap n x && shaps n xs
end
def eqD (x y : D) : Option Bool := if shap 60 x && shap 60 y then some (eqB x y) else none
def flat : D → Bool
  | .non => true
  | .bl _ => true
  | .int _ => true
  | .str _ => true
  | _ => false
def isInt : D → Bool
  | .int _ => true
  | _ => false
def intsD : List D → Option (List Int)
  | [] => some []
  | .int i :: r => (intsD r).map (i :: ·)
  | _ :: _ => none
def boolsD : List D → Option (List Bool)
  | [] => some []
  | .bl i :: r => (boolsD r).map (i :: ·)
  | _ :: _ => none
def truD : D → Option Bool
  | .non => some false
  | .bl b => some b
  | .int i => some (i != 0)
  | .tup xs => some (!xs.isEmpty)
  | .lst xs => some (!xs.isEmpty)
  | .scr xs => some (!xs.isEmpty)
  | _ => none

def repL (n : Nat) (xs : List D) : List D := (List.replicate n xs).flatten
def binD : Bop → D → D → Option D
  | .add, .int i, .int j => some (.int (i + j))
  | .add, .lst xs, .lst ys => if szOk (xs.length + ys.length) then some (.lst (xs ++ ys)) else none
  | .add, .tup xs, .tup ys => if szOk (xs.length + ys.length) then some (.tup (xs ++ ys)) else none
  | .sub, .int i, .int j => some (.int (i - j))
  | .mul, .int i, .int j => if mulOk i j then some (.int (i * j)) else none
  | .mul, .lst xs, .int j => if szOk (xs.length * j.toNat) && decide (-(2 ^ 62) < j) && decide (j < 2 ^ 62) then some (.lst (repL j.toNat xs)) else none
  | .mul, .tup xs, .int j => if decide (xs.length ≤ 1000) && decide (-(2 ^ 62) < j) && decide (j ≤ 1000) then some (.tup (repL j.toNat xs)) else none
  | .fdiv, .int i, .int j => if divOk j then some (.int (pyDiv i j)) else none
  | .mod, .int i, .int j => if j = 0 then none else some (.int (pyMod i j))
  | .pow, .int i, .int j => if powOk i j then some (.int (i ^ j.toNat)) else none
  | .shl, .int i, .int j => if powOk i j then some (.int (i * 2 ^ j.toNat)) else none
  | .shr, .int i, .int j => if 0 ≤ j then some (.int (i / 2 ^ j.toNat)) else none
  | .band, .int i, .int j => some (.int (Builtin.bitAnd i j))
  | .bor, .int i, .int j => some (.int (Builtin.bitOr i j))
  | .bxor, .int i, .int j => some (.int (Builtin.bitXor i j))
  | _, _, _ => none

/-- the order of rows of whole numbers -/
def lexLt : List Int → List Int → Bool
  | _, [] => false
  | [], _ :: _ => true
  | a :: r, b :: q => if a = b then lexLt r q else decide (a < b)
def itemsD : D → Option (List D)
  | .tup xs => some xs
  | .lst xs => some xs
  | .scr xs => some xs
  | _ => none
/-- a slice's end that is there -/
def bdD : D → Option D
  | .int i => some (.int i)
  | _ => none
/-- a dict's keys -/
def keysD : D → Option D
  | .dct _ ks _ => some (.lst ks)
  | _ => none
def keyOk : D → Bool
  | .int _ => true
  | .str _ => true
  | .tup xs => xs.all fun x => match x with
    | .int _ => true
    | .str _ => true
    | _ => false
  | _ => false
def isTup : D → Bool
  | .tup _ => true
  | _ => false
def lookD : List D → List D → D → Option D
  | a :: ks, x :: vs, k => if eqB a k then some x else lookD ks vs k
  | _, _, _ => none
def repV : List D → List D → D → D → List D
  | a :: ks, x :: vs, k, y => (if eqB a k then y else x) :: repV ks vs k y
  | _, _, _, _ => []
def hasK (ks : List D) (k : D) : Bool := ks.any fun a => eqB a k
def putV (ks vs : List D) (k y : D) : List D := if hasK ks k then repV ks vs k y else vs ++ [y]
def putKs (ks : List D) (k : D) : List D := if hasK ks k then ks else ks ++ [k]
/-- all keys of one kind: intsD and texts, or tuples of such -/
def kindOk (t : Bool) (k : D) : Bool := keyOk k && (isTup k == t)
def isNon : D → Bool
  | .non => true
  | _ => false
def cmpD : Cop → D → D → Option Bool
  | .eq, x, y => eqD x y
  | .ne, x, y => (eqD x y).map (!·)
  | .lt, .int i, .int j => some (decide (i < j))
  | .le, .int i, .int j => some (decide (i ≤ j))
  | .gt, .int i, .int j => some (decide (j < i))
  | .ge, .int i, .int j => some (decide (j ≤ i))
  | .lt, .tup xs, .tup ys => (intsD xs).bind fun ns => (intsD ys).bind fun ms => some (lexLt ns ms)
  | .isN, x, .non => some (isNon x)
  | .notN, x, .non => some (!isNon x)
  | .in_, x, .dct t ks vs => if kindOk t x then some (lookD ks vs x).isSome else none
  | .notIn, x, .dct t ks vs => if kindOk t x then some (!(lookD ks vs x).isSome) else none
  | .in_, x, .tup xs => if flat x && xs.all flat then some (xs.any fun y => eqB y x) else none
  | .in_, x, .lst xs => if shap 60 x && shaps 60 xs then some (xs.any fun y => eqB y x) else none
  | .notIn, x, .tup xs => if flat x && xs.all flat then some (!(xs.any fun y => eqB y x)) else none
  | .notIn, x, .lst xs => if shap 60 x && shaps 60 xs then some (!(xs.any fun y => eqB y x)) else none
  | _, _, _ => none

/-- the place that an index of any sign means -/
def ixN (n : Nat) (i : Int) : Option Nat := if 0 ≤ i then (if i < n then some i.toNat else none) else if -(n : Int) ≤ i then some (i + n).toNat else none
def atD (xs : List D) (i : Int) : Option D := (ixN xs.length i).bind fun j => xs[j]?
def idxD : D → D → Option D
  | .lst xs, .int i => atD xs i
  | .scr xs, .int i => atD xs i
  | .tup xs, .int i => atD xs i
  | .dct t ks vs, k => if kindOk t k then lookD ks vs k else none
  | _, _ => none
/-- where a slice's end lies -/
def sIx (n dflt : Nat) : Option Int → Nat
  | none => dflt
  | some i => if i < 0 then (i + (n : Int)).toNat else min i.toNat n
def cutD (xs : List D) (lo hi : Option Int) : List D := (xs.drop (sIx xs.length 0 lo)).take (sIx xs.length xs.length hi - sIx xs.length 0 lo)
def partD : D → Option (Option Int)
  | .non => some none
  | .int i => some (some i)
  | _ => none
def slcX (l h : Option Int) : D → Option D
  | .lst xs => some (.lst (cutD xs l h))
  | .tup xs => some (.tup (cutD xs l h))
  | _ => none
def slcD (x lo hi : D) : Option D := (partD lo).bind fun l => (partD hi).bind fun h => slcX l h x
def rvD : D → Option D
  | .lst xs => some (.lst xs.reverse)
  | .tup xs => some (.tup xs.reverse)
  | _ => none
def setD (x i v : D) : Option D := match x, i with
  | .lst xs, .int i => (ixN xs.length i).map fun j => .lst (xs.set j v)
  | .dct t ks vs, k => if kindOk t k && szOk ks.length then some (.dct t (putKs ks k) (putV ks vs k v)) else none
  | _, _ => none

def insI (a : Int) : List Int → List Int
  | [] => [a]
  | b :: r => if a ≤ b then a :: b :: r else b :: insI a r
def sortI : List Int → List Int
  | [] => []
  | a :: r => insI a (sortI r)
def dedupI : List Int → List Int
  | [] => []
  | a :: r => if r.contains a then dedupI r else a :: dedupI r
/-- rows of whole numbers, ascending, equal ones in their turns -/
def insR (a : List Int) : List (List Int) → List (List Int)
  | [] => [a]
  | b :: r => if lexLt b a then b :: insR a r else a :: b :: r
def sortR : List (List Int) → List (List Int)
  | [] => []
  | a :: r => insR a (sortR r)
def maxI : Int → List Int → Int
  | a, [] => a
  | a, b :: r => maxI (if b > a then b else a) r
def minI : Int → List Int → Int
  | a, [] => a
  | a, b :: r => minI (if b < a then b else a) r
def pairsI : List D → Option (List (Int × Int))
  | [] => some []
  | .tup [.int i, .int j] :: r => (pairsI r).map ((i, j) :: ·)
  | _ :: _ => none
def insP (a : Int × Int) : List (Int × Int) → List (Int × Int)
  | [] => [a]
  | b :: r => if a.1 < b.1 ∨ (a.1 = b.1 ∧ a.2 ≤ b.2) then a :: b :: r else b :: insP a r
def sortP : List (Int × Int) → List (Int × Int)
  | [] => []
  | a :: r => insP a (sortP r)
def sortedD (xs : List D) : Option (List D) := match intsD xs with
  | some ns => some ((sortI ns).map .int)
  | none => match pairsI xs with
    | some ps => some ((sortP ps).map fun p => .tup [.int p.1, .int p.2])
    | none => none
def biD : Bi → List D → Option D
  | .len, [.tup xs] => some (.int xs.length)
  | .len, [.lst xs] => some (.int xs.length)
  | .len, [.scr xs] => some (.int xs.length)
  | .len, [.dct _ ks _] => some (.int ks.length)
  | .abs, [.int i] => some (.int i.natAbs)
  | .int, [.int i] => some (.int i)
  | .int, [.bl b] => some (.int (b2i b))
  | .max, [.int i, .int j] => some (.int (if j > i then j else i))
  | .min, [.int i, .int j] => some (.int (if j < i then j else i))
  | .max, [.lst xs] => (intsD xs).bind fun ns => match ns with
    | [] => none
    | a :: r => some (.int (maxI a r))
  | .min, [.lst xs] => (intsD xs).bind fun ns => match ns with
    | [] => none
    | a :: r => some (.int (minI a r))
  | .sum, [.lst xs] => (intsD xs).map fun ns => .int ns.sum
  | .any, [.lst xs] => (boolsD xs).map fun bs => .bl (bs.any id)
  | .all, [.lst xs] => (boolsD xs).map fun bs => .bl (bs.all id)
  | .sorted, [.lst xs] => (sortedD xs).map .lst
  | .tuple, [.lst xs] => some (.tup xs)
  | .tuple, [.tup xs] => some (.tup xs)
  | .list, [.lst xs] => some (.lst xs)
  | .list, [.tup xs] => some (.lst xs)
  | .divmod, [.int i, .int j] => if 0 < j ∧ j < 1073741824 then some (.tup [.int (i / j), .int (i % j)]) else none
  | _, _ => none
/-- sorted(set(x)) -/
def ssetD : D → Option D
  | .lst xs => (intsD xs).bind fun ns => if ns.length ≤ 60 then some (.lst ((sortI (dedupI ns)).map .int)) else none
  | .tup xs => (intsD xs).bind fun ns => if ns.length ≤ 60 then some (.lst ((sortI (dedupI ns)).map .int)) else none
  | _ => none
def tyOf : D → Ty → Bool
  | .int _, .int => true
  | .bl _, .int => true
  | .bl _, .bool => true
  | .str _, .str => true
  | .tup _, .tuple => true
  | .lst _, .list => true
  | .scr _, .list => true
  | .dct _ _ _, .dict => true
  | _, _ => false

def rngN (lo hi st : Int) : Nat := if 0 < st then (if lo < hi then ((hi - lo - 1) / st + 1).toNat else 0) else (if hi < lo then ((lo - hi - 1) / (-st) + 1).toNat else 0)
def rngB (i : Int) : Bool := decide (-(2 ^ 61) ≤ i) && decide (i < 2 ^ 61)
def rngD : List D → Option (List D)
  | [.int j] => if rngB j then some ((List.range j.toNat).map fun i => .int (i : Nat)) else none
  | [.int i, .int j] => if rngB i && rngB j then some ((List.range (j - i).toNat).map fun t => .int (i + (t : Nat))) else none
  | [.int i, .int j, .int c] => if rngB i && rngB j && decide (c ≠ 0) && decide (c.natAbs < 1073741824) then some ((List.range (rngN i j c)).map fun t => .int (i + (t : Nat) * c)) else none
  | _ => none
def enumD (n : Nat) : List D → List D
  | [] => []
  | x :: r => .tup [.int n, x] :: enumD (n + 1) r
def zipD : List D → List D → List D
  | x :: r, y :: q => .tup [x, y] :: zipD r q
  | _, _ => []
def mkD (t : Bool) : List D → List D → List D → Option D
  | ks, vs, [] => some (.dct t ks vs)
  | ks, vs, .tup [k, v] :: r => if kindOk t k && szOk ks.length then mkD t (putKs ks k) (putV ks vs k v) r else none
  | _, _, _ => none
def getD' (d k x : D) : Option D := match d with
  | .dct t ks vs => if kindOk t k then some ((lookD ks vs k).getD x) else none
  | _ => none
def cntD (x y : D) : Option D := match x, y with
  | .tup xs, .int j => (intsD xs).map fun ns => .int (ns.count j)
  | _, _ => none

def wipe (ks : List Nat) (τ : Env) : Env := ks.foldl (fun τ i => τ.set i none) τ
def flatL {α β : Type} (f : α → Option (List β)) : List α → Option (List β)
  | [] => some []
  | x :: r => (f x).bind fun a => (flatL f r).map (a ++ ·)
def storeD (i : Nat) (k d : D) (τ : Env) : Option Env := match τ[i]? with
  | some (some x) => (setD x k d).map fun y => τ.set i (some y)
  | _ => none
def bindV (i : Nat) (d : D) (τ : Env) : Option Env := if i < τ.length then some (τ.set i (some d)) else none

/-! ### the evaluator: one small word a construct -/
def sVar : Option (Option D) → Option D
  | some (some d) => some d
  | _ => none
def sBin (op : Bop) (x y : Option D) : Option D := x.bind fun x => y.bind fun y => binD op x y
def negD : D → Option D
  | .int i => some (.int (-i))
  | _ => none
def sNot (x : Option D) : Option D := x.bind fun x => (truD x).map fun b => .bl (!b)
def sCmp (op : Cop) (x y : Option D) : Option D := x.bind fun x => y.bind fun y => (cmpD op x y).map .bl
def sChn (o1 o2 : Cop) (x y z : Option D) : Option D := x.bind fun x => y.bind fun y => (cmpD o1 x y).bind fun t => if t then z.bind fun z => (cmpD o2 y z).map .bl else some (.bl false)
def sAnd (x y : Option D) : Option D := x.bind fun x => (truD x).bind fun t => if t then y else some x
def sOr (x y : Option D) : Option D := x.bind fun x => (truD x).bind fun t => if t then some x else y
def sIte (x a b : Option D) : Option D := x.bind fun x => (truD x).bind fun t => if t then a else b
def sTup (x : Option (List D)) : Option D := x.bind fun ds => if szOk ds.length then some (.tup ds) else none
def sLst (x : Option (List D)) : Option D := x.bind fun ds => if szOk ds.length then some (.lst ds) else none
def sDct (t : Bool) (ks vs : Option (List D)) : Option D := ks.bind fun ks => vs.bind fun vs => if ks.length ≤ 15 then mkD t [] [] (zipD ks vs) else none
def sIdx (x y : Option D) : Option D := x.bind fun x => y.bind fun y => idxD x y
def sSlc (x y z : Option D) : Option D := x.bind fun x => y.bind fun y => z.bind fun z => slcD x y z
def isDct : D → Bool
  | .dct _ _ _ => true
  | _ => false
def sIsi (ts : List Ty) (x : Option D) : Option D := x.bind fun x => if isDct x then none else some (.bl (ts.any (tyOf x)))
def sGet (x y z : Option D) : Option D := x.bind fun x => y.bind fun y => z.bind fun z => getD' x y z
def sCnt (x y : Option D) : Option D := x.bind fun x => y.bind fun y => cntD x y
def sDc (t : Bool) (x : Option (List D)) : Option D := x.bind fun ds => if szOk ds.length then mkD t [] [] ds else none
def sRng (x : Option (List D)) : Option D := x.bind fun ds => (rngD ds).map .lst
def enuX : D → Option D
  | .lst xs => some (.lst (enumD 0 xs))
  | .scr xs => some (.lst (enumD 0 xs))
  | _ => none
def sEnu (x : Option D) : Option D := x.bind enuX
/-- what a zip may hold: two lists, or two tuples -/
def zipOk : D → D → Bool
  | .tup _, .tup _ => true
  | .lst _, .lst _ => true
  | .lst _, .scr _ => true
  | .scr _, .lst _ => true
  | .scr _, .scr _ => true
  | _, _ => false
def zipX (x y : D) : Option D := if zipOk x y then (itemsD x).bind fun xs => (itemsD y).map fun ys => .lst (zipD xs ys) else none
def sZip (x y : Option D) : Option D := x.bind fun x => y.bind fun y => zipX x y
def rviX : D → Option D
  | .lst xs => some (.lst xs.reverse)
  | .tup xs => some (.lst xs.reverse)
  | _ => none
def sRvi (x : Option D) : Option D := x.bind rviX
def sCons (x : Option D) (r : Option (List D)) : Option (List D) := x.bind fun x => r.map (x :: ·)
def sAll (x : Option D) (r : Option Bool) : Option Bool := x.bind fun x => (truD x).bind fun t => if t then r else some false
def sStore (i : Nat) (k : Option D) (d : D) (τ : Env) : Option Env := k.bind fun k => storeD i k d τ
def sTurn (τ1 : Option Env) (cs : Env → Option Bool) (g : Env → Option (List D)) : Option (List D) :=
  τ1.bind fun τ1 => (cs τ1).bind fun t => if t then g τ1 else some []
def sGen (it : Option D) (turn : D → Option (List D)) : Option (List D) := (it.bind itemsD).bind (flatL turn)
def sEl2 (x y : Option D) : Option (List D) := x.bind fun x => y.map fun y => [.tup [x, y]]
def sTups (d : D) (f : List D → Option Env) : Option Env := match d with
  | .tup xs => f xs
  | _ => none
def sBnds (xs : List D) (f : D → Option Env) (g : List D → Env → Option Env) : Option Env := match xs with
  | x :: xs => (f x).bind (g xs)
  | [] => none
def sNil (xs : List D) (τ : Env) : Option Env := match xs with
  | [] => some τ
  | _ :: _ => none
section
variable (cl : Nat → List D → Option D)
mutual
def evE : C → Env → Option D
  | .k d, _ => some d
  | .v i, τ => sVar τ[i]?
  | .bin op a b, τ => sBin op (evE a τ) (evE b τ)
  | .neg a, τ => (evE a τ).bind negD
  | .nt a, τ => sNot (evE a τ)
  | .cmp op a b, τ => sCmp op (evE a τ) (evE b τ)
  | .chn a o1 b o2 c, τ => sChn o1 o2 (evE a τ) (evE b τ) (evE c τ)
  | .an a b, τ => sAnd (evE a τ) (evE b τ)
  | .oo a b, τ => sOr (evE a τ) (evE b τ)
  | .ite t a b, τ => sIte (evE t τ) (evE a τ) (evE b τ)
  | .tup es, τ => sTup (evEs es τ)
  | .lst es, τ => sLst (evEs es τ)
  | .dct t ks vs, τ => sDct t (evEs ks τ) (evEs vs τ)
  | .idx a i, τ => sIdx (evE a τ) (evE i τ)
  | .slc a l h, τ => sSlc (evE a τ) (evE l τ) (evE h τ)
  | .rv a, τ => (evE a τ).bind rvD
  | .bi f es, τ => (evEs es τ).bind (biD f)
  | .isi a ts, τ => sIsi ts (evE a τ)
  | .cal f es, τ => (evEs es τ).bind (cl f)
  | .get a k x, τ => sGet (evE a τ) (evE k τ) (evE x τ)
  | .cnt a x, τ => sCnt (evE a τ) (evE x τ)
  | .sset a, τ => (evE a τ).bind ssetD
  | .lc g, τ => sLst (evG g τ)
  | .dc t g, τ => sDc t (evG g τ)
  | .keys a, τ => (evE a τ).bind keysD
  | .bd a, τ => (evE a τ).bind bdD
  | .rng es, τ => sRng (evEs es τ)
  | .enu a, τ => sEnu (evE a τ)
  | .zip a b, τ => sZip (evE a τ) (evE b τ)
  | .rvi a, τ => sRvi (evE a τ)
  | .gen _ _ _ _ _, _ => none
  | .elt _, _ => none
  | .el2 _ _, _ => none
def evEs : List C → Env → Option (List D)
  | [], _ => some []
  | e :: es, τ => sCons (evE e τ) (evEs es τ)
/-- targets -/
def bnd : C → D → Env → Option Env
  | .v i, d, τ => bindV i d τ
  | .tup ts, d, τ => sTups d fun xs => bnds ts xs τ
  | .idx (.v i) k, d, τ => sStore i (evE k τ) d τ
  | .lst [], _, τ => some τ
  | _, _, _ => none
def bnds : List C → List D → Env → Option Env
  | [], xs, τ => sNil xs τ
  | t :: ts, xs, τ => sBnds xs (fun x => bnd t x τ) (fun xs τ => bnds ts xs τ)
def alls : List C → Env → Option Bool
  | [], _ => some true
  | e :: es, τ => sAll (evE e τ) (alls es τ)
/-- a comprehension's clauses -/
def evG : C → Env → Option (List D)
  | .gen vs tg it cs inner, τ => sGen (evE it τ) fun x => sTurn (bnd tg x (wipe vs τ)) (fun τ => alls cs τ) (fun τ => evG inner τ)
  | .elt e, τ => (evE e τ).map fun x => [x]
  | .el2 a b, τ => sEl2 (evE a τ) (evE b τ)
  | _, _ => none
end
def evI (e : C) (τ : Env) : Option (List D) := (evE cl e τ).bind itemsD
def evT (e : C) (τ : Env) : Option Bool := (evE cl e τ).bind truD
end
abbrev Res := Option (Out × Env)
/-- a for's turns -/
def forL (bd : D → Env → Option Env) (body : Env → Res) (kill : List Nat) : List D → Env → Res
  | [], τ => some (.nxt, wipe kill τ)
  | x :: xs, τ => (bd x (wipe kill τ)).bind fun τ1 => (body τ1).bind fun r => match r.1 with
    | .nxt => forL bd body kill xs r.2
    | .cnt => forL bd body kill xs r.2
    | .brk => some (.nxt, wipe kill r.2)
    | .ret d => some (.ret d, r.2)
def whlL (t : Env → Option Bool) (body : Env → Res) (kill : List Nat) : Nat → Env → Res
  | 0, _ => none
  | n + 1, τ => (t (wipe kill τ)).bind fun b => if b then (body (wipe kill τ)).bind fun r => match r.1 with
    | .nxt => whlL t body kill n r.2
    | .cnt => whlL t body kill n r.2
    | .brk => some (.nxt, wipe kill r.2)
    | .ret d => some (.ret d, r.2)
    else some (.nxt, wipe kill τ)
def slotD (i : Nat) (τ : Env) : Option D := sVar τ[i]?
def appD (i : Nat) (d : D) (τ : Env) : Option Env := (slotD i τ).bind fun x => match x with
  | .lst xs => if szOk xs.length then some (τ.set i (some (.lst (xs ++ [d])))) else none
  | _ => none
def extD (i : Nat) (d : D) (τ : Env) : Option Env := (slotD i τ).bind fun x => match x, d with
  | .lst xs, .lst ys => if szOk (xs.length + ys.length) then some (τ.set i (some (.lst (xs ++ ys)))) else none
  | _, _ => none
def popD (i : Nat) (ix : D) (τ : Env) : Option (D × Env) := (slotD i τ).bind fun x => match x, ix with
  | .lst xs, .non => (xs[xs.length - 1]?).map fun x => (x, τ.set i (some (.lst xs.dropLast)))
  | .lst xs, .int j => (ixN xs.length j).bind fun n => (xs[n]?).map fun x => (x, τ.set i (some (.lst (xs.eraseIdx n))))
  | _, _ => none
def delKs (ks : List D) (k : D) : List D := ks.filter fun a => !eqB a k
def delVs : List D → List D → D → List D
  | a :: ks, v :: vs, k => if eqB a k then delVs ks vs k else v :: delVs ks vs k
  | _, _, _ => []
def delD (i : Nat) (k : D) (τ : Env) : Option Env := (slotD i τ).bind fun x => match x with
  | .dct t ks vs => if kindOk t k && (lookD ks vs k).isSome then some (τ.set i (some (.dct t (delKs ks k) (delVs ks vs k)))) else none
  | _ => none
def nxt (τ : Option Env) : Res := τ.map fun τ => (.nxt, τ)
/-- what an augmented operator takes -/
def augOk : Bop → D → D → Bool
  | .add, .int _, .int _ => true
  | .sub, .int _, .int _ => true
  | .mul, .int _, .int _ => true
  | .bxor, .int _, .int _ => true
  | .fdiv, .int _, .int j => decide (0 < j)
  | _, _, _ => false
def augD (op : Bop) (x y : D) : Option D := if augOk op x y then binD op x y else none
def sAug (op : Bop) (i : Nat) (x y : Option D) (τ : Env) : Res := x.bind fun x => y.bind fun y => (augD op x y).bind fun z => nxt (bindV i z τ)
def sAugI (op : Bop) (i : Nat) (a k y : Option D) (τ : Env) : Res := a.bind fun a => k.bind fun k => (idxD a k).bind fun x => y.bind fun y => (augD op x y).bind fun z => nxt (storeD i k z τ)
def sIf (t : Option Bool) (a b : Res) : Res := t.bind fun t => if t then a else b
def sSeq (a : Res) (f : Env → Res) : Res := a.bind fun q => match q.1 with
  | .nxt => f q.2
  | o => some (o, q.2)
def sPop (tg : D → Env → Option Env) (i : Nat) (j : Option D) (τ : Env) : Res := j.bind fun j => (popD i j τ).bind fun r => nxt (tg r.1 r.2)
section
variable (cl : Nat → List D → Option D) (w : Nat)
mutual
def evS : S → Env → Res
  | .asg tg e, τ => (evE cl e τ).bind fun d => nxt (bnd cl tg d τ)
  | .aug op (.v i) e, τ => sAug op i (slotD i τ) (evE cl e τ) τ
  | .aug op (.idx (.v i) k) e, τ => sAugI op i (slotD i τ) (evE cl k τ) (evE cl e τ) τ
  | .aug _ _ _, _ => none
  | .app i e, τ => (evE cl e τ).bind fun d => nxt (appD i d τ)
  | .ext i e, τ => (evE cl e τ).bind fun d => nxt (extD i d τ)
  | .pop tg i ix, τ => sPop (bnd cl tg) i (evE cl ix τ) τ
  | .exp e, τ => (evE cl e τ).map fun _ => (.nxt, τ)
  | .ret e, τ => (evE cl e τ).map fun d => (.ret d, τ)
  | .ite t a b, τ => sIf (evT cl t τ) (evSs a τ) (evSs b τ)
  | .whl t b kill, τ => whlL (evT cl t) (fun τ => evSs b τ) kill w τ
  | .fo tg it b kill, τ => (evI cl it τ).bind fun xs => forL (bnd cl tg) (fun τ => evSs b τ) kill xs τ
  | .brk, τ => some (.brk, τ)
  | .cont, τ => some (.cnt, τ)
  | .pass, τ => some (.nxt, τ)
  | .del i a, τ => (evE cl a τ).bind fun k => nxt (delD i k τ)
def evSs : List S → Env → Res
  | [], τ => some (.nxt, τ)
  | s :: r, τ => sSeq (evS s τ) fun τ => evSs r τ
end
end
/-- a def of the core, or one whose worth is given -/
inductive FD where
  | code (np ns : Nat) (body : List S)
  | ext (lev : Nat) (φ : List D → Option D)
def runF (cl : Nat → List D → Option D) (w np ns : Nat) (body : List S) (args : List D) : Option D :=
  if args.length = np then (evSs cl w body (args.map some ++ List.replicate (ns - np) none)).bind fun r => match r.1 with
    | .ret d => some d
    | .nxt => some .non
    | _ => none
  else none
def call (fs : List FD) (w : Nat) : Nat → Nat → List D → Option D
  | 0, _, _ => none
  | k + 1, f, args => match fs[f]? with
    | some (.code np ns body) => runF (call fs w k) w np ns body args
    | some (.ext lev φ) => if lev ≤ k + 1 then φ args else none
    | none => none
end PV

namespace PV
open PySem PySem.Spec PyProof.Rows L2

abbrev AS := Addr → Prop
def kD : Key → D
  | .inl i => .int i
  | .inr x => .str x
mutual
/-- v stands for d: what may change lies in F (and no one changes it) -/
inductive RepV (K : PySem.W.Frag) (F : AS) (H : Hp) : D → V → Prop
  | non : RepV K F H .non .non
  | bl (b : Bool) : RepV K F H (.bl b) (.bl b)
  | int (i : Int) : RepV K F H (.int i) (.int i)
  | str (x : Str) : RepV K F H (.str x) (.str x)
  | tup {a : Addr} {xs : List D} {vs : List V} : H a = some (.tup vs) → RepL K F H xs vs → RepV K F H (.tup xs) (.ref a)
  | lst {a : Addr} {xs : List D} {vs : List V} : F a → H a = some (.lst vs) → RepL K F H xs vs → RepV K F H (.lst xs) (.ref a)
  | scrF {a : Addr} {xs : List D} {vs : List V} : F a → Rd H a (.lst vs) → RepL K F H xs vs → RepV K F H (.scr xs) (.ref a)
  | scrK {a : Addr} {xs : List D} {vs : List V} : SqL K (fun _ => none) a vs → RepL K F H xs vs → RepV K F H (.scr xs) (.ref a)
  | dctK {a : Addr} {ks xs : List D} {kvs : List (Key × V)} : F a → Rd H a (.dK kvs) → ks = kvs.map (fun p => kD p.1) → RepL K F H xs (kvs.map (·.2)) → RepV K F H (.dct false ks xs) (.ref a)
  | dctT {a : Addr} {ks xs : List D} {kvs : List (List Key × V)} : F a → Rd H a (.dT kvs) → ks = kvs.map (fun p => .tup (p.1.map kD)) → RepL K F H xs (kvs.map (·.2)) → RepV K F H (.dct true ks xs) (.ref a)
inductive RepL (K : PySem.W.Frag) (F : AS) (H : Hp) : List D → List V → Prop
  | nil : RepL K F H [] []
  | cons {d : D} {v : V} {ds : List D} {vs : List V} : RepV K F H d v → RepL K F H ds vs → RepL K F H (d :: ds) (v :: vs)
end

/-- the heap has grown: what lies in F stands as it stood -/
structure Ext (F : AS) (H : Hp) (F' : AS) (H' : Hp) : Prop where
  sub : ∀ a, F a → F' a
  keep : ∀ a, F a → H' a = H a
  tups : ∀ a vs, H a = some (.tup vs) → H' a = some (.tup vs)
theorem Ext.refl (F : AS) (H : Hp) : Ext F H F H := ⟨fun _ h => h, fun _ _ => rfl, fun _ _ h => h⟩
theorem Ext.trans {F F1 F2 : AS} {H H1 H2 : Hp} (x : Ext F H F1 H1) (y : Ext F1 H1 F2 H2) : Ext F H F2 H2 :=
  ⟨fun a h => y.sub a (x.sub a h), fun a h => (y.keep a (x.sub a h)).trans (x.keep a h), fun a vs h => y.tups a vs (x.tups a vs h)⟩
theorem rd_keep {H H' : Hp} {a : Addr} {u : HO} (e : H' a = H a) (r : Rd H a u) : Rd H' a u := by
  rcases r with r | ⟨o, r⟩
  · exact .inl (e.trans r)
  · exact .inr ⟨o, e.trans r⟩
mutual
theorem RepV.mono {K : PySem.W.Frag} {F F' : AS} {H H' : Hp} (x : Ext F H F' H') : ∀ {d : D} {v : V}, RepV K F H d v → RepV K F' H' d v
  | _, _, .non => .non
  | _, _, .bl b => .bl b
  | _, _, .int b => .int b
  | _, _, .str b => .str b
  | _, _, .tup h r => .tup (x.tups _ _ h) (RepL.mono x r)
  | _, _, .lst f h r => .lst (x.sub _ f) ((x.keep _ f).trans h) (RepL.mono x r)
  | _, _, .scrF f h r => .scrF (x.sub _ f) (rd_keep (x.keep _ f) h) (RepL.mono x r)
  | _, _, .scrK h r => .scrK h (RepL.mono x r)
  | _, _, .dctK f h e r => .dctK (x.sub _ f) (rd_keep (x.keep _ f) h) e (RepL.mono x r)
  | _, _, .dctT f h e r => .dctT (x.sub _ f) (rd_keep (x.keep _ f) h) e (RepL.mono x r)
theorem RepL.mono {K : PySem.W.Frag} {F F' : AS} {H H' : Hp} (x : Ext F H F' H') : ∀ {ds : List D} {vs : List V}, RepL K F H ds vs → RepL K F' H' ds vs
  | _, _, .nil => .nil
  | _, _, .cons a r => .cons (RepV.mono x a) (RepL.mono x r)
end
theorem RepL.length {K : PySem.W.Frag} {F : AS} {H : Hp} : ∀ {ds : List D} {vs : List V}, RepL K F H ds vs → ds.length = vs.length
  | _, _, .nil => rfl
  | _, _, .cons _ r => by simp [RepL.length r]
theorem RepL.get {K : PySem.W.Frag} {F : AS} {H : Hp} : ∀ {ds : List D} {vs : List V} {i : Nat} {d : D}, RepL K F H ds vs → ds[i]? = some d → ∃ v, vs[i]? = some v ∧ RepV K F H d v
  | _, _, _, _, .nil, e => by simp at e
  | _, _, 0, _, .cons a _, e => by simp at e; subst e; exact ⟨_, rfl, a⟩
  | _, _, i + 1, d, .cons _ r, e => by
    obtain ⟨v, h1, h2⟩ := RepL.get (i := i) (d := d) r (by simpa using e)
    exact ⟨v, by simpa using h1, h2⟩
theorem RepL.getV {K : PySem.W.Frag} {F : AS} {H : Hp} : ∀ {ds : List D} {vs : List V} {i : Nat} {v : V}, RepL K F H ds vs → vs[i]? = some v → ∃ d, ds[i]? = some d ∧ RepV K F H d v
  | _, _, _, _, .nil, e => by simp at e
  | _, _, 0, _, .cons a _, e => by simp at e; subst e; exact ⟨_, rfl, a⟩
  | _, _, i + 1, d, .cons _ r, e => by
    obtain ⟨v, h1, h2⟩ := RepL.getV (i := i) (v := d) r (by simpa using e)
    exact ⟨v, by simpa using h1, h2⟩
theorem RepL.append {K : PySem.W.Frag} {F : AS} {H : Hp} : ∀ {ds es : List D} {vs ws : List V}, RepL K F H ds vs → RepL K F H es ws → RepL K F H (ds ++ es) (vs ++ ws)
  | _, _, _, _, .nil, q => q
  | _, _, _, _, .cons a r, q => .cons a (RepL.append r q)
theorem RepL.take {K : PySem.W.Frag} {F : AS} {H : Hp} : ∀ {ds : List D} {vs : List V} (n : Nat), RepL K F H ds vs → RepL K F H (ds.take n) (vs.take n)
  | _, _, 0, _ => .nil
  | _, _, _ + 1, .nil => .nil
  | _, _, n + 1, .cons a r => .cons a (RepL.take n r)
theorem RepL.drop {K : PySem.W.Frag} {F : AS} {H : Hp} : ∀ {ds : List D} {vs : List V} (n : Nat), RepL K F H ds vs → RepL K F H (ds.drop n) (vs.drop n)
  | _, _, 0, r => r
  | _, _, _ + 1, .nil => .nil
  | _, _, n + 1, .cons _ r => RepL.drop n r
theorem RepL.set {K : PySem.W.Frag} {F : AS} {H : Hp} {d : D} {v : V} (q : RepV K F H d v) : ∀ {ds : List D} {vs : List V} (n : Nat), RepL K F H ds vs → RepL K F H (ds.set n d) (vs.set n v)
  | _, _, _, .nil => .nil
  | _, _, 0, .cons _ r => .cons q r
  | _, _, n + 1, .cons a r => .cons a (RepL.set q n r)
theorem RepL.reverse {K : PySem.W.Frag} {F : AS} {H : Hp} : ∀ {ds : List D} {vs : List V}, RepL K F H ds vs → RepL K F H ds.reverse vs.reverse
  | _, _, .nil => .nil
  | _, _, .cons a r => by rw [List.reverse_cons, List.reverse_cons]; exact (RepL.reverse r).append (.cons a .nil)
theorem RepL.dropLast {K : PySem.W.Frag} {F : AS} {H : Hp} {ds : List D} {vs : List V} (r : RepL K F H ds vs) : RepL K F H ds.dropLast vs.dropLast := by
  rw [List.dropLast_eq_take, List.dropLast_eq_take, r.length]; exact r.take _
theorem RepL.eraseIdx {K : PySem.W.Frag} {F : AS} {H : Hp} : ∀ {ds : List D} {vs : List V} (n : Nat), RepL K F H ds vs → RepL K F H (ds.eraseIdx n) (vs.eraseIdx n)
  | _, _, _, .nil => .nil
  | _, _, 0, .cons _ r => r
  | _, _, n + 1, .cons a r => .cons a (RepL.eraseIdx n r)
theorem RepL.rep {K : PySem.W.Frag} {F : AS} {H : Hp} {ds : List D} {vs : List V} (r : RepL K F H ds vs) : ∀ n : Nat, RepL K F H (List.replicate n ds).flatten (List.replicate n vs).flatten
  | 0 => .nil
  | n + 1 => by rw [List.replicate_succ, List.replicate_succ, List.flatten_cons, List.flatten_cons]; exact r.append (RepL.rep r n)
theorem RepL.paired {K : PySem.W.Frag} {F : AS} {H : Hp} : ∀ {ds : List D} {vs : List V}, ds.length = vs.length → (∀ (i : Nat) (d : D) (v : V), ds[i]? = some d → vs[i]? = some v → RepV K F H d v) → RepL K F H ds vs
  | [], [], _, _ => .nil
  | d :: ds, v :: vs, h, f => .cons (f 0 d v rfl rfl) (RepL.paired (by simpa using h) fun i a b p q => f (i + 1) a b (by simpa using p) (by simpa using q))
  | [], _ :: _, h, _ => by simp at h
  | _ :: _, [], h, _ => by simp at h

/-! ### who may change what -/
inductive Fl where
  | own | lent | shr
  deriving DecidableEq, Inhabited
abbrev Ctx := List Fl
def fl (c : Ctx) (i : Nat) : Fl := (c[i]?).getD .shr
def isMut : D → Bool
  | .lst _ => true
  | .dct _ _ _ => true
  | _ => false
/-- the object at a holds d (a dict may be locked) -/
def LentC (K : PySem.W.Frag) (F : AS) (H : Hp) : D → Addr → Prop
  | .lst xs, a => ∃ vs, H a = some (.lst vs) ∧ RepL K F H xs vs
  | .dct false ks xs, a => ∃ kvs, Rd H a (.dK kvs) ∧ ks = kvs.map (fun p => kD p.1) ∧ RepL K F H xs (kvs.map (·.2))
  | .dct true ks xs, a => ∃ kvs, Rd H a (.dT kvs) ∧ ks = kvs.map (fun p => .tup (p.1.map kD)) ∧ RepL K F H xs (kvs.map (·.2))
  | _, _ => False
/-- .. and may be written -/
def OwnC (K : PySem.W.Frag) (F : AS) (H : Hp) : D → Addr → Prop
  | .lst xs, a => ∃ vs, H a = some (.lst vs) ∧ RepL K F H xs vs
  | .dct false ks xs, a => ∃ kvs, H a = some (.dK kvs) ∧ ks = kvs.map (fun p => kD p.1) ∧ RepL K F H xs (kvs.map (·.2))
  | .dct true ks xs, a => ∃ kvs, H a = some (.dT kvs) ∧ ks = kvs.map (fun p => .tup (p.1.map kD)) ∧ RepL K F H xs (kvs.map (·.2))
  | _, _ => False
theorem OwnC.lent {K : PySem.W.Frag} {F : AS} {H : Hp} : ∀ {d : D} {a : Addr}, OwnC K F H d a → LentC K F H d a
  | .lst _, _, h => h
  | .dct false _ _, _, ⟨k, a, b⟩ => ⟨k, .inl a, b⟩
  | .dct true _ _, _, ⟨k, a, b⟩ => ⟨k, .inl a, b⟩
  | .non, _, h => h.elim
  | .bl _, _, h => h.elim
  | .int _, _, h => h.elim
  | .str _, _, h => h.elim
  | .tup _, _, h => h.elim
  | .scr _, _, h => h.elim
theorem LentC.mono {K : PySem.W.Frag} {F F' : AS} {H H' : Hp} (x : Ext F H F' H') {a : Addr} (e : H' a = H a) : ∀ {d : D}, LentC K F H d a → LentC K F' H' d a
  | .lst _, ⟨vs, h, r⟩ => ⟨vs, e.trans h, r.mono x⟩
  | .dct false _ _, ⟨k, h, b, r⟩ => ⟨k, rd_keep e h, b, r.mono x⟩
  | .dct true _ _, ⟨k, h, b, r⟩ => ⟨k, rd_keep e h, b, r.mono x⟩
  | .non, h => h.elim
  | .bl _, h => h.elim
  | .int _, h => h.elim
  | .str _, h => h.elim
  | .tup _, h => h.elim
  | .scr _, h => h.elim
theorem OwnC.mono {K : PySem.W.Frag} {F F' : AS} {H H' : Hp} (x : Ext F H F' H') {a : Addr} (e : H' a = H a) : ∀ {d : D}, OwnC K F H d a → OwnC K F' H' d a
  | .lst _, ⟨vs, h, r⟩ => ⟨vs, e.trans h, r.mono x⟩
  | .dct false _ _, ⟨k, h, b, r⟩ => ⟨k, e.trans h, b, r.mono x⟩
  | .dct true _ _, ⟨k, h, b, r⟩ => ⟨k, e.trans h, b, r.mono x⟩
  | .non, h => h.elim
  | .bl _, h => h.elim
  | .int _, h => h.elim
  | .str _, h => h.elim
  | .tup _, h => h.elim
  | .scr _, h => h.elim
theorem LentC.isSome {K : PySem.W.Frag} {F : AS} {H : Hp} {a : Addr} : ∀ {d : D}, LentC K F H d a → ∃ o, H a = some o
  | .lst _, ⟨_, h, _⟩ => ⟨_, h⟩
  | .dct false _ _, ⟨_, .inl h, _⟩ => ⟨_, h⟩
  | .dct false _ _, ⟨_, .inr ⟨_, h⟩, _⟩ => ⟨_, h⟩
  | .dct true _ _, ⟨_, .inl h, _⟩ => ⟨_, h⟩
  | .dct true _ _, ⟨_, .inr ⟨_, h⟩, _⟩ => ⟨_, h⟩
  | .non, h => h.elim
  | .bl _, h => h.elim
  | .int _, h => h.elim
  | .str _, h => h.elim
  | .tup _, h => h.elim
  | .scr _, h => h.elim
theorem LentC.mut {K : PySem.W.Frag} {F : AS} {H : Hp} {a : Addr} : ∀ {d : D}, LentC K F H d a → isMut d = true
  | .lst _, _ => rfl
  | .dct _ _ _, _ => rfl
  | .non, h => h.elim
  | .bl _, h => h.elim
  | .int _, h => h.elim
  | .str _, h => h.elim
  | .tup _, h => h.elim
  | .scr _, h => h.elim
/-- frozen from now on -/
theorem LentC.rep {K : PySem.W.Frag} {F : AS} {H : Hp} {a : Addr} (f : F a) : ∀ {d : D}, LentC K F H d a → RepV K F H d (.ref a)
  | .lst _, ⟨_, h, r⟩ => .lst f h r
  | .dct false _ _, ⟨_, h, b, r⟩ => .dctK f h b r
  | .dct true _ _, ⟨_, h, b, r⟩ => .dctT f h b r
  | .non, h => h.elim
  | .bl _, h => h.elim
  | .int _, h => h.elim
  | .str _, h => h.elim
  | .tup _, h => h.elim
  | .scr _, h => h.elim
/-- how slot i bears d -/
def SlotR (K : PySem.W.Frag) (HB : Hp) (F : AS) (H : Hp) : Fl → D → V → Prop
  | .shr, d, v => RepV K F H d v
  | .own, d, v => (isMut d = false ∧ RepV K F H d v) ∨ ∃ a, v = .ref a ∧ ¬ F a ∧ HB a = none ∧ OwnC K F H d a
  | .lent, d, v => (isMut d = false ∧ RepV K F H d v) ∨ ∃ a, v = .ref a ∧ ¬ F a ∧ HB a = none ∧ LentC K F H d a
/-- slot i alone holds the object at a -/
def Holds (c : Ctx) (τ : Env) (σ : L2.St) (i : Nat) (a : Addr) : Prop := fl c i ≠ .shr ∧ σ[i]? = some (some (.ref a)) ∧ ∃ d, τ[i]? = some (some d) ∧ isMut d = true

abbrev Pins := List (Nat × V × D)
structure Rel (K : PySem.W.Frag) (HB : Hp) (F0 : AS) (P : Pins) (c : Ctx) (τ : Env) (F : AS) (σ : L2.St) (H : Hp) : Prop where
  same : ∀ a o, HB a = some o → H a = some o
  dom : ∀ a, F a → ∃ o, H a = some o
  f0 : ∀ a, F0 a → F a
  f1 : ∀ a, F a → F0 a ∨ HB a = none
  len : σ.length = τ.length
  slot : ∀ i d, τ[i]? = some (some d) → ∃ v, σ[i]? = some (some v) ∧ SlotR K HB F H (fl c i) d v
  sep : ∀ i j a, i ≠ j → Holds c τ σ i a → Holds c τ σ j a → False
  pin : ∀ p ∈ P, σ[p.1]? = some (some p.2.1) ∧ τ[p.1]? = some (some p.2.2)

section
variable {K : PySem.W.Frag} {HB : Hp} {F0 : AS} {P : Pins} {c : Ctx} {τ : Env} {F F' : AS} {σ : L2.St} {H H' : Hp}
theorem SlotR.mono {f : Fl} {d : D} {v : V} (x : Ext F H F' H') (hf : ∀ a, F' a → F a ∨ H a = none) (hk : ∀ a, HB a = none → ¬ F a → H a ≠ none → H' a = H a) (h : SlotR K HB F H f d v) : SlotR K HB F' H' f d v := by
  cases f with
  | shr => exact RepV.mono x h
  | own =>
    rcases h with ⟨m, h⟩ | ⟨a, e, nf, hb, h⟩
    · exact .inl ⟨m, h.mono x⟩
    · have hs := OwnC.lent h |>.isSome
      obtain ⟨o, ho⟩ := hs
      refine .inr ⟨a, e, fun z => ?_, hb, h.mono x (hk a hb nf (by rw [ho]; exact fun z => nomatch z))⟩
      rcases hf a z with z | z
      · exact nf z
      · rw [ho] at z; cases z
  | lent =>
    rcases h with ⟨m, h⟩ | ⟨a, e, nf, hb, h⟩
    · exact .inl ⟨m, h.mono x⟩
    · obtain ⟨o, ho⟩ := h.isSome
      refine .inr ⟨a, e, fun z => ?_, hb, h.mono x (hk a hb nf (by rw [ho]; exact fun z => nomatch z))⟩
      rcases hf a z with z | z
      · exact nf z
      · rw [ho] at z; cases z
theorem ext_alloc {p : Addr} {o : HO} (hp : H p = none) (dom : ∀ a, F a → ∃ o, H a = some o) : Ext F H F (upd H p o) :=
  ⟨fun _ h => h, fun a h => upd_ne (by obtain ⟨o, e⟩ := dom a h; exact ne_of_none e hp), fun a vs h => by rw [upd_ne (ne_of_none h hp)]; exact h⟩
/-- a new object -/
theorem Rel.alloc {p : Addr} {o : HO} (R : Rel K HB F0 P c τ F σ H) (hp : H p = none) : Rel K HB F0 P c τ F σ (upd H p o) := by
  have x : Ext F H F (upd H p o) := ext_alloc hp R.dom
  have nn : ∀ a, H a ≠ none → upd H p o a = H a := fun a h => upd_ne fun e => h (by rw [e]; exact hp)
  refine ⟨fun a u h => ?_, fun a h => ?_, R.f0, R.f1, R.len, fun i d h => ?_, R.sep, R.pin⟩
  · have e := R.same a u h
    rw [nn a (by rw [e]; exact fun z => nomatch z)]; exact e
  · obtain ⟨u, e⟩ := R.dom a h
    exact ⟨u, by rw [nn a (by rw [e]; exact fun z => nomatch z)]; exact e⟩
  · obtain ⟨v, e, s⟩ := R.slot i d h
    exact ⟨v, e, s.mono x (fun a h => .inl h) fun a _ _ h => nn a h⟩
/-- F grows by an object that no slot holds alone -/
theorem Rel.grow {a : Addr} (R : Rel K HB F0 P c τ F σ H) (ha : ∃ o, H a = some o) (hb : HB a = none) (no : ∀ i, ¬ Holds c τ σ i a) : Rel K HB F0 P c τ (fun b => F b ∨ b = a) σ H := by
  have x : Ext F H (fun b => F b ∨ b = a) H := ⟨fun _ h => .inl h, fun _ _ => rfl, fun _ _ h => h⟩
  refine ⟨R.same, fun b h => ?_, fun b h => .inl (R.f0 b h), fun b h => ?_, R.len, fun i d h => ?_, R.sep, R.pin⟩
  · rcases h with h | rfl
    · exact R.dom b h
    · exact ha
  · rcases h with h | rfl
    · exact R.f1 b h
    · exact .inr hb
  · obtain ⟨v, e, s⟩ := R.slot i d h
    refine ⟨v, e, ?_⟩
    cases hf : fl c i with
    | shr => rw [hf] at s; exact RepV.mono x s
    | own =>
      rw [hf] at s
      rcases s with ⟨m, s⟩ | ⟨b, eb, nf, hbb, s⟩
      · exact .inl ⟨m, s.mono x⟩
      · refine .inr ⟨b, eb, fun z => ?_, hbb, s.mono x rfl⟩
        rcases z with z | rfl
        · exact nf z
        · exact no i ⟨by rw [hf]; exact (fun z => nomatch z), by rw [e, eb], d, h, s.lent.mut⟩
    | lent =>
      rw [hf] at s
      rcases s with ⟨m, s⟩ | ⟨b, eb, nf, hbb, s⟩
      · exact .inl ⟨m, s.mono x⟩
      · refine .inr ⟨b, eb, fun z => ?_, hbb, s.mono x rfl⟩
        rcases z with z | rfl
        · exact nf z
        · exact no i ⟨by rw [hf]; exact (fun z => nomatch z), by rw [e, eb], d, h, s.mut⟩

theorem fl_set {c : Ctx} {i j : Nat} {f : Fl} (h : i ≠ j) : fl (c.set i f) j = fl c j := by
  unfold fl; rw [List.getElem?_set_ne h]
theorem fl_set_self {c : Ctx} {i : Nat} {f : Fl} (h : i < c.length) : fl (c.set i f) i = f := by
  unfold fl; rw [List.getElem?_set_self h]; rfl
theorem fl_set_shr {c : Ctx} {i : Nat} : fl (c.set i .shr) i = .shr := by
  unfold fl
  by_cases h : i < c.length
  · rw [List.getElem?_set_self h]; rfl
  · rw [List.getElem?_eq_none (by simpa using h)]; rfl
/-- flags only lowered: c' is c but where it says shr -/
def Low (c c' : Ctx) : Prop := ∀ i, fl c' i = fl c i ∨ fl c' i = .shr
theorem Low.holds {c c' : Ctx} {τ : Env} {σ : L2.St} {i : Nat} {a : Addr} (l : Low c c') (h : Holds c' τ σ i a) : Holds c τ σ i a := by
  obtain ⟨h1, h2, h3⟩ := h
  rcases l i with e | e
  · exact ⟨by rw [← e]; exact h1, h2, h3⟩
  · exact absurd e h1
/-- one slot's object is frozen -/
theorem Rel.freeze (R : Rel K HB F0 P c τ F σ H) (i : Nat) : ∃ F', Rel K HB F0 P (c.set i .shr) τ F' σ H ∧ Ext F H F' H := by
  have low : Low c (c.set i .shr) := fun j => by
    by_cases e : i = j
    · subst e; exact .inr fl_set_shr
    · exact .inl (fl_set e)
  by_cases hh : ∃ a, Holds c τ σ i a
  · obtain ⟨a, hs, ha, d, hd, hm⟩ := hh
    obtain ⟨v, ev, sl⟩ := R.slot i d hd
    rw [ha] at ev; cases ev
    have sl' : ¬ F a ∧ HB a = none ∧ LentC K F H d a := by
      cases hf : fl c i with
      | shr => exact absurd hf hs
      | own =>
        rw [hf] at sl
        rcases sl with ⟨m, _⟩ | ⟨b, eb, nf, hb, s⟩
        · rw [hm] at m; cases m
        · cases eb; exact ⟨nf, hb, s.lent⟩
      | lent =>
        rw [hf] at sl
        rcases sl with ⟨m, _⟩ | ⟨b, eb, nf, hb, s⟩
        · rw [hm] at m; cases m
        · cases eb; exact ⟨nf, hb, s⟩
    obtain ⟨nf, hb, s⟩ := sl'
    have x : Ext F H (fun b => F b ∨ b = a) H := ⟨fun _ h => .inl h, fun _ _ => rfl, fun _ _ h => h⟩
    have only : ∀ j, j ≠ i → ¬ Holds c τ σ j a := fun j hj q => R.sep j i a hj q ⟨hs, ha, d, hd, hm⟩
    refine ⟨fun b => F b ∨ b = a, ⟨R.same, fun b h => ?_, fun b h => .inl (R.f0 b h), fun b h => ?_, R.len, fun j e h => ?_, fun j k b hjk p q => R.sep j k b hjk (low.holds p) (low.holds q), R.pin⟩, x⟩
    · rcases h with h | rfl
      · exact R.dom b h
      · exact s.isSome
    · rcases h with h | rfl
      · exact R.f1 b h
      · exact .inr hb
    · by_cases eij : i = j
      · subst eij
        rw [fl_set_shr]
        rw [hd] at h; cases h
        exact ⟨_, ha, (s.mono x rfl).rep (.inr rfl)⟩
      · rw [fl_set eij]
        obtain ⟨v, e', s'⟩ := R.slot j e h
        refine ⟨v, e', ?_⟩
        cases hf : fl c j with
        | shr => rw [hf] at s'; exact RepV.mono x s'
        | own =>
          rw [hf] at s'
          rcases s' with ⟨m, s'⟩ | ⟨b, eb, nf', hbb, s'⟩
          · exact .inl ⟨m, s'.mono x⟩
          · refine .inr ⟨b, eb, fun z => ?_, hbb, s'.mono x rfl⟩
            rcases z with z | rfl
            · exact nf' z
            · exact only j (Ne.symm eij) ⟨by rw [hf]; exact (fun z => nomatch z), by rw [e', eb], e, h, s'.lent.mut⟩
        | lent =>
          rw [hf] at s'
          rcases s' with ⟨m, s'⟩ | ⟨b, eb, nf', hbb, s'⟩
          · exact .inl ⟨m, s'.mono x⟩
          · refine .inr ⟨b, eb, fun z => ?_, hbb, s'.mono x rfl⟩
            rcases z with z | rfl
            · exact nf' z
            · exact only j (Ne.symm eij) ⟨by rw [hf]; exact (fun z => nomatch z), by rw [e', eb], e, h, s'.mut⟩
  · refine ⟨F, ⟨R.same, R.dom, R.f0, R.f1, R.len, fun j e h => ?_, fun j k b hjk p q => R.sep j k b hjk (low.holds p) (low.holds q), R.pin⟩, Ext.refl F H⟩
    obtain ⟨v, e', s'⟩ := R.slot j e h
    refine ⟨v, e', ?_⟩
    by_cases eij : i = j
    · subst eij
      rw [fl_set_shr]
      cases hf : fl c i with
      | shr => rw [hf] at s'; exact s'
      | own =>
        rw [hf] at s'
        rcases s' with ⟨_, s'⟩ | ⟨b, eb, _, _, s'⟩
        · exact s'
        · exact absurd ⟨b, by rw [hf]; exact (fun z => nomatch z), by rw [e', eb], e, h, s'.lent.mut⟩ hh
      | lent =>
        rw [hf] at s'
        rcases s' with ⟨_, s'⟩ | ⟨b, eb, _, _, s'⟩
        · exact s'
        · exact absurd ⟨b, by rw [hf]; exact (fun z => nomatch z), by rw [e', eb], e, h, s'.mut⟩ hh
    · rw [fl_set eij]; exact s'
/-- several -/
theorem Rel.lower : ∀ (is : List Nat) {c : Ctx} {F : AS}, Rel K HB F0 P c τ F σ H → ∃ F', Rel K HB F0 P (is.foldl (fun c i => c.set i .shr) c) τ F' σ H ∧ Ext F H F' H
  | [], _, F, R => ⟨F, R, Ext.refl F H⟩
  | i :: is, c, F, R => by
    obtain ⟨F1, R1, x1⟩ := R.freeze i
    obtain ⟨F2, R2, x2⟩ := Rel.lower is R1
    exact ⟨F2, R2, x1.trans x2⟩
/-- an equal context, by flags -/
theorem Rel.same_flags {c' : Ctx} (R : Rel K HB F0 P c τ F σ H) (h : ∀ i, fl c' i = fl c i) : Rel K HB F0 P c' τ F σ H :=
  ⟨R.same, R.dom, R.f0, R.f1, R.len, fun i d e => by rw [h i]; exact R.slot i d e, fun i j a n p q => R.sep i j a n ⟨by rw [← h i]; exact p.1, p.2⟩ ⟨by rw [← h j]; exact q.1, q.2⟩, R.pin⟩
/-- own slots may be lent -/
theorem Rel.lend (R : Rel K HB F0 P c τ F σ H) (i : Nat) (hf : fl c i = .own) : Rel K HB F0 P (c.set i .lent) τ F σ H := by
  have hi : i < c.length := by
    unfold fl at hf
    by_cases h : i < c.length
    · exact h
    · rw [List.getElem?_eq_none (by simpa using h)] at hf; cases hf
  refine ⟨R.same, R.dom, R.f0, R.f1, R.len, fun j d e => ?_, fun j k b hjk p q => R.sep j k b hjk ?_ ?_, R.pin⟩
  · obtain ⟨v, e', s⟩ := R.slot j d e
    refine ⟨v, e', ?_⟩
    by_cases eij : i = j
    · subst eij
      rw [fl_set_self hi]
      rw [hf] at s
      rcases s with s | ⟨a, e1, e2, e3, s⟩
      · exact .inl s
      · exact .inr ⟨a, e1, e2, e3, s.lent⟩
    · rw [fl_set eij]; exact s
  · by_cases eij : i = j
    · subst eij; exact ⟨by rw [hf]; exact (fun z => nomatch z), p.2⟩
    · exact ⟨by rw [← fl_set eij]; exact p.1, p.2⟩
  · by_cases eij : i = k
    · subst eij; exact ⟨by rw [hf]; exact (fun z => nomatch z), q.2⟩
    · exact ⟨by rw [← fl_set eij]; exact q.1, q.2⟩
/-- what a fresh value is: no slot holds it, and what may change is not in F -/
def FreshR (K : PySem.W.Frag) (HB : Hp) (F : AS) (H : Hp) (c : Ctx) (τ : Env) (σ : L2.St) (d : D) (v : V) : Prop :=
  (isMut d = false ∧ RepV K F H d v) ∨ ∃ a, v = .ref a ∧ ¬ F a ∧ HB a = none ∧ OwnC K F H d a ∧ ∀ i, ¬ Holds c τ σ i a
/-- a fresh value is frozen -/
theorem Rel.frozen {d : D} {v : V} (R : Rel K HB F0 P c τ F σ H) (h : FreshR K HB F H c τ σ d v) : ∃ F', Rel K HB F0 P c τ F' σ H ∧ Ext F H F' H ∧ RepV K F' H d v := by
  rcases h with ⟨_, h⟩ | ⟨a, e, nf, hb, s, no⟩
  · exact ⟨F, R, Ext.refl F H, h⟩
  · subst e
    have x : Ext F H (fun b => F b ∨ b = a) H := ⟨fun _ h => .inl h, fun _ _ => rfl, fun _ _ h => h⟩
    exact ⟨_, R.grow s.lent.isSome hb no, x, (s.lent.mono x rfl).rep (.inr rfl)⟩
/-- a slot is stored: shared -/
theorem Rel.setShr {i : Nat} {d : D} {v : V} (R : Rel K HB F0 P c τ F σ H) (h : RepV K F H d v) (hp : ∀ p ∈ P, p.1 ≠ i) : Rel K HB F0 P (c.set i .shr) (τ.set i (some d)) F (σ.set i (some v)) H := by
  refine ⟨R.same, R.dom, R.f0, R.f1, by rw [List.length_set, List.length_set]; exact R.len, fun j e he => ?_, fun j k b hjk p q => R.sep j k b hjk ?_ ?_, fun p m => ?_⟩
  · by_cases eij : i = j
    · subst eij
      rw [fl_set_shr]
      by_cases hi : i < τ.length
      · rw [List.getElem?_set_self hi] at he
        cases he
        exact ⟨v, by rw [List.getElem?_set_self (by rw [R.len]; exact hi)], h⟩
      · rw [List.getElem?_eq_none (by simpa using hi)] at he; cases he
    · rw [List.getElem?_set_ne eij] at he
      rw [fl_set eij, List.getElem?_set_ne eij]
      exact R.slot j e he
  · by_cases eij : i = j
    · subst eij; exact absurd fl_set_shr p.1
    · exact ⟨by rw [← fl_set eij]; exact p.1, by rw [← List.getElem?_set_ne eij]; exact p.2.1, by rw [← List.getElem?_set_ne eij]; exact p.2.2⟩
  · by_cases eij : i = k
    · subst eij; exact absurd fl_set_shr q.1
    · exact ⟨by rw [← fl_set eij]; exact q.1, by rw [← List.getElem?_set_ne eij]; exact q.2.1, by rw [← List.getElem?_set_ne eij]; exact q.2.2⟩
  · have hne := Ne.symm (hp p m)
    rw [List.getElem?_set_ne hne, List.getElem?_set_ne hne]
    exact R.pin p m
/-- a slot is stored: its own -/
theorem Rel.setOwn {i : Nat} {d : D} {v : V} (R : Rel K HB F0 P c τ F σ H) (h : FreshR K HB F H c τ σ d v) (hp : ∀ p ∈ P, p.1 ≠ i) (hc : i < c.length) : Rel K HB F0 P (c.set i .own) (τ.set i (some d)) F (σ.set i (some v)) H := by
  have key : ∀ j b, Holds (c.set i .own) (τ.set i (some d)) (σ.set i (some v)) j b → (j = i ∧ v = .ref b ∧ isMut d = true) ∨ Holds c τ σ j b := fun j b p => by
    by_cases eij : i = j
    · subst eij
      obtain ⟨_, p1, e, p2, m⟩ := p
      have hi : i < τ.length := by
        by_cases hi : i < τ.length
        · exact hi
        · rw [List.getElem?_eq_none (by simpa using hi)] at p2; cases p2
      rw [List.getElem?_set_self hi] at p2
      rw [List.getElem?_set_self (by rw [R.len]; exact hi)] at p1
      cases p1; cases p2
      exact .inl ⟨rfl, rfl, m⟩
    · exact .inr ⟨by rw [← fl_set eij]; exact p.1, by rw [← List.getElem?_set_ne eij]; exact p.2.1, by rw [← List.getElem?_set_ne eij]; exact p.2.2⟩
  have no : ∀ b, v = .ref b → isMut d = true → ∀ j, ¬ Holds c τ σ j b := fun b e m => by
    rcases h with ⟨m', _⟩ | ⟨a, e', _, _, _, no⟩
    · rw [m] at m'; cases m'
    · rw [e] at e'; cases e'; exact no
  refine ⟨R.same, R.dom, R.f0, R.f1, by rw [List.length_set, List.length_set]; exact R.len, fun j e he => ?_, fun j k b hjk p q => ?_, fun p m => ?_⟩
  · by_cases eij : i = j
    · subst eij
      rw [fl_set_self hc]
      by_cases hi : i < τ.length
      · rw [List.getElem?_set_self hi] at he
        cases he
        refine ⟨v, by rw [List.getElem?_set_self (by rw [R.len]; exact hi)], ?_⟩
        rcases h with h | ⟨a, e1, e2, e3, e4, _⟩
        · exact .inl h
        · exact .inr ⟨a, e1, e2, e3, e4⟩
      · rw [List.getElem?_eq_none (by simpa using hi)] at he; cases he
    · rw [List.getElem?_set_ne eij] at he
      rw [fl_set eij, List.getElem?_set_ne eij]
      exact R.slot j e he
  · rcases key j b p with ⟨ej, e, m⟩ | p'
    · rcases key k b q with ⟨ek, _, _⟩ | q'
      · exact hjk (ej.trans ek.symm)
      · exact no b e m k q'
    · rcases key k b q with ⟨ek, e, m⟩ | q'
      · exact no b e m j p'
      · exact R.sep j k b hjk p' q'
  · have hne := Ne.symm (hp p m)
    rw [List.getElem?_set_ne hne, List.getElem?_set_ne hne]
    exact R.pin p m
/-- slots forgotten -/
theorem Rel.forget {τ' : Env} (R : Rel K HB F0 P c τ F σ H) (hl : τ'.length = τ.length) (h : ∀ (i : Nat) d, τ'[i]? = some (some d) → τ[i]? = some (some d)) (hp : ∀ p ∈ P, τ'[p.1]? = some (some p.2.2)) : Rel K HB F0 P c τ' F σ H :=
  ⟨R.same, R.dom, R.f0, R.f1, by rw [hl]; exact R.len, fun i d e => R.slot i d (h i d e), fun i j a n p q => R.sep i j a n ⟨p.1, p.2.1, let ⟨d, e, m⟩ := p.2.2; ⟨d, h i d e, m⟩⟩ ⟨q.1, q.2.1, let ⟨d, e, m⟩ := q.2.2; ⟨d, h j d e, m⟩⟩, fun p m => ⟨(R.pin p m).1, hp p m⟩⟩
/-- the object of an own slot is changed -/
theorem Rel.write {i : Nat} {a : Addr} {d d' : D} {o : HO} (R : Rel K HB F0 P c τ F σ H) (hf : fl c i = .own) (hv : σ[i]? = some (some (.ref a))) (hd : τ[i]? = some (some d)) (hm : isMut d = true)
    (hn : ∀ x, Ext F H F (upd H a o) → OwnC K F (upd H a o) d' x ∨ x ≠ a) (hp : ∀ p ∈ P, p.1 ≠ i) : Rel K HB F0 P c (τ.set i (some d')) F σ (upd H a o) ∧ Ext F H F (upd H a o) := by
  have hi : i < τ.length := by
    by_cases hi : i < τ.length
    · exact hi
    · rw [List.getElem?_eq_none (by simpa using hi)] at hd; cases hd
  obtain ⟨v, ev, sl⟩ := R.slot i d hd
  rw [hv] at ev; cases ev
  rw [hf] at sl
  rcases sl with ⟨m, _⟩ | ⟨b, eb, nf, hb, s⟩
  · rw [hm] at m; cases m
  cases eb
  have nt : ∀ b vs, H b = some (.tup vs) → b ≠ a := fun b vs e z => by
    subst z
    cases d with
    | lst _ => obtain ⟨_, h, _⟩ := s; rw [h] at e; cases e
    | dct t _ _ =>
      cases t
      · obtain ⟨_, h, _⟩ := s; rw [h] at e; cases e
      · obtain ⟨_, h, _⟩ := s; rw [h] at e; cases e
    | _ => cases hm
  have x : Ext F H F (upd H a o) := ⟨fun _ h => h, fun b (h : F b) => upd_ne fun (z : b = a) => nf (z ▸ h), fun b vs h => by rw [upd_ne (nt b vs h)]; exact h⟩
  have hi' : Holds c τ σ i a := ⟨by rw [hf]; exact (fun z => nomatch z), hv, d, hd, hm⟩
  refine ⟨⟨fun b u h => ?_, fun b h => ?_, R.f0, R.f1, by rw [List.length_set]; exact R.len, fun j e he => ?_, fun j k b hjk p q => R.sep j k b hjk ?_ ?_, fun p m => ?_⟩, x⟩
  · rw [upd_ne fun z => by rw [z, hb] at h; cases h]; exact R.same b u h
  · rw [upd_ne fun (z : b = a) => nf (z ▸ h)]; exact R.dom b h
  · by_cases eij : i = j
    · subst eij
      rw [List.getElem?_set_self hi] at he
      cases he
      rw [hf]
      refine ⟨_, hv, .inr ⟨a, rfl, nf, hb, ?_⟩⟩
      rcases hn a x with h | h
      · exact h
      · exact absurd rfl h
    · rw [List.getElem?_set_ne eij] at he
      obtain ⟨v, e', s'⟩ := R.slot j e he
      refine ⟨v, e', ?_⟩
      cases hfj : fl c j with
      | shr => rw [hfj] at s'; exact RepV.mono x s'
      | own =>
        rw [hfj] at s'
        rcases s' with ⟨m, s'⟩ | ⟨b, eb, nf', hbb, s'⟩
        · exact .inl ⟨m, s'.mono x⟩
        · refine .inr ⟨b, eb, nf', hbb, s'.mono x (upd_ne fun z => ?_)⟩
          subst z
          exact R.sep i j b eij hi' ⟨by rw [hfj]; exact (fun z => nomatch z), by rw [e', eb], e, he, s'.lent.mut⟩
      | lent =>
        rw [hfj] at s'
        rcases s' with ⟨m, s'⟩ | ⟨b, eb, nf', hbb, s'⟩
        · exact .inl ⟨m, s'.mono x⟩
        · refine .inr ⟨b, eb, nf', hbb, s'.mono x (upd_ne fun z => ?_)⟩
          subst z
          exact R.sep i j b eij hi' ⟨by rw [hfj]; exact (fun z => nomatch z), by rw [e', eb], e, he, s'.mut⟩
  · refine ⟨p.1, p.2.1, ?_⟩
    by_cases eij : i = j
    · subst eij; exact ⟨d, hd, hm⟩
    · obtain ⟨e, h1, h2⟩ := p.2.2
      exact ⟨e, by rw [← List.getElem?_set_ne eij]; exact h1, h2⟩
  · refine ⟨q.1, q.2.1, ?_⟩
    by_cases eij : i = k
    · subst eij; exact ⟨d, hd, hm⟩
    · obtain ⟨e, h1, h2⟩ := q.2.2
      exact ⟨e, by rw [← List.getElem?_set_ne eij]; exact h1, h2⟩
  · rw [List.getElem?_set_ne (Ne.symm (hp p m))]
    exact R.pin p m

/-! ### a value that is read at once: shared, or a slot's -/
def HdR (K : PySem.W.Frag) (F : AS) (H : Hp) (τ : Env) (σ : L2.St) (d : D) (v : V) : Prop := RepV K F H d v ∨ ∃ i : Nat, τ[i]? = some (some d) ∧ σ[i]? = some (some v)
theorem HdR.mono {d : D} {v : V} (x : Ext F H F' H') (h : HdR K F H τ σ d v) : HdR K F' H' τ σ d v := h.imp (fun h => h.mono x) id
/-- what is known of it now -/
def ReadR (K : PySem.W.Frag) (F : AS) (H : Hp) (d : D) (v : V) : Prop := RepV K F H d v ∨ ∃ a, v = .ref a ∧ LentC K F H d a
theorem Rel.read {d : D} {v : V} (R : Rel K HB F0 P c τ F σ H) (h : HdR K F H τ σ d v) : ReadR K F H d v := by
  rcases h with h | ⟨i, h1, h2⟩
  · exact .inl h
  · obtain ⟨w, e, s⟩ := R.slot i d h1
    rw [h2] at e; cases e
    cases hf : fl c i with
    | shr => rw [hf] at s; exact .inl s
    | own =>
      rw [hf] at s
      rcases s with ⟨_, s⟩ | ⟨a, e, _, _, s⟩
      · exact .inl s
      · exact .inr ⟨a, e, s.lent⟩
    | lent =>
      rw [hf] at s
      rcases s with ⟨_, s⟩ | ⟨a, e, _, _, s⟩
      · exact .inl s
      · exact .inr ⟨a, e, s⟩
end
end PV

namespace PV
open PySem PySem.Spec PyProof.Rows L2

/-- what an expression's value is worth: fresh, or shared -/
def ResR (K : PySem.W.Frag) (HB : Hp) (F : AS) (H : Hp) (c : Ctx) (τ : Env) (σ : L2.St) : Bool → D → V → Prop
  | true => FreshR K HB F H c τ σ
  | false => RepV K F H
/-- a def's promise, by its worth -/
def spD (K : PySem.W.Frag) (φ : List D → Option D) : Sp := fun vs H Q _ => ∃ (F0 : AS) (ds : List D) (d : D), (∀ a, F0 a → ∃ o, H a = some o) ∧ RepL K F0 H ds vs ∧ φ ds = some d ∧
  ∀ v H' F', (∀ a o, H a = some o → H' a = some o) → (∀ a, F0 a → F' a) → (∀ a, F' a → F0 a ∨ H a = none) → (∀ a, F' a → ∃ o, H' a = some o) → RepV K F' H' d v → Q v H'

/-- where one stands, statically -/
structure SC where
  N : List Str
  sc : Scope
  fs : List (Str × Nat × Nat)
  gs : List (Str × Int)
  fr : List Str
  kl : List (Nat × List Nat)
  raw : Option Scope
  pin : List Nat
def fnB (S : SC) (x : Str) : Bool := match S.raw with
  | none => true
  | some s => s.names.lookup x == some .cell
structure XOk (cl : Nat → List D → Option D) (k : Nat) (S : SC) (X : Cx) : Prop where
  hN : X.N = S.N
  nd : X.N.Nodup
  sc : X.env.scope = S.sc
  calm : X.calm = true
  fnk : ∀ x, fnB S x = true → X.fn x = true
  free : ∀ x ∈ S.fr, X.mg x = none
  glob : ∀ x i, S.gs.lookup x = some i → ∃ t, X.mg x = some (.int i t)
  funs : ∀ x f ar, S.fs.lookup x = some (f, ar) → ∃ a fd ps, X.mg x = some (.ref a) ∧ PySem.W.keepIn X.K (.ref a) = true ∧ Binds X.K fd ps [] ∧ ps.length = ar ∧ FnOk X.prog X.w X.K X.mg X.base CX0 k a fd ps (spD X.K (cl f))
  room : Room k X.A
  nox : X.xe = fun _ _ => False
  kind : S.sc.kind = .function

/-- pins speak of the slots that are lent -/
def PinOk (pn : List Nat) (P : Pins) : Prop := ∀ p ∈ P, p.1 ∈ pn
section
variable (cl : Nat → List D → Option D) (K : PySem.W.Frag) (pn : List Nat)
/-- the readings -/
def RE (ce : C) (c c' : Ctx) (fr : Bool) : TE := fun σ H Q => ∃ HB F0 P F τ d, PinOk pn P ∧ Rel K HB F0 P c τ F σ H ∧ evE cl ce τ = some d ∧
  ∀ v H' F', Rel K HB F0 P c' τ F' σ H' → Ext F H F' H' → ResR K HB F' H' c' τ σ fr d v → Q v H'
def RB (ce : C) (c c' : Ctx) : TE := fun σ H Q => ∃ HB F0 P F τ d, PinOk pn P ∧ Rel K HB F0 P c τ F σ H ∧ evE cl ce τ = some d ∧
  ∀ v H' F', Rel K HB F0 P c' τ F' σ H' → Ext F H F' H' → HdR K F' H' τ σ d v → Q v H'
def RT (ce : C) (c c' : Ctx) : TT := fun σ H Q => ∃ HB F0 P F τ b, PinOk pn P ∧ Rel K HB F0 P c τ F σ H ∧ evT cl ce τ = some b ∧
  ∀ H' F', Rel K HB F0 P c' τ F' σ H' → Ext F H F' H' → Q b H'
/-- arguments: shared, or read at once -/
def RA (ces : List C) (c c' : Ctx) : TA := fun σ H Q => ∃ HB F0 P F τ ds, PinOk pn P ∧ Rel K HB F0 P c τ F σ H ∧ evEs cl ces τ = some ds ∧
  ∀ vs H' F', Rel K HB F0 P c' τ F' σ H' → Ext F H F' H' → RepL K F' H' ds vs → Q vs H'
def RAB (ces : List C) (c c' : Ctx) : TA := fun σ H Q => ∃ HB F0 P F τ ds, PinOk pn P ∧ Rel K HB F0 P c τ F σ H ∧ evEs cl ces τ = some ds ∧
  ∀ vs H' F', Rel K HB F0 P c' τ F' σ H' → Ext F H F' H' → Paired (HdR K F' H' τ σ) ds vs → Q vs H'
end
theorem PE.imp {X : Cx} {e : Expr} {t t' : TE} (h : PE X e t) (i : ∀ σ H Q, t' σ H Q → t σ H Q) : PE X e t' := ⟨fun pins s σ H Q I q => h.run pins s σ H Q I (i σ H Q q)⟩
theorem PE.or {X : Cx} {e : Expr} {t t' : TE} (h : PE X e t) (h' : PE X e t') : PE X e (fun σ H Q => t σ H Q ∨ t' σ H Q) := ⟨fun pins s σ H Q I q => q.elim (h.run pins s σ H Q I) (h'.run pins s σ H Q I)⟩
theorem PT.imp {X : Cx} {e : Expr} {t t' : TT} (h : PT X e t) (i : ∀ σ H Q, t' σ H Q → t σ H Q) : PT X e t' := ⟨fun pins s σ H Q I q => h.run pins s σ H Q I (i σ H Q q)⟩
theorem PT.or {X : Cx} {e : Expr} {t t' : TT} (h : PT X e t) (h' : PT X e t') : PT X e (fun σ H Q => t σ H Q ∨ t' σ H Q) := ⟨fun pins s σ H Q I q => q.elim (h.run pins s σ H Q I) (h'.run pins s σ H Q I)⟩
theorem PA.imp {X : Cx} {e : List Expr} {t t' : TA} (h : PA X e t) (i : ∀ σ H Q, t' σ H Q → t σ H Q) : PA X e t' := ⟨fun pos pins s σ H Q I q => h.run pos pins s σ H Q I (i σ H Q q)⟩
theorem PS.imp {X : Cx} {e : Stmt} {t t' : TS} (h : PS X e t) (i : ∀ D σ H, t' D σ H → t D σ H) : PS X e t' := ⟨fun pins s σ H D I q => h.run pins s σ H D I (i D σ H q)⟩
theorem PS.or {X : Cx} {e : Stmt} {t t' : TS} (h : PS X e t) (h' : PS X e t') : PS X e (fun D σ H => t D σ H ∨ t' D σ H) := ⟨fun pins s σ H D I q => q.elim (h.run pins s σ H D I) (h'.run pins s σ H D I)⟩
theorem PSs.imp {X : Cx} {e : List Stmt} {t t' : TS} (h : PSs X e t) (i : ∀ D σ H, t' D σ H → t D σ H) : PSs X e t' := ⟨fun pins s σ H D I q => h.run pins s σ H D I (i D σ H q)⟩
theorem PI.imp {X : Cx} {tg e : Expr} {t t' : TI} (h : PI X tg e t) (i : ∀ σ H R, t' σ H R → t σ H R) : PI X tg e t' := ⟨fun pins s σ H R I q => h.run pins s σ H R I (i σ H R q)⟩
theorem PI.or {X : Cx} {tg e : Expr} {t t' : TI} (h : PI X tg e t) (h' : PI X tg e t') : PI X tg e (fun σ H R => t σ H R ∨ t' σ H R) := ⟨fun pins s σ H R I q => q.elim (h.run pins s σ H R I) (h'.run pins s σ H R I)⟩

section
variable {cl : Nat → List D → Option D} {k : Nat} {K : PySem.W.Frag} {pn : List Nat} {c c' : Ctx} {ce : C}
/-- fresh, or shared: shared -/
theorem RE.shared {fr : Bool} {σ : L2.St} {H : Hp} {Q : VK} (h : RE cl K pn ce c c' false σ H Q) : RE cl K pn ce c c' fr σ H Q := by
  cases fr with
  | false => exact h
  | true =>
    obtain ⟨HB, F0, P, F, τ, d, hp, R, ev, q⟩ := h
    refine ⟨HB, F0, P, F, τ, d, hp, R, ev, fun v H' F' R' x r => ?_⟩
    obtain ⟨F2, R2, x2, r2⟩ := R'.frozen r
    exact q v H' F2 R2 (x.trans x2) r2
theorem RE.borrow {fr : Bool} {σ : L2.St} {H : Hp} {Q : VK} (h : RB cl K pn ce c c' σ H Q) : RE cl K pn ce c c' fr σ H Q := by
  refine RE.shared ?_
  obtain ⟨HB, F0, P, F, τ, d, hp, R, ev, q⟩ := h
  exact ⟨HB, F0, P, F, τ, d, hp, R, ev, fun v H' F' R' x r => q v H' F' R' x (.inl r)⟩
end

/-! ### an expression is kept -/
section
variable (cl : Nat → List D → Option D) (k : Nat)
def OkE (S : SC) (c : Ctx) (e : Expr) (ce : C) (c' : Ctx) (fr : Bool) : Prop := ∀ X, XOk cl k S X → PE X e (RE cl X.K S.pin ce c c' fr)
def OkB (S : SC) (c : Ctx) (e : Expr) (ce : C) (c' : Ctx) : Prop := ∀ X, XOk cl k S X → PE X e (RB cl X.K S.pin ce c c')
def OkT (S : SC) (c : Ctx) (e : Expr) (ce : C) (c' : Ctx) : Prop := ∀ X, XOk cl k S X → PT X e (RT cl X.K S.pin ce c c')
def OkA (S : SC) (c : Ctx) (es : List Expr) (ces : List C) (c' : Ctx) : Prop := ∀ X, XOk cl k S X → PA X es (RA cl X.K S.pin ces c c')
def OkAB (S : SC) (c : Ctx) (es : List Expr) (ces : List C) (c' : Ctx) : Prop := ∀ X, XOk cl k S X → PA X es (RAB cl X.K S.pin ces c c')
end
section
variable {cl : Nat → List D → Option D} {k : Nat} {S : SC} {c c1 c2 c3 : Ctx} {e e1 e2 e3 : Expr} {ce ce1 ce2 ce3 : C} {fr : Bool} {pos : Pos}
theorem OkE.shared (h : OkE cl k S c e ce c1 fr) : OkE cl k S c e ce c1 false := fun X x => PE.imp (h X x) fun _ _ _ q => RE.shared q
theorem OkE.b (h : OkE cl k S c e ce c1 fr) : OkB cl k S c e ce c1 := fun X x => PE.imp (h X x) fun _ _ _ q => RE.borrow q

/-- what a fresh (or plain) value asks: the value of an operation is handed on -/
theorem fresh_plain {K : PySem.W.Frag} {HB : Hp} {F : AS} {H : Hp} {c : Ctx} {τ : Env} {σ : L2.St} {d : D} {v : V} (m : isMut d = false) (h : RepV K F H d v) : FreshR K HB F H c τ σ d v := .inl ⟨m, h⟩
theorem Rel.newObj {K : PySem.W.Frag} {HB : Hp} {F0 : AS} {P : Pins} {c : Ctx} {τ : Env} {F : AS} {σ : L2.St} {H : Hp} {p : Addr} {o : HO} (R : Rel K HB F0 P c τ F σ H) (hp : H p = none) :
    Rel K HB F0 P c τ F σ (upd H p o) ∧ Ext F H F (upd H p o) ∧ ¬ F p ∧ HB p = none ∧ ∀ i, ¬ Holds c τ σ i p := by
  refine ⟨R.alloc hp, ext_alloc hp R.dom, fun z => ?_, ?_, fun i h => ?_⟩
  · obtain ⟨u, e⟩ := R.dom p z; rw [hp] at e; cases e
  · cases e : HB p with
    | none => rfl
    | some u => have := R.same p u e; rw [hp] at this; cases this
  · obtain ⟨h1, h2, d, h3, h4⟩ := h
    obtain ⟨v, e, s⟩ := R.slot i d h3
    rw [h2] at e; cases e
    have : ∃ o, H p = some o := by
      cases hf : fl c i with
      | shr => exact absurd hf h1
      | own =>
        rw [hf] at s
        rcases s with ⟨m, _⟩ | ⟨a, ea, _, _, s⟩
        · rw [h4] at m; cases m
        · cases ea; exact s.lent.isSome
      | lent =>
        rw [hf] at s
        rcases s with ⟨m, _⟩ | ⟨a, ea, _, _, s⟩
        · rw [h4] at m; cases m
        · cases ea; exact s.isSome
    obtain ⟨o, e⟩ := this
    rw [hp] at e; cases e
/-- a new list -/
theorem fresh_lst {K : PySem.W.Frag} {HB : Hp} {F0 : AS} {P : Pins} {c : Ctx} {τ : Env} {F : AS} {σ : L2.St} {H : Hp} {p : Addr} {xs : List D} {vs : List V} (R : Rel K HB F0 P c τ F σ H) (hp : H p = none) (r : RepL K F H xs vs) :
    FreshR K HB F (upd H p (.lst vs)) c τ σ (.lst xs) (.ref p) := by
  obtain ⟨_, x, nf, hb, no⟩ := R.newObj (o := .lst vs) hp
  exact .inr ⟨p, rfl, nf, hb, ⟨vs, upd_same, r.mono x⟩, no⟩
/-- a new tuple -/
theorem rep_tup {K : PySem.W.Frag} {HB : Hp} {F0 : AS} {P : Pins} {c : Ctx} {τ : Env} {F : AS} {σ : L2.St} {H : Hp} {p : Addr} {xs : List D} {vs : List V} (R : Rel K HB F0 P c τ F σ H) (hp : H p = none) (r : RepL K F H xs vs) :
    RepV K F (upd H p (.tup vs)) (.tup xs) (.ref p) := by
  obtain ⟨_, x, _⟩ := R.newObj (o := .tup vs) hp
  exact .tup upd_same (r.mono x)

/-! ### reading -/
variable {K : PySem.W.Frag} {F : AS} {H : Hp}
theorem ReadR.int {i : Int} {v : V} (h : ReadR K F H (.int i) v) : v = .int i := by
  rcases h with h | ⟨a, _, h⟩
  · cases h; rfl
  · exact h.elim
theorem ReadR.bl {b : Bool} {v : V} (h : ReadR K F H (.bl b) v) : v = .bl b := by
  rcases h with h | ⟨a, _, h⟩
  · cases h; rfl
  · exact h.elim
theorem ReadR.lst {xs : List D} {v : V} (h : ReadR K F H (.lst xs) v) : ∃ a vs, v = .ref a ∧ H a = some (.lst vs) ∧ RepL K F H xs vs := by
  rcases h with h | ⟨a, e, vs, h, r⟩
  · cases h with
    | lst f h r => exact ⟨_, _, rfl, h, r⟩
  · exact ⟨a, vs, e, h, r⟩
theorem ReadR.tup {xs : List D} {v : V} (h : ReadR K F H (.tup xs) v) : ∃ a vs, v = .ref a ∧ H a = some (.tup vs) ∧ RepL K F H xs vs := by
  rcases h with h | ⟨a, _, h⟩
  · cases h with
    | tup h r => exact ⟨_, _, rfl, h, r⟩
  · exact h.elim
theorem sqL_mono {K : PySem.W.Frag} {H : Hp} {a : Addr} {vs : List V} (h : SqL K (fun _ => none) a vs) : SqL K H a vs := by
  rcases h with (h | ⟨_, h⟩) | h
  · cases h
  · cases h
  · exact .inr h
theorem ReadR.scr {xs : List D} {v : V} (h : ReadR K F H (.scr xs) v) : ∃ a vs, v = .ref a ∧ SqL K H a vs ∧ RepL K F H xs vs := by
  rcases h with h | ⟨a, _, h⟩
  · cases h with
    | scrF f h r => exact ⟨_, _, rfl, .inl h, r⟩
    | scrK h r => exact ⟨_, _, rfl, sqL_mono h, r⟩
  · exact h.elim
theorem ReadR.dct {t : Bool} {ks xs : List D} {v : V} (h : ReadR K F H (.dct t ks xs) v) : ∃ a, v = .ref a ∧ LentC K F H (.dct t ks xs) a := by
  rcases h with h | ⟨a, e, h⟩
  · cases h with
    | dctK f h e r => exact ⟨_, rfl, _, h, e, r⟩
    | dctT f h e r => exact ⟨_, rfl, _, h, e, r⟩
  · exact ⟨a, e, h⟩
theorem ReadR.plain {d : D} {v : V} (h : ReadR K F H d v) (m : isMut d = false) : RepV K F H d v := by
  rcases h with h | ⟨a, _, h⟩
  · exact h
  · rw [h.mut] at m; cases m
end
end PV

/-! rules that the layer lacks, and operations by their worth -/
namespace PV
open PySem PySem.Spec PyProof.Rows L2

/-! ### a tuple times 1, times nothing -/
theorem tuple_mulS (l : Addr) (items : Array Value) (n : Nat) (dd : Option Addr) (sl : Array (Option Value)) (x : Int) (u : Tok) (r0 : (decide (x < -(2 ^ 63)) || decide (x ≥ 2 ^ 63)) = false) (r1 : (items.isEmpty || x == 1) = true) :
    Meets (Builtin.«tuple.__mul__» ⟨[.ref l, .int x u], []⟩) (fun _ R s => s.heap.get? l = some { cls := .type "tuple", dict := dd, data := .seq items n, slots := sl } ∧ R (.ok (.ret (Value.ref l))) s) :=
  .of_wp fun prog w A R s hh => by
    obtain ⟨hp, gg, dr, tk, os⟩ := s
    obtain ⟨hl, hh⟩ := hh
    have f1 := AutoSeq1.idx_int
    wp_walk using wpAny_loadPart' hl
    repeat (first
      | (refine wpAny_ite_false (decide_eq_false (by rw [r0]; exact Bool.false_ne_true)) ?_; wp_walk using wpAny_loadPart' hl)
      | (refine wpAny_ite_true (decide_eq_true (by rw [r1])) ?_; wp_walk using wpAny_loadPart' hl))
    exact ⟨_, rfl, hh⟩
theorem tuple_mulN (l : Addr) (items : Array Value) (n : Nat) (dd : Option Addr) (sl : Array (Option Value)) (x : Int) (u : Tok) (r0 : (decide (x < -(2 ^ 63)) || decide (x ≥ 2 ^ 63)) = false) (r1 : (items.isEmpty || x == 1) = false) (r2 : (decide (x ≤ 0) || items.isEmpty) = true) :
    Meets (Builtin.«tuple.__mul__» ⟨[.ref l, .int x u], []⟩) (fun _ R s => s.heap.get? l = some { cls := .type "tuple", dict := dd, data := .seq items n, slots := sl } ∧
      R (.ok (.ret (Value.ref s.heap.objs.size))) { s with heap := s.heap.push { cls := Value.type "tuple", data := Data.seq #[] }, toks := s.toks }) :=
  .of_wp fun prog w A R s hh => by
    obtain ⟨hp, gg, dr, tk, os⟩ := s
    obtain ⟨hl, hh⟩ := hh
    have f1 := AutoSeq1.idx_int
    wp_walk using wpAny_loadPart' hl
    repeat (first
      | (refine wpAny_ite_false (decide_eq_false (by rw [r0]; exact Bool.false_ne_true)) ?_; wp_walk using wpAny_loadPart' hl)
      | (refine wpAny_ite_false (decide_eq_false (by rw [r1]; exact Bool.false_ne_true)) ?_; wp_walk using wpAny_loadPart' hl)
      | (refine wpAny_ite_true (decide_eq_true (by rw [r2])) ?_; wp_walk using wpAny_loadPart' hl)
      | (refine wpAny_ite_false (decide_eq_false (by simp)) ?_; wp_walk using wpAny_loadPart' hl))
    exact ⟨_, rfl, hh⟩
def rRepS (K : PySem.W.Frag) : R2 := fun x y H Q => ∃ l k xs, x = .ref l ∧ y = .int k ∧ SqT K H l xs ∧ -(2 ^ 62) < k ∧ k < 2 ^ 62 ∧
  ((xs = [] ∨ k = 1) → Q (.ref l) H) ∧ (¬ (xs = [] ∨ k = 1) → k ≤ 0 ∧ ∀ p, H p = none → Q (.ref p) (upd H p (.tup [])))
theorem op_repS {X : Cx} : OpR X (binaryOp .Mult) (rRepS X.K) := by
  intro pins s σ H x y v u Q I rx ry h
  obtain ⟨l, k, xs, rfl, rfl, hT, h1, h2, q1, q2⟩ := h
  cases rx
  obtain ⟨t, rfl⟩ := ry
  obtain ⟨its, r, ⟨⟨cls, dd, data, sl⟩, ho, hc, n, hd⟩, hs⟩ := I.tuple hT
  simp only at hc hd
  subst hc hd
  have r0 : (decide (k < -(2 ^ 63)) || decide (k ≥ 2 ^ 63)) = false := by
    rw [decide_eq_false (show ¬ k < -(2 ^ 63) by omega), decide_eq_false (show ¬ k ≥ 2 ^ 63 by omega)]; rfl
  have hem : its.toArray.isEmpty = xs.isEmpty := by
    cases r <;> rfl
  by_cases hx : xs = [] ∨ k = 1
  · have r1 : (its.toArray.isEmpty || k == 1) = true := by
      rw [hem]
      rcases hx with rfl | rfl <;> simp
    exact wpAny_binaryOp_repeat_ref (T := "tuple") (U := "int") (by decide) ⟨_, ho, rfl⟩ (fun s' => typeIs_int s' k t) noFill_tuple_mul F.fills_int_mul F.slot_int_rmul repeat_tuple F.slot_int_index.lookup
      (call_meets F.slot_int_rmul (typeIs_int s k t) F.entry_int_rmul (F.args_int_rmul_2 _ _) (int_rmul_tuple k t l its.toArray n dd sl)
        ⟨ho, rfl, ⟨_, ho, rfl⟩, call_meets F.slot_tuple_mul ⟨_, ho, rfl⟩ F.entry_tuple_mul (F.args_tuple_mul_2 _ _) (tuple_mulS l its.toArray n dd sl k t r0 r1) ⟨ho, .ref l, H, I, rfl, q1 hx⟩⟩)
  · obtain ⟨hk, q⟩ := q2 hx
    have r1 : (its.toArray.isEmpty || k == 1) = false := by
      rw [hem]
      cases xs with
      | nil => exact absurd (.inl rfl) hx
      | cons a b =>
        rw [show (a :: b).isEmpty = false from rfl, Bool.false_or]
        exact beq_eq_false_iff_ne.mpr (by omega)
    have r2 : (decide (k ≤ 0) || its.toArray.isEmpty) = true := by rw [decide_eq_true hk]; rfl
    exact wpAny_binaryOp_repeat_ref (T := "tuple") (U := "int") (by decide) ⟨_, ho, rfl⟩ (fun s' => typeIs_int s' k t) noFill_tuple_mul F.fills_int_mul F.slot_int_rmul repeat_tuple F.slot_int_index.lookup
      (call_meets F.slot_int_rmul (typeIs_int s k t) F.entry_int_rmul (F.args_int_rmul_2 _ _) (int_rmul_tuple k t l its.toArray n dd sl)
        ⟨ho, rfl, ⟨_, ho, rfl⟩, call_meets F.slot_tuple_mul ⟨_, ho, rfl⟩ F.entry_tuple_mul (F.args_tuple_mul_2 _ _) (tuple_mulN l its.toArray n dd sl k t r0 r1 r2)
          ⟨ho, .ref s.heap.objs.size, _, I.laid (t' := s.toks) (o := .tup []) (fun b ob q => Heap.get?_push_of_some _ q) (Nat.le_refl _) ⟨Nat.zero_le _, [], .nil, IsTup.new _ _⟩, rfl, q _ (I.hok.fresh (Nat.le_refl _))⟩⟩)

/-! ### operators: the library's syntax, one rule an operator -/
def opOf : Bop → Operator
  | .add => .Add | .sub => .Sub | .mul => .Mult | .fdiv => .FloorDiv | .mod => .Mod | .pow => .Pow
  | .shl => .LShift | .shr => .RShift | .band => .BitAnd | .bor => .BitOr | .bxor => .BitXor
def rBop (K : PySem.W.Frag) : Bop → R2
  | .add => fun x y H Q => (rI0 fun i j => .int (i + j)) x y H Q ∨ rCat x y H Q ∨ rCatA K x y H Q
  | .sub => rI0 fun i j => .int (i - j)
  | .mul => fun x y H Q => (rI CMulW fun i j => .int (i * j)) x y H Q ∨ (rI CMul fun i j => .int (i * j)) x y H Q ∨ rRep x y H Q ∨ rRepT K x y H Q ∨ rRepS K x y H Q
  | .fdiv => fun x y H Q => (rI CDivN fun i j => .int (i.fdiv j)) x y H Q ∨ (rI CDivW fun i j => .int (i / j)) x y H Q
  | .mod => rI (fun _ j => j ≠ 0) fun i j => .int (i.fmod j)
  | .pow => rI CPow fun i j => .int (i ^ j.toNat)
  | .shl => rI CPow fun i j => .int (i * 2 ^ j.toNat)
  | .shr => rI (fun _ j => 0 ≤ j) fun i j => .int (i / 2 ^ j.toNat)
  | .band => rI0 fun i j => .int (Builtin.bitAnd i j)
  | .bor => rI0 fun i j => .int (Builtin.bitOr i j)
  | .bxor => rI0 fun i j => .int (Builtin.bitXor i j)
theorem op_all {X : Cx} : ∀ op : Bop, OpR X (binaryOp (opOf op)) (rBop X.K op)
  | .add => op_add.or (op_cat.or op_catA)
  | .sub => op_sub
  | .mul => op_mulW.or (op_mul.or (op_rep.or (op_repT.or op_repS)))
  | .fdiv => op_fdivN.or op_fdivW
  | .mod => op_modN
  | .pow => op_pow
  | .shl => op_shl
  | .shr => op_shr
  | .band => op_and
  | .bor => op_or
  | .bxor => op_xor
theorem pyDiv_fdiv (i j : Int) : i.fdiv j = pyDiv i j := by
  unfold pyDiv
  split
  · exact Int.fdiv_eq_ediv_of_nonneg _ (by omega)
  · rfl
theorem pyMod_fmod (i j : Int) : i.fmod j = pyMod i j := by
  unfold pyMod
  split
  · exact Int.fmod_eq_emod_of_nonneg _ (by omega)
  · rfl
section
variable {K : PySem.W.Frag} {HB : Hp} {F0 : AS} {P : Pins} {c : Ctx} {τ : Env} {F : AS} {σ : L2.St} {H : Hp} {Q : VK}
/-- what is wanted behind an operation -/
abbrev Post (K : PySem.W.Frag) (HB : Hp) (F0 : AS) (P : Pins) (c : Ctx) (τ : Env) (F : AS) (σ : L2.St) (H : Hp) (fr : Bool) (d : D) (Q : VK) : Prop :=
  ∀ v H' F', Rel K HB F0 P c τ F' σ H' → Ext F H F' H' → ResR K HB F' H' c τ σ fr d v → Q v H'
theorem Post.int {fr : Bool} {i : Int} (R : Rel K HB F0 P c τ F σ H) (q : Post K HB F0 P c τ F σ H fr (.int i) Q) : Q (.int i) H := by
  refine q _ _ F R (Ext.refl F H) ?_
  cases fr
  · exact .int i
  · exact fresh_plain rfl (.int i)
theorem Post.bl {fr : Bool} {i : Bool} (R : Rel K HB F0 P c τ F σ H) (q : Post K HB F0 P c τ F σ H fr (.bl i) Q) : Q (.bl i) H := by
  refine q _ _ F R (Ext.refl F H) ?_
  cases fr
  · exact .bl i
  · exact fresh_plain rfl (.bl i)
theorem Post.lst {xs : List D} {vs : List V} (R : Rel K HB F0 P c τ F σ H) (q : Post K HB F0 P c τ F σ H true (.lst xs) Q) (r : RepL K F H xs vs) : ∀ p, H p = none → Q (.ref p) (upd H p (.lst vs)) := fun p hp =>
  q _ _ F (R.newObj hp).1 (R.newObj hp).2.1 (fresh_lst R hp r)
theorem Post.tup {xs : List D} {vs : List V} (R : Rel K HB F0 P c τ F σ H) (q : Post K HB F0 P c τ F σ H true (.tup xs) Q) (r : RepL K F H xs vs) : ∀ p, H p = none → Q (.ref p) (upd H p (.tup vs)) := fun p hp =>
  q _ _ F (R.newObj hp).1 (R.newObj hp).2.1 (fresh_plain rfl (rep_tup R hp r))
theorem RepL.nil_iff {xs : List D} {vs : List V} (r : RepL K F H xs vs) : vs = [] ↔ xs = [] := by
  cases r <;> simp
theorem bin_ok {op : Bop} {x y z : D} {v u : V} (R : Rel K HB F0 P c τ F σ H) (hx : ReadR K F H x v) (hy : ReadR K F H y u) (e : binD op x y = some z)
    (q : Post K HB F0 P c τ F σ H true z Q) : rBop K op v u H Q := by
  have sl : sizeLine = 16777216 := rfl
  unfold binD at e
  split at e
  · cases e; cases hx.int; cases hy.int; exact .inl ⟨_, _, rfl, rfl, q.int R⟩
  · split at e
    · rename_i hs
      cases e
      obtain ⟨a, vs, rfl, ha, ra⟩ := hx.lst
      obtain ⟨b, ws, rfl, hb, rb⟩ := hy.lst
      rw [ra.length, rb.length] at hs
      exact .inr (.inl ⟨a, b, vs, ws, rfl, rfl, ha, hb, by have := of_decide_eq_true hs; omega, q.lst R (ra.append rb)⟩)
    · cases e
  · split at e
    · rename_i hs
      cases e
      obtain ⟨a, vs, rfl, ha, ra⟩ := hx.tup
      obtain ⟨b, ws, rfl, hb, rb⟩ := hy.tup
      rw [ra.length, rb.length] at hs
      refine .inr (.inr ⟨a, b, vs, ws, rfl, rfl, .of ha, .of hb, by have := of_decide_eq_true hs; omega, fun z => ?_, fun _ z => ?_, fun _ _ => q.tup R (ra.append rb)⟩)
      · subst z
        cases ra
        exact q _ _ F R (Ext.refl F H) (fresh_plain rfl (.tup hb rb))
      · subst z
        cases rb
        rw [List.append_nil] at q
        exact q _ _ F R (Ext.refl F H) (fresh_plain rfl (.tup ha ra))
    · cases e
  · cases e; cases hx.int; cases hy.int; exact ⟨_, _, rfl, rfl, q.int R⟩
  · split at e
    · rename_i hs
      cases e; cases hx.int; cases hy.int
      unfold mulOk at hs
      simp only [Bool.or_eq_true, decide_eq_true_eq] at hs
      rcases hs with (hs | hs) | hs
      · exact .inl ⟨_, _, rfl, rfl, hs, q.int R⟩
      · exact .inr (.inl ⟨_, _, rfl, rfl, .inl (by omega), q.int R⟩)
      · exact .inr (.inl ⟨_, _, rfl, rfl, .inr (by omega), q.int R⟩)
    · cases e
  · split at e
    · rename_i hs
      cases e; cases hy.int
      obtain ⟨a, vs, rfl, ha, ra⟩ := hx.lst
      simp only [Bool.and_eq_true, decide_eq_true_eq] at hs
      rw [ra.length] at hs
      exact .inr (.inr (.inl ⟨a, _, vs, rfl, rfl, ha, by omega, by omega, by omega, q.lst R (ra.rep _)⟩))
    · cases e
  · split at e
    · rename_i xs j hs
      cases e; cases hy.int
      obtain ⟨a, vs, rfl, ha, ra⟩ := hx.tup
      simp only [Bool.and_eq_true, decide_eq_true_eq] at hs
      have hl := ra.length
      by_cases hc : vs = [] ∨ j = 1 ∨ j ≤ 0
      · refine .inr (.inr (.inr (.inr ⟨a, j, vs, rfl, rfl, .of ha, by omega, by omega, fun h1 => ?_, fun h1 => ⟨?_, ?_⟩⟩)))
        · have e1 : repL j.toNat xs = xs := by
            unfold repL
            rcases h1 with h1 | h1
            · rw [ra.nil_iff.mp h1]; simp
            · rw [h1]; simp
          rw [e1] at q
          exact q _ _ F R (Ext.refl F H) (fresh_plain rfl (.tup ha ra))
        · rcases hc with h2 | h2 | h2
          · exact absurd (.inl h2) h1
          · exact absurd (.inr h2) h1
          · exact h2
        · have e2 : j.toNat = 0 := by
            rcases hc with h2 | h2 | h2
            · exact absurd (.inl h2) h1
            · exact absurd (.inr h2) h1
            · omega
          have e1 : repL j.toNat xs = [] := by
            unfold repL
            rw [e2]; rfl
          rw [e1] at q
          exact q.tup R .nil
      · simp only [not_or] at hc
        exact .inr (.inr (.inr (.inl ⟨a, j, vs, rfl, rfl, .of ha, hc.1, by omega, by omega, by omega, q.tup R (ra.rep _)⟩)))
    · cases e
  · split at e
    · rename_i hs
      cases e; cases hx.int; cases hy.int
      unfold divOk at hs
      simp only [Bool.and_eq_true, Bool.or_eq_true, decide_eq_true_eq] at hs
      rcases hs with ⟨h0, h1 | h1⟩
      · exact .inl ⟨_, _, rfl, rfl, ⟨h0, h1⟩, by dsimp only; rw [pyDiv_fdiv]; exact q.int R⟩
      · refine .inr ⟨_, _, rfl, rfl, h1, ?_⟩
        have := q.int R
        unfold pyDiv at this
        rw [if_pos h1.1] at this
        exact this
    · cases e
  · split at e
    · cases e
    · cases e; cases hx.int; cases hy.int
      exact ⟨_, _, rfl, rfl, by assumption, by dsimp only; rw [pyMod_fmod]; exact q.int R⟩
  · split at e
    · rename_i hs
      cases e; cases hx.int; cases hy.int
      unfold powOk at hs
      simp only [Bool.and_eq_true, decide_eq_true_eq] at hs
      exact ⟨_, _, rfl, rfl, ⟨hs.1.1, hs.1.2, hs.2⟩, q.int R⟩
    · cases e
  · split at e
    · rename_i hs
      cases e; cases hx.int; cases hy.int
      unfold powOk at hs
      simp only [Bool.and_eq_true, decide_eq_true_eq] at hs
      exact ⟨_, _, rfl, rfl, ⟨hs.1.1, hs.1.2, hs.2⟩, q.int R⟩
    · cases e
  · split at e
    · cases e; cases hx.int; cases hy.int
      exact ⟨_, _, rfl, rfl, by assumption, q.int R⟩
    · cases e
  · cases e; cases hx.int; cases hy.int; exact ⟨_, _, rfl, rfl, q.int R⟩
  · cases e; cases hx.int; cases hy.int; exact ⟨_, _, rfl, rfl, q.int R⟩
  · cases e; cases hx.int; cases hy.int; exact ⟨_, _, rfl, rfl, q.int R⟩
  · cases e
end
end PV

/-! comparisons, places, slices -/
namespace PV
open PySem PySem.Spec PyProof.Rows L2

mutual
def toPy : D → PyData
  | .non => .none
  | .bl b => .bool b
  | .int i => .int i
  | .str x => .str x
  | .tup xs => .tuple (toPys xs)
  | .lst xs => .list (toPys xs)
  | .scr _ => .dict []
  | .dct _ _ _ => .dict []
def toPys : List D → List PyData
  | [] => []
  | x :: xs => toPy x :: toPys xs
end
mutual
theorem eqv_toPy : ∀ (n m : Nat) (x y : D), shap n x = true → shap m y = true → PyData.eqv (toPy x) (toPy y) = eqB x y
  | _, _, .non, y, _, h => by cases y <;> simp_all [toPy, PyData.eqv, eqB]
  | _, _, .bl a, y, _, h => by cases y <;> simp_all [toPy, PyData.eqv, eqB, b2i]
  | _, _, .int a, y, _, h => by cases y <;> simp_all [toPy, PyData.eqv, eqB, b2i]
  | _, _, .str a, y, _, h => by cases y <;> simp_all [toPy, PyData.eqv, eqB]
  | n, m, .tup xs, y, g, h => by
    cases y with
    | tup ys =>
      cases n with
      | zero => simp [shap] at g
      | succ n =>
        cases m with
        | zero => simp [shap] at h
        | succ m =>
          simp only [toPy, PyData.eqv, eqB]
          exact eqvs_toPy n m xs ys (by simpa [shap] using g) (by simpa [shap] using h)
    | _ => simp_all [toPy, PyData.eqv, eqB]
  | n, m, .lst xs, y, g, h => by
    cases y with
    | lst ys =>
      cases n with
      | zero => simp [shap] at g
      | succ n =>
        cases m with
        | zero => simp [shap] at h
        | succ m =>
          simp only [toPy, PyData.eqv, eqB]
          exact eqvs_toPy n m xs ys (by simpa [shap] using g) (by simpa [shap] using h)
    | _ => simp_all [toPy, PyData.eqv, eqB]
  | n, _, .scr _, _, g, _ => by simp [shap] at g
  | n, _, .dct _ _ _, _, g, _ => by simp [shap] at g
theorem eqvs_toPy : ∀ (n m : Nat) (xs ys : List D), shaps n xs = true → shaps m ys = true → PyData.eqvAll (toPys xs) (toPys ys) = eqBs xs ys
  | _, _, [], [], _, _ => rfl
  | _, _, [], _ :: _, _, _ => rfl
  | _, _, _ :: _, [], _, _ => rfl
  | n, m, x :: xs, y :: ys, g, h => by
    simp only [shaps, Bool.and_eq_true] at g h
    simp only [toPys, PyData.eqvAll, eqBs]
    rw [eqv_toPy n m x y g.1 h.1, eqvs_toPy n m xs ys g.2 h.2]
end
mutual
theorem lay_toPy : ∀ (n : Nat) (x : D), shap n x = true → (toPy x).canLay0 = true ∧ (toPy x).depth ≤ n
  | n, .non, _ => ⟨rfl, Nat.zero_le _⟩
  | n, .bl _, _ => ⟨rfl, Nat.zero_le _⟩
  | n, .int _, _ => ⟨rfl, Nat.zero_le _⟩
  | n, .str _, h => ⟨by simpa [shap, toPy] using h, Nat.zero_le _⟩
  | 0, .tup _, h => by simp [shap] at h
  | n + 1, .tup xs, h => by
    have := lays_toPy n xs (by simpa [shap] using h)
    simp only [toPy, PyData.canLay0, PyData.depth]
    exact ⟨this.1, by omega⟩
  | 0, .lst _, h => by simp [shap] at h
  | n + 1, .lst xs, h => by
    have := lays_toPy n xs (by simpa [shap] using h)
    simp only [toPy, PyData.canLay0, PyData.depth]
    exact ⟨this.1, by omega⟩
  | _, .scr _, h => by simp [shap] at h
  | _, .dct _ _ _, h => by simp [shap] at h
theorem lays_toPy : ∀ (n : Nat) (xs : List D), shaps n xs = true → PyData.canLayAll0 (toPys xs) = true ∧ PyData.depthAll (toPys xs) ≤ n
  | _, [], _ => ⟨rfl, Nat.zero_le _⟩
  | n, x :: xs, h => by
    simp only [shaps, Bool.and_eq_true] at h
    have h1 := lay_toPy n x h.1
    have h2 := lays_toPy n xs h.2
    simp only [toPys, PyData.canLayAll0, PyData.depthAll, Bool.and_eq_true]
    exact ⟨⟨h1.1, h2.1⟩, by omega⟩
end
theorem shaped_of {x : D} (h : shap 60 x = true) : SeqAt.shaped (toPy x) = true := by
  have := lay_toPy 60 x h
  unfold SeqAt.shaped
  rw [this.1, decide_eq_true (show (toPy x).depth ≤ 64 by omega)]; rfl
theorem shaped_list {xs : List D} (h : shaps 60 xs = true) : SeqAt.shaped (.list (toPys xs)) = true := by
  have := lays_toPy 60 xs h
  exact Bool.and_eq_true_iff.mpr ⟨this.1, decide_eq_true (show PyData.depthAll (toPys xs) + 1 ≤ 64 by omega)⟩
section
variable {K : PySem.W.Frag} {F : AS} {H : Hp}
mutual
theorem RepV.dp : ∀ (n : Nat) {x : D} {v : V}, shap n x = true → RepV K F H x v → Dp K H v (toPy x)
  | _, .non, _, _, .non => .non
  | _, .bl _, _, _, .bl _ => .bl _
  | _, .int _, _, _, .int _ => .int _
  | _, .str _, _, _, .str _ => .str _
  | 0, .tup _, _, h, _ => by simp [shap] at h
  | n + 1, .tup xs, _, h, .tup e r => .tup (.of e) (RepL.dp n (by simpa [shap] using h) r)
  | 0, .lst _, _, h, _ => by simp [shap] at h
  | n + 1, .lst xs, _, h, .lst _ e r => .lst (.of e) (RepL.dp n (by simpa [shap] using h) r)
  | _, .scr _, _, h, _ => by simp [shap] at h
  | _, .dct _ _ _, _, h, _ => by simp [shap] at h
theorem RepL.dp : ∀ (n : Nat) {xs : List D} {vs : List V}, shaps n xs = true → RepL K F H xs vs → DpAll K H vs (toPys xs)
  | _, [], _, _, .nil => .nil
  | n, x :: xs, _, h, .cons a r => by
    simp only [shaps, Bool.and_eq_true] at h
    exact .cons (RepV.dp n h.1 a) (RepL.dp n h.2 r)
end
theorem ReadR.dp {x : D} {v : V} (h : shap 60 x = true) (r : ReadR K F H x v) : Dp K H v (toPy x) := by
  rcases r with r | ⟨a, e, r⟩
  · exact r.dp 60 h
  · subst e
    cases x with
    | lst xs =>
      obtain ⟨vs, e, r⟩ := r
      exact .lst (.of e) (r.dp 59 (by simpa [shap] using h))
    | dct _ _ _ => simp [shap] at h
    | _ => exact r.elim
theorem eqV_of {x y : D} {v u : V} (fx : flat x = true) (fy : flat y = true) (rx : RepV K F H x v) (ry : RepV K F H y u) : eqV v u = eqB x y ∧ flatV v = true ∧ flatV u = true := by
  cases rx <;> simp [flat] at fx <;> cases ry <;> simp [flat] at fy <;> simp [eqV, eqB, flatV, b2i]
theorem in_of {x : D} {v : V} (fx : flat x = true) (rx : RepV K F H x v) : ∀ {ys : List D} {us : List V}, ys.all flat = true → RepL K F H ys us → inV v us = (ys.any fun y => eqB y x) ∧ us.all flatV = true
  | _, _, _, .nil => ⟨rfl, rfl⟩
  | _, _, h, .cons a r => by
    rw [List.all_cons, Bool.and_eq_true] at h
    have h1 := eqV_of h.1 fx a rx
    have h2 := in_of fx rx h.2 r
    refine ⟨?_, by rw [List.all_cons, h1.2.1, h2.2]; rfl⟩
    unfold inV at *
    rw [List.any_cons, List.any_cons, h1.1, h2.1]
theorem any_toPys {x : D} (hx : shap 60 x = true) : ∀ {ys : List D}, shaps 60 ys = true → ((toPys ys).any fun z => PyData.eqv z (toPy x)) = (ys.any fun y => eqB y x)
  | [], _ => rfl
  | y :: ys, h => by
    simp only [shaps, Bool.and_eq_true] at h
    simp only [toPys, List.any_cons]
    rw [eqv_toPy 60 60 y x h.1 hx, any_toPys hx h.2]
theorem intsD_rep : ∀ {xs : List D} {vs : List V} {ns : List Int}, intsD xs = some ns → RepL K F H xs vs → vs = ns.map V.int
  | [], _, _, e, .nil => by cases e; rfl
  | .int i :: xs, _, ns, e, .cons a r => by
    simp only [intsD, Option.map_eq_some_iff] at e
    obtain ⟨ms, e1, e2⟩ := e
    subst e2
    cases a
    rw [intsD_rep e1 r]; rfl
  | .non :: _, _, _, e, .cons _ _ => by cases e
  | .bl _ :: _, _, _, e, .cons _ _ => by cases e
  | .str _ :: _, _, _, e, .cons _ _ => by cases e
  | .tup _ :: _, _, _, e, .cons _ _ => by cases e
  | .lst _ :: _, _, _, e, .cons _ _ => by cases e
  | .scr _ :: _, _, _, e, .cons _ _ => by cases e
  | .dct _ _ _ :: _, _, _, e, .cons _ _ => by cases e
theorem intsD_eq : ∀ {xs : List D} {ns : List Int}, intsD xs = some ns → xs = ns.map D.int
  | [], _, e => by cases e; rfl
  | .int i :: xs, ns, e => by
    simp only [intsD, Option.map_eq_some_iff] at e
    obtain ⟨ms, e1, e2⟩ := e
    subst e2
    rw [intsD_eq e1]; rfl
  | .non :: _, _, e => by cases e
  | .bl _ :: _, _, e => by cases e
  | .str _ :: _, _, e => by cases e
  | .tup _ :: _, _, e => by cases e
  | .lst _ :: _, _, e => by cases e
  | .scr _ :: _, _, e => by cases e
  | .dct _ _ _ :: _, _, e => by cases e
theorem rep_ints : ∀ (ns : List Int), RepL K F H (ns.map D.int) (ns.map V.int)
  | [] => .nil
  | n :: ns => .cons (.int n) (rep_ints ns)
theorem boolsD_rep : ∀ {xs : List D} {vs : List V} {ns : List Bool}, boolsD xs = some ns → RepL K F H xs vs → vs = ns.map V.bl
  | [], _, _, e, .nil => by cases e; rfl
  | .bl i :: xs, _, ns, e, .cons a r => by
    simp only [boolsD, Option.map_eq_some_iff] at e
    obtain ⟨ms, e1, e2⟩ := e
    subst e2
    cases a
    rw [boolsD_rep e1 r]; rfl
  | .non :: _, _, _, e, .cons _ _ => by cases e
  | .int _ :: _, _, _, e, .cons _ _ => by cases e
  | .str _ :: _, _, _, e, .cons _ _ => by cases e
  | .tup _ :: _, _, _, e, .cons _ _ => by cases e
  | .lst _ :: _, _, _, e, .cons _ _ => by cases e
  | .scr _ :: _, _, _, e, .cons _ _ => by cases e
  | .dct _ _ _ :: _, _, _, e, .cons _ _ => by cases e
theorem lexLt_eq : ∀ (a b : List Int), HT.lexLt a b = lexLt a b
  | [], [] => rfl
  | [], _ :: _ => rfl
  | _ :: _, [] => rfl
  | x :: xs, y :: ys => by
    rw [HT.lexLt_cons]
    unfold lexLt
    rw [lexLt_eq xs ys]
end

/-! ### comparisons -/
def cmpOf : Cop → CmpOp
  | .eq => .Eq | .ne => .NotEq | .lt => .Lt | .le => .LtE | .gt => .Gt | .ge => .GtE | .isN => .Is | .notN => .IsNot | .in_ => .In | .notIn => .NotIn
def rCop (K : PySem.W.Frag) : Cop → R2
  | .eq => rEqD K
  | .ne => rNeD K
  | .lt => fun x y H Q => (rI0 fun i j => .bl (decide (i < j))) x y H Q ∨ rLtT K x y H Q
  | .le => rI0 fun i j => .bl (decide (i ≤ j))
  | .gt => rI0 fun i j => .bl (decide (j < i))
  | .ge => rI0 fun i j => .bl (decide (j ≤ i))
  | .isN => fun x y H Q => y = .non ∧ Q (.bl (decide (x = .non))) H
  | .notN => fun x y H Q => y = .non ∧ Q (.bl (!decide (x = .non))) H
  | .in_ => fun x y H Q => rIn K false x y H Q ∨ rInD K x y H Q
  | .notIn => fun x y H Q => rIn K true x y H Q ∨ rNotInD K x y H Q
theorem op_cop {X : Cx} {k : Nat} (hr : Room k X.A) : ∀ op : Cop, OpR X (compareOp (cmpOf op)) (rCop X.K op)
  | .eq => op_eqD hr.units
  | .ne => op_neD hr.units
  | .lt => op_lt.or (op_ltT hr.units0)
  | .le => op_le
  | .gt => op_gt
  | .ge => op_ge
  | .isN => op_isN
  | .notN => op_notN
  | .in_ => op_in_seq.or (op_inD (by have := hr.un; omega))
  | .notIn => op_notIn_seq.or (op_notInD (by have := hr.un; omega))
section
variable {K : PySem.W.Frag} {F : AS} {H : Hp} {Q : VK}
theorem non_iff {x : D} {v : V} (h : ReadR K F H x v) : decide (v = .non) = isNon x := by
  rcases h with h | ⟨a, e, h⟩
  · cases h <;> simp [isNon]
  · subst e
    cases x <;> simp [LentC, isNon] at h ⊢
theorem cmp_ok {op : Cop} {x y : D} {b : Bool} {v u : V} (hx : ReadR K F H x v) (hy : ReadR K F H y u) (e : cmpD op x y = some b) (nd : (op = .in_ ∨ op = .notIn) → isDct y = false)
    (q : Q (.bl b) H) : rCop K op v u H Q := by
  unfold cmpD at e
  split at e
  · unfold eqD at e
    split at e
    · rename_i hs
      rw [Bool.and_eq_true] at hs
      cases e
      refine ⟨_, _, hx.dp hs.1, hy.dp hs.2, shaped_of hs.1, shaped_of hs.2, ?_⟩
      rw [eqv_toPy 60 60 _ _ hs.1 hs.2]; exact q
    · cases e
  · unfold eqD at e
    split at e
    · rename_i hs
      rw [Bool.and_eq_true] at hs
      cases e
      refine ⟨_, _, hx.dp hs.1, hy.dp hs.2, shaped_of hs.1, shaped_of hs.2, ?_⟩
      rw [eqv_toPy 60 60 _ _ hs.1 hs.2]; exact q
    · cases e
  · cases e; cases hx.int; cases hy.int; exact .inl ⟨_, _, rfl, rfl, q⟩
  · cases e; cases hx.int; cases hy.int; exact ⟨_, _, rfl, rfl, q⟩
  · cases e; cases hx.int; cases hy.int; exact ⟨_, _, rfl, rfl, q⟩
  · cases e; cases hx.int; cases hy.int; exact ⟨_, _, rfl, rfl, q⟩
  · simp only [Option.bind_eq_some_iff] at e
    obtain ⟨ns, e1, ms, e2, e3⟩ := e
    cases e3
    obtain ⟨a, vs, rfl, ha, ra⟩ := hx.tup
    obtain ⟨b, ws, rfl, hb, rb⟩ := hy.tup
    rw [intsD_rep e1 ra] at ha
    rw [intsD_rep e2 rb] at hb
    exact .inr ⟨a, b, ns, ms, rfl, rfl, .of ha, .of hb, by rw [lexLt_eq]; exact q⟩
  · cases e
    have e2 : u = .non := by
      have := hy.plain rfl
      cases this; rfl
    exact ⟨e2, by rw [non_iff hx]; exact q⟩
  · cases e
    have e2 : u = .non := by
      have := hy.plain rfl
      cases this; rfl
    exact ⟨e2, by rw [non_iff hx]; exact q⟩
  · exact absurd (nd (.inl rfl)) (fun z => nomatch z)
  · exact absurd (nd (.inr rfl)) (fun z => nomatch z)
  · split at e
    · rename_i hs
      rw [Bool.and_eq_true] at hs
      cases e
      obtain ⟨b, ws, rfl, hb, rb⟩ := hy.tup
      have rx := hx.plain (by cases x <;> first | rfl | simp [flat] at hs)
      have h1 := in_of hs.1 rx hs.2 rb
      refine .inl ⟨b, ws, rfl, .inr (.of hb), ?_, h1.2, by simp only [if_false, Bool.false_eq_true]; rw [h1.1]; exact q⟩
      cases rx <;> simp [flat] at hs <;> rfl
    · cases e
  · split at e
    · rename_i hs
      rw [Bool.and_eq_true] at hs
      cases e
      obtain ⟨b, ws, rfl, hb, rb⟩ := hy.lst
      exact .inr ⟨_, _, hx.dp hs.1, .lst (.of hb) (rb.dp 60 hs.2), shaped_of hs.1, shaped_list hs.2, by rw [any_toPys hs.1 hs.2]; exact q⟩
    · cases e
  · split at e
    · rename_i hs
      rw [Bool.and_eq_true] at hs
      cases e
      obtain ⟨b, ws, rfl, hb, rb⟩ := hy.tup
      have rx := hx.plain (by cases x <;> first | rfl | simp [flat] at hs)
      have h1 := in_of hs.1 rx hs.2 rb
      refine .inl ⟨b, ws, rfl, .inr (.of hb), ?_, h1.2, by simp only [if_true]; rw [h1.1]; exact q⟩
      cases rx <;> simp [flat] at hs <;> rfl
    · cases e
  · split at e
    · rename_i hs
      rw [Bool.and_eq_true] at hs
      cases e
      obtain ⟨b, ws, rfl, hb, rb⟩ := hy.lst
      exact .inr ⟨_, _, hx.dp hs.1, .lst (.of hb) (rb.dp 60 hs.2), shaped_of hs.1, shaped_list hs.2, by rw [any_toPys hs.1 hs.2]; exact q⟩
    · cases e
  · cases e
end
end PV

/-! dicts, places, slices, built-ins -/
namespace PV
open PySem PySem.Spec PyProof.Rows L2

/-! ### keys -/
theorem eqB_key (a b : Key) : eqB (kD a) (kD b) = decide (a = b) := by
  cases a <;> cases b <;> simp [kD, eqB] <;> exact Bool.beq_eq_decide_eq _ _
theorem eqBs_key : ∀ (a b : List Key), eqBs (a.map kD) (b.map kD) = decide (a = b)
  | [], [] => rfl
  | [], _ :: _ => rfl
  | _ :: _, [] => rfl
  | x :: xs, y :: ys => by
    simp only [List.map_cons, eqBs, eqB_key, eqBs_key xs ys]
    by_cases h : x = y <;> by_cases g : xs = ys <;> simp [h, g]
theorem eqB_keyT (a b : List Key) : eqB (.tup (a.map kD)) (.tup (b.map kD)) = decide (a = b) := by
  simp only [eqB]; exact eqBs_key a b
section
variable {K : PySem.W.Frag} {F : AS} {H : Hp}
theorem rep_key {κ : Key} {v : V} (h : RepV K F H (kD κ) v) : v = kV κ := by
  cases κ with
  | inl i => cases h; rfl
  | inr x => cases h; rfl
theorem reps_key : ∀ {κs : List Key} {vs : List V}, RepL K F H (κs.map kD) vs → vs = κs.map kV
  | [], _, .nil => rfl
  | _ :: _, _, .cons a r => by rw [rep_key a, reps_key r]; rfl
theorem key_plain {k : D} (h : keyOk k = true) (t : isTup k = false) : ∃ κ, k = kD κ := by
  cases k <;> simp [keyOk, isTup] at h t
  · exact ⟨.inl _, rfl⟩
  · exact ⟨.inr _, rfl⟩
theorem keys_flat : ∀ {xs : List D}, (∀ x ∈ xs, (match x with | .int _ => true | .str _ => true | _ => false) = true) → ∃ κs : List Key, xs = κs.map kD
  | [], _ => ⟨[], rfl⟩
  | x :: xs, h => by
    obtain ⟨κs, e⟩ := keys_flat (xs := xs) fun y hy => h y (List.mem_cons_of_mem _ hy)
    have hx := h x List.mem_cons_self
    cases x <;> simp at hx
    · exact ⟨.inl _ :: κs, by rw [e]; rfl⟩
    · exact ⟨.inr _ :: κs, by rw [e]; rfl⟩
theorem key_tup {k : D} (h : keyOk k = true) (t : isTup k = true) : ∃ κs : List Key, k = .tup (κs.map kD) := by
  cases k <;> simp [isTup] at t
  rename_i xs
  simp only [keyOk, List.all_eq_true] at h
  obtain ⟨κs, e⟩ := keys_flat h
  exact ⟨κs, by rw [e]⟩
/-- a table's look-up, as data and as it lies -/
theorem look_gen {α : Type} [DecidableEq α] (f : α → D) (hf : ∀ a b, eqB (f a) (f b) = decide (a = b)) (κ : α) : ∀ {kvs : List (α × V)} {xs : List D}, RepL K F H xs (kvs.map (·.2)) →
    (lookD (kvs.map fun p => f p.1) xs (f κ) = none ∧ valV kvs κ = none) ∨ ∃ d v, lookD (kvs.map fun p => f p.1) xs (f κ) = some d ∧ valV kvs κ = some v ∧ RepV K F H d v
  | [], _, .nil => .inl ⟨rfl, rfl⟩
  | p :: r, x :: xs, .cons a q => by
    by_cases e : p.1 = κ
    · refine .inr ⟨x, p.2, ?_, valV_pos e, a⟩
      simp only [List.map_cons, lookD, hf, decide_eq_true e, if_true]
    · rcases look_gen f hf κ q with ⟨h1, h2⟩ | ⟨d, v, h1, h2, h3⟩
      · refine .inl ⟨?_, by rw [valV_neg e]; exact h2⟩
        simp only [List.map_cons, lookD, hf, decide_eq_false e, Bool.false_eq_true, if_false]; exact h1
      · refine .inr ⟨d, v, ?_, by rw [valV_neg e]; exact h2, h3⟩
        simp only [List.map_cons, lookD, hf, decide_eq_false e, Bool.false_eq_true, if_false]; exact h1
theorem has_gen {α : Type} [DecidableEq α] (f : α → D) (hf : ∀ a b, eqB (f a) (f b) = decide (a = b)) (κ : α) (kvs : List (α × V)) : hasK (kvs.map fun p => f p.1) (f κ) = (kvs.any fun kv => decide (kv.1 = κ)) := by
  unfold hasK
  rw [List.any_map]
  congr 1
  funext p
  exact hf _ _
theorem rep_gen {α : Type} [DecidableEq α] (f : α → D) (hf : ∀ a b, eqB (f a) (f b) = decide (a = b)) (κ : α) {d : D} {v : V} (h : RepV K F H d v) : ∀ {kvs : List (α × V)} {xs : List D}, RepL K F H xs (kvs.map (·.2)) →
    RepL K F H (repV (kvs.map fun p => f p.1) xs (f κ) d) ((kvs.map fun kv => if kv.1 = κ then (kv.1, v) else kv).map (·.2))
  | [], _, .nil => .nil
  | p :: r, x :: xs, .cons a q => by
    simp only [List.map_cons, repV, hf]
    refine .cons ?_ (rep_gen f hf κ h q)
    by_cases e : p.1 = κ
    · simp only [e, decide_true, if_true]; exact h
    · simp only [e, decide_false, if_false, Bool.false_eq_true]; exact a
theorem put_gen {α : Type} [DecidableEq α] (f : α → D) (hf : ∀ a b, eqB (f a) (f b) = decide (a = b)) (κ : α) {d : D} {v : V} (h : RepV K F H d v) {kvs : List (α × V)} {xs : List D} (r : RepL K F H xs (kvs.map (·.2))) :
    putKs (kvs.map fun p => f p.1) (f κ) = (putK kvs κ v).map (fun p => f p.1) ∧ RepL K F H (putV (kvs.map fun p => f p.1) xs (f κ) d) ((putK kvs κ v).map (·.2)) := by
  unfold putKs putV putK
  rw [has_gen f hf]
  by_cases e : (kvs.any fun kv => decide (kv.1 = κ)) = true
  · rw [if_pos e, if_pos e, if_pos e]
    refine ⟨?_, rep_gen f hf κ h r⟩
    rw [List.map_map]
    refine List.map_congr_left fun p _ => ?_
    by_cases z : p.1 = κ <;> simp [z]
  · rw [if_neg e, if_neg e, if_neg e]
    refine ⟨by simp, ?_⟩
    rw [List.map_append]
    exact r.append (.cons h .nil)
/-- reading a dict at a key -/
theorem dget_ok {t : Bool} {ks xs : List D} {a : Addr} {key : D} {y : V} (l : LentC K F H (.dct t ks xs) a) (ry : RepV K F H key y) (ko : kindOk t key = true) :
    ∃ o, DGet H a y o ∧ ((lookD ks xs key = none ∧ o = none) ∨ ∃ d v, lookD ks xs key = some d ∧ o = some v ∧ RepV K F H d v) := by
  unfold kindOk at ko
  rw [Bool.and_eq_true, beq_iff_eq] at ko
  cases t with
  | false =>
    obtain ⟨kvs, h, rfl, r⟩ := l
    obtain ⟨κ, rfl⟩ := key_plain ko.1 ko.2
    rw [rep_key ry]
    refine ⟨valV kvs κ, .inl ⟨kvs, κ, h, rfl, rfl⟩, ?_⟩
    exact look_gen kD eqB_key κ r
  | true =>
    obtain ⟨kvs, h, rfl, r⟩ := l
    obtain ⟨κs, rfl⟩ := key_tup ko.1 ko.2
    cases ry with
    | tup e q =>
      rw [reps_key q] at e
      refine ⟨valV kvs κs, .inr ⟨kvs, κs, _, h, rfl, e, rfl⟩, ?_⟩
      exact look_gen (fun k : List Key => D.tup (k.map kD)) eqB_keyT κs r
/-- a store into a dict -/
theorem dput_ok {t : Bool} {ks xs : List D} {a : Addr} {key d : D} {y v : V} (l : OwnC K F H (.dct t ks xs) a) (ry : RepV K F H key y) (rv : RepV K F H d v) (ko : kindOk t key = true) (sz : ks.length ≤ 1000000) :
    ∃ H', DPut H a y v H' ∧ ∃ o, H' = upd H a o ∧ (Ext F H F H' → OwnC K F H' (.dct t (putKs ks key) (putV ks xs key d)) a) := by
  have sl : sizeLine = 16777216 := rfl
  unfold kindOk at ko
  rw [Bool.and_eq_true, beq_iff_eq] at ko
  cases t with
  | false =>
    obtain ⟨kvs, h, rfl, r⟩ := l
    obtain ⟨κ, rfl⟩ := key_plain ko.1 ko.2
    rw [rep_key ry]
    rw [List.length_map] at sz
    refine ⟨_, .inl ⟨kvs, κ, h, rfl, by omega, rfl⟩, _, rfl, fun x => ⟨putK kvs κ v, upd_same, ?_⟩⟩
    have := put_gen (H := upd H a (.dK (putK kvs κ v))) kD eqB_key κ (rv.mono x) (r.mono x)
    exact this
  | true =>
    obtain ⟨kvs, h, rfl, r⟩ := l
    obtain ⟨κs, rfl⟩ := key_tup ko.1 ko.2
    rw [List.length_map] at sz
    cases ry with
    | tup e q =>
      rw [reps_key q] at e
      refine ⟨_, .inr ⟨kvs, κs, _, h, rfl, e, by omega, rfl⟩, _, rfl, fun x => ⟨putK kvs κs v, upd_same, ?_⟩⟩
      have := put_gen (H := upd H a (.dT (putK kvs κs v))) (fun k : List Key => D.tup (k.map kD)) eqB_keyT κs (rv.mono x) (r.mono x)
      exact this
theorem key_read {t : Bool} {k : D} {y : V} (ko : kindOk t k = true) (h : ReadR K F H k y) : RepV K F H k y := h.plain (by
  unfold kindOk at ko
  rw [Bool.and_eq_true] at ko
  cases k <;> first | rfl | simp [keyOk] at ko)

/-! ### places -/
theorem ixN_eq (n : Nat) (i : Int) : L2.ixN n i = ixN n i := rfl
theorem atD_get {xs : List D} {vs : List V} {i : Int} {d : D} (r : RepL K F H xs vs) (e : atD xs i = some d) : ∃ v, atI vs i = some v ∧ RepV K F H d v := by
  unfold atD at e
  rw [Option.bind_eq_some_iff] at e
  obtain ⟨j, e1, e2⟩ := e
  obtain ⟨v, h1, h2⟩ := r.get e2
  refine ⟨v, ?_, h2⟩
  unfold atI
  rw [← r.length, ixN_eq, e1]
  exact h1
theorem idx_seq {x y z : D} {v u : V} {Q : VK} (hx : ReadR K F H x v) (hy : ReadR K F H y u) (nd : isDct x = false) (e : idxD x y = some z) (q : ∀ w, RepV K F H z w → Q w H) : rIx K v u H Q := by
  unfold idxD at e
  split at e
  · obtain ⟨a, vs, rfl, ha, ra⟩ := hx.lst
    cases hy.int
    obtain ⟨w, e1, rw⟩ := atD_get ra e
    exact .inl ⟨a, vs, _, w, rfl, rfl, .of ha, e1, q w rw⟩
  · obtain ⟨a, vs, rfl, ha, ra⟩ := hx.scr
    cases hy.int
    obtain ⟨w, e1, rw⟩ := atD_get ra e
    exact .inl ⟨a, vs, _, w, rfl, rfl, ha, e1, q w rw⟩
  · obtain ⟨a, vs, rfl, ha, ra⟩ := hx.tup
    cases hy.int
    obtain ⟨w, e1, rw⟩ := atD_get ra e
    exact .inr (.inl ⟨a, vs, _, w, rfl, rfl, .of ha, e1, q w rw⟩)
  · cases nd
  · cases e
theorem idx_dct {t : Bool} {ks xs : List D} {y z : D} {v u : V} {Q : VK} (hx : ReadR K F H (.dct t ks xs) v) (hy : ReadR K F H y u) (e : idxD (.dct t ks xs) y = some z) (q : ∀ w, RepV K F H z w → Q w H) :
    ∃ a w, v = .ref a ∧ DGet H a u (some w) ∧ Q w H := by
  simp only [idxD] at e
  split at e
  · rename_i ko
    obtain ⟨a, rfl, l⟩ := hx.dct
    obtain ⟨o, g, h⟩ := dget_ok l (key_read ko hy) ko
    rcases h with ⟨h, _⟩ | ⟨d, w, h1, h2, h3⟩
    · rw [h] at e; cases e
    · rw [h1] at e; cases e
      subst h2
      exact ⟨a, w, rfl, g, q w h3⟩
  · cases e
/-! ### slices -/
theorem sIx_eq (n d : Nat) (o : Option Int) : HT.sIx n d o = sIx n d o := by cases o <;> rfl
theorem cut_rep {xs : List D} {vs : List V} {lo hi : Option Int} (r : RepL K F H xs vs) : RepL K F H (cutD xs lo hi) (cutV vs lo hi) := by
  unfold cutD cutV
  rw [sIx_eq, sIx_eq, r.length]
  exact (r.drop _).take _
theorem cut_whole {xs : List D} {lo hi : Option Int} (h : sIx xs.length 0 lo = 0 ∧ sIx xs.length xs.length hi = xs.length) : cutD xs lo hi = xs := by
  unfold cutD
  rw [h.1, h.2]; simp
end
section
variable {K : PySem.W.Frag} {HB : Hp} {F0 : AS} {P : Pins} {c : Ctx} {τ : Env} {F : AS} {σ : L2.St} {H : Hp} {Q : VK}
theorem slc_ok {x z : D} {v : V} {lo hi : Option Int} (R : Rel K HB F0 P c τ F σ H) (hx : ReadR K F H x v) (e : slcX lo hi x = some z) (q : Post K HB F0 P c τ F σ H true z Q) : rSlL K v lo hi H Q ∨ rSlA K v lo hi H Q := by
  cases x with
  | lst xs =>
    cases e
    obtain ⟨a, vs, rfl, ha, ra⟩ := hx.lst
    exact .inl ⟨a, vs, rfl, .of ha, q.lst R (cut_rep ra)⟩
  | tup xs =>
    cases e
    obtain ⟨a, vs, rfl, ha, ra⟩ := hx.tup
    refine .inr ⟨a, vs, rfl, .of ha, fun h => ?_, fun h => q.tup R (cut_rep ra)⟩
    rw [sIx_eq, sIx_eq, ← ra.length] at h
    rw [cut_whole h] at q
    exact q _ _ F R (Ext.refl F H) (fresh_plain rfl (.tup ha ra))
  | _ => cases e
end

/-! ### built-ins by name -/
theorem perm_ins (a : Int) : ∀ l : List Int, (insI a l).Perm (a :: l)
  | [] => .refl _
  | b :: r => by
    unfold insI
    split
    · exact .refl _
    · exact ((perm_ins a r).cons b).trans (.swap a b r)
theorem perm_sortI : ∀ l : List Int, (sortI l).Perm l
  | [] => .refl _
  | a :: r => (perm_ins a (sortI r)).trans ((perm_sortI r).cons a)
theorem sorted_ins (a : Int) : ∀ l : List Int, l.Pairwise (· ≤ ·) → (insI a l).Pairwise (· ≤ ·)
  | [], _ => by simp [insI]
  | b :: r, h => by
    rw [List.pairwise_cons] at h
    unfold insI
    split
    · rename_i hab
      refine List.pairwise_cons.mpr ⟨fun x hx => ?_, List.pairwise_cons.mpr h⟩
      rcases List.mem_cons.mp hx with rfl | hx
      · exact hab
      · exact Int.le_trans hab (h.1 x hx)
    · rename_i hab
      refine List.pairwise_cons.mpr ⟨fun x hx => ?_, sorted_ins a r h.2⟩
      rcases List.mem_cons.mp ((perm_ins a r).mem_iff.mp hx) with rfl | hx
      · omega
      · exact h.1 x hx
theorem sorted_sortI : ∀ l : List Int, (sortI l).Pairwise (· ≤ ·)
  | [] => .nil
  | a :: r => sorted_ins a _ (sorted_sortI r)
/-- two ascending rows of the same numbers are one -/
theorem sorted_uniq : ∀ {l m : List Int}, l.Pairwise (· ≤ ·) → m.Pairwise (· ≤ ·) → l.Perm m → l = m
  | [], m, _, _, p => by simpa using p.symm.eq_nil
  | a :: l, [], _, _, p => by simpa using p.eq_nil
  | a :: l, b :: m, h, g, p => by
    rw [List.pairwise_cons] at h g
    have hab : a = b := by
      rcases List.mem_cons.mp (p.mem_iff.mp (List.mem_cons_self (a := a) (l := l))) with e | hm
      · exact e
      · rcases List.mem_cons.mp (p.mem_iff.mpr (List.mem_cons_self (a := b) (l := m))) with e | hl
        · exact e.symm
        · exact Int.le_antisymm (h.1 b hl) (g.1 a hm)
    subst hab
    rw [sorted_uniq h.2 g.2 p.cons_inv]
theorem maxI_mem : ∀ (a : Int) (l : List Int), maxI a l ∈ a :: l ∧ ∀ y ∈ a :: l, y ≤ maxI a l
  | a, [] => ⟨by simp [maxI], by simp [maxI]⟩
  | a, b :: r => by
    unfold maxI
    by_cases h : b > a
    · rw [if_pos h]
      obtain ⟨h1, h2⟩ := maxI_mem b r
      refine ⟨List.mem_cons_of_mem _ h1, fun y hy => ?_⟩
      rcases List.mem_cons.mp hy with rfl | hy
      · have := h2 b List.mem_cons_self; omega
      · exact h2 y hy
    · rw [if_neg h]
      obtain ⟨h1, h2⟩ := maxI_mem a r
      refine ⟨?_, fun y hy => ?_⟩
      · rcases List.mem_cons.mp h1 with e | h1
        · rw [e]; exact List.mem_cons_self
        · exact List.mem_cons_of_mem _ (List.mem_cons_of_mem _ h1)
      · rcases List.mem_cons.mp hy with rfl | hy
        · exact h2 y List.mem_cons_self
        · rcases List.mem_cons.mp hy with rfl | hy
          · have := h2 a List.mem_cons_self; omega
          · exact h2 y (List.mem_cons_of_mem _ hy)
theorem minI_mem : ∀ (a : Int) (l : List Int), minI a l ∈ a :: l ∧ ∀ y ∈ a :: l, minI a l ≤ y
  | a, [] => ⟨by simp [minI], by simp [minI]⟩
  | a, b :: r => by
    unfold minI
    by_cases h : b < a
    · rw [if_pos h]
      obtain ⟨h1, h2⟩ := minI_mem b r
      refine ⟨List.mem_cons_of_mem _ h1, fun y hy => ?_⟩
      rcases List.mem_cons.mp hy with rfl | hy
      · have := h2 b List.mem_cons_self; omega
      · exact h2 y hy
    · rw [if_neg h]
      obtain ⟨h1, h2⟩ := minI_mem a r
      refine ⟨?_, fun y hy => ?_⟩
      · rcases List.mem_cons.mp h1 with e | h1
        · rw [e]; exact List.mem_cons_self
        · exact List.mem_cons_of_mem _ (List.mem_cons_of_mem _ h1)
      · rcases List.mem_cons.mp hy with rfl | hy
        · exact h2 y List.mem_cons_self
        · rcases List.mem_cons.mp hy with rfl | hy
          · have := h2 a List.mem_cons_self; omega
          · exact h2 y (List.mem_cons_of_mem _ hy)
end PV

/-! built-ins called by name -/
namespace PV
open PySem PySem.Spec PyProof.Rows L2

theorem call_lenK {X : Cx} : CallR X (.builtin "len") (fun xs H Q => ∃ (a : Addr) (kvs : List (Key × V)), xs = [V.ref a] ∧ Rd H a (.dK kvs) ∧ Q (.int kvs.length) H) := by
  intro pins s σ H xs us Q I r h
  obtain ⟨a, kvs, rfl, ha, q⟩ := h
  obtain ⟨u, rfl, ru⟩ := vals1 r
  obtain rfl : u = .ref a := ru
  exact d_len I ha fun t s' I' => ⟨.int _, H, I', ⟨_, rfl⟩, q⟩
theorem call_lenT {X : Cx} : CallR X (.builtin "len") (fun xs H Q => ∃ (a : Addr) (kvs : List (List Key × V)), xs = [V.ref a] ∧ Rd H a (.dT kvs) ∧ Q (.int kvs.length) H) := by
  intro pins s σ H xs us Q I r h
  obtain ⟨a, kvs, rfl, ha, q⟩ := h
  obtain ⟨u, rfl, ru⟩ := vals1 r
  obtain rfl : u = .ref a := ru
  obtain ⟨z, hd, ys, rel, dd⟩ := dt_rd I.hok ha
  have sl : sizeLine = 16777216 := rfl
  have hl : kvs.length = ys.length := Paired.length rel
  refine call_len_dictH hd dd (by omega) ?_
  rw [← hl]
  exact ⟨.int _, H, I.tok _, ⟨_, rfl⟩, q⟩
def fval : Bi → Value
  | .len => .builtin "len" | .abs => .builtin "abs" | .int => .type "int" | .max => .builtin "max" | .min => .builtin "min"
  | .sum => .builtin "sum" | .any => .builtin "any" | .all => .builtin "all" | .sorted => .builtin "sorted"
  | .tuple => .type "tuple" | .list => .type "list" | .divmod => .builtin "divmod"
def rBi (K : PySem.W.Frag) : Bi → List V → Hp → VK → Prop
  | .len => fun xs H Q => (∃ p ys, xs = [.ref p] ∧ (SqL K H p ys ∨ SqT K H p ys) ∧ Q (.int ys.length) H) ∨ (∃ (a : Addr) (kvs : List (Key × V)), xs = [V.ref a] ∧ Rd H a (.dK kvs) ∧ Q (.int kvs.length) H) ∨
      (∃ (a : Addr) (kvs : List (List Key × V)), xs = [V.ref a] ∧ Rd H a (.dT kvs) ∧ Q (.int kvs.length) H)
  | .abs => fun xs H Q => ∃ i, xs = [.int i] ∧ Q (.int (if i < 0 then -i else i)) H
  | .int => fun xs H Q => (∃ i, xs = [.int i] ∧ Q (.int i) H) ∨ ∃ k, xs = [.bl k] ∧ Q (.int (if k then 1 else 0)) H
  | .max => fun xs H Q => (∃ i j, xs = [.int i, .int j] ∧ Q (.int (if j > i then j else i)) H) ∨ rMax K xs H Q
  | .min => fun xs H Q => (∃ i j, xs = [.int i, .int j] ∧ Q (.int (if j < i then j else i)) H) ∨ rMin K xs H Q
  | .sum => rSum K
  | .any => rAny K
  | .all => rAll K
  | .sorted => fun xs H Q => rSortedI K xs H Q ∨ rSortedPO K xs H Q
  | .tuple => fun xs H Q => ∃ p ys, xs = [.ref p] ∧ ((SqL K H p ys ∧ ∀ l, H l = none → Q (.ref l) (upd H l (.tup ys))) ∨ (SqT K H p ys ∧ Q (.ref p) H))
  | .list => fun xs H Q => ∃ p ys, xs = [.ref p] ∧ (SqL K H p ys ∨ SqT K H p ys) ∧ ∀ l, H l = none → Q (.ref l) (upd H l (.lst ys))
  | .divmod => fun xs H Q => ∃ i j, xs = [.int i, .int j] ∧ CDiv i j ∧ ∀ p, H p = none → Q (.ref p) (upd H p (.tup [.int (i / j), .int (i % j)]))
theorem call_bi {X : Cx} (hc : X.calm = true) : ∀ f : Bi, CallR X (fval f) (rBi X.K f)
  | .len => call_len_seq.or (call_lenK.or call_lenT)
  | .abs => call_abs
  | .int => call_int1
  | .max => (call_max2 hc).or (cr_max hc)
  | .min => (call_min2 hc).or (cr_min hc)
  | .sum => cr_sum hc
  | .any => cr_any hc
  | .all => cr_all hc
  | .sorted => cr_sortedI.or cr_sortedPO
  | .tuple => call_tuple_of
  | .list => call_list_of
  | .divmod => call_divmod

/-! ### pairs put in order -/
abbrev leP (a b : Int × Int) : Prop := a.1 < b.1 ∨ (a.1 = b.1 ∧ a.2 ≤ b.2)
theorem perm_insP (a : Int × Int) : ∀ l, (insP a l).Perm (a :: l)
  | [] => .refl _
  | b :: r => by
    unfold insP
    split
    · exact .refl _
    · exact ((perm_insP a r).cons b).trans (.swap a b r)
theorem perm_sortP : ∀ l, (sortP l).Perm l
  | [] => .refl _
  | a :: r => (perm_insP a (sortP r)).trans ((perm_sortP r).cons a)
theorem sorted_insP (a : Int × Int) : ∀ l, l.Pairwise leP → (insP a l).Pairwise leP
  | [], _ => by simp [insP]
  | b :: r, h => by
    rw [List.pairwise_cons] at h
    unfold insP
    split
    · rename_i hab
      refine List.pairwise_cons.mpr ⟨fun x hx => ?_, List.pairwise_cons.mpr h⟩
      rcases List.mem_cons.mp hx with rfl | hx
      · exact hab
      · have := h.1 x hx
        unfold leP at *
        omega
    · rename_i hab
      refine List.pairwise_cons.mpr ⟨fun x hx => ?_, sorted_insP a r h.2⟩
      rcases List.mem_cons.mp ((perm_insP a r).mem_iff.mp hx) with rfl | hx
      · unfold leP; omega
      · exact h.1 x hx
theorem sorted_sortP : ∀ l, (sortP l).Pairwise leP
  | [] => .nil
  | a :: r => sorted_insP a _ (sorted_sortP r)
theorem sortedP_uniq : ∀ {l m : List (Int × Int)}, l.Pairwise leP → m.Pairwise leP → l.Perm m → l = m
  | [], m, _, _, p => by simpa using p.symm.eq_nil
  | a :: l, [], _, _, p => by simpa using p.eq_nil
  | a :: l, b :: m, h, g, p => by
    rw [List.pairwise_cons] at h g
    have hab : a = b := by
      rcases List.mem_cons.mp (p.mem_iff.mp (List.mem_cons_self (a := a) (l := l))) with e | hm
      · exact e
      · rcases List.mem_cons.mp (p.mem_iff.mpr (List.mem_cons_self (a := b) (l := m))) with e | hl
        · exact e.symm
        · have h1 := h.1 b hl
          have h2 := g.1 a hm
          unfold leP at h1 h2
          exact Prod.ext (by omega) (by omega)
    subst hab
    rw [sortedP_uniq h.2 g.2 p.cons_inv]
/-- what a pair's object says -/
def kOf (H : Hp) : V → Int × Int
  | .ref t => match H t with
    | some (.tup [.int i, .int j]) => (i, j)
    | _ => (0, 0)
  | _ => (0, 0)
section
variable {K : PySem.W.Frag} {F : AS} {H : Hp}
theorem pairs_rep : ∀ {xs : List D} {vs : List V} {ps : List (Int × Int)}, pairsI xs = some ps → RepL K F H xs vs → vs.map (kOf H) = ps ∧ ∀ x ∈ vs, ∃ t, x = V.ref t ∧ H t = some (.tup [.int (kOf H x).1, .int (kOf H x).2])
  | [], _, _, e, .nil => by cases e; exact ⟨rfl, fun x h => by cases h⟩
  | x :: xs, v :: vs, ps, e, .cons a r => by
    unfold pairsI at e
    split at e
    · cases ‹_ :: _ = []›
    · rename_i i j r' he
      cases he
      rw [Option.map_eq_some_iff] at e
      obtain ⟨qs, e1, e2⟩ := e
      subst e2
      obtain ⟨h1, h2⟩ := pairs_rep e1 r
      cases a with
      | @tup ad _ ws ea ra =>
        cases ra with
        | cons p1 r1 =>
          cases r1 with
          | cons p2 r2 =>
            cases r2
            cases p1
            cases p2
            have hk : kOf H (.ref ad) = (i, j) := by simp only [kOf, ea]
            refine ⟨by rw [List.map_cons, h1, hk], fun x hx => ?_⟩
            rcases List.mem_cons.mp hx with rfl | hx
            · exact ⟨ad, rfl, by rw [hk]; exact ea⟩
            · exact h2 x hx
    · cases e
theorem rep_pairs : ∀ {ys : List V}, (∀ x ∈ ys, ∃ t, x = V.ref t ∧ H t = some (.tup [.int (kOf H x).1, .int (kOf H x).2])) → RepL K F H ((ys.map (kOf H)).map fun p => .tup [.int p.1, .int p.2]) ys
  | [], _ => .nil
  | y :: ys, h => by
    obtain ⟨t, e, ht⟩ := h y List.mem_cons_self
    refine .cons ?_ (rep_pairs fun x hx => h x (List.mem_cons_of_mem _ hx))
    rw [e] at ht ⊢
    exact .tup ht (.cons (.int _) (.cons (.int _) .nil))
end
section
variable {K : PySem.W.Frag} {HB : Hp} {F0 : AS} {P : Pins} {c : Ctx} {τ : Env} {F : AS} {σ : L2.St} {H : Hp} {Q : VK}
theorem bi_ok {f : Bi} {ds : List D} {z : D} {vs : List V} (R : Rel K HB F0 P c τ F σ H) (h : Paired (ReadR K F H) ds vs) (e : biD f ds = some z) (q : Post K HB F0 P c τ F σ H true z Q) : rBi K f vs H Q := by
  unfold biD at e
  split at e
  · cases e
    cases h with
    | cons a r =>
      cases r
      obtain ⟨p, ws, rfl, hp, rp⟩ := a.tup
      exact .inl ⟨p, ws, rfl, .inr (.of hp), by rw [← rp.length]; exact q.int R⟩
  · cases e
    cases h with
    | cons a r =>
      cases r
      obtain ⟨p, ws, rfl, hp, rp⟩ := a.lst
      exact .inl ⟨p, ws, rfl, .inl (.of hp), by rw [← rp.length]; exact q.int R⟩
  · cases e
    cases h with
    | cons a r =>
      cases r
      obtain ⟨p, ws, rfl, hp, rp⟩ := a.scr
      exact .inl ⟨p, ws, rfl, .inl hp, by rw [← rp.length]; exact q.int R⟩
  · cases e
    cases h with
    | cons a r =>
      cases r
      obtain ⟨p, rfl, l⟩ := a.dct
      rename_i t _ _
      cases t with
      | false =>
        obtain ⟨kvs, hk, rfl, rk⟩ := l
        rw [List.length_map] at q
        exact .inr (.inl ⟨p, kvs, rfl, hk, q.int R⟩)
      | true =>
        obtain ⟨kvs, hk, rfl, rk⟩ := l
        rw [List.length_map] at q
        exact .inr (.inr ⟨p, kvs, rfl, hk, q.int R⟩)
  · cases e
    cases h with
    | cons a r =>
      cases r
      cases a.int
      refine ⟨_, rfl, ?_⟩
      have := q.int R
      split
      · rename_i hi; rw [show -_ = ((_ : Int).natAbs : Int) from (Int.ofNat_natAbs_of_nonpos (by omega)).symm]; exact this
      · rename_i hi; rw [Int.natAbs_of_nonneg (by omega)] at this; exact this
  · cases e
    cases h with
    | cons a r =>
      cases r
      cases a.int
      exact .inl ⟨_, rfl, q.int R⟩
  · cases e
    cases h with
    | cons a r =>
      cases r
      cases a.bl
      exact .inr ⟨_, rfl, q.int R⟩
  · cases e
    cases h with
    | cons a r =>
      cases r with
      | cons b r =>
        cases r
        cases a.int
        cases b.int
        exact .inl ⟨_, _, rfl, q.int R⟩
  · cases e
    cases h with
    | cons a r =>
      cases r with
      | cons b r =>
        cases r
        cases a.int
        cases b.int
        exact .inl ⟨_, _, rfl, q.int R⟩
  · rw [Option.bind_eq_some_iff] at e
    obtain ⟨ns, e1, e2⟩ := e
    split at e2
    · cases e2
    · rename_i a0 r0
      cases e2
      cases h with
      | cons a r =>
        cases r
        obtain ⟨p, ws, rfl, hp, rp⟩ := a.lst
        rw [intsD_rep e1 rp] at hp
        refine .inr ⟨p, _, rfl, .of hp, by simp, fun m hm hle => ?_⟩
        have := maxI_mem a0 r0
        have e3 : m = maxI a0 r0 := Int.le_antisymm (this.2 m hm) (hle _ this.1)
        rw [e3]; exact q.int R
  · rw [Option.bind_eq_some_iff] at e
    obtain ⟨ns, e1, e2⟩ := e
    split at e2
    · cases e2
    · rename_i a0 r0
      cases e2
      cases h with
      | cons a r =>
        cases r
        obtain ⟨p, ws, rfl, hp, rp⟩ := a.lst
        rw [intsD_rep e1 rp] at hp
        refine .inr ⟨p, _, rfl, .of hp, by simp, fun m hm hle => ?_⟩
        have := minI_mem a0 r0
        have e3 : m = minI a0 r0 := Int.le_antisymm (hle _ this.1) (this.2 m hm)
        rw [e3]; exact q.int R
  · rw [Option.map_eq_some_iff] at e
    obtain ⟨ns, e1, e2⟩ := e
    cases e2
    cases h with
    | cons a r =>
      cases r
      obtain ⟨p, ws, rfl, hp, rp⟩ := a.lst
      rw [intsD_rep e1 rp] at hp
      exact ⟨p, ns, rfl, .of hp, q.int R⟩
  · rw [Option.map_eq_some_iff] at e
    obtain ⟨ns, e1, e2⟩ := e
    cases e2
    cases h with
    | cons a r =>
      cases r
      obtain ⟨p, ws, rfl, hp, rp⟩ := a.lst
      rw [boolsD_rep e1 rp] at hp
      exact ⟨p, ns, rfl, .of hp, q.bl R⟩
  · rw [Option.map_eq_some_iff] at e
    obtain ⟨ns, e1, e2⟩ := e
    cases e2
    cases h with
    | cons a r =>
      cases r
      obtain ⟨p, ws, rfl, hp, rp⟩ := a.lst
      rw [boolsD_rep e1 rp] at hp
      exact ⟨p, ns, rfl, .of hp, q.bl R⟩
  · rw [Option.map_eq_some_iff] at e
    obtain ⟨ys, e1, e2⟩ := e
    cases e2
    cases h with
    | cons a r =>
      cases r
      obtain ⟨p, ws, rfl, hp, rp⟩ := a.lst
      unfold sortedD at e1
      split at e1
      · rename_i ns en
        cases e1
        rw [intsD_rep en rp] at hp
        refine .inl ⟨p, ns, rfl, .of hp, fun ns' l hperm hs hl => ?_⟩
        have e3 : ns' = sortI ns := sorted_uniq hs (sorted_sortI ns) (hperm.trans (perm_sortI ns).symm)
        rw [e3]
        exact q.lst R (rep_ints _) l hl
      · split at e1
        · rename_i ps en
          cases e1
          obtain ⟨h1, h2⟩ := pairs_rep en rp
          refine .inr ⟨p, ws, kOf H, rfl, .of hp, h2, fun zs l hs ht hl => ?_⟩
          have hz : ∀ x ∈ zs, ∃ t, x = V.ref t ∧ H t = some (.tup [.int (kOf H x).1, .int (kOf H x).2]) := fun x hx => h2 x (ht.perm.mem_iff.mp hx)
          have e3 : zs.map (kOf H) = sortP ps := by
            refine sortedP_uniq ?_ (sorted_sortP ps) ?_
            · rw [List.pairwise_map]
              refine hs.imp fun {x y} h => ?_
              have := SrtO.lexB_no.mp h
              unfold leP
              omega
            · rw [← h1]
              exact (ht.perm.map _).trans (by rw [h1]; exact (perm_sortP ps).symm)
          have := rep_pairs (K := K) (F := F) hz
          rw [e3] at this
          exact q.lst R this l hl
        · cases e1
  · cases e
    cases h with
    | cons a r =>
      cases r
      obtain ⟨p, ws, rfl, hp, rp⟩ := a.lst
      exact ⟨p, ws, rfl, .inl ⟨.of hp, q.tup R rp⟩⟩
  · cases e
    cases h with
    | cons a r =>
      cases r
      obtain ⟨p, ws, rfl, hp, rp⟩ := a.tup
      exact ⟨p, ws, rfl, .inr ⟨.of hp, q _ _ F R (Ext.refl F H) (fresh_plain rfl (.tup hp rp))⟩⟩
  · cases e
    cases h with
    | cons a r =>
      cases r
      obtain ⟨p, ws, rfl, hp, rp⟩ := a.lst
      exact ⟨p, ws, rfl, .inl (.of hp), q.lst R rp⟩
  · cases e
    cases h with
    | cons a r =>
      cases r
      obtain ⟨p, ws, rfl, hp, rp⟩ := a.tup
      exact ⟨p, ws, rfl, .inr (.of hp), q.lst R rp⟩
  · split at e
    · rename_i hd
      cases e
      cases h with
      | cons a r =>
        cases r with
        | cons b r =>
          cases r
          cases a.int
          cases b.int
          exact ⟨_, _, rfl, hd, q.tup R (.cons (.int _) (.cons (.int _) .nil))⟩
    · cases e
  · cases e
end
end PV

/-! expressions, construct by construct -/
namespace PV
open PySem PySem.Spec PyProof.Rows L2

/-! ### what is asked of the written form -/
def plainE : Expr → Bool
  | .Starred _ _ => false
  | .Slice _ _ _ _ => false
  | .Set _ _ _ => false
  | _ => true
theorem star_plain {e : Expr} {es : List Expr} {env : PySem.Env} (h : plainE e = true) : starEach (e :: es) env = (false, eval e env) :: starEach es env := by
  cases e <;> first | rfl | cases h
theorem mark_plain {e : Expr} {op : CmpOp} (h : plainE e = true) : behindInMarks op e = false := by
  cases e <;> first | rfl | cases h
theorem ix_plain {e : Expr} (h : plainE e = true) : PlainIx e := by
  intro o i
  cases e <;> first | rfl | cases h
theorem fold_plain {e : Expr} {env : PySem.Env} {x : Value} (h : plainE e = true) : foldedSetIterable e env x = pure x := by
  cases e <;> first | rfl | cases h
/-- a test by the value's truth -/
def plainT : Expr → Bool
  | .UnaryOp _ _ _ => false
  | .BoolOp _ _ _ => false
  | .IfExp _ _ _ _ => false
  | .Compare _ _ _ _ => false
  | _ => true
theorem test_plain {e : Expr} {env : PySem.Env} {whole : Sem Value} (h : plainT e = true) : isTrue e env whole = (do let v ← whole; standAt e.pos; holding [v] (truthy v)) := by
  cases e <;> first | rfl | cases h

section
variable {cl : Nat → List D → Option D} {k : Nat} {K : PySem.W.Frag} {pn : List Nat} {c c1 c2 c3 : Ctx} {ca cb ce : C} {fr : Bool}
/-- two operands, then an operation -/
theorem tOp_ok {r : R2} (f : D → D → Option D) (hev : ∀ τ, evE cl ce τ = (evE cl ca τ).bind fun x => (evE cl cb τ).bind fun y => f x y)
    (hr : ∀ (HB : Hp) (F0 : AS) (P : Pins) (F : AS) (τ : Env) (σ : L2.St) (H : Hp) (Q : VK) (x y z : D) (v u : V), Rel K HB F0 P c2 τ F σ H → ReadR K F H x v → ReadR K F H y u → f x y = some z → Post K HB F0 P c2 τ F σ H fr z Q → r v u H Q) :
    ∀ σ H Q, RE cl K pn ce c c2 fr σ H Q → tOp r (RB cl K pn ca c c1) (RB cl K pn cb c1 c2) σ H Q := by
  rintro σ H Q ⟨HB, F0, P, F, τ, d, hp, R, ev, q⟩
  rw [hev] at ev
  simp only [Option.bind_eq_some_iff] at ev
  obtain ⟨x, e1, y, e2, e3⟩ := ev
  refine ⟨HB, F0, P, F, τ, x, hp, R, e1, fun v H1 F1 R1 x1 r1 => ⟨HB, F0, P, F1, τ, y, hp, R1, e2, fun u H2 F2 R2 x2 r2 => ?_⟩⟩
  exact hr HB F0 P F2 τ σ H2 Q x y d v u R2 (R2.read (r1.mono x2)) (R2.read r2) e3 fun w H3 F3 R3 x3 r3 => q w H3 F3 R3 ((x1.trans x2).trans x3) r3
/-- one operand -/
theorem tUn_ok {r : V → Hp → VK → Prop} (f : D → Option D) (hev : ∀ τ, evE cl ce τ = (evE cl ca τ).bind f)
    (hr : ∀ (HB : Hp) (F0 : AS) (P : Pins) (F : AS) (τ : Env) (σ : L2.St) (H : Hp) (Q : VK) (x z : D) (v : V), Rel K HB F0 P c1 τ F σ H → ReadR K F H x v → f x = some z → Post K HB F0 P c1 τ F σ H fr z Q → r v H Q) :
    ∀ σ H Q, RE cl K pn ce c c1 fr σ H Q → tUn r (RB cl K pn ca c c1) σ H Q := by
  rintro σ H Q ⟨HB, F0, P, F, τ, d, hp, R, ev, q⟩
  rw [hev] at ev
  simp only [Option.bind_eq_some_iff] at ev
  obtain ⟨x, e1, e3⟩ := ev
  refine ⟨HB, F0, P, F, τ, x, hp, R, e1, fun v H1 F1 R1 x1 r1 => ?_⟩
  exact hr HB F0 P F1 τ σ H1 Q x d v R1 (R1.read r1) e3 fun w H3 F3 R3 x3 r3 => q w H3 F3 R3 (x1.trans x3) r3
theorem Rel.lowTo {HB : Hp} {F0 : AS} {P : Pins} {τ : Env} {F : AS} {σ : L2.St} {H : Hp} {c c' : Ctx} (R : Rel K HB F0 P c τ F σ H) (l : Low c c') : ∃ F', Rel K HB F0 P c' τ F' σ H ∧ Ext F H F' H := by
  -- lower, one after another, the slots that c' says are shared
  obtain ⟨F1, R1, x1⟩ := R.lower ((List.range c.length).filter fun i => fl c' i == .shr)
  refine ⟨F1, R1.same_flags fun i => ?_, x1⟩
  have key : ∀ (is : List Nat) (c : Ctx) (i : Nat), fl (is.foldl (fun c i => c.set i .shr) c) i = if i ∈ is then .shr else fl c i := by
    intro is
    induction is with
    | nil => intro c i; simp
    | cons j is ih =>
      intro c i
      rw [List.foldl_cons, ih]
      by_cases h : i ∈ is
      · simp [h]
      · by_cases e : j = i
        · subst e; simp [fl_set_shr]
        · have e' : i ≠ j := fun z => e z.symm
          simp [h, fl_set e, e']
  rw [key]
  by_cases hi : i < c.length
  · by_cases h : fl c' i = .shr
    · rw [if_pos (by simp [hi, h])]; exact h
    · rw [if_neg (by simp [h])]
      rcases l i with e | e
      · exact e
      · exact absurd e h
  · rw [if_neg (by simp [hi])]
    rcases l i with e | e
    · exact e
    · rw [e]
      unfold fl
      rw [List.getElem?_eq_none (by simpa using hi)]; rfl
end

section
variable {cl : Nat → List D → Option D} {k : Nat} {S : SC} {c c1 c2 c3 : Ctx} {e e1 e2 e3 : Expr} {es : List Expr} {ca cb cd ce : C} {ces : List C} {fr : Bool} {pos p2 : Pos}

/-! ### constants, names -/
theorem ok_k {d : D} {v : V} (m : isMut d = false) (h : ∀ X : Cx, PE X e (tC v)) (r : ∀ K F H, RepV K F H d v) : OkE cl k S c e (.k d) c true := fun X x => by
  refine PE.imp (h X) ?_
  rintro σ H Q ⟨HB, F0, P, F, τ, d', hp, R, ev, q⟩
  cases ev
  exact q v H F R (Ext.refl F H) (fresh_plain m (r _ _ _))
theorem ok_int {i : Int} {j : Nat} : OkE cl k S c (.Constant (.int i) j pos) (.k (.int i)) c true := ok_k rfl (fun X => pe_int) fun _ _ _ => .int i
theorem ok_bl {i : Bool} {j : Nat} : OkE cl k S c (.Constant (.bool i) j pos) (.k (.bl i)) c true := ok_k rfl (fun X => pe_bl) fun _ _ _ => .bl i
theorem ok_non {j : Nat} : OkE cl k S c (.Constant .none j pos) (.k .non) c true := ok_k rfl (fun X => pe_non) fun _ _ _ => .non
theorem ok_str {i : Str} {j : Nat} : OkE cl k S c (.Constant (.str i) j pos) (.k (.str i)) c true := ok_k rfl (fun X => pe_str) fun _ _ _ => .str i
def visB (S : SC) (x : Str) : Bool := (match S.sc.names.lookup x with
  | some .local => true
  | some .cell => true
  | some .free => true
  | _ => false) && !(x == ("__debug__" : Str)) && !(x == ("__classdict__" : Str))
theorem visB_ok {x : Str} (h : visB S x = true) : Vis S.sc x ∧ (x == ("__debug__" : Str)) = false ∧ (x == ("__classdict__" : Str)) = false := by
  unfold visB at h
  simp only [Bool.and_eq_true, Bool.not_eq_true'] at h
  refine ⟨?_, h.1.2, h.2⟩
  obtain ⟨⟨h, _⟩, _⟩ := h
  split at h
  · exact .inl (by assumption)
  · exact .inr (.inl (by assumption))
  · exact .inr (.inr (by assumption))
  · cases h
theorem pe_slot {X : Cx} (x : XOk cl k S X) {y : Str} {i : Nat} (hv : visB S y = true) (hi : S.N[i]? = some y) : PE X (.Name y pos) (tVar i) := by
  obtain ⟨h1, h2, h3⟩ := visB_ok hv
  exact pe_var (by rw [x.hN]; exact hi) (by rw [x.sc]; exact h1) h2 h3
/-- a name read at once -/
theorem okB_name {y : Str} {i : Nat} (hv : visB S y = true) (hi : S.N[i]? = some y) : OkB cl k S c (.Name y pos) (.v i) c := fun X x => by
  refine PE.imp (pe_slot x hv hi) ?_
  rintro σ H Q ⟨HB, F0, P, F, τ, d, hp, R, ev, q⟩
  have ev : sVar τ[i]? = some d := ev
  have e : τ[i]? = some (some d) := by
    unfold sVar at ev
    split at ev
    · rename_i he; cases ev; exact he
    · cases ev
  obtain ⟨v, e1, s⟩ := R.slot i d e
  exact ⟨v, e1, q v H F R (Ext.refl F H) (.inr ⟨i, e, e1⟩)⟩
/-- a name as a value: from now on shared -/
theorem ok_name {y : Str} {i : Nat} (hv : visB S y = true) (hi : S.N[i]? = some y) : OkE cl k S c (.Name y pos) (.v i) (c.set i .shr) false := fun X x => by
  refine PE.imp (pe_slot x hv hi) ?_
  rintro σ H Q ⟨HB, F0, P, F, τ, d, hp, R, ev, q⟩
  have ev : sVar τ[i]? = some d := ev
  have e : τ[i]? = some (some d) := by
    unfold sVar at ev
    split at ev
    · rename_i he; cases ev; exact he
    · cases ev
  obtain ⟨F1, R1, x1⟩ := R.freeze i
  obtain ⟨v, e1, s⟩ := R1.slot i d e
  rw [fl_set_shr] at s
  exact ⟨v, e1, q v H F1 R1 x1 s⟩
def globB (S : SC) (x : Str) : Bool := (S.sc.names.lookup x == some .globalImplicit) && !(x == ("__debug__" : Str)) && !(x == ("__name__" : Str))
theorem globB_ok {X : Cx} (x : XOk cl k S X) {y : Str} (h : globB S y = true) : Gl X y ∧ (y == ("__debug__" : Str)) = false ∧ y ≠ "__name__" := by
  unfold globB at h
  simp only [Bool.and_eq_true, Bool.not_eq_true', beq_iff_eq] at h
  refine ⟨?_, h.1.2, by simpa using h.2⟩
  show X.env.scope.names.lookup y = _
  rw [x.sc]; exact h.1.1
theorem ok_glob {y : Str} {i : Int} (hg : globB S y = true) (hs : S.gs.lookup y = some i) : OkE cl k S c (.Name y pos) (.k (.int i)) c true := fun X x => by
  obtain ⟨t, e⟩ := x.glob y i hs
  obtain ⟨h1, h2, _⟩ := globB_ok x hg
  refine PE.imp (pe_glob (v := .int i) h1 e ⟨t, rfl⟩ h2) ?_
  rintro σ H Q ⟨HB, F0, P, F, τ, d', hp, R, ev, q⟩
  cases ev
  exact q _ H F R (Ext.refl F H) (fresh_plain rfl (.int i))

/-! ### operators -/
theorem ok_bin {op : Bop} (ha : OkB cl k S c e1 ca c1) (hb : OkB cl k S c1 e2 cb c2) : OkE cl k S c (.BinOp e1 (opOf op) e2 pos) (.bin op ca cb) c2 true := fun X x =>
  PE.imp (pe_op (op_all op) (ha X x) (hb X x)) (tOp_ok (fun x y => binD op x y) (fun τ => rfl) fun HB F0 P F τ σ H Q x y z v u R hx hy e q => bin_ok R hx hy e q)
theorem ok_neg (ha : OkB cl k S c e1 ca c1) : OkE cl k S c (.UnaryOp .USub e1 pos) (.neg ca) c1 true := fun X x =>
  PE.imp (pe_un un_neg (ha X x)) (tUn_ok negD (fun τ => rfl) fun HB F0 P F τ σ H Q x z v R hx e q => by
    cases x <;> cases e
    cases hx.int
    exact ⟨_, rfl, q.int R⟩)
theorem ok_cmp {op : Cop} (ha : OkB cl k S c e1 ca c1) (hb : OkB cl k S c1 e2 cb c2) (hp : plainE e2 = true) (nd : (op = .in_ ∨ op = .notIn) → False) : OkE cl k S c (.Compare e1 [cmpOf op] [e2] pos) (.cmp op ca cb) c2 true := fun X x =>
  PE.imp (pe_cmpR (op_cop x.room op) (ha X x) (hb X x) (mark_plain hp)) (tOp_ok (fun x y => (cmpD op x y).map .bl) (fun τ => rfl) fun HB F0 P F τ σ H Q x y z v u R hx hy e q => by
    rw [Option.map_eq_some_iff] at e
    obtain ⟨b, e, rfl⟩ := e
    exact cmp_ok hx hy e (fun h => (nd h).elim) (q.bl R))
/-- in, not in: a list or a tuple, or a dict -/
theorem in_read {op : Cop} {K : PySem.W.Frag} {pn : List Nat} (hop : op = .in_ ∨ op = .notIn) : ∀ σ H Q, RE cl K pn (.cmp op ca cb) c c2 true σ H Q →
    tOp (rCop K op) (RB cl K pn ca c c1) (RB cl K pn cb c1 c2) σ H Q ∨ (if op = .in_ then tDIn else tDNotIn) (RB cl K pn ca c c1) (RB cl K pn cb c1 c2) σ H Q := by
  rintro σ H Q ⟨HB, F0, P, F, τ, d, hp, R, ev, q⟩
  have ev : sCmp op (evE cl ca τ) (evE cl cb τ) = some d := ev
  unfold sCmp at ev
  simp only [Option.bind_eq_some_iff, Option.map_eq_some_iff] at ev
  obtain ⟨x, e1, y, e2, b, e3, rfl⟩ := ev
  by_cases hd : isDct y = true
  · right
    obtain ⟨t, ks, xs, rfl⟩ : ∃ t ks xs, y = .dct t ks xs := by
      cases y <;> first | exact ⟨_, _, _, rfl⟩ | cases hd
    have fin : ∀ (v : V) (H1 : Hp) (F1 : AS) (u : V) (H2 : Hp) (F2 : AS), Ext F H F1 H1 → HdR K F1 H1 τ σ x v → Rel K HB F0 P c2 τ F2 σ H2 → Ext F1 H1 F2 H2 → HdR K F2 H2 τ σ (.dct t ks xs) u →
        ∃ a o, u = .ref a ∧ DGet H2 a v o ∧ (op = .in_ → Q (.bl o.isSome) H2) ∧ (op = .notIn → Q (.bl (!o.isSome)) H2) := fun v H1 F1 u H2 F2 x1 r1 R2 x2 r2 => by
      obtain ⟨a, rfl, l⟩ := (R2.read r2).dct
      have q2 : Q (.bl b) H2 := (show Post K HB F0 P c2 τ F2 σ H2 true (.bl b) Q from fun w H3 F3 R3 x3 r3 => q w H3 F3 R3 ((x1.trans x2).trans x3) r3).bl R2
      rcases hop with rfl | rfl
      · simp only [cmpD] at e3
        split at e3
        · rename_i ko
          cases e3
          obtain ⟨o, g, h⟩ := dget_ok l (key_read ko (R2.read (r1.mono x2))) ko
          refine ⟨a, o, rfl, g, fun _ => ?_, fun z => nomatch z⟩
          rcases h with ⟨h, rfl⟩ | ⟨d, w, h1, rfl, h3⟩
          · rw [h] at q2; exact q2
          · rw [h1] at q2; exact q2
        · cases e3
      · simp only [cmpD] at e3
        split at e3
        · rename_i ko
          cases e3
          obtain ⟨o, g, h⟩ := dget_ok l (key_read ko (R2.read (r1.mono x2))) ko
          refine ⟨a, o, rfl, g, (fun z => nomatch z), fun _ => ?_⟩
          rcases h with ⟨h, rfl⟩ | ⟨d, w, h1, rfl, h3⟩
          · rw [h] at q2; exact q2
          · rw [h1] at q2; exact q2
        · cases e3
    rcases hop with rfl | rfl
    · rw [if_pos rfl]
      refine ⟨HB, F0, P, F, τ, x, hp, R, e1, fun v H1 F1 R1 x1 r1 => ⟨HB, F0, P, F1, τ, _, hp, R1, e2, fun u H2 F2 R2 x2 r2 => ?_⟩⟩
      obtain ⟨a, o, e, g, h1, _⟩ := fin v H1 F1 u H2 F2 x1 r1 R2 x2 r2
      exact ⟨a, o, e, g, h1 rfl⟩
    · rw [if_neg (fun z => nomatch z)]
      refine ⟨HB, F0, P, F, τ, x, hp, R, e1, fun v H1 F1 R1 x1 r1 => ⟨HB, F0, P, F1, τ, _, hp, R1, e2, fun u H2 F2 R2 x2 r2 => ?_⟩⟩
      obtain ⟨a, o, e, g, _, h1⟩ := fin v H1 F1 u H2 F2 x1 r1 R2 x2 r2
      exact ⟨a, o, e, g, h1 rfl⟩
  · left
    refine ⟨HB, F0, P, F, τ, x, hp, R, e1, fun v H1 F1 R1 x1 r1 => ⟨HB, F0, P, F1, τ, y, hp, R1, e2, fun u H2 F2 R2 x2 r2 => ?_⟩⟩
    refine cmp_ok (R2.read (r1.mono x2)) (R2.read r2) e3 (fun _ => by simpa using hd) ?_
    exact (show Post K HB F0 P c2 τ F2 σ H2 true (.bl b) Q from fun w H3 F3 R3 x3 r3 => q w H3 F3 R3 ((x1.trans x2).trans x3) r3).bl R2
theorem ok_in {op : Cop} (hop : op = .in_ ∨ op = .notIn) (ha : OkB cl k S c e1 ca c1) (hb : OkB cl k S c1 e2 cb c2) (hp : plainE e2 = true) : OkE cl k S c (.Compare e1 [cmpOf op] [e2] pos) (.cmp op ca cb) c2 true := fun X x => by
  have hu : X.A.units + 1 < cLine := by have := x.room.un; omega
  refine PE.imp (PE.or (pe_cmpR (op_cop x.room op) (ha X x) (hb X x) (mark_plain hp)) ?_) (in_read hop)
  rcases hop with rfl | rfl
  · rw [if_pos rfl]; exact pe_cmp (pc_din hu (ha X x) (hb X x)) (mark_plain hp)
  · rw [if_neg (fun z => nomatch z)]; exact pe_cmp (pc_dnotin hu (ha X x) (hb X x)) (mark_plain hp)

/-! ### truth -/
theorem tru_read {K : PySem.W.Frag} {F : AS} {H : Hp} {x : D} {v : V} {b : Bool} (r : ReadR K F H x v) (e : truD x = some b) : TruV K v H b := by
  unfold truD at e
  split at e
  · cases e
    cases r.plain rfl
    rfl
  · cases e; cases r.bl; rfl
  · cases e; cases r.int; rfl
  · cases e
    obtain ⟨a, vs, rfl, ha, ra⟩ := r.tup
    exact .inr (.inl ⟨vs, .of ha, by cases ra <;> rfl⟩)
  · cases e
    obtain ⟨a, vs, rfl, ha, ra⟩ := r.lst
    exact .inl ⟨vs, .of ha, by cases ra <;> rfl⟩
  · cases e
    obtain ⟨a, vs, rfl, ha, ra⟩ := r.scr
    exact .inl ⟨vs, ha, by cases ra <;> rfl⟩
  · cases e
theorem ok_nt (ha : OkB cl k S c e1 ca c1) : OkE cl k S c (.UnaryOp .Not e1 pos) (.nt ca) c1 true := fun X x => by
  refine PE.imp (pe_notT (ha X x)) ?_
  rintro σ H Q ⟨HB, F0, P, F, τ, d, hp, R, ev, q⟩
  have ev : sNot (evE cl ca τ) = some d := ev
  unfold sNot at ev
  simp only [Option.bind_eq_some_iff, Option.map_eq_some_iff] at ev
  obtain ⟨y, e1, b, e2, rfl⟩ := ev
  refine ⟨HB, F0, P, F, τ, y, hp, R, e1, fun v H1 F1 R1 x1 r1 => ⟨b, tru_read (R1.read r1) e2, ?_⟩⟩
  exact (show Post _ HB F0 P c1 τ F1 σ H1 true (.bl (!b)) Q from fun w H3 F3 R3 x3 r3 => q w H3 F3 R3 (x1.trans x3) r3).bl R1
theorem okT_val (ha : OkB cl k S c e1 ca c1) (hp : plainT e1 = true) : OkT cl k S c e1 ca c1 := fun X x => by
  refine PT.imp (pt_truth (ha X x) fun whole => test_plain hp) ?_
  rintro σ H Q ⟨HB, F0, P, F, τ, b, hp, R, ev, q⟩
  have ev : (evE cl ca τ).bind truD = some b := ev
  simp only [Option.bind_eq_some_iff] at ev
  obtain ⟨y, e1, e2⟩ := ev
  exact ⟨HB, F0, P, F, τ, y, hp, R, e1, fun v H1 F1 R1 x1 r1 => ⟨b, tru_read (R1.read r1) e2, q H1 F1 R1 x1⟩⟩
theorem okT_nt (ha : OkT cl k S c e1 ca c1) : OkT cl k S c (.UnaryOp .Not e1 pos) (.nt ca) c1 := fun X x => by
  refine PT.imp (pt_not (ha X x)) ?_
  rintro σ H Q ⟨HB, F0, P, F, τ, b, hp, R, ev, q⟩
  have ev : (sNot (evE cl ca τ)).bind truD = some b := ev
  unfold sNot at ev
  simp only [Option.bind_eq_some_iff, Option.map_eq_some_iff] at ev
  obtain ⟨z, ⟨y, e1, t, e2, rfl⟩, e3⟩ := ev
  cases e3
  exact ⟨HB, F0, P, F, τ, t, hp, R, by show (evE cl ca τ).bind truD = some t; rw [e1]; exact e2, fun H1 F1 R1 x1 => q H1 F1 R1 x1⟩
theorem pt_cmp_of {K : PySem.W.Frag} {pn : List Nat} {op : Cop} {t : TE} (h : ∀ σ H Q, RE cl K pn (.cmp op ca cb) c c2 true σ H Q → t σ H Q) : ∀ σ H Q, RT cl K pn (.cmp op ca cb) c c2 σ H Q → t σ H fun x H' => ∃ b, x = .bl b ∧ Q b H' := by
  rintro σ H Q ⟨HB, F0, P, F, τ, b, hp, R, ev, q⟩
  have ev : (sCmp op (evE cl ca τ) (evE cl cb τ)).bind truD = some b := ev
  rw [Option.bind_eq_some_iff] at ev
  obtain ⟨d, e1, e2⟩ := ev
  have hd : d = .bl b := by
    unfold sCmp at e1
    simp only [Option.bind_eq_some_iff, Option.map_eq_some_iff] at e1
    obtain ⟨_, _, _, _, t, _, rfl⟩ := e1
    cases e2; rfl
  refine h σ H _ ⟨HB, F0, P, F, τ, d, hp, R, e1, fun v H1 F1 R1 x1 r1 => ?_⟩
  rw [hd] at r1
  rcases r1 with ⟨_, r1⟩ | ⟨_, _, _, _, r1, _⟩
  · cases r1; exact ⟨b, rfl, q H1 F1 R1 x1⟩
  · exact r1.elim
theorem okT_cmp {op : Cop} (ha : OkB cl k S c e1 ca c1) (hb : OkB cl k S c1 e2 cb c2) (hp : plainE e2 = true) (nd : (op = .in_ ∨ op = .notIn) → False) : OkT cl k S c (.Compare e1 [cmpOf op] [e2] pos) (.cmp op ca cb) c2 := fun X x =>
  PT.imp (pt_cmpR (op_cop x.room op) (ha X x) (hb X x) (mark_plain hp)) (pt_cmp_of (tOp_ok (fun x y => (cmpD op x y).map .bl) (fun τ => rfl) fun HB F0 P F τ σ H Q x y z v u R hx hy e q => by
    rw [Option.map_eq_some_iff] at e
    obtain ⟨b, e, rfl⟩ := e
    exact cmp_ok hx hy e (fun h => (nd h).elim) (q.bl R)))
theorem okT_in {op : Cop} (hop : op = .in_ ∨ op = .notIn) (ha : OkB cl k S c e1 ca c1) (hb : OkB cl k S c1 e2 cb c2) (hp : plainE e2 = true) : OkT cl k S c (.Compare e1 [cmpOf op] [e2] pos) (.cmp op ca cb) c2 := fun X x => by
  have hu : X.A.units + 1 < cLine := by have := x.room.un; omega
  have g : PT X (.Compare e1 [cmpOf op] [e2] pos) (tB ((if op = .in_ then tDIn else tDNotIn) (RB cl X.K S.pin ca c c1) (RB cl X.K S.pin cb c1 c2))) := by
    rcases hop with rfl | rfl
    · rw [if_pos rfl]; exact pt_cmp (pc_din hu (ha X x) (hb X x)) (mark_plain hp)
    · rw [if_neg (fun z => nomatch z)]; exact pt_cmp (pc_dnotin hu (ha X x) (hb X x)) (mark_plain hp)
  refine PT.imp (PT.or (pt_cmpR (op_cop x.room op) (ha X x) (hb X x) (mark_plain hp)) g) fun σ H Q h => ?_
  exact pt_cmp_of (t := fun σ H Q => tOp (rCop X.K op) (RB cl X.K S.pin ca c c1) (RB cl X.K S.pin cb c1 c2) σ H Q ∨ (if op = .in_ then tDIn else tDNotIn) (RB cl X.K S.pin ca c c1) (RB cl X.K S.pin cb c1 c2) σ H Q) (in_read hop) σ H Q h
/-- a and b, a or b, as tests: a list of them -/
theorem okT_and (l : Low c1 c2) (ha : OkT cl k S c e1 ca c1) (hb : ∀ X, XOk cl k S X → PW X (.BoolOp .And (e2 :: es) pos) (RT cl X.K S.pin cb c1 c2)) : ∀ X, XOk cl k S X → PW X (.BoolOp .And (e1 :: e2 :: es) pos) (RT cl X.K S.pin (.an ca cb) c c2) := fun X x => by
  refine ⟨fun wh pins s σ H Q I h => (pw_and (ha X x) (hb X x)).run wh pins s σ H Q I ?_⟩
  obtain ⟨HB, F0, P, F, τ, b, hp, R, ev, q⟩ := h
  have ev : (sAnd (evE cl ca τ) (evE cl cb τ)).bind truD = some b := ev
  unfold sAnd at ev
  simp only [Option.bind_eq_some_iff] at ev
  obtain ⟨z, ⟨y, e1, t, e2, e3⟩, e4⟩ := ev
  refine ⟨HB, F0, P, F, τ, t, hp, R, by show (evE cl ca τ).bind truD = some t; rw [e1]; exact e2, fun H1 F1 R1 x1 => ?_⟩
  cases t with
  | true =>
    rw [if_pos rfl] at e3 ⊢
    exact ⟨HB, F0, P, F1, τ, b, hp, R1, by show (evE cl cb τ).bind truD = some b; rw [e3]; exact e4, fun H2 F2 R2 x2 => q H2 F2 R2 (x1.trans x2)⟩
  | false =>
    rw [if_neg Bool.false_ne_true] at e3 ⊢
    cases e3
    rw [e2] at e4; cases e4
    obtain ⟨F2, R2, x2⟩ := R1.lowTo l
    exact q H1 F2 R2 (x1.trans x2)
theorem okT_or (l : Low c1 c2) (ha : OkT cl k S c e1 ca c1) (hb : ∀ X, XOk cl k S X → PW X (.BoolOp .Or (e2 :: es) pos) (RT cl X.K S.pin cb c1 c2)) : ∀ X, XOk cl k S X → PW X (.BoolOp .Or (e1 :: e2 :: es) pos) (RT cl X.K S.pin (.oo ca cb) c c2) := fun X x => by
  refine ⟨fun wh pins s σ H Q I h => (pw_or (ha X x) (hb X x)).run wh pins s σ H Q I ?_⟩
  obtain ⟨HB, F0, P, F, τ, b, hp, R, ev, q⟩ := h
  have ev : (sOr (evE cl ca τ) (evE cl cb τ)).bind truD = some b := ev
  unfold sOr at ev
  simp only [Option.bind_eq_some_iff] at ev
  obtain ⟨z, ⟨y, e1, t, e2, e3⟩, e4⟩ := ev
  refine ⟨HB, F0, P, F, τ, t, hp, R, by show (evE cl ca τ).bind truD = some t; rw [e1]; exact e2, fun H1 F1 R1 x1 => ?_⟩
  cases t with
  | false =>
    rw [if_neg Bool.false_ne_true] at e3 ⊢
    exact ⟨HB, F0, P, F1, τ, b, hp, R1, by show (evE cl cb τ).bind truD = some b; rw [e3]; exact e4, fun H2 F2 R2 x2 => q H2 F2 R2 (x1.trans x2)⟩
  | true =>
    rw [if_pos rfl] at e3 ⊢
    cases e3
    rw [e2] at e4; cases e4
    obtain ⟨F2, R2, x2⟩ := R1.lowTo l
    exact q H1 F2 R2 (x1.trans x2)
theorem okT_and1 (ha : OkT cl k S c e1 ca c1) : ∀ X, XOk cl k S X → PW X (.BoolOp .And [e1] pos) (RT cl X.K S.pin ca c c1) := fun X x => pw_and1 (ha X x)
theorem okT_or1 (ha : OkT cl k S c e1 ca c1) : ∀ X, XOk cl k S X → PW X (.BoolOp .Or [e1] pos) (RT cl X.K S.pin ca c c1) := fun X x => pw_or1 (ha X x)
/-- .. as values -/
theorem ok_and (l : Low c1 c2) (ha : OkE cl k S c e1 ca c1 false) (hb : OkE cl k S c1 (.BoolOp .And (e2 :: es) pos) cb c2 false) : OkE cl k S c (.BoolOp .And (e1 :: e2 :: es) pos) (.an ca cb) c2 false := fun X x => by
  refine PE.imp (pe_andT (ha X x) (hb X x)) ?_
  rintro σ H Q ⟨HB, F0, P, F, τ, d, hp, R, ev, q⟩
  have ev : sAnd (evE cl ca τ) (evE cl cb τ) = some d := ev
  unfold sAnd at ev
  simp only [Option.bind_eq_some_iff] at ev
  obtain ⟨y, e1, t, e2, e3⟩ := ev
  refine ⟨HB, F0, P, F, τ, y, hp, R, e1, fun v H1 F1 R1 x1 r1 => ⟨t, tru_read (.inl r1) e2, ?_⟩⟩
  cases t with
  | true =>
    rw [if_pos rfl] at e3 ⊢
    exact ⟨HB, F0, P, F1, τ, d, hp, R1, e3, fun w H2 F2 R2 x2 r2 => q w H2 F2 R2 (x1.trans x2) r2⟩
  | false =>
    rw [if_neg Bool.false_ne_true] at e3 ⊢
    cases e3
    obtain ⟨F2, R2, x2⟩ := R1.lowTo l
    exact q v H1 F2 R2 (x1.trans x2) (RepV.mono x2 r1)
theorem ok_or (l : Low c1 c2) (ha : OkE cl k S c e1 ca c1 false) (hb : OkE cl k S c1 (.BoolOp .Or (e2 :: es) pos) cb c2 false) : OkE cl k S c (.BoolOp .Or (e1 :: e2 :: es) pos) (.oo ca cb) c2 false := fun X x => by
  refine PE.imp (pe_orT (ha X x) (hb X x)) ?_
  rintro σ H Q ⟨HB, F0, P, F, τ, d, hp, R, ev, q⟩
  have ev : sOr (evE cl ca τ) (evE cl cb τ) = some d := ev
  unfold sOr at ev
  simp only [Option.bind_eq_some_iff] at ev
  obtain ⟨y, e1, t, e2, e3⟩ := ev
  refine ⟨HB, F0, P, F, τ, y, hp, R, e1, fun v H1 F1 R1 x1 r1 => ⟨t, tru_read (.inl r1) e2, ?_⟩⟩
  cases t with
  | false =>
    rw [if_neg Bool.false_ne_true] at e3 ⊢
    exact ⟨HB, F0, P, F1, τ, d, hp, R1, e3, fun w H2 F2 R2 x2 r2 => q w H2 F2 R2 (x1.trans x2) r2⟩
  | true =>
    rw [if_pos rfl] at e3 ⊢
    cases e3
    obtain ⟨F2, R2, x2⟩ := R1.lowTo l
    exact q v H1 F2 R2 (x1.trans x2) (RepV.mono x2 r1)
theorem ok_bool1 {op : BoolOp} (ha : OkE cl k S c e1 ca c1 fr) : OkE cl k S c (.BoolOp op [e1] pos) ca c1 fr := fun X x => pe_one (ha X x)
/-- a if t else b -/
theorem ok_ite (l1 : Low c2 cc) (l2 : Low c3 cc) (ht : OkT cl k S c e1 ca c1) (ha : OkE cl k S c1 e2 cb c2 false) (hb : OkE cl k S c1 e3 cd c3 false) : OkE cl k S c (.IfExp e1 e2 e3 pos) (.ite ca cb cd) cc false := fun X x => by
  refine PE.imp (pe_ifExp (ht X x) (ha X x) (hb X x)) ?_
  rintro σ H Q ⟨HB, F0, P, F, τ, d, hp, R, ev, q⟩
  have ev : sIte (evE cl ca τ) (evE cl cb τ) (evE cl cd τ) = some d := ev
  unfold sIte at ev
  simp only [Option.bind_eq_some_iff] at ev
  obtain ⟨y, e1, t, e2, e3⟩ := ev
  refine ⟨HB, F0, P, F, τ, t, hp, R, by show (evE cl ca τ).bind truD = some t; rw [e1]; exact e2, fun H1 F1 R1 x1 => ?_⟩
  cases t with
  | true =>
    rw [if_pos rfl] at e3 ⊢
    refine ⟨HB, F0, P, F1, τ, d, hp, R1, e3, fun w H2 F2 R2 x2 r2 => ?_⟩
    obtain ⟨F3, R3, x3⟩ := R2.lowTo l1
    exact q w H2 F3 R3 ((x1.trans x2).trans x3) (RepV.mono x3 r2)
  | false =>
    rw [if_neg Bool.false_ne_true] at e3 ⊢
    refine ⟨HB, F0, P, F1, τ, d, hp, R1, e3, fun w H2 F2 R2 x2 r2 => ?_⟩
    obtain ⟨F3, R3, x3⟩ := R2.lowTo l2
    exact q w H2 F3 R3 ((x1.trans x2).trans x3) (RepV.mono x3 r2)
end
end PV

/-! chains, arguments, displays, places, calls -/
namespace PV
open PySem PySem.Spec PyProof.Rows L2
theorem backTo_plain {pos : Pos} {env : PySem.Env} : ∀ {es : List Expr}, es.all plainE = true → (backTo pos (starEach es env)).any (·.1) = false
  | [], _ => rfl
  | e :: es, h => by
    rw [List.all_cons, Bool.and_eq_true] at h
    rw [star_plain h.1]
    exact backTo_plain h.2
theorem backTo_all {pos : Pos} {env : PySem.Env} : ∀ {es : List Expr}, es.all plainE = true → (backTo pos (starEach es env)).all (fun x => !x.1) = true
  | [], _ => rfl
  | e :: es, h => by
    rw [List.all_cons, Bool.and_eq_true] at h
    rw [star_plain h.1]
    exact backTo_all h.2
theorem marks2 {op op' : CmpOp} {b c : Expr} (h : plainE c = true) : lastMarks [op, op'] [b, c] = false := by
  show behindInMarks op' c = false
  exact mark_plain h
section
variable {cl : Nat → List D → Option D} {k : Nat} {S : SC} {c c1 c2 c3 : Ctx} {e e1 e2 e3 : Expr} {es : List Expr} {ca cb cd ce : C} {ces : List C} {fr : Bool} {pos p2 : Pos}

/-! ### a < b < c -/
theorem chn_ok {op op' : Cop} {K : PySem.W.Frag} {pn : List Nat} (l : Low c2 c3) (nd : op ≠ .in_ ∧ op ≠ .notIn ∧ op' ≠ .in_ ∧ op' ≠ .notIn) : ∀ σ H Q, RE cl K pn (.chn ca op cb op' cd) c c3 true σ H Q →
    tChain (rCop K op) (rCop K op') (RB cl K pn ca c c1) (RB cl K pn cb c1 c2) (RB cl K pn cd c2 c3) σ H Q := by
  rintro σ H Q ⟨HB, F0, P, F, τ, d, hp, R, ev, q⟩
  have ev : sChn op op' (evE cl ca τ) (evE cl cb τ) (evE cl cd τ) = some d := ev
  unfold sChn at ev
  simp only [Option.bind_eq_some_iff] at ev
  obtain ⟨x, e1, y, e2, t, e3, e4⟩ := ev
  refine ⟨HB, F0, P, F, τ, x, hp, R, e1, fun v H1 F1 R1 x1 r1 => ⟨HB, F0, P, F1, τ, y, hp, R1, e2, fun u H2 F2 R2 x2 r2 => ?_⟩⟩
  refine cmp_ok (R2.read (r1.mono x2)) (R2.read r2) e3 (fun h => absurd h (by rintro (h | h); exact nd.1 h; exact nd.2.1 h)) ⟨t, rfl, ?_⟩
  cases t with
  | true =>
    rw [if_pos rfl] at e4 ⊢
    simp only [Option.bind_eq_some_iff, Option.map_eq_some_iff] at e4
    obtain ⟨z, e5, b, e6, rfl⟩ := e4
    refine ⟨HB, F0, P, F2, τ, z, hp, R2, e5, fun w H3 F3 R3 x3 r3 => ?_⟩
    refine cmp_ok (R3.read (r2.mono x3)) (R3.read r3) e6 (fun h => absurd h (by rintro (h | h); exact nd.2.2.1 h; exact nd.2.2.2 h)) ?_
    exact (show Post _ HB F0 P c3 τ F3 σ H3 true (.bl b) Q from fun w H4 F4 R4 x4 r4 => q w H4 F4 R4 (((x1.trans x2).trans x3).trans x4) r4).bl R3
  | false =>
    rw [if_neg Bool.false_ne_true] at e4 ⊢
    cases e4
    obtain ⟨F3, R3, x3⟩ := R2.lowTo l
    exact (show Post _ HB F0 P c3 τ F3 σ H2 true (.bl false) Q from fun w H4 F4 R4 x4 r4 => q w H4 F4 R4 (((x1.trans x2).trans x3).trans x4) r4).bl R3
theorem ok_chn {op op' : Cop} (l : Low c2 c3) (nd : op ≠ .in_ ∧ op ≠ .notIn ∧ op' ≠ .in_ ∧ op' ≠ .notIn) (ha : OkB cl k S c e1 ca c1) (hb : OkB cl k S c1 e2 cb c2) (hc : OkB cl k S c2 e3 cd c3) (hp : plainE e3 = true) :
    OkE cl k S c (.Compare e1 [cmpOf op, cmpOf op'] [e2, e3] pos) (.chn ca op cb op' cd) c3 true := fun X x =>
  PE.imp (pe_chain (op_cop x.room op) (op_cop x.room op') (ha X x) (hb X x) (hc X x) (marks2 hp)) (chn_ok l nd)
theorem okT_chn {op op' : Cop} (l : Low c2 c3) (nd : op ≠ .in_ ∧ op ≠ .notIn ∧ op' ≠ .in_ ∧ op' ≠ .notIn) (ha : OkB cl k S c e1 ca c1) (hb : OkB cl k S c1 e2 cb c2) (hc : OkB cl k S c2 e3 cd c3) (hp : plainE e3 = true) :
    OkT cl k S c (.Compare e1 [cmpOf op, cmpOf op'] [e2, e3] pos) (.chn ca op cb op' cd) c3 := fun X x => by
  refine PT.imp (pt_chain (op_cop x.room op) (op_cop x.room op') (ha X x) (hb X x) (hc X x) (marks2 hp)) ?_
  rintro σ H Q ⟨HB, F0, P, F, τ, b, hp, R, ev, q⟩
  have ev : (sChn op op' (evE cl ca τ) (evE cl cb τ) (evE cl cd τ)).bind truD = some b := ev
  rw [Option.bind_eq_some_iff] at ev
  obtain ⟨d, e1, e2⟩ := ev
  have hd : d = .bl b := by
    unfold sChn at e1
    simp only [Option.bind_eq_some_iff] at e1
    obtain ⟨_, _, _, _, t, _, e3⟩ := e1
    cases t with
    | true =>
      rw [if_pos rfl] at e3
      simp only [Option.bind_eq_some_iff, Option.map_eq_some_iff] at e3
      obtain ⟨_, _, _, _, rfl⟩ := e3
      cases e2; rfl
    | false =>
      rw [if_neg Bool.false_ne_true] at e3
      cases e3
      cases e2; rfl
  refine chn_ok l nd σ H _ ⟨HB, F0, P, F, τ, d, hp, R, e1, fun v H1 F1 R1 x1 r1 => ?_⟩
  rw [hd] at r1
  rcases r1 with ⟨_, r1⟩ | ⟨_, _, _, _, r1, _⟩
  · cases r1; exact ⟨b, rfl, q H1 F1 R1 x1⟩
  · exact r1.elim

/-! ### arguments -/
theorem okA_nil : OkA cl k S c [] [] c := fun X x => by
  refine PA.imp pa_nil ?_
  rintro σ H Q ⟨HB, F0, P, F, τ, ds, hp, R, ev, q⟩
  cases ev
  exact q [] H F R (Ext.refl F H) .nil
theorem okA_cons (ha : OkE cl k S c e1 ca c1 false) (hr : OkA cl k S c1 es ces c2) (hp : plainE e1 = true) : OkA cl k S c (e1 :: es) (ca :: ces) c2 := fun X x => by
  refine PA.imp (pa_cons (ha X x) (hr X x) (star_plain hp)) ?_
  rintro σ H Q ⟨HB, F0, P, F, τ, ds, hp, R, ev, q⟩
  have ev : sCons (evE cl ca τ) (evEs cl ces τ) = some ds := ev
  unfold sCons at ev
  simp only [Option.bind_eq_some_iff, Option.map_eq_some_iff] at ev
  obtain ⟨d, e1, dr, e2, rfl⟩ := ev
  exact ⟨HB, F0, P, F, τ, d, hp, R, e1, fun v H1 F1 R1 x1 r1 => ⟨HB, F0, P, F1, τ, dr, hp, R1, e2, fun vs H2 F2 R2 x2 r2 => q _ H2 F2 R2 (x1.trans x2) (.cons (RepV.mono x2 r1) r2)⟩⟩
theorem okAB_nil : OkAB cl k S c [] [] c := fun X x => by
  refine PA.imp pa_nil ?_
  rintro σ H Q ⟨HB, F0, P, F, τ, ds, hp, R, ev, q⟩
  cases ev
  exact q [] H F R (Ext.refl F H) .nil
theorem okAB_cons (ha : OkB cl k S c e1 ca c1) (hr : OkAB cl k S c1 es ces c2) (hp : plainE e1 = true) : OkAB cl k S c (e1 :: es) (ca :: ces) c2 := fun X x => by
  refine PA.imp (pa_cons (ha X x) (hr X x) (star_plain hp)) ?_
  rintro σ H Q ⟨HB, F0, P, F, τ, ds, hp, R, ev, q⟩
  have ev : sCons (evE cl ca τ) (evEs cl ces τ) = some ds := ev
  unfold sCons at ev
  simp only [Option.bind_eq_some_iff, Option.map_eq_some_iff] at ev
  obtain ⟨d, e1, dr, e2, rfl⟩ := ev
  exact ⟨HB, F0, P, F, τ, d, hp, R, e1, fun v H1 F1 R1 x1 r1 => ⟨HB, F0, P, F1, τ, dr, hp, R1, e2, fun vs H2 F2 R2 x2 r2 => q _ H2 F2 R2 (x1.trans x2) (.cons (r1.mono x2) r2)⟩⟩

/-! ### displays -/
theorem szOk_line {n : Nat} (h : szOk n = true) : n ≤ sizeLine := by
  have sl : sizeLine = 16777216 := rfl
  have := of_decide_eq_true h
  omega
theorem ok_tup {j : Nat} (ha : OkA cl k S c es ces c1) : OkE cl k S c (.Tuple es j pos) (.tup ces) c1 true := fun X x => by
  refine PE.imp (pe_tup (ha X x)) ?_
  rintro σ H Q ⟨HB, F0, P, F, τ, d, hp, R, ev, q⟩
  have ev : sTup (evEs cl ces τ) = some d := ev
  unfold sTup at ev
  rw [Option.bind_eq_some_iff] at ev
  obtain ⟨ds, e1, e2⟩ := ev
  split at e2
  · rename_i hs
    cases e2
    refine ⟨HB, F0, P, F, τ, ds, hp, R, e1, fun vs H1 F1 R1 x1 r1 => ⟨by rw [← r1.length]; exact szOk_line hs, ?_⟩⟩
    exact (show Post _ HB F0 P c1 τ F1 σ H1 true (.tup ds) Q from fun w H3 F3 R3 x3 r3 => q w H3 F3 R3 (x1.trans x3) r3).tup R1 r1
  · cases e2
theorem ok_lst (ha : OkA cl k S c es ces c1) : OkE cl k S c (.List es pos) (.lst ces) c1 true := fun X x => by
  refine PE.imp (pe_lst (ha X x)) ?_
  rintro σ H Q ⟨HB, F0, P, F, τ, d, hp, R, ev, q⟩
  have ev : sLst (evEs cl ces τ) = some d := ev
  unfold sLst at ev
  rw [Option.bind_eq_some_iff] at ev
  obtain ⟨ds, e1, e2⟩ := ev
  split at e2
  · rename_i hs
    cases e2
    refine ⟨HB, F0, P, F, τ, ds, hp, R, e1, fun vs H1 F1 R1 x1 r1 => ⟨by rw [← r1.length]; exact szOk_line hs, ?_⟩⟩
    exact (show Post _ HB F0 P c1 τ F1 σ H1 true (.lst ds) Q from fun w H3 F3 R3 x3 r3 => q w H3 F3 R3 (x1.trans x3) r3).lst R1 r1
  · cases e2
/-- {}: its keys will be of the kind told -/
theorem fresh_dct {K : PySem.W.Frag} {HB : Hp} {F0 : AS} {P : Pins} {τ : Env} {F : AS} {σ : L2.St} {H : Hp} {p : Addr} {o : HO} {t : Bool} {ks xs : List D} (R : Rel K HB F0 P c τ F σ H) (hp : H p = none)
    (h : Ext F H F (upd H p o) → OwnC K F (upd H p o) (.dct t ks xs) p) : FreshR K HB F (upd H p o) c τ σ (.dct t ks xs) (.ref p) := by
  obtain ⟨_, x, nf, hb, no⟩ := R.newObj (o := o) hp
  exact .inr ⟨p, rfl, nf, hb, h x, no⟩
theorem ok_dct0 {t : Bool} : OkE cl k S c (.Dict [] [] pos) (.dct t [] []) c true := fun X x => by
  cases t with
  | false =>
    refine PE.imp pe_dnewK ?_
    rintro σ H Q ⟨HB, F0, P, F, τ, d, hp, R, ev, q⟩ p hn
    cases ev
    exact q _ _ F (R.newObj hn).1 (R.newObj hn).2.1 (fresh_dct R hn fun _ => ⟨[], upd_same, rfl, .nil⟩)
  | true =>
    refine PE.imp pe_dnewT ?_
    rintro σ H Q ⟨HB, F0, P, F, τ, d, hp, R, ev, q⟩ p hn
    cases ev
    exact q _ _ F (R.newObj hn).1 (R.newObj hn).2.1 (fresh_dct R hn fun _ => ⟨[], upd_same, rfl, .nil⟩)

/-! ### places, slices -/
theorem ok_idx (ha : OkB cl k S c e1 ca c1) (hb : OkB cl k S c1 e2 cb c2) (hp : plainE e2 = true) : OkE cl k S c (.Subscript e1 e2 pos) (.idx ca cb) c2 false := fun X x => by
  have hu : X.A.units + 1 < cLine := by have := x.room.un; omega
  refine PE.imp (PE.or (pe_ix ix_seq (ha X x) (hb X x) (ix_plain hp)) (pe_dget hu (ha X x) (hb X x) (ix_plain hp))) ?_
  rintro σ H Q ⟨HB, F0, P, F, τ, d, hp, R, ev, q⟩
  have ev : sIdx (evE cl ca τ) (evE cl cb τ) = some d := ev
  unfold sIdx at ev
  simp only [Option.bind_eq_some_iff] at ev
  obtain ⟨x, e1, y, e2, e3⟩ := ev
  by_cases hd : isDct x = true
  · right
    obtain ⟨t, ks, xs, rfl⟩ : ∃ t ks xs, x = .dct t ks xs := by
      cases x <;> first | exact ⟨_, _, _, rfl⟩ | cases hd
    refine ⟨HB, F0, P, F, τ, _, hp, R, e1, fun v H1 F1 R1 x1 r1 => ⟨HB, F0, P, F1, τ, y, hp, R1, e2, fun u H2 F2 R2 x2 r2 => ?_⟩⟩
    exact idx_dct (R2.read (r1.mono x2)) (R2.read r2) e3 fun w rw => q w H2 F2 R2 (x1.trans x2) rw
  · left
    refine ⟨HB, F0, P, F, τ, _, hp, R, e1, fun v H1 F1 R1 x1 r1 => ⟨HB, F0, P, F1, τ, y, hp, R1, e2, fun u H2 F2 R2 x2 r2 => ?_⟩⟩
    exact idx_seq (R2.read (r1.mono x2)) (R2.read r2) (by simpa using hd) e3 fun w rw => q w H2 F2 R2 (x1.trans x2) rw
/-- a slice's part -/
def RO (cl : Nat → List D → Option D) (K : PySem.W.Frag) (pn : List Nat) (ce : C) (c c' : Ctx) : TO := fun σ H Q => ∃ HB F0 P F τ d o, PinOk pn P ∧ Rel K HB F0 P c τ F σ H ∧ evE cl ce τ = some d ∧ partD d = some o ∧
  ∀ H' F', Rel K HB F0 P c' τ F' σ H' → Ext F H F' H' → Q o H'
def OkO (cl : Nat → List D → Option D) (k : Nat) (S : SC) (c : Ctx) (e : Option Expr) (ce : C) (c' : Ctx) : Prop := ∀ X, XOk cl k S X → PO X e (RO cl X.K S.pin ce c c')
theorem okO_none : OkO cl k S c none (.k .non) c := fun X x => by
  refine ⟨fun pins s σ H Q I h => po_none.run pins s σ H Q I ?_⟩
  obtain ⟨HB, F0, P, F, τ, d, o, hp, R, ev, e2, q⟩ := h
  cases ev
  cases e2
  exact q H F R (Ext.refl F H)
theorem okO_some (ha : OkB cl k S c e1 ca c1) : OkO cl k S c (some e1) (.bd ca) c1 := fun X x => by
  refine ⟨fun pins s σ H Q I h => (po_some (ha X x)).run pins s σ H Q I ?_⟩
  obtain ⟨HB, F0, P, F, τ, d, o, hp, R, ev, e2, q⟩ := h
  have ev : (evE cl ca τ).bind bdD = some d := ev
  rw [Option.bind_eq_some_iff] at ev
  obtain ⟨y, e1, e3⟩ := ev
  cases y with
  | int i =>
    cases e3
    cases e2
    refine ⟨HB, F0, P, F, τ, .int i, hp, R, e1, fun v H1 F1 R1 x1 r1 => ?_⟩
    have hv := (R1.read r1).int
    exact ⟨i, hv, q H1 F1 R1 x1⟩
  | _ => cases e3
theorem ok_slc {lo hi : Option Expr} (ha : OkB cl k S c e1 ca c1) (hl : OkO cl k S c1 lo cb c2) (hh : OkO cl k S c2 hi cd c3) : OkE cl k S c (.Subscript e1 (.Slice lo hi none p2) pos) (.slc ca cb cd) c3 true := fun X x => by
  refine PE.imp (pe_slice (sl_list.or sl_tupA) (ha X x) (hl X x) (hh X x)) ?_
  rintro σ H Q ⟨HB, F0, P, F, τ, d, hp, R, ev, q⟩
  have ev : sSlc (evE cl ca τ) (evE cl cb τ) (evE cl cd τ) = some d := ev
  unfold sSlc at ev
  simp only [Option.bind_eq_some_iff] at ev
  obtain ⟨x, e1, y, e2, z, e3, e4⟩ := ev
  unfold slcD at e4
  simp only [Option.bind_eq_some_iff] at e4
  obtain ⟨l, e5, h, e6, e7⟩ := e4
  refine ⟨HB, F0, P, F, τ, x, hp, R, e1, fun v H1 F1 R1 x1 r1 => ⟨HB, F0, P, F1, τ, y, l, hp, R1, e2, e5, fun H2 F2 R2 x2 => ⟨HB, F0, P, F2, τ, z, h, hp, R2, e3, e6, fun H3 F3 R3 x3 => ?_⟩⟩⟩
  exact slc_ok R3 (R3.read ((r1.mono x2).mono x3)) e7 fun w H4 F4 R4 x4 r4 => q w H4 F4 R4 (((x1.trans x2).trans x3).trans x4) r4

/-! ### calls of built-ins -/
def biName : Bi → Str
  | .len => "len" | .abs => "abs" | .int => "int" | .max => "max" | .min => "min" | .sum => "sum" | .any => "any" | .all => "all"
  | .sorted => "sorted" | .tuple => "tuple" | .list => "list" | .divmod => "divmod"
theorem bi_boot : ∀ f : Bi, bootBuiltins (biName f) = some (fval f)
  | .len => by decide +kernel
  | .abs => by decide +kernel
  | .int => by decide +kernel
  | .max => by decide +kernel
  | .min => by decide +kernel
  | .sum => by decide +kernel
  | .any => by decide +kernel
  | .all => by decide +kernel
  | .sorted => by decide +kernel
  | .tuple => by decide +kernel
  | .list => by decide +kernel
  | .divmod => by decide +kernel
theorem paired_read {K : PySem.W.Frag} {HB : Hp} {F0 : AS} {P : Pins} {τ : Env} {F : AS} {σ : L2.St} {H : Hp} {ds : List D} {vs : List V} (R : Rel K HB F0 P c τ F σ H) (h : Paired (HdR K F H τ σ) ds vs) : Paired (ReadR K F H) ds vs := by
  induction h with
  | nil => exact .nil
  | cons a _ ih => exact .cons (R.read a) ih
theorem ok_bi {f : Bi} (hg : globB S (biName f) = true) (hf : biName f ∈ S.fr) (ha : OkAB cl k S c (e1 :: es) ces c1) (hp : (e1 :: es).all plainE = true) : OkE cl k S c (.Call (.Name (biName f) p2) (e1 :: es) [] pos) (.bi f ces) c1 true := fun X x => by
  rw [List.all_cons, Bool.and_eq_true] at hp
  obtain ⟨h1, h2, h3⟩ := globB_ok x hg
  have hb := bi_boot f
  have main : PE X (.Call (.Name (biName f) p2) (e1 :: es) [] pos) (tCB (rBi X.K f) (RAB cl X.K S.pin ces c c1)) := by
    have hc := call_bi x.calm f
    cases f with
    | int => exact pe_callTy hc h1 (x.free _ hf) hb (ha X x) h3 h2 (star_plain hp.1) (backTo_plain hp.2)
    | tuple => exact pe_callTy hc h1 (x.free _ hf) hb (ha X x) h3 h2 (star_plain hp.1) (backTo_plain hp.2)
    | list => exact pe_callTy hc h1 (x.free _ hf) hb (ha X x) h3 h2 (star_plain hp.1) (backTo_plain hp.2)
    | _ => exact pe_callB hc h1 (x.free _ hf) hb (ha X x) h3 h2 (star_plain hp.1) (backTo_plain hp.2)
  refine PE.imp main ?_
  rintro σ H Q ⟨HB, F0, P, F, τ, d, hp, R, ev, q⟩
  have ev : (evEs cl ces τ).bind (biD f) = some d := ev
  rw [Option.bind_eq_some_iff] at ev
  obtain ⟨ds, e1, e2⟩ := ev
  refine ⟨HB, F0, P, F, τ, ds, hp, R, e1, fun vs H1 F1 R1 x1 r1 => ?_⟩
  exact bi_ok R1 (paired_read R1 r1) e2 fun w H3 F3 R3 x3 r3 => q w H3 F3 R3 (x1.trans x3) r3

/-! ### calls of the text's own defs -/
theorem ok_cal {y : Str} {f ar : Nat} (hg : globB S y = true) (hf : S.fs.lookup y = some (f, ar)) (hl : (e1 :: es).length = ar) (ha : OkA cl k S c (e1 :: es) ces c1) (hp : (e1 :: es).all plainE = true) :
    OkE cl k S c (.Call (.Name y p2) (e1 :: es) [] pos) (.cal f ces) c1 false := fun X x => by
  rw [List.all_cons, Bool.and_eq_true] at hp
  obtain ⟨h1, h2, h3⟩ := globB_ok x hg
  obtain ⟨a, fd, ps, g1, g2, g3, g4, g5⟩ := x.funs y f ar hf
  refine PE.imp (pe_call g5 x.room h1 g1 g2 g3 .nil (pass0 : Passes CX0 X E0) (ha X x) h2 (star_plain hp.1) (backTo_plain hp.2)) ?_
  rintro σ H Q ⟨HB, F0, P, F, τ, d, hp, R, ev, q⟩
  have ev : (evEs cl ces τ).bind (cl f) = some d := ev
  rw [Option.bind_eq_some_iff] at ev
  obtain ⟨ds, e1, e2⟩ := ev
  refine ⟨HB, F0, P, F, τ, ds, hp, R, e1, fun vs H1 F1 R1 x1 r1 => ?_⟩
  show spD X.K (cl f) (vs ++ []) H1 Q E0
  rw [List.append_nil]
  refine ⟨F1, ds, d, R1.dom, r1, e2, fun v H' F' same sub new dom r => ?_⟩
  have nn : ∀ b, H1 b ≠ none → H' b = H1 b := fun b hb => by
    cases e : H1 b with
    | none => exact absurd e hb
    | some o => exact same b o e
  have xx : Ext F1 H1 F' H' := ⟨sub, fun b hb => nn b (by obtain ⟨o, e⟩ := R1.dom b hb; rw [e]; exact fun z => nomatch z), fun b xs hb => same b _ hb⟩
  have R2 : Rel X.K HB F0 P c1 τ F' σ H' := by
    refine ⟨fun b o hb => same b o (R1.same b o hb), dom, fun b hb => sub b (R1.f0 b hb), fun b hb => ?_, R1.len, fun i e he => ?_, R1.sep, R1.pin⟩
    · rcases new b hb with z | z
      · exact R1.f1 b z
      · right
        cases e : HB b with
        | none => rfl
        | some o => have := R1.same b o e; rw [z] at this; cases this
    · obtain ⟨v, e', s⟩ := R1.slot i e he
      exact ⟨v, e', s.mono xx new fun b _ _ hb => nn b hb⟩
  exact q v H' F' R2 (x1.trans xx) r
theorem ok_cal0 {y : Str} {f : Nat} (hg : globB S y = true) (hf : S.fs.lookup y = some (f, 0)) : OkE cl k S c (.Call (.Name y p2) [] [] pos) (.cal f []) c false := fun X x => by
  obtain ⟨h1, h2, h3⟩ := globB_ok x hg
  obtain ⟨a, fd, ps, g1, g2, g3, g4, g5⟩ := x.funs y f 0 hf
  refine PE.imp (pe_call0 g5 x.room h1 g1 g2 g3 .nil (pass0 : Passes CX0 X E0) h2) ?_
  rintro σ H Q ⟨HB, F0, P, F, τ, d, hp, R, ev, q⟩
  have ev : cl f [] = some d := ev
  refine ⟨F, [], d, R.dom, .nil, ev, fun v H' F' same sub new dom r => ?_⟩
  have nn : ∀ b, H b ≠ none → H' b = H b := fun b hb => by
    cases e : H b with
    | none => exact absurd e hb
    | some o => exact same b o e
  have xx : Ext F H F' H' := ⟨sub, fun b hb => nn b (by obtain ⟨o, e⟩ := R.dom b hb; rw [e]; exact fun z => nomatch z), fun b xs hb => same b _ hb⟩
  have R2 : Rel X.K HB F0 P c τ F' σ H' := by
    refine ⟨fun b o hb => same b o (R.same b o hb), dom, fun b hb => sub b (R.f0 b hb), fun b hb => ?_, R.len, fun i e he => ?_, R.sep, R.pin⟩
    · rcases new b hb with z | z
      · exact R.f1 b z
      · right
        cases e : HB b with
        | none => rfl
        | some o => have := R.same b o e; rw [z] at this; cases this
    · obtain ⟨v, e', s⟩ := R.slot i e he
      exact ⟨v, e', s.mono xx new fun b _ _ hb => nn b hb⟩
  exact q v H' F' R2 xx r
end
end PV

/-! what a loop walks -/
namespace PV
open PySem PySem.Spec PyProof.Rows L2

/-- a value that is read at each turn: shared, or a pinned slot's -/
def HdP (K : PySem.W.Frag) (F : AS) (H : Hp) (Pn : Pins) (d : D) (v : V) : Prop := RepV K F H d v ∨ ∃ i, (i, v, d) ∈ Pn
section
variable {K : PySem.W.Frag} {HB : Hp} {F0 : AS} {P Pn : Pins} {c : Ctx} {τ : Env} {F F' : AS} {σ : L2.St} {H H' : Hp}
theorem HdP.read {d : D} {v : V} (h : HdP K F H Pn d v) (R : Rel K HB F0 P c τ F' σ H') (hp : ∀ p ∈ Pn, p ∈ P) (x : Ext F H F' H') : ReadR K F' H' d v := by
  rcases h with h | ⟨i, h⟩
  · exact .inl (h.mono x)
  · have := R.pin _ (hp _ h)
    exact R.read (.inr ⟨i, this.2, this.1⟩)
end
/-- these slots are pinned -/
def PinQ (ps : List Nat) (P : Pins) : Prop := PinOk ps P ∧ ∀ j ∈ ps, ∃ p ∈ P, p.1 = j
theorem PinQ.nil : PinQ [] [] := ⟨fun p hp => by (cases hp), fun p hp => by (cases hp)⟩
theorem PinQ.one {i : Nat} {v : V} {d : D} : PinQ [i] [(i, v, d)] := ⟨fun p hp => by rw [List.mem_singleton] at hp; subst hp; exact List.mem_singleton.mpr rfl, fun j hj => ⟨_, List.mem_singleton.mpr rfl, (List.mem_singleton.mp hj).symm⟩⟩
/-- J gives the items xs, one after another, in all states that come -/
def ItOk (K : PySem.W.Frag) (J : It) (xs : List D) (Pn : Pins) (F' : AS) (H' : Hp) : Prop :=
  ∀ (HB2 : Hp) (F02 : AS) (P2 : Pins) (c2 : Ctx) (τ2 : Env) (F2 : AS) (σ2 : L2.St) (H2 : Hp), Rel K HB2 F02 P2 c2 τ2 F2 σ2 H2 → (∀ p ∈ Pn, p ∈ P2) → Ext F' H' F2 H2 → ∀ i : Nat,
    (xs.length ≤ i → J.stop i H2) ∧ ∀ d, xs[i]? = some d → J.go i H2 ∧ ∀ x H3, J.yld i H2 x H3 → (H3 = H2 ∨ ∃ T vs, H2 T = none ∧ H3 = upd H2 T (.tup vs)) ∧ RepV K F2 H3 d x
section
variable (cl : Nat → List D → Option D) (K : PySem.W.Frag) (pn : List Nat)
def RH (ce : C) (c c' : Ctx) (ps : List Nat) : TE := fun σ H Q => ∃ HB F0 P F τ d, PinOk pn P ∧ Rel K HB F0 P c τ F σ H ∧ evE cl ce τ = some d ∧
  ∀ v H' F' Pn, Rel K HB F0 (Pn ++ P) c' τ F' σ H' → PinQ ps Pn → (∀ p ∈ Pn, p.2.2 = d) → Ext F H F' H' → HdP K F' H' Pn d v → Q v H'
def RI (ce : C) (c c' : Ctx) (ps : List Nat) : TI := fun σ H Q => ∃ HB F0 P F τ xs, PinOk pn P ∧ Rel K HB F0 P c τ F σ H ∧ evI cl ce τ = some xs ∧ (∀ d, evE cl ce τ = some d → isDct d = false) ∧
  ∀ J H' F' Pn, Rel K HB F0 (Pn ++ P) c' τ F' σ H' → PinQ ps Pn → (∀ p ∈ Pn, isDct p.2.2 = false) → Ext F H F' H' → ItOk K J xs Pn F' H' → Q J H'
end
section
variable (cl : Nat → List D → Option D) (k : Nat)
def OkH (S : SC) (c : Ctx) (e : Expr) (ce : C) (c' : Ctx) (ps : List Nat) : Prop := ∀ X, XOk cl k S X → PE X e (RH cl X.K S.pin ce c c' ps)
def OkI (S : SC) (c : Ctx) (tg e : Expr) (ce : C) (c' : Ctx) (ps : List Nat) : Prop := ∀ X, XOk cl k S X → PI X tg e (RI cl X.K S.pin ce c c' ps)
end
section
variable {cl : Nat → List D → Option D} {k : Nat} {S : SC} {c c1 c2 c3 : Ctx} {tg e e1 e2 e3 : Expr} {es : List Expr} {ca cb cd ce : C} {ces : List C} {fr : Bool} {pos p2 : Pos} {ps : List Nat}
theorem Rel.addPin {K : PySem.W.Frag} {HB : Hp} {F0 : AS} {P : Pins} {τ : Env} {F : AS} {σ : L2.St} {H : Hp} {i : Nat} {v : V} {d : D} (R : Rel K HB F0 P c τ F σ H) (h1 : σ[i]? = some (some v)) (h2 : τ[i]? = some (some d)) :
    Rel K HB F0 ([(i, v, d)] ++ P) c τ F σ H := ⟨R.same, R.dom, R.f0, R.f1, R.len, R.slot, R.sep, fun p hp => by
  rcases List.mem_append.mp hp with h | h
  · rw [List.mem_singleton] at h; subst h; exact ⟨h1, h2⟩
  · exact R.pin p h⟩
theorem okH_expr (ha : OkE cl k S c e ca c1 fr) : OkH cl k S c e ca c1 [] := fun X x => by
  refine PE.imp ((OkE.shared ha) X x) ?_
  rintro σ H Q ⟨HB, F0, P, F, τ, d, hp, R, ev, q⟩
  exact ⟨HB, F0, P, F, τ, d, hp, R, ev, fun v H' F' R' x r => q v H' F' [] R' PinQ.nil (fun p hp => by cases hp) x (.inl r)⟩
/-- a name that a slot holds alone: lent while it is walked -/
theorem okH_own {y : Str} {i : Nat} (hv : visB S y = true) (hi : S.N[i]? = some y) (hf : fl c i = .own) : OkH cl k S c (.Name y pos) (.v i) (c.set i .lent) [i] := fun X x => by
  refine PE.imp (pe_slot x hv hi) ?_
  rintro σ H Q ⟨HB, F0, P, F, τ, d, hp, R, ev, q⟩
  have ev : sVar τ[i]? = some d := ev
  have e : τ[i]? = some (some d) := by
    unfold sVar at ev
    split at ev
    · rename_i he; cases ev; exact he
    · cases ev
  obtain ⟨v, e1, s⟩ := R.slot i d e
  exact ⟨v, e1, q v H F [(i, v, d)] ((R.lend i hf).addPin e1 e) PinQ.one (fun p hp => by rw [List.mem_singleton] at hp; subst hp; rfl) (Ext.refl F H) (.inr ⟨i, List.mem_singleton.mpr rfl⟩)⟩
/-- .. that is lent already -/
theorem okH_lent {y : Str} {i : Nat} (hv : visB S y = true) (hi : S.N[i]? = some y) : OkH cl k S c (.Name y pos) (.v i) c [i] := fun X x => by
  refine PE.imp (pe_slot x hv hi) ?_
  rintro σ H Q ⟨HB, F0, P, F, τ, d, hp, R, ev, q⟩
  have ev : sVar τ[i]? = some d := ev
  have e : τ[i]? = some (some d) := by
    unfold sVar at ev
    split at ev
    · rename_i he; cases ev; exact he
    · cases ev
  obtain ⟨v, e1, s⟩ := R.slot i d e
  exact ⟨v, e1, q v H F [(i, v, d)] (R.addPin e1 e) PinQ.one (fun p hp => by rw [List.mem_singleton] at hp; subst hp; rfl) (Ext.refl F H) (.inr ⟨i, List.mem_singleton.mpr rfl⟩)⟩

/-! ### lists and tuples -/
theorem itok_list {K : PySem.W.Frag} {Pn : Pins} {F : AS} {H : Hp} {xs : List D} {a : Addr} (h : ∀ (F2 : AS) (H2 : Hp), ReadR K F2 H2 (.lst xs) (.ref a) ∨ ReadR K F2 H2 (.scr xs) (.ref a) → ∃ vs, SqL K H2 a vs ∧ RepL K F2 H2 xs vs) (d : D) (hd : d = .lst xs ∨ d = .scr xs) (hh : HdP K F H Pn d (.ref a)) : ItOk K (Itl K a) xs Pn F H := by
  intro HB2 F02 P2 c2 τ2 F2 σ2 H2 R2 hp x i
  have r : ReadR K F2 H2 d (.ref a) := hh.read R2 hp x
  obtain ⟨vs, hs, rl⟩ := h F2 H2 (by rcases hd with rfl | rfl; exact .inl r; exact .inr r)
  refine ⟨fun hi => ⟨vs, hs, by rw [← rl.length]; exact hi⟩, fun d hd => ?_⟩
  obtain ⟨v, h1, h2⟩ := rl.get hd
  refine ⟨⟨vs, v, hs, h1⟩, fun y H3 hy => ?_⟩
  obtain ⟨e3, hy⟩ := hy
  subst e3
  have := hy vs hs
  rw [h1] at this; cases this
  exact ⟨.inl rfl, h2⟩
theorem itok_tup {K : PySem.W.Frag} {Pn : Pins} {F : AS} {H : Hp} {xs : List D} {a : Addr} (hh : HdP K F H Pn (.tup xs) (.ref a)) : ItOk K (Itt K a) xs Pn F H := by
  intro HB2 F02 P2 c2 τ2 F2 σ2 H2 R2 hp x i
  obtain ⟨b, vs, e, hs, rl⟩ := (hh.read R2 hp x).tup
  cases e
  refine ⟨fun hi => ⟨vs, .of hs, by rw [← rl.length]; exact hi⟩, fun d hd => ?_⟩
  obtain ⟨v, h1, h2⟩ := rl.get hd
  refine ⟨⟨vs, v, .of hs, h1⟩, fun y H3 hy => ?_⟩
  obtain ⟨e3, hy⟩ := hy
  subst e3
  have := hy vs (.of hs)
  rw [h1] at this; cases this
  exact ⟨.inl rfl, h2⟩
theorem HdP.now {K : PySem.W.Frag} {HB : Hp} {F0 : AS} {P Pn : Pins} {τ : Env} {F : AS} {σ : L2.St} {H : Hp} {d : D} {v : V} (h : HdP K F H Pn d v) (R : Rel K HB F0 (Pn ++ P) c τ F σ H) : ReadR K F H d v :=
  h.read R (fun p hp => List.mem_append_left _ hp) (Ext.refl F H)
theorem lst_read {K : PySem.W.Frag} {a : Addr} {xs : List D} : ∀ (F2 : AS) (H2 : Hp), ReadR K F2 H2 (.lst xs) (.ref a) ∨ ReadR K F2 H2 (.scr xs) (.ref a) → ∃ vs, SqL K H2 a vs ∧ RepL K F2 H2 xs vs := by
  rintro F2 H2 (h | h)
  · obtain ⟨b, vs, e, hs, rl⟩ := h.lst
    cases e; exact ⟨vs, .of hs, rl⟩
  · obtain ⟨b, vs, e, hs, rl⟩ := h.scr
    cases e; exact ⟨vs, hs, rl⟩
theorem okI_seq (ha : OkH cl k S c e ca c1 ps) : OkI cl k S c tg e ca c1 ps := fun X x => by
  refine PI.imp (PI.or (pi_list (ha X x)) (pi_tup (ha X x))) ?_
  rintro σ H Q ⟨HB, F0, P, F, τ, xs, hp, R, ev, nd, q⟩
  have ev' : (evE cl ca τ).bind itemsD = some xs := ev
  rw [Option.bind_eq_some_iff] at ev'
  obtain ⟨d, e1, e2⟩ := ev'
  have nd := nd d e1
  unfold itemsD at e2
  split at e2
  · cases e2
    right
    refine ⟨HB, F0, P, F, τ, _, hp, R, e1, fun v H' F' Pn R' hpn hpd x' hd => ?_⟩
    obtain ⟨a, vs, rfl, hs, rl⟩ := (hd.now R').tup
    exact ⟨a, rfl, ⟨vs, .of hs⟩, q _ H' F' Pn R' hpn (fun p hp => by rw [hpd p hp]; rfl) x' (itok_tup hd)⟩
  · cases e2
    left
    refine ⟨HB, F0, P, F, τ, _, hp, R, e1, fun v H' F' Pn R' hpn hpd x' hd => ?_⟩
    obtain ⟨a, vs, rfl, hs, rl⟩ := (hd.now R').lst
    exact ⟨a, rfl, ⟨vs, .of hs⟩, q _ H' F' Pn R' hpn (fun p hp => by rw [hpd p hp]; rfl) x' (itok_list lst_read _ (.inl rfl) hd)⟩
  · cases e2
    left
    refine ⟨HB, F0, P, F, τ, _, hp, R, e1, fun v H' F' Pn R' hpn hpd x' hd => ?_⟩
    obtain ⟨a, vs, rfl, hs, rl⟩ := (hd.now R').scr
    exact ⟨a, rfl, ⟨vs, hs⟩, q _ H' F' Pn R' hpn (fun p hp => by rw [hpd p hp]; rfl) x' (itok_list lst_read _ (.inr rfl) hd)⟩
  · cases e2

/-! ### ranges -/
theorem itok_rng {K : PySem.W.Frag} {Pn : Pins} {F : AS} {H : Hp} {lo : Int} {n : Nat} : ItOk K (Itr lo n) ((List.range n).map fun t : Nat => D.int (lo + (t : Nat))) Pn F H := by
  intro HB2 F02 P2 c2 τ2 F2 σ2 H2 R2 hp x i
  refine ⟨fun hi => (show n ≤ i by simpa using hi), fun d hd => ?_⟩
  rw [List.getElem?_map] at hd
  by_cases hn : i < n
  · rw [List.getElem?_range hn] at hd
    cases hd
    refine ⟨hn, fun y H3 hy => ?_⟩
    obtain ⟨e3, hy⟩ := hy
    subst e3 hy
    exact ⟨.inl rfl, .int _⟩
  · rw [List.getElem?_eq_none (by simpa using hn)] at hd; cases hd
theorem itok_rngC {K : PySem.W.Frag} {Pn : Pins} {F : AS} {H : Hp} {lo st : Int} {n : Nat} : ItOk K (Itc lo st n) ((List.range n).map fun t : Nat => D.int (lo + (t : Nat) * st)) Pn F H := by
  intro HB2 F02 P2 c2 τ2 F2 σ2 H2 R2 hp x i
  refine ⟨fun hi => (show n ≤ i by simpa using hi), fun d hd => ?_⟩
  rw [List.getElem?_map] at hd
  by_cases hn : i < n
  · rw [List.getElem?_range hn] at hd
    cases hd
    refine ⟨hn, fun y H3 hy => ?_⟩
    obtain ⟨e3, hy⟩ := hy
    subst e3 hy
    exact ⟨.inl rfl, .int _⟩
  · rw [List.getElem?_eq_none (by simpa using hn)] at hd; cases hd
theorem star_two {e1 e2 : Expr} {env : PySem.Env} (h1 : plainE e1 = true) (h2 : plainE e2 = true) : starEach [e1, e2] env = [(false, eval e1 env), (false, eval e2 env)] := by
  rw [star_plain h1, star_plain h2]; rfl
theorem star_one {e1 : Expr} {env : PySem.Env} (h1 : plainE e1 = true) : starEach [e1] env = [(false, eval e1 env)] := by
  rw [star_plain h1]; rfl
theorem ints_two {K : PySem.W.Frag} {F : AS} {H : Hp} : ∀ {ds : List D} {vs : List V}, Paired (ReadR K F H) ds vs → ∀ {ns : List Int}, ds = ns.map D.int → vs = ns.map V.int
  | _, _, .nil, [], _ => rfl
  | _, _, .cons a r, n :: ns, h => by
    rw [List.map_cons] at h
    injection h with h1 h2
    subst h1
    rw [a.int, ints_two r h2]; rfl
theorem evEs_length : ∀ {ces : List C} {τ : Env} {ds : List D}, evEs cl ces τ = some ds → ∀ {n : Nat}, ces.length = n → ds.length = n
  | [], _, _, h, _, e => by cases h; exact e
  | ce :: ces, τ, ds, h, n, e => by
    have h : sCons (evE cl ce τ) (evEs cl ces τ) = some ds := h
    unfold sCons at h
    simp only [Option.bind_eq_some_iff, Option.map_eq_some_iff] at h
    obtain ⟨d, _, dr, h2, rfl⟩ := h
    rw [List.length_cons] at e ⊢
    rw [evEs_length h2 rfl]; exact e
theorem len1 {α : Type} {l : List α} (h : l.length = 1) : ∃ a, l = [a] := by
  rcases l with _ | ⟨a, _ | ⟨b, r⟩⟩ <;> simp at h
  exact ⟨a, rfl⟩
theorem len2 {α : Type} {l : List α} (h : l.length = 2) : ∃ a b, l = [a, b] := by
  rcases l with _ | ⟨a, _ | ⟨b, _ | ⟨d, r⟩⟩⟩ <;> simp at h
  exact ⟨a, b, rfl⟩
theorem len3 {α : Type} {l : List α} (h : l.length = 3) : ∃ a b d, l = [a, b, d] := by
  rcases l with _ | ⟨a, _ | ⟨b, _ | ⟨d, _ | ⟨f, r⟩⟩⟩⟩ <;> simp at h
  exact ⟨a, b, d, rfl⟩
theorem size3 {i j st : Int} (h : st ≠ 0) : Builtin.Range.rangeSize i j st = (rngN i j st : Nat) := by
  unfold Builtin.Range.rangeSize rngN
  by_cases h0 : 0 < st
  · rw [if_pos h0, if_pos h0]
    by_cases h1 : i < j
    · rw [if_pos h1, if_pos h1]
      have : 0 ≤ (j - i - 1) / st := Int.ediv_nonneg (by omega) (by omega)
      omega
    · rw [if_neg h1, if_neg h1]; rfl
  · rw [if_neg h0, if_neg h0]
    by_cases h1 : j < i
    · rw [if_pos h1, if_pos (show i > j from h1)]
      have : 0 ≤ (i - j - 1) / (-st) := Int.ediv_nonneg (by omega) (by omega)
      omega
    · rw [if_neg h1, if_neg (show ¬ i > j from h1)]; rfl
theorem div_le_self {a b : Int} (ha : 0 ≤ a) (hb : 0 < b) : a / b ≤ a := by
  have h1 := Int.ediv_mul_le a (show b ≠ 0 by omega)
  have h2 : 0 ≤ a / b := Int.ediv_nonneg ha (by omega)
  have h3 : a / b * 1 ≤ a / b * b := Int.mul_le_mul_of_nonneg_left (by omega) h2
  omega
theorem small3 {i j st : Int} (b1 : -(2 ^ 61) ≤ i) (b2 : i < 2 ^ 61) (b3 : -(2 ^ 61) ≤ j) (b4 : j < 2 ^ 61) (b5 : st ≠ 0) (b6 : st.natAbs < 1073741824) : Builtin.Range.small i j st = true := by
  have hr : 0 ≤ Builtin.Range.rangeSize i j st ∧ Builtin.Range.rangeSize i j st < 2 ^ 63 := by
    unfold Builtin.Range.rangeSize
    by_cases h0 : 0 < st
    · rw [if_pos h0]
      split
      · have h1 : 0 ≤ (j - i - 1) / st := Int.ediv_nonneg (by omega) (by omega)
        have h2 := div_le_self (a := j - i - 1) (b := st) (by omega) h0
        omega
      · omega
    · rw [if_neg h0]
      split
      · have h1 : 0 ≤ (i - j - 1) / (-st) := Int.ediv_nonneg (by omega) (by omega)
        have h2 := div_le_self (a := i - j - 1) (b := -st) (by omega) (by omega)
        omega
      · omega
  unfold Builtin.Range.small Builtin.Range.rangeFitsLong
  simp only [Bool.and_eq_true, Bool.or_eq_true, decide_eq_true_eq, beq_iff_eq]
  refine ⟨⟨⟨⟨by omega, by omega⟩, by omega⟩, by omega⟩, .inr ?_⟩
  split <;> (simp only [Bool.and_eq_true, decide_eq_true_eq]; omega)
theorem okI_rng {ces : List C} (hg : globB S "range" = true) (hf : ("range" : Str) ∈ S.fr) (ha : OkAB cl k S c es ces c1) (hp : es.all plainE = true) (hl : es.length = 1 ∨ es.length = 2 ∨ es.length = 3) (hces : ∀ X, XOk cl k S X → ces.length = es.length) :
    OkI cl k S c tg (.Call (.Name "range" p2) es [] pos) (.rng ces) c1 [] := fun X x => by
  obtain ⟨h1, h2, h3⟩ := globB_ok x hg
  have hm := x.free _ hf
  have main : ∀ σ H (Q : It → Hp → Prop), RI cl X.K S.pin (.rng ces) c c1 [] σ H Q → ∃ ns : List Int, rngD (ns.map D.int) ≠ none ∧ RAB cl X.K S.pin ces c c1 σ H fun vs H1 => vs = ns.map V.int ∧ ∀ J, (∀ F Pn, ItOk X.K J ((rngD (ns.map D.int)).getD []) Pn F H1) → Q J H1 := by
    rintro σ H Q ⟨HB, F0, P, F, τ, xs, hp, R, ev, nd, q⟩
    have ev' : (sRng (evEs cl ces τ)).bind itemsD = some xs := ev
    unfold sRng at ev'
    simp only [Option.bind_eq_some_iff, Option.map_eq_some_iff] at ev'
    obtain ⟨d, ⟨ds, e1, ys, e2, rfl⟩, e3⟩ := ev'
    cases e3
    obtain ⟨ns, hns⟩ : ∃ ns : List Int, ds = ns.map D.int := by
      unfold rngD at e2
      split at e2
      · exact ⟨[_], rfl⟩
      · exact ⟨[_, _], rfl⟩
      · exact ⟨[_, _, _], rfl⟩
      · cases e2
    subst hns
    refine ⟨ns, by rw [e2]; exact (fun z => nomatch z), HB, F0, P, F, τ, _, hp, R, e1, fun vs H1 F1 R1 x1 r1 => ⟨ints_two (paired_read R1 r1) rfl, fun J hj => ?_⟩⟩
    rw [e2] at hj
    exact q J H1 F1 [] R1 PinQ.nil (fun p hp => by cases hp) x1 (hj F1 [])
  rcases es with _ | ⟨a, _ | ⟨b, _ | ⟨d, _ | ⟨f, r⟩⟩⟩⟩
  · simp at hl
  · have hp1 : plainE a = true := by simpa using hp
    refine PI.imp (pi_range1 h1 hm (ha X x) (star_one hp1)) fun σ H Q h => ?_
    obtain ⟨ns, e, HB, F0, P, F, τ, ds, hp, R, ev, q⟩ := main σ H Q h
    refine ⟨HB, F0, P, F, τ, ds, hp, R, ev, fun vs H1 F1 R1 x1 r1 => ?_⟩
    obtain ⟨e1, q⟩ := q vs H1 F1 R1 x1 r1
    have hn : ns.length = 1 := by
      have l1 : ds.length = 1 := evEs_length ev (hces X x)
      have l2 := Paired.length r1
      rw [e1, List.length_map] at l2
      omega
    obtain ⟨j, rfl⟩ := len1 hn
    simp only [List.map_cons, List.map_nil, rngD] at e q
    by_cases hb : rngB j = true
    · rw [if_pos hb] at q
      unfold rngB at hb
      simp only [Bool.and_eq_true, decide_eq_true_eq] at hb
      refine ⟨j, e1, by omega, by omega, q _ fun F Pn => ?_⟩
      have := itok_rng (K := X.K) (Pn := Pn) (F := F) (H := H1) (lo := 0) (n := j.toNat)
      simpa using this
    · rw [if_neg hb] at e; exact absurd rfl e
  · have hp2 : plainE a = true ∧ plainE b = true := by simpa using hp
    refine PI.imp (pi_range2 h1 hm (ha X x) (star_two hp2.1 hp2.2) (star_one hp2.2)) fun σ H Q h => ?_
    obtain ⟨ns, e, HB, F0, P, F, τ, ds, hp, R, ev, q⟩ := main σ H Q h
    refine ⟨HB, F0, P, F, τ, ds, hp, R, ev, fun vs H1 F1 R1 x1 r1 => ?_⟩
    obtain ⟨e1, q⟩ := q vs H1 F1 R1 x1 r1
    have hn : ns.length = 2 := by
      have l1 : ds.length = 2 := evEs_length ev (hces X x)
      have l2 := Paired.length r1
      rw [e1, List.length_map] at l2
      omega
    obtain ⟨i, j, rfl⟩ := len2 hn
    simp only [List.map_cons, List.map_nil, rngD] at e q
    by_cases hb : (rngB i && rngB j) = true
    · rw [if_pos hb] at q
      unfold rngB at hb
      simp only [Bool.and_eq_true, decide_eq_true_eq] at hb
      exact ⟨i, j, e1, ⟨by omega, by omega, by omega, by omega⟩, q _ fun F Pn => itok_rng⟩
    · rw [if_neg hb] at e; exact absurd rfl e
  · have hp3 : plainE a = true ∧ plainE b = true ∧ plainE d = true := by simpa using hp
    refine PI.imp (pi_range3 h1 hm (ha X x) (star_plain hp3.1) (backTo_plain (by simp [hp3.2.1, hp3.2.2]))) fun σ H Q h => ?_
    obtain ⟨ns, e, HB, F0, P, F, τ, ds, hp, R, ev, q⟩ := main σ H Q h
    refine ⟨HB, F0, P, F, τ, ds, hp, R, ev, fun vs H1 F1 R1 x1 r1 => ?_⟩
    obtain ⟨e1, q⟩ := q vs H1 F1 R1 x1 r1
    have hn : ns.length = 3 := by
      have l1 : ds.length = 3 := evEs_length ev (hces X x)
      have l2 := Paired.length r1
      rw [e1, List.length_map] at l2
      omega
    obtain ⟨i, j, st, rfl⟩ := len3 hn
    simp only [List.map_cons, List.map_nil, rngD] at e q
    by_cases hb : (rngB i && rngB j && decide (st ≠ 0) && decide (st.natAbs < 1073741824)) = true
    · rw [if_pos hb] at q
      unfold rngB at hb
      simp only [Bool.and_eq_true, decide_eq_true_eq] at hb
      obtain ⟨⟨⟨⟨b1, b2⟩, b3, b4⟩, b5⟩, b6⟩ := hb
      refine ⟨i, j, st, rngN i j st, e1, ⟨b5, b6, ?_, ?_⟩, q _ fun F Pn => itok_rngC⟩
      · exact small3 b1 b2 b3 b4 b5 b6
      · exact size3 b5
    · rw [if_neg hb] at e; exact absurd rfl e
  · simp at hl
end
end PV

/-! enumerate, zip, reversed -/
namespace PV
open PySem PySem.Spec PyProof.Rows L2

def SC.addPin (S : SC) (ps : List Nat) : SC := { S with pin := ps ++ S.pin }
theorem XOk.addPin {cl : Nat → List D → Option D} {k : Nat} {S : SC} {X : Cx} (x : XOk cl k S X) (ps : List Nat) : XOk cl k (S.addPin ps) X :=
  ⟨x.hN, x.nd, x.sc, x.calm, x.fnk, x.free, x.glob, x.funs, x.room, x.nox, x.kind⟩
theorem PinOk.app {ps pn : List Nat} {P Q : Pins} (h : PinOk ps Q) (g : PinOk pn P) : PinOk (ps ++ pn) (Q ++ P) := fun p hp => by
  rcases List.mem_append.mp hp with hp | hp
  · exact List.mem_append_left _ (h p hp)
  · exact List.mem_append_right _ (g p hp)
theorem PinQ.app {ps pn : List Nat} {P Q : Pins} (h : PinQ ps Q) (g : PinQ pn P) : PinQ (ps ++ pn) (Q ++ P) := ⟨h.1.app g.1, fun j hj => by
  rcases List.mem_append.mp hj with hj | hj
  · obtain ⟨p, hp, e⟩ := h.2 j hj
    exact ⟨p, List.mem_append_left _ hp, e⟩
  · obtain ⟨p, hp, e⟩ := g.2 j hj
    exact ⟨p, List.mem_append_right _ hp, e⟩⟩
theorem enum_get : ∀ (xs : List D) (n i : Nat), (enumD n xs)[i]? = (xs[i]?).map fun x => .tup [.int ((n + i : Nat) : Int), x]
  | [], _, _ => rfl
  | x :: xs, n, 0 => rfl
  | x :: xs, n, i + 1 => by
    show (enumD (n + 1) xs)[i]? = _
    rw [enum_get xs (n + 1) i, show n + 1 + i = n + (i + 1) by omega]; rfl
theorem enum_len : ∀ (xs : List D) (n : Nat), (enumD n xs).length = xs.length
  | [], _ => rfl
  | x :: xs, n => by
    show (enumD (n + 1) xs).length + 1 = _
    rw [enum_len xs (n + 1)]; rfl
theorem zip_get : ∀ (xs ys : List D) (i : Nat), (zipD xs ys)[i]? = (xs[i]?).bind fun x => (ys[i]?).map fun y => .tup [x, y]
  | [], _, _ => by simp [zipD]
  | x :: xs, [], i => by cases i <;> simp [zipD]
  | x :: xs, y :: ys, 0 => rfl
  | x :: xs, y :: ys, i + 1 => by
    show (zipD xs ys)[i]? = _
    rw [zip_get xs ys i]; rfl
theorem zip_len : ∀ (xs ys : List D), (zipD xs ys).length = min xs.length ys.length
  | [], _ => by simp [zipD]
  | x :: xs, [] => by simp [zipD]
  | x :: xs, y :: ys => by
    show (zipD xs ys).length + 1 = _
    rw [zip_len xs ys]
    simp only [List.length_cons]
    omega
section
variable {cl : Nat → List D → Option D} {k : Nat} {S : SC} {c c1 c2 c3 : Ctx} {tg e e1 e2 e3 : Expr} {es : List Expr} {ca cb cd ce : C} {ces : List C} {fr : Bool} {pos p2 tpos : Pos} {ps ps2 : List Nat} {kk : Nat}
theorem rep_pair {K : PySem.W.Frag} {F : AS} {H : Hp} {T : Addr} {x y : D} {v u : V} {HB : Hp} {F0 : AS} {P : Pins} {τ : Env} {σ : L2.St} (R : Rel K HB F0 P c τ F σ H) (hT : H T = none) (h1 : RepV K F H x v) (h2 : RepV K F H y u) :
    RepV K F (upd H T (.tup [v, u])) (.tup [x, y]) (.ref T) := rep_tup R hT (.cons h1 (.cons h2 .nil))
theorem itok_enumL {K : PySem.W.Frag} {Pn : Pins} {F : AS} {H : Hp} {xs : List D} {a : Addr} (d : D) (hd : d = .lst xs ∨ d = .scr xs) (hh : HdP K F H Pn d (.ref a)) : ItOk K (Ite K a) (enumD 0 xs) Pn F H := by
  intro HB2 F02 P2 c2 τ2 F2 σ2 H2 R2 hp x i
  have r : ReadR K F2 H2 d (.ref a) := hh.read R2 hp x
  obtain ⟨vs, hs, rl⟩ := lst_read F2 H2 (by rcases hd with rfl | rfl; exact .inl r; exact .inr r)
  rw [enum_len]
  refine ⟨fun hi => ⟨vs, hs, by rw [← rl.length]; exact hi⟩, fun d hd => ?_⟩
  rw [enum_get, Option.map_eq_some_iff] at hd
  obtain ⟨z, hz, rfl⟩ := hd
  obtain ⟨v, h1, h2⟩ := rl.get hz
  refine ⟨⟨vs, v, hs, h1⟩, fun y H3 hy => ?_⟩
  obtain ⟨T, u, rfl, hT, rfl, hy⟩ := hy
  have := hy vs hs
  rw [h1] at this; cases this
  refine ⟨.inr ⟨T, _, hT, rfl⟩, ?_⟩
  rw [Nat.zero_add]
  exact rep_pair R2 hT (.int _) h2
theorem okI_enumL (hg : globB S "enumerate" = true) (hf : ("enumerate" : Str) ∈ S.fr) (ha : OkH cl k S c e ca c1 ps) (hp : plainE e = true) :
    OkI cl k S c (.Tuple es kk tpos) (.Call (.Name "enumerate" p2) [e] [] pos) (.enu ca) c1 ps := fun X x => by
  obtain ⟨h1, h2, h3⟩ := globB_ok x hg
  refine PI.imp (pi_enum h1 (x.free _ hf) (pa_cons (ha X x) pa_nil (star_plain hp)) (star_one hp)) ?_
  rintro σ H Q ⟨HB, F0, P, F, τ, xs, hp, R, ev, nd, q⟩
  have ev' : ((evE cl ca τ).bind enuX).bind itemsD = some xs := ev
  simp only [Option.bind_eq_some_iff] at ev'
  obtain ⟨d0, ⟨d, e1, e2⟩, e3⟩ := ev'
  refine ⟨HB, F0, P, F, τ, d, hp, R, e1, fun v H' F' Pn R' hpn hpd x' hd => ?_⟩
  cases d with
  | lst zs =>
    cases e2; cases e3
    obtain ⟨a, vs, rfl, hs, rl⟩ := (hd.now R').lst
    exact ⟨a, vs, rfl, .of hs, q _ H' F' Pn R' hpn (fun p hp => by rw [hpd p hp]; rfl) x' (itok_enumL _ (.inl rfl) hd)⟩
  | scr zs =>
    cases e2; cases e3
    obtain ⟨a, vs, rfl, hs, rl⟩ := (hd.now R').scr
    exact ⟨a, vs, rfl, hs, q _ H' F' Pn R' hpn (fun p hp => by rw [hpd p hp]; rfl) x' (itok_enumL _ (.inr rfl) hd)⟩
  | _ => cases e2
theorem itok_zipL {K : PySem.W.Frag} {Pn : Pins} {F : AS} {H : Hp} {xs ys : List D} {a b : Addr} (d d' : D) (hd : d = .lst xs ∨ d = .scr xs) (hd' : d' = .lst ys ∨ d' = .scr ys) (hh : HdP K F H Pn d (.ref a)) (hh' : HdP K F H Pn d' (.ref b)) : ItOk K (Itz K a b) (zipD xs ys) Pn F H := by
  intro HB2 F02 P2 c2 τ2 F2 σ2 H2 R2 hp x i
  have r : ReadR K F2 H2 d (.ref a) := hh.read R2 hp x
  have r' : ReadR K F2 H2 d' (.ref b) := hh'.read R2 hp x
  obtain ⟨vs, hs, rl⟩ := lst_read F2 H2 (by rcases hd with rfl | rfl; exact .inl r; exact .inr r)
  obtain ⟨ws, hs', rl'⟩ := lst_read F2 H2 (by rcases hd' with rfl | rfl; exact .inl r'; exact .inr r')
  rw [zip_len]
  have l1 := rl.length
  have l2 := rl'.length
  dsimp only at l1 l2
  refine ⟨fun hi => ⟨vs, ws, hs, hs', by omega⟩, fun d hd => ?_⟩
  rw [zip_get] at hd
  simp only [Option.bind_eq_some_iff, Option.map_eq_some_iff] at hd
  obtain ⟨z, hz, z', hz', rfl⟩ := hd
  obtain ⟨v, h1, h2⟩ := rl.get hz
  obtain ⟨v', h1', h2'⟩ := rl'.get hz'
  refine ⟨⟨vs, ws, v, v', hs, hs', h1, h1'⟩, fun y H3 hy => ?_⟩
  obtain ⟨T, u, u', rfl, hT, rfl, hy, hy'⟩ := hy
  have := hy vs hs
  rw [h1] at this; cases this
  have := hy' ws hs'
  rw [h1'] at this; cases this
  exact ⟨.inr ⟨T, _, hT, rfl⟩, rep_pair R2 hT h2 h2'⟩
theorem itok_zipT {K : PySem.W.Frag} {Pn : Pins} {F : AS} {H : Hp} {xs ys : List D} {a b : Addr} (hh : HdP K F H Pn (.tup xs) (.ref a)) (hh' : HdP K F H Pn (.tup ys) (.ref b)) : ItOk K (RZ.ItzT K a b) (zipD xs ys) Pn F H := by
  intro HB2 F02 P2 c2 τ2 F2 σ2 H2 R2 hp x i
  obtain ⟨a', vs, e1, hs, rl⟩ := (hh.read R2 hp x).tup
  cases e1
  obtain ⟨b', ws, e1, hs', rl'⟩ := (hh'.read R2 hp x).tup
  cases e1
  rw [zip_len]
  refine ⟨fun hi => ⟨vs, ws, .of hs, .of hs', by rw [← rl.length, ← rl'.length]; omega⟩, fun d hd => ?_⟩
  rw [zip_get] at hd
  simp only [Option.bind_eq_some_iff, Option.map_eq_some_iff] at hd
  obtain ⟨z, hz, z', hz', rfl⟩ := hd
  obtain ⟨v, h1, h2⟩ := rl.get hz
  obtain ⟨v', h1', h2'⟩ := rl'.get hz'
  refine ⟨⟨vs, ws, v, v', .of hs, .of hs', h1, h1'⟩, fun y H3 hy => ?_⟩
  obtain ⟨T, u, u', rfl, hT, rfl, hy, hy'⟩ := hy
  have := hy vs (.of hs)
  rw [h1] at this; cases this
  have := hy' ws (.of hs')
  rw [h1'] at this; cases this
  exact ⟨.inr ⟨T, _, hT, rfl⟩, rep_pair R2 hT h2 h2'⟩
theorem HdP.app {K : PySem.W.Frag} {F : AS} {H : Hp} {P Q : Pins} {d : D} {v : V} (h : HdP K F H P d v) : HdP K F H (Q ++ P) d v := h.imp id fun ⟨i, h⟩ => ⟨i, List.mem_append_right _ h⟩
theorem HdP.app' {K : PySem.W.Frag} {F : AS} {H : Hp} {P Q : Pins} {d : D} {v : V} (h : HdP K F H P d v) : HdP K F H (P ++ Q) d v := h.imp id fun ⟨i, h⟩ => ⟨i, List.mem_append_left _ h⟩
theorem HdP.mono {K : PySem.W.Frag} {F F' : AS} {H H' : Hp} {P : Pins} {d : D} {v : V} (x : Ext F H F' H') (h : HdP K F H P d v) : HdP K F' H' P d v := h.imp (fun h => h.mono x) id
theorem okI_zip (hg : globB S "zip" = true) (hf : ("zip" : Str) ∈ S.fr) (ha : OkH cl k S c e1 ca c1 ps) (hb : OkH cl k (S.addPin ps) c1 e2 cb c2 ps2) (hp1 : plainE e1 = true) (hp2 : plainE e2 = true) :
    OkI cl k S c (.Tuple es kk tpos) (.Call (.Name "zip" p2) [e1, e2] [] pos) (.zip ca cb) c2 (ps2 ++ ps) := fun X x => by
  obtain ⟨h1, h2, h3⟩ := globB_ok x hg
  refine PI.imp (RZ.pi_zipA h1 (x.free _ hf) (pa_cons (ha X x) (pa_cons (hb X (x.addPin ps)) pa_nil (star_plain hp2)) (star_plain hp1)) (star_plain hp1) (backTo_plain (by simp [hp2]))) ?_
  rintro σ H Q ⟨HB, F0, P, F, τ, xs, hp, R, ev, nd, q⟩
  have ev' : (sZip (evE cl ca τ) (evE cl cb τ)).bind itemsD = some xs := ev
  unfold sZip at ev'
  simp only [Option.bind_eq_some_iff] at ev'
  obtain ⟨d0, ⟨d, e1, d', e2, e4⟩, e3⟩ := ev'
  unfold zipX at e4
  split at e4
  · rename_i hz
    simp only [Option.bind_eq_some_iff, Option.map_eq_some_iff] at e4
    obtain ⟨ys, e5, zs, e6, rfl⟩ := e4
    cases e3
    refine ⟨HB, F0, P, F, τ, d, hp, R, e1, fun v H1 F1 Pn R1 hpn hpd x1 hd => ⟨HB, F0, Pn ++ P, F1, τ, d', hpn.1.app hp, R1, e2, fun u H2 F2 Pm R2 hpm hpd' x2 hd' => ?_⟩⟩
    have R3 : Rel X.K HB F0 ((Pm ++ Pn) ++ P) c2 τ F2 σ H2 := by rw [List.append_assoc]; exact R2
    have hd2 : HdP X.K F2 H2 (Pm ++ Pn) d v := (hd.mono x2).app
    have hd2' : HdP X.K F2 H2 (Pm ++ Pn) d' u := hd'.app'
    have nd2 : isDct d = false ∧ isDct d' = false := by
      unfold zipOk at hz
      split at hz <;> first | exact ⟨rfl, rfl⟩ | cases hz
    have fin := fun J => q J H2 F2 (Pm ++ Pn) R3 (hpm.app hpn) (fun p hp => by
      rcases List.mem_append.mp hp with hp | hp
      · rw [hpd' p hp]; exact nd2.2
      · rw [hpd p hp]; exact nd2.1) (x1.trans x2)
    unfold zipOk at hz
    split at hz
    · cases e5; cases e6
      obtain ⟨a, vs, rfl, hs, rl⟩ := (hd2.now R3).tup
      obtain ⟨b, ws, rfl, hs', rl'⟩ := (hd2'.now R3).tup
      exact ⟨a, b, vs, ws, rfl, .inr ⟨.of hs, .of hs', fin _ (itok_zipT hd2 hd2')⟩⟩
    · cases e5; cases e6
      obtain ⟨a, vs, rfl, hs, rl⟩ := (hd2.now R3).lst
      obtain ⟨b, ws, rfl, hs', rl'⟩ := (hd2'.now R3).lst
      exact ⟨a, b, vs, ws, rfl, .inl ⟨.of hs, .of hs', fin _ (itok_zipL _ _ (.inl rfl) (.inl rfl) hd2 hd2')⟩⟩
    · cases e5; cases e6
      obtain ⟨a, vs, rfl, hs, rl⟩ := (hd2.now R3).lst
      obtain ⟨b, ws, rfl, hs', rl'⟩ := (hd2'.now R3).scr
      exact ⟨a, b, vs, ws, rfl, .inl ⟨.of hs, hs', fin _ (itok_zipL _ _ (.inl rfl) (.inr rfl) hd2 hd2')⟩⟩
    · cases e5; cases e6
      obtain ⟨a, vs, rfl, hs, rl⟩ := (hd2.now R3).scr
      obtain ⟨b, ws, rfl, hs', rl'⟩ := (hd2'.now R3).lst
      exact ⟨a, b, vs, ws, rfl, .inl ⟨hs, .of hs', fin _ (itok_zipL _ _ (.inr rfl) (.inl rfl) hd2 hd2')⟩⟩
    · cases e5; cases e6
      obtain ⟨a, vs, rfl, hs, rl⟩ := (hd2.now R3).scr
      obtain ⟨b, ws, rfl, hs', rl'⟩ := (hd2'.now R3).scr
      exact ⟨a, b, vs, ws, rfl, .inl ⟨hs, hs', fin _ (itok_zipL _ _ (.inr rfl) (.inr rfl) hd2 hd2')⟩⟩
    · cases hz
  · cases e4

/-! ### reversed -/
theorem rev_get {α : Type} (xs : List α) (i : Nat) (h : i < xs.length) : xs.reverse[i]? = xs[xs.length - 1 - i]? := List.getElem?_reverse h
theorem itok_revL {K : PySem.W.Frag} {Pn : Pins} {F : AS} {H : Hp} {xs : List D} {a : Addr} (d : D) (hd : d = .lst xs ∨ d = .scr xs) (hh : HdP K F H Pn d (.ref a)) : ItOk K (Itv K a xs.length) xs.reverse Pn F H := by
  intro HB2 F02 P2 c2 τ2 F2 σ2 H2 R2 hp x i
  have r : ReadR K F2 H2 d (.ref a) := hh.read R2 hp x
  obtain ⟨vs, hs, rl⟩ := lst_read F2 H2 (by rcases hd with rfl | rfl; exact .inl r; exact .inr r)
  rw [List.length_reverse]
  refine ⟨fun hi => hi, fun d hd => ?_⟩
  by_cases hi : i < xs.length
  · rw [rev_get xs i hi] at hd
    obtain ⟨v, h1, h2⟩ := rl.get hd
    refine ⟨⟨hi, vs, v, hs, h1⟩, fun y H3 hy => ?_⟩
    obtain ⟨e3, hy⟩ := hy
    subst e3
    have := hy vs hs
    rw [h1] at this; cases this
    exact ⟨.inl rfl, h2⟩
  · rw [List.getElem?_eq_none (by simpa using hi)] at hd; cases hd
theorem itok_revT {K : PySem.W.Frag} {Pn : Pins} {F : AS} {H : Hp} {xs : List D} {a : Addr} (hh : HdP K F H Pn (.tup xs) (.ref a)) : ItOk K (RT.ItvT K a xs.length) xs.reverse Pn F H := by
  intro HB2 F02 P2 c2 τ2 F2 σ2 H2 R2 hp x i
  obtain ⟨a', vs, e1, hs, rl⟩ := (hh.read R2 hp x).tup
  cases e1
  rw [List.length_reverse]
  refine ⟨fun hi => hi, fun d hd => ?_⟩
  by_cases hi : i < xs.length
  · rw [rev_get xs i hi] at hd
    obtain ⟨v, h1, h2⟩ := rl.get hd
    refine ⟨⟨hi, vs, v, .of hs, h1⟩, fun y H3 hy => ?_⟩
    obtain ⟨e3, hy⟩ := hy
    subst e3
    have := hy vs (.of hs)
    rw [h1] at this; cases this
    exact ⟨.inl rfl, h2⟩
  · rw [List.getElem?_eq_none (by simpa using hi)] at hd; cases hd
theorem okI_rev (hg : globB S "reversed" = true) (hf : ("reversed" : Str) ∈ S.fr) (ha : OkH cl k S c e ca c1 ps) (hp : plainE e = true) :
    OkI cl k S c tg (.Call (.Name "reversed" p2) [e] [] pos) (.rvi ca) c1 ps := fun X x => by
  obtain ⟨h1, h2, h3⟩ := globB_ok x hg
  refine PI.imp (RT.pi_revA h1 (x.free _ hf) (ha X x) (star_plain hp)) ?_
  rintro σ H Q ⟨HB, F0, P, F, τ, xs, hp, R, ev, nd, q⟩
  have ev' : (sRvi (evE cl ca τ)).bind itemsD = some xs := ev
  unfold sRvi at ev'
  simp only [Option.bind_eq_some_iff] at ev'
  obtain ⟨d0, ⟨d, e1, e2⟩, e3⟩ := ev'
  refine ⟨HB, F0, P, F, τ, d, hp, R, e1, fun v H' F' Pn R' hpn hpd x' hd => ?_⟩
  unfold rviX at e2
  split at e2
  · cases e2; cases e3
    obtain ⟨a, vs, rfl, hs, rl⟩ := (hd.now R').lst
    exact ⟨a, vs, rfl, .inl ⟨.of hs, by rw [← rl.length]; exact q _ H' F' Pn R' hpn (fun p hp => by rw [hpd p hp]; rfl) x' (itok_revL _ (.inl rfl) hd)⟩⟩
  · cases e2; cases e3
    obtain ⟨a, vs, rfl, hs, rl⟩ := (hd.now R').tup
    exact ⟨a, vs, rfl, .inr ⟨.of hs, by rw [← rl.length]; exact q _ H' F' Pn R' hpn (fun p hp => by rw [hpd p hp]; rfl) x' (itok_revT hd)⟩⟩
  · cases e2
end
end PV

/-! statements -/
namespace PV
open PySem PySem.Spec PyProof.Rows L2

/-- what is known where a def is left -/
structure EndR (HB : Hp) (F0 F' : AS) (H' : Hp) : Prop where
  same : ∀ a o, HB a = some o → H' a = some o
  dom : ∀ a, F' a → ∃ o, H' a = some o
  f0 : ∀ a, F0 a → F' a
  f1 : ∀ a, F' a → F0 a ∨ HB a = none
theorem Rel.end_ {K : PySem.W.Frag} {HB : Hp} {F0 : AS} {P : Pins} {c : Ctx} {τ : Env} {F : AS} {σ : L2.St} {H : Hp} (R : Rel K HB F0 P c τ F σ H) : EndR HB F0 F H := ⟨R.same, R.dom, R.f0, R.f1⟩
section
variable (K : PySem.W.Frag) (HB : Hp) (F0 : AS) (P : Pins) (F : AS) (H : Hp)
/-- what is wanted behind a statement -/
structure PostS (c' : Option Ctx) (ci : Ctx) (o : Out) (τ' : Env) (D : Ends) : Prop where
  nx : o = .nxt → ∀ c'', c' = some c'' → ∀ σ' H' F', Rel K HB F0 P c'' τ' F' σ' H' → Ext F H F' H' → D.nx σ' H'
  bk : o = .brk → ∀ σ' H' F', Rel K HB F0 P ci τ' F' σ' H' → Ext F H F' H' → D.bk σ' H'
  ct : o = .cnt → ∀ σ' H' F', Rel K HB F0 P ci τ' F' σ' H' → Ext F H F' H' → D.ct σ' H'
  rt : ∀ d, o = .ret d → ∀ v H' F', RepV K F' H' d v → EndR HB F0 F' H' → D.rt v H'
end
section
variable (cl : Nat → List D → Option D) (w : Nat) (K : PySem.W.Frag) (pn : List Nat)
def RS (cs : S) (c : Ctx) (c' : Option Ctx) (ci : Ctx) : TS := fun D σ H => ∃ HB F0 P F τ o τ', PinOk pn P ∧ Rel K HB F0 P c τ F σ H ∧ evS cl w cs τ = some (o, τ') ∧ (o = .nxt → c' ≠ none) ∧ PostS K HB F0 P F H c' ci o τ' D
def RSs (cs : List S) (c : Ctx) (c' : Option Ctx) (ci : Ctx) : TS := fun D σ H => ∃ HB F0 P F τ o τ', PinOk pn P ∧ Rel K HB F0 P c τ F σ H ∧ evSs cl w cs τ = some (o, τ') ∧ PostS K HB F0 P F H c' ci o τ' D
end
section
variable (cl : Nat → List D → Option D) (k w : Nat)
/-- a statement is kept; and where it is told to end elsewhere, it does -/
structure OkS (S : SC) (c : Ctx) (st : Stmt) (cs : PV.S) (c' : Option Ctx) (ci : Ctx) : Prop where
  ps : ∀ X, XOk cl k S X → PS X st (RS cl w X.K S.pin cs c c' ci)
  out : c' = none → ∀ τ o τ', evS cl w cs τ = some (o, τ') → o ≠ .nxt
structure OkSs (S : SC) (c : Ctx) (st : List Stmt) (cs : List PV.S) (c' : Option Ctx) (ci : Ctx) : Prop where
  ps : ∀ X, XOk cl k S X → PSs X st (RSs cl w X.K S.pin cs c c' ci)
  out : c' = none → ∀ τ o τ', evSs cl w cs τ = some (o, τ') → o ≠ .nxt
end
section
variable {K : PySem.W.Frag} {HB : Hp} {F0 : AS} {P : Pins} {F F1 : AS} {H H1 : Hp} {c' : Option Ctx} {ci : Ctx} {o : Out} {τ' : Env} {D : Ends}
theorem PostS.ext (x : Ext F H F1 H1) (p : PostS K HB F0 P F H c' ci o τ' D) : PostS K HB F0 P F1 H1 c' ci o τ' D :=
  ⟨fun e c2 e2 σ' H' F' R y => p.nx e c2 e2 σ' H' F' R (x.trans y), fun e σ' H' F' R y => p.bk e σ' H' F' R (x.trans y), fun e σ' H' F' R y => p.ct e σ' H' F' R (x.trans y), p.rt⟩
/-- a statement that goes on -/
theorem PostS.next {c2 : Ctx} {σ' : L2.St} (p : PostS K HB F0 P F H (some c2) ci .nxt τ' D) (R : Rel K HB F0 P c2 τ' F1 σ' H1) (x : Ext F H F1 H1) : D.nx σ' H1 := p.nx rfl c2 rfl σ' H1 F1 R x
end
section
variable {cl : Nat → List D → Option D} {k w : Nat} {S : SC} {c c1 c2 c3 ci cc : Ctx} {c' : Option Ctx} {e e1 e2 e3 tg : Expr} {es : List Expr} {ca cb cd ce ct : C} {ces : List C} {fr : Bool} {pos p2 p3 : Pos} {ps : List Nat} {st : Stmt} {sts a b : List Stmt} {cs : PV.S} {css as bs : List PV.S}

theorem okS_one (c' : Option Ctx) (h : ∀ X, XOk cl k S X → PS X st (RS cl w X.K S.pin cs c c' ci)) (out : c' = none → ∀ τ o τ', evS cl w cs τ = some (o, τ') → o ≠ .nxt) : OkS cl k w S c st cs c' ci := ⟨h, out⟩
theorem nxt_some {t : Option Env} {o : Out} {τ' : Env} (h : nxt t = some (o, τ')) : o = .nxt ∧ t = some τ' := by
  unfold nxt at h
  rw [Option.map_eq_some_iff] at h
  obtain ⟨a, h1, h2⟩ := h
  cases h2
  exact ⟨rfl, h1⟩

/-! ### blocks -/
theorem okSs_nil : OkSs cl k w S c [] [] (some c) ci := by
  refine ⟨fun X x => PSs.imp pss_nil ?_, fun h => by cases h⟩
  rintro D σ H ⟨HB, F0, P, F, τ, o, τ', hp, R, ev, q⟩
  cases ev
  exact q.next R (Ext.refl F H)
theorem okSs_cons (h1 : OkS cl k w S c st cs (some c1) ci) (h2 : OkSs cl k w S c1 sts css c' ci) : OkSs cl k w S c (st :: sts) (cs :: css) c' ci := by
  refine ⟨fun X x => PSs.imp (pss_cons (h1.ps X x) (h2.ps X x)) ?_, fun hc τ o τ' ev => ?_⟩
  · rintro D σ H ⟨HB, F0, P, F, τ, o, τ', hp, R, ev, q⟩
    have ev : sSeq (evS cl w cs τ) (fun τ => evSs cl w css τ) = some (o, τ') := ev
    unfold sSeq at ev
    rw [Option.bind_eq_some_iff] at ev
    obtain ⟨⟨o1, τ1⟩, ev1, ev2⟩ := ev
    refine ⟨HB, F0, P, F, τ, o1, τ1, hp, R, ev1, fun _ => (fun z => nomatch z), ?_⟩
    cases o1 with
    | nxt => exact ⟨fun _ c2 e2 σ' H' F' R' y => by cases e2; exact ⟨HB, F0, P, F', τ1, o, τ', hp, R', ev2, q.ext y⟩, fun z => (nomatch z), fun z => (nomatch z), fun d z => (nomatch z)⟩
    | brk => cases ev2; exact ⟨fun z => (nomatch z), q.bk, q.ct, q.rt⟩
    | cnt => cases ev2; exact ⟨fun z => (nomatch z), q.bk, q.ct, q.rt⟩
    | ret d => cases ev2; exact ⟨fun z => (nomatch z), q.bk, q.ct, q.rt⟩
  · have ev : sSeq (evS cl w cs τ) (fun τ => evSs cl w css τ) = some (o, τ') := ev
    unfold sSeq at ev
    rw [Option.bind_eq_some_iff] at ev
    obtain ⟨⟨o1, τ1⟩, ev1, ev2⟩ := ev
    cases o1 with
    | nxt => exact h2.out hc _ _ _ ev2
    | brk => cases ev2; exact fun z => nomatch z
    | cnt => cases ev2; exact fun z => nomatch z
    | ret d => cases ev2; exact fun z => nomatch z
/-- the last one, that does not go on -/
theorem okSs_last (h1 : OkS cl k w S c st cs none ci) : OkSs cl k w S c [st] [cs] none ci := by
  have key : ∀ τ o τ', evSs cl w [cs] τ = some (o, τ') → evS cl w cs τ = some (o, τ') := fun τ o τ' ev => by
    have ev : sSeq (evS cl w cs τ) (fun τ => evSs cl w [] τ) = some (o, τ') := ev
    unfold sSeq at ev
    rw [Option.bind_eq_some_iff] at ev
    obtain ⟨⟨o1, τ1⟩, ev1, ev2⟩ := ev
    cases o1 with
    | nxt => exact absurd rfl (h1.out rfl _ _ _ ev1)
    | brk => cases ev2; exact ev1
    | cnt => cases ev2; exact ev1
    | ret d => cases ev2; exact ev1
  refine ⟨fun X x => PSs.imp (pss_one (h1.ps X x)) ?_, fun _ τ o τ' ev => h1.out rfl _ _ _ (key _ _ _ ev)⟩
  rintro D σ H ⟨HB, F0, P, F, τ, o, τ', hp, R, ev, q⟩
  have ev := key _ _ _ ev
  exact ⟨HB, F0, P, F, τ, o, τ', hp, R, ev, fun z => absurd z (h1.out rfl _ _ _ ev), q⟩

/-! ### small ones -/
theorem okS_ret (ha : OkE cl k S c e ca c1 fr) : OkS cl k w S c (.Return (some e) pos) (.ret ca) none ci := by
  have key : ∀ τ o τ', evS cl w (.ret ca) τ = some (o, τ') → ∃ d, evE cl ca τ = some d ∧ o = .ret d := fun τ o τ' ev => by
    have ev : (evE cl ca τ).map (fun d => (Out.ret d, τ)) = some (o, τ') := ev
    rw [Option.map_eq_some_iff] at ev
    obtain ⟨d, e1, e2⟩ := ev
    cases e2
    exact ⟨d, e1, rfl⟩
  refine ⟨fun X x => PS.imp (ps_ret (ha.shared X x)) ?_, fun _ τ o τ' ev => ?_⟩
  · rintro D σ H ⟨HB, F0, P, F, τ, o, τ', hp, R, ev, _, q⟩
    obtain ⟨d, e1, rfl⟩ := key _ _ _ ev
    exact ⟨HB, F0, P, F, τ, d, hp, R, e1, fun v H' F' R' x' r => q.rt d rfl v H' F' r R'.end_⟩
  · obtain ⟨d, _, rfl⟩ := key _ _ _ ev
    exact fun z => nomatch z
theorem okS_pass : OkS cl k w S c (.Pass pos) .pass (some c) ci := by
  refine ⟨fun X x => PS.imp ps_pass ?_, fun h => by cases h⟩
  rintro D σ H ⟨HB, F0, P, F, τ, o, τ', hp, R, ev, _, q⟩
  cases ev
  exact q.next R (Ext.refl F H)
theorem okS_brk (l : Low c ci) : OkS cl k w S c (.Break pos) .brk none ci := by
  refine ⟨fun X x => PS.imp ps_break ?_, fun _ τ o τ' ev => by cases ev; exact fun z => nomatch z⟩
  rintro D σ H ⟨HB, F0, P, F, τ, o, τ', hp, R, ev, _, q⟩
  cases ev
  obtain ⟨F1, R1, x1⟩ := R.lowTo l
  exact q.bk rfl σ H F1 R1 x1
theorem okS_cont (l : Low c ci) : OkS cl k w S c (.Continue pos) .cont none ci := by
  refine ⟨fun X x => PS.imp ps_continue ?_, fun _ τ o τ' ev => by cases ev; exact fun z => nomatch z⟩
  rintro D σ H ⟨HB, F0, P, F, τ, o, τ', hp, R, ev, _, q⟩
  cases ev
  obtain ⟨F1, R1, x1⟩ := R.lowTo l
  exact q.ct rfl σ H F1 R1 x1
/-- where two branches meet -/
def joinC : Option Ctx → Option Ctx → Option Ctx → Prop
  | none, none, r => r = none
  | some a, none, r => ∃ m, r = some m ∧ Low a m
  | none, some b, r => ∃ m, r = some m ∧ Low b m
  | some a, some b, r => ∃ m, r = some m ∧ Low a m ∧ Low b m
theorem PostS.low {K : PySem.W.Frag} {HB : Hp} {F0 : AS} {P : Pins} {F : AS} {H : Hp} {o : Out} {τ' : Env} {D : Ends} {c2 : Option Ctx} {m : Ctx} (l : ∀ a, c2 = some a → Low a m) (p : PostS K HB F0 P F H (some m) ci o τ' D) : PostS K HB F0 P F H c2 ci o τ' D :=
  ⟨fun e a ea σ' H' F' R x => by
    obtain ⟨F2, R2, x2⟩ := R.lowTo (l a ea)
    exact p.nx e m rfl σ' H' F2 R2 (x.trans x2), p.bk, p.ct, p.rt⟩
theorem PostS.none {K : PySem.W.Frag} {HB : Hp} {F0 : AS} {P : Pins} {F : AS} {H : Hp} {o : Out} {τ' : Env} {D : Ends} {c2 : Option Ctx} (p : PostS K HB F0 P F H c2 ci o τ' D) : PostS K HB F0 P F H none ci o τ' D :=
  ⟨fun _ _ z => (nomatch z), p.bk, p.ct, p.rt⟩
theorem okS_if {ca' cb' : Option Ctx} (ht : OkT cl k S c e ct c1) (ha : OkSs cl k w S c1 a as ca' ci) (hb : OkSs cl k w S c1 b bs cb' ci) (hj : joinC ca' cb' c') : OkS cl k w S c (.If e a b pos) (.ite ct as bs) c' ci := by
  have key : ∀ τ o τ', evS cl w (.ite ct as bs) τ = some (o, τ') → ∃ t, evT cl ct τ = some t ∧ (if t then evSs cl w as τ else evSs cl w bs τ) = some (o, τ') := fun τ o τ' ev => by
    have ev : sIf (evT cl ct τ) (evSs cl w as τ) (evSs cl w bs τ) = some (o, τ') := ev
    unfold sIf at ev
    rw [Option.bind_eq_some_iff] at ev
    exact ev
  refine ⟨fun X x => PS.imp (ps_if (ht X x) (ha.ps X x) (hb.ps X x)) ?_, fun hc τ o τ' ev => ?_⟩
  · rintro D σ H ⟨HB, F0, P, F, τ, o, τ', hp, R, ev, _, q⟩
    obtain ⟨t, e1, e2⟩ := key _ _ _ ev
    refine ⟨HB, F0, P, F, τ, t, hp, R, e1, fun H1 F1 R1 x1 => ?_⟩
    cases t with
    | true =>
      rw [if_pos rfl] at e2 ⊢
      refine ⟨HB, F0, P, F1, τ, o, τ', hp, R1, e2, ?_⟩
      cases ca' with
      | none => exact (q.ext x1).none
      | some a =>
        obtain ⟨m, rfl, l⟩ : ∃ m, c' = some m ∧ Low a m := by
          cases cb' with
          | none => exact hj
          | some b => obtain ⟨m, h1, h2, _⟩ := hj; exact ⟨m, h1, h2⟩
        exact (q.ext x1).low (fun a' e => by cases e; exact l)
    | false =>
      rw [if_neg Bool.false_ne_true] at e2 ⊢
      refine ⟨HB, F0, P, F1, τ, o, τ', hp, R1, e2, ?_⟩
      cases cb' with
      | none => exact (q.ext x1).none
      | some b =>
        obtain ⟨m, rfl, l⟩ : ∃ m, c' = some m ∧ Low b m := by
          cases ca' with
          | none => exact hj
          | some a => obtain ⟨m, h1, _, h2⟩ := hj; exact ⟨m, h1, h2⟩
        exact (q.ext x1).low (fun a' e => by cases e; exact l)
  · subst hc
    obtain ⟨t, e1, e2⟩ := key _ _ _ ev
    have hn : ca' = none ∧ cb' = none := by
      cases ca' <;> cases cb'
      · exact ⟨rfl, rfl⟩
      · obtain ⟨_, h, _⟩ := hj; cases h
      · obtain ⟨_, h, _⟩ := hj; cases h
      · obtain ⟨_, h, _⟩ := hj; cases h
    cases t with
    | true => rw [if_pos rfl] at e2; exact ha.out hn.1 _ _ _ e2
    | false => rw [if_neg Bool.false_ne_true] at e2; exact hb.out hn.2 _ _ _ e2

/-! ### stores into names -/
def storB (S : SC) (x : Str) : Bool := (match S.sc.names.lookup x with
  | some .local => true
  | some .cell => fnB S x
  | _ => false)
theorem storB_ok {X : Cx} (x : XOk cl k S X) {y : Str} (h : storB S y = true) : Loc X.env.scope y ∧ (X.fn y = true ∨ X.env.scope.names.lookup y = some .local) := by
  unfold storB at h
  rw [x.sc]
  split at h
  · exact ⟨.inl (by assumption), .inr (by assumption)⟩
  · exact ⟨.inr (by assumption), .inl (x.fnk _ h)⟩
  · cases h
theorem pin_ne {pn : List Nat} {P : Pins} {i : Nat} (hp : PinOk pn P) (h : i ∉ pn) : ∀ p ∈ P, p.1 ≠ i := fun p m e => h (e ▸ hp p m)
def notComp : Expr → Bool
  | .ListComp _ _ _ _ => false
  | .SetComp _ _ _ _ => false
  | .DictComp _ _ _ _ _ => false
  | _ => true
theorem swap_plain {e : Expr} {t : Option Expr} {l : Nat} {env : PySem.Env} (h : notComp e = true) : swapsWith e t l env = pure false := by
  cases e <;> first | rfl | cases h
theorem bindV_some {i : Nat} {d : D} {τ τ' : Env} (h : bindV i d τ = some τ') : τ' = τ.set i (some d) := by
  unfold bindV at h
  split at h
  · cases h; rfl
  · cases h
theorem asg_key : ∀ τ o τ', evS cl w (.asg ca cb) τ = some (o, τ') → ∃ d, evE cl cb τ = some d ∧ bnd cl ca d τ = some τ' ∧ o = .nxt := fun τ o τ' ev => by
  have ev : (evE cl cb τ).bind (fun d => nxt (bnd cl ca d τ)) = some (o, τ') := ev
  rw [Option.bind_eq_some_iff] at ev
  obtain ⟨d, e1, e2⟩ := ev
  obtain ⟨h1, h2⟩ := nxt_some e2
  exact ⟨d, e1, h2, h1⟩
/-- name = e, e fresh: the name's own -/
theorem okS_setOwn {y : Str} {i : Nat} (hs : storB S y = true) (hi : S.N[i]? = some y) (hpn : i ∉ S.pin) (hc : i < c1.length) (ha : OkE cl k S c e ca c1 true) (hn : notComp e = true) :
    OkS cl k w S c (.Assign [.Name y p2] e pos) (.asg (.v i) ca) (some (c1.set i .own)) ci := by
  refine ⟨fun X x => ?_, fun h => by cases h⟩
  obtain ⟨h1, h2⟩ := storB_ok x hs
  refine PS.imp (ps_set x.nd (by rw [x.hN]; exact hi) h1 (ha X x) (swap_plain hn) h2) ?_
  rintro D σ H ⟨HB, F0, P, F, τ, o, τ', hp, R, ev, _, q⟩
  obtain ⟨d, e1, e2, rfl⟩ := asg_key _ _ _ ev
  have e3 : τ' = τ.set i (some d) := bindV_some e2
  subst e3
  exact ⟨HB, F0, P, F, τ, d, hp, R, e1, fun v H1 F1 R1 x1 r1 => q.next (R1.setOwn r1 (pin_ne hp hpn) hc) x1⟩
/-- name = e: shared -/
theorem okS_setShr {y : Str} {i : Nat} (hs : storB S y = true) (hi : S.N[i]? = some y) (hpn : i ∉ S.pin) (ha : OkE cl k S c e ca c1 false) (hn : notComp e = true) :
    OkS cl k w S c (.Assign [.Name y p2] e pos) (.asg (.v i) ca) (some (c1.set i .shr)) ci := by
  refine ⟨fun X x => ?_, fun h => by cases h⟩
  obtain ⟨h1, h2⟩ := storB_ok x hs
  refine PS.imp (ps_set x.nd (by rw [x.hN]; exact hi) h1 (ha X x) (swap_plain hn) h2) ?_
  rintro D σ H ⟨HB, F0, P, F, τ, o, τ', hp, R, ev, _, q⟩
  obtain ⟨d, e1, e2, rfl⟩ := asg_key _ _ _ ev
  have e3 : τ' = τ.set i (some d) := bindV_some e2
  subst e3
  exact ⟨HB, F0, P, F, τ, d, hp, R, e1, fun v H1 F1 R1 x1 r1 => q.next (R1.setShr r1 (pin_ne hp hpn)) x1⟩

/-! ### targets -/
mutual
/-- all that the target stores into are these slots -/
def tgIn (vs : List Nat) : C → Bool
  | .v i => vs.contains i
  | .tup ts => tgIns vs ts
  | _ => false
def tgIns (vs : List Nat) : List C → Bool
  | [] => true
  | t :: ts => tgIn vs t && tgIns vs ts
end
theorem wipe_at (σ : L2.St) : ∀ (vs : List Nat) (j : Nat), (L2.wipe σ vs)[j]? = if j ∈ vs then (σ[j]?).map (fun _ => none) else σ[j]?
  | [], _ => by simp [L2.wipe]
  | v :: vs, j => by
    unfold L2.wipe
    by_cases e : v = j
    · subst e
      rw [if_pos List.mem_cons_self]
      by_cases h : v < σ.length
      · rw [List.getElem?_set_self (by rw [L2.wipe_length]; exact h), List.getElem?_eq_getElem h]; rfl
      · rw [List.getElem?_eq_none (by rw [List.length_set, L2.wipe_length]; omega), List.getElem?_eq_none (by omega)]; rfl
    · rw [List.getElem?_set_ne e, wipe_at σ vs j]
      have : (j ∈ v :: vs) ↔ j ∈ vs := by simp [Ne.symm e]
      simp only [this]
theorem wipeσ_set {σ : L2.St} {vs : List Nat} {i : Nat} {v : V} (h : i ∈ vs) : L2.wipe (σ.set i (some v)) vs = L2.wipe σ vs := by
  apply List.ext_getElem?
  intro j
  rw [wipe_at, wipe_at]
  by_cases hj : j ∈ vs
  · rw [if_pos hj, if_pos hj]
    by_cases e : i = j
    · subst e
      by_cases h : i < σ.length
      · rw [List.getElem?_set_self h, List.getElem?_eq_getElem h]; rfl
      · rw [List.getElem?_eq_none (by rw [List.length_set]; omega), List.getElem?_eq_none (by omega)]
    · rw [List.getElem?_set_ne e]
  · rw [if_neg hj, if_neg hj, List.getElem?_set_ne (fun e => hj (by rw [← e]; exact h))]
theorem wipeτ_at (τ : Env) : ∀ (vs : List Nat) (j : Nat), (wipe vs τ)[j]? = if j ∈ vs then (τ[j]?).map (fun _ => none) else τ[j]? := by
  intro vs
  induction vs generalizing τ with
  | nil => intro j; simp [wipe]
  | cons v vs ih =>
    intro j
    show (wipe vs (τ.set v none))[j]? = _
    rw [ih]
    by_cases e : v = j
    · subst e
      rw [if_pos List.mem_cons_self]
      by_cases h : v < τ.length
      · rw [List.getElem?_set_self h, List.getElem?_eq_getElem h]
        split <;> rfl
      · rw [List.getElem?_eq_none (by rw [List.length_set]; omega), List.getElem?_eq_none (by omega)]
        split <;> rfl
    · rw [List.getElem?_set_ne e]
      have : (j ∈ v :: vs) ↔ j ∈ vs := by simp [Ne.symm e]
      simp only [this]
theorem wipeτ_set {τ : Env} {vs : List Nat} {i : Nat} {d : Option D} (h : i ∈ vs) : wipe vs (τ.set i d) = wipe vs τ := by
  apply List.ext_getElem?
  intro j
  rw [wipeτ_at, wipeτ_at]
  by_cases hj : j ∈ vs
  · rw [if_pos hj, if_pos hj]
    by_cases e : i = j
    · subst e
      by_cases h : i < τ.length
      · rw [List.getElem?_set_self h, List.getElem?_eq_getElem h]; rfl
      · rw [List.getElem?_eq_none (by rw [List.length_set]; omega), List.getElem?_eq_none (by omega)]
    · rw [List.getElem?_set_ne e]
  · rw [if_neg hj, if_neg hj, List.getElem?_set_ne (fun e => hj (by rw [← e]; exact h))]
/-- only these slots are changed -/
def OnlyIn (q : List Nat → Bool) (τ τ' : Env) (σ σ' : L2.St) : Prop := ∀ vs, q vs = true → L2.wipe σ' vs = L2.wipe σ vs ∧ wipe vs τ' = wipe vs τ
/-- a target, for a shared value -/
def RG (cl : Nat → List D → Option D) (K : PySem.W.Frag) (pn : List Nat) (ct : C) (c c' : Ctx) : TG := fun v σ H Q => ∃ HB F0 P F τ d τ', PinOk pn P ∧ Rel K HB F0 P c τ F σ H ∧ RepV K F H d v ∧ bnd cl ct d τ = some τ' ∧
  ∀ σ' H' F', Rel K HB F0 P c' τ' F' σ' H' → Ext F H F' H' → OnlyIn (fun vs => tgIn vs ct) τ τ' σ σ' → Q σ' H'
def RGs (cl : Nat → List D → Option D) (K : PySem.W.Frag) (pn : List Nat) (cts : List C) (c c' : Ctx) : TGs := fun vs σ H Q => ∃ HB F0 P F τ ds τ', PinOk pn P ∧ Rel K HB F0 P c τ F σ H ∧ RepL K F H ds vs ∧ bnds cl cts ds τ = some τ' ∧
  ∀ σ' H' F', Rel K HB F0 P c' τ' F' σ' H' → Ext F H F' H' → OnlyIn (fun vs => tgIns vs cts) τ τ' σ σ' → Q σ' H'
def OkG (cl : Nat → List D → Option D) (k : Nat) (S : SC) (c : Ctx) (tg : Expr) (ct : C) (c' : Ctx) : Prop := ∀ X, XOk cl k S X → PG X tg (RG cl X.K S.pin ct c c')
def OkGs (cl : Nat → List D → Option D) (k : Nat) (S : SC) (c : Ctx) (tg : List Expr) (ct : List C) (c' : Ctx) : Prop := ∀ X, XOk cl k S X → PGs X tg (RGs cl X.K S.pin ct c c')
theorem PG.imp {X : Cx} {tg : Expr} {t t' : TG} (h : PG X tg t) (i : ∀ v σ H Q, t' v σ H Q → t v σ H Q) : PG X tg t' := ⟨fun pins s σ H v u Q I r q => h.run pins s σ H v u Q I r (i v σ H Q q)⟩
theorem PGs.imp {X : Cx} {tg : List Expr} {t t' : TGs} (h : PGs X tg t) (i : ∀ v σ H Q, t' v σ H Q → t v σ H Q) : PGs X tg t' := ⟨fun pins s σ H v u Q I r q => h.run pins s σ H v u Q I r (i v σ H Q q)⟩
theorem okG_name {y : Str} {i : Nat} (hs : storB S y = true) (hi : S.N[i]? = some y) (hpn : i ∉ S.pin) : OkG cl k S c (.Name y p2) (.v i) (c.set i .shr) := fun X x => by
  obtain ⟨h1, h2⟩ := storB_ok x hs
  refine PG.imp (pg_name x.nd (by rw [x.hN]; exact hi) h1 h2) ?_
  rintro v σ H Q ⟨HB, F0, P, F, τ, d, τ', hp, R, r, ev, q⟩
  have e3 : τ' = τ.set i (some d) := bindV_some ev
  subst e3
  exact q _ _ _ (R.setShr r (pin_ne hp hpn)) (Ext.refl F H) (fun vs h => have h : vs.contains i = true := h; ⟨wipeσ_set (by simpa using h), wipeτ_set (by simpa using h)⟩)
theorem okGs_nil : OkGs cl k S c [] [] c := fun X x => by
  refine PGs.imp pgs_nil ?_
  rintro vs σ H Q ⟨HB, F0, P, F, τ, ds, τ', hp, R, r, ev, q⟩
  have ev : sNil ds τ = some τ' := ev
  cases r with
  | nil =>
    cases ev
    exact ⟨rfl, q _ _ _ R (Ext.refl F H) (fun vs _ => ⟨rfl, rfl⟩)⟩
  | cons _ _ => cases ev
def plainG : Expr → Bool
  | .Starred _ _ => false
  | _ => true
theorem okGs_cons {tgs : List Expr} {cts : List C} (h1 : OkG cl k S c tg ct c1) (h2 : OkGs cl k S c1 tgs cts c2) (hp : plainG tg = true) : OkGs cl k S c (tg :: tgs) (ct :: cts) c2 := fun X x => by
  refine PGs.imp (pgs_cons (h1 X x) (h2 X x) (by cases tg <;> first | rfl | cases hp)) ?_
  rintro vs σ H Q ⟨HB, F0, P, F, τ, ds, τ', hp, R, r, ev, q⟩
  have ev : sBnds ds (fun x => bnd cl ct x τ) (fun xs τ => bnds cl cts xs τ) = some τ' := ev
  cases r with
  | nil => cases ev
  | @cons d v ds vs r rr =>
    have ev : (bnd cl ct d τ).bind (fun τ => bnds cl cts ds τ) = some τ' := ev
    rw [Option.bind_eq_some_iff] at ev
    obtain ⟨τ1, e1, e2⟩ := ev
    exact ⟨v, vs, rfl, HB, F0, P, F, τ, d, τ1, hp, R, r, e1, fun σ' H' F' R' x' o1 => ⟨HB, F0, P, F', τ1, ds, τ', hp, R', RepL.mono x' rr, e2, fun σ2 H2 F2 R2 x2 o2 => q σ2 H2 F2 R2 (x'.trans x2) (fun vs h => by
      have h : (tgIn vs ct && tgIns vs cts) = true := h
      rw [Bool.and_eq_true] at h
      obtain ⟨a1, a2⟩ := o1 vs h.1
      obtain ⟨b1, b2⟩ := o2 vs h.2
      exact ⟨b1.trans a1, b2.trans a2⟩)⟩⟩
theorem each_len {env : PySem.Env} : ∀ (es : List Expr), (assignEach es env).length = es.length
  | [] => rfl
  | e :: es => by
    cases e <;> (show (assignEach es env).length + 1 = _; rw [each_len es]; rfl)
theorem each_star {env : PySem.Env} : ∀ (es : List Expr), es.all plainG = true → (assignEach es env).findIdx? (·.1) = none
  | [], _ => rfl
  | e :: es, h => by
    rw [List.all_cons, Bool.and_eq_true] at h
    have ih := each_star (env := env) es h.2
    have e1 : assignEach (e :: es) env = (false, assign e env) :: assignEach es env := by
      cases e <;> first | rfl | (have := h.1; cases this)
    rw [e1, List.findIdx?_cons, ih]; rfl
theorem bnds_len : ∀ {cts : List C} {ds : List D} {τ τ' : Env}, bnds cl cts ds τ = some τ' → ds.length = cts.length
  | [], [], _, _, _ => rfl
  | [], _ :: _, _, _, h => by cases h
  | _ :: _, [], _, _, h => by cases h
  | ct :: cts, d :: ds, τ, τ', h => by
    have h : (bnd cl ct d τ).bind (fun τ => bnds cl cts ds τ) = some τ' := h
    rw [Option.bind_eq_some_iff] at h
    obtain ⟨_, _, h⟩ := h
    simp [bnds_len h]
theorem okG_tup {tgs : List Expr} {cts : List C} {j : Nat} (h : OkGs cl k S c tgs cts c1) (hp : tgs.all plainG = true) (hl : cts.length = tgs.length) : OkG cl k S c (.Tuple tgs j p2) (.tup cts) c1 := fun X x => by
  refine PG.imp (pg_tup x.calm (h X x) (each_len tgs) (each_star tgs hp)) ?_
  rintro v σ H Q ⟨HB, F0, P, F, τ, d, τ', hp, R, r, ev, q⟩
  have ev : sTups d (fun xs => bnds cl cts xs τ) = some τ' := ev
  cases r with
  | @tup a xs vs hs rl =>
    have ev : bnds cl cts xs τ = some τ' := ev
    exact ⟨a, vs, rfl, .of hs, by rw [← rl.length, bnds_len ev, hl], HB, F0, P, F, τ, xs, τ', hp, R, rl, ev, q⟩
  | _ => cases ev
/-- target = e, by the target's own rule -/
theorem okS_asg (ha : OkE cl k S c e ca c1 fr) (hg : OkG cl k S c1 tg ct c2) (hn : notComp e = true) (hsw : ∀ X, XOk cl k S X → swappedStores [tg] e X.env = pure none) (hp : plainG tg = true) :
    OkS cl k w S c (.Assign [tg] e pos) (.asg ct ca) (some c2) ci := by
  refine ⟨fun X x => ?_, fun h => by cases h⟩
  refine PS.imp (ps_asg (ha.shared X x) (hg X x) (swap_plain hn) (hsw X x) (by cases tg <;> first | rfl | cases hp)) ?_
  rintro D σ H ⟨HB, F0, P, F, τ, o, τ', hp, R, ev, _, q⟩
  obtain ⟨d, e1, e2, rfl⟩ := asg_key _ _ _ ev
  exact ⟨HB, F0, P, F, τ, d, hp, R, e1, fun v H1 F1 R1 x1 r1 => ⟨HB, F0, P, F1, τ, d, τ', hp, R1, r1, e2, fun σ' H' F' R' x' _ => q.next R' (x1.trans x')⟩⟩
end
end PV

/-! two and three names at once; stores into lists and dicts; augmented stores; methods -/
namespace PV
open PySem PySem.Spec PyProof.Rows L2
section
variable {cl : Nat → List D → Option D} {k w : Nat} {S : SC} {c c1 c2 c3 ci cc : Ctx} {c' : Option Ctx} {e e1 e2 e3 tg : Expr} {es : List Expr} {ca cb cd ce ct : C} {ces : List C} {fr : Bool} {pos p2 p3 p4 p5 : Pos} {ps : List Nat} {st : Stmt} {sts a b : List Stmt} {cs : PV.S} {css as bs : List PV.S}

/-! ### when no stores are swapped -/
def isTupE : Expr → Bool
  | .Tuple _ _ _ => true
  | _ => false
def isListE : Expr → Bool
  | .List _ _ => true
  | _ => false
theorem noswap_tg {tg e : Expr} {env : PySem.Env} (h1 : isTupE tg = false) (h2 : isListE tg = false) : swappedStores [tg] e env = pure none := by
  cases tg <;> first | (cases h1; done) | (cases h2; done) | rfl
theorem noswap_val {tg e : Expr} {env : PySem.Env} (h : isTupE e = false) : swappedStores [tg] e env = pure none := by
  cases e <;> first | (cases h; done) | (cases tg <;> rfl)
def starQ : Expr → Bool
  | .Starred _ _ => true
  | _ => false
def swNames (S : SC) (l : Nat) (ts : List Expr) : List Str := ts.filterMap fun
  | .Name id pos => if S.sc.names.lookup id == some .local && pos.line == l then some id else none
  | _ => none
/-- which names are stored from the right: none where the machine builds the tuple -/
def swapQ (S : SC) (ts vs : List Expr) : Option (Option (List Str)) :=
  if (!(ts.length == 2 || ts.length == 3) || vs.length != ts.length) = true then some none
  else if vs.any starQ = true then some none
  else
    let names := swNames S ((ts.head?.map (·.pos.line)).getD 0) ts
    if (names.length != ts.length || names.eraseDups.length != names.length) = true then some none
    else if vs.all (foldedForSure 8) = true then some none
    else if vs.all (constantsAlone 8) = true then none
    else some (some names)
theorem sw_ok {X : Cx} (x : XOk cl k S X) {ts vs : List Expr} {j j2 : Nat} {r : Option (List Str)} (h : swapQ S ts vs = some r) : swappedStores [.Tuple ts j p2] (.Tuple vs j2 p3) X.env = pure r := by
  have hb : X.env.blockKind = .function := by
    unfold PySem.Env.blockKind
    rw [x.sc, x.kind]; rfl
  have hk : ∀ id, X.env.kindOf id = S.sc.names.lookup id := fun id => by
    unfold PySem.Env.kindOf
    rw [x.sc]
  unfold swapQ at h
  unfold swappedStores
  simp only [hb, hk, bne_self_eq_false, Bool.or_false]
  show (if (!(ts.length == 2 || ts.length == 3) || vs.length != ts.length) = true then (pure none : Sem (Option (List Str))) else if vs.any starQ = true then pure none
    else if ((swNames S ((ts.head?.map (·.pos.line)).getD 0) ts).length != ts.length || (swNames S ((ts.head?.map (·.pos.line)).getD 0) ts).eraseDups.length != (swNames S ((ts.head?.map (·.pos.line)).getD 0) ts).length) = true then pure none
    else if vs.all (foldedForSure 8) = true then pure none else if vs.all (constantsAlone 8) = true then _ else pure (some (swNames S ((ts.head?.map (·.pos.line)).getD 0) ts))) = _
  by_cases h1 : (!(ts.length == 2 || ts.length == 3) || vs.length != ts.length) = true
  · rw [if_pos h1] at h ⊢
    cases h; rfl
  · rw [if_neg h1] at h ⊢
    by_cases h2 : vs.any starQ = true
    · rw [if_pos h2] at h ⊢
      cases h; rfl
    · rw [if_neg h2] at h ⊢
      generalize swNames S ((ts.head?.map (·.pos.line)).getD 0) ts = names at h ⊢
      dsimp only at h ⊢
      by_cases h3 : (names.length != ts.length || names.eraseDups.length != names.length) = true
      · rw [if_pos h3] at h ⊢
        cases h; rfl
      · rw [if_neg h3] at h ⊢
        by_cases h4 : vs.all (foldedForSure 8) = true
        · rw [if_pos h4] at h ⊢
          cases h; rfl
        · rw [if_neg h4] at h ⊢
          by_cases h5 : vs.all (constantsAlone 8) = true
          · rw [if_pos h5] at h
            cases h
          · rw [if_neg h5] at h ⊢
            cases h; rfl
end
end PV

/-! two and three names at once; name op= e -/
namespace PV
open PySem PySem.Spec PyProof.Rows L2
section
variable {cl : Nat → List D → Option D} {k w : Nat} {S : SC} {c c1 c2 c3 ci cc : Ctx} {c' : Option Ctx} {e e1 e2 e3 tg : Expr} {es : List Expr} {ca cb cd ce ct : C} {ces : List C} {fr : Bool} {pos p2 p3 p4 p5 p6 : Pos} {ps : List Nat} {st : Stmt} {sts a b : List Stmt} {cs : PV.S} {css as bs : List PV.S}

def locB (S : SC) (x : Str) : Bool := match S.sc.names.lookup x with
  | some .local => true
  | _ => false
theorem locB_ok {X : Cx} (x : XOk cl k S X) {y : Str} (h : locB S y = true) : X.env.scope.names.lookup y = some .local := by
  rw [x.sc]
  unfold locB at h
  split at h
  · assumption
  · cases h
theorem tup_key {τ : Env} {d : D} (h : evE cl (.tup ces) τ = some d) : ∃ ds, evEs cl ces τ = some ds ∧ d = .tup ds := by
  have h : sTup (evEs cl ces τ) = some d := h
  unfold sTup at h
  rw [Option.bind_eq_some_iff] at h
  obtain ⟨ds, h1, h2⟩ := h
  split at h2
  · cases h2; exact ⟨ds, h1, rfl⟩
  · cases h2
theorem bnds_cons {ds : List D} {τ τ' : Env} {cts : List C} (h : bnds cl (ct :: cts) ds τ = some τ') : ∃ d r τ1, ds = d :: r ∧ bnd cl ct d τ = some τ1 ∧ bnds cl cts r τ1 = some τ' := by
  have h : sBnds ds (fun x => bnd cl ct x τ) (fun xs τ => bnds cl cts xs τ) = some τ' := h
  cases ds with
  | nil => cases h
  | cons d r =>
    have h : (bnd cl ct d τ).bind (fun τ => bnds cl cts r τ) = some τ' := h
    rw [Option.bind_eq_some_iff] at h
    obtain ⟨τ1, h1, h2⟩ := h
    exact ⟨d, r, τ1, rfl, h1, h2⟩
theorem bnds_nil {ds : List D} {τ τ' : Env} (h : bnds cl [] ds τ = some τ') : ds = [] ∧ τ' = τ := by
  have h : sNil ds τ = some τ' := h
  cases ds with
  | nil => cases h; exact ⟨rfl, rfl⟩
  | cons => cases h
theorem bnd_v {i : Nat} {d : D} {τ τ' : Env} (h : bnd cl (.v i) d τ = some τ') : τ' = τ.set i (some d) := bindV_some h
theorem neN {N : List Str} {x y : Str} {i j : Nat} (hi : N[i]? = some x) (hj : N[j]? = some y) (h : x ≠ y) : i ≠ j := fun e => by
  subst e; rw [hi] at hj; cases hj; exact h rfl
theorem okS_par {x y : Str} {i j kt k2 : Nat} (hi : S.N[i]? = some x) (hj : S.N[j]? = some y) (hij : (i == j) = false) (pi : i ∉ S.pin) (pj : j ∉ S.pin) (lx : locB S x = true) (ly : locB S y = true)
    (ha : OkA cl k S c [e1, e2] ces c1) (hsw : swapQ S [.Name x p2, .Name y p3] [e1, e2] = some (some [x, y])) :
    OkS cl k w S c (.Assign [.Tuple [.Name x p2, .Name y p3] kt p4] (.Tuple [e1, e2] k2 p5) pos) (.asg (.tup [.v i, .v j]) (.tup ces)) (some ((c1.set i .shr).set j .shr)) ci := by
  refine ⟨fun X x => ?_, fun h => by cases h⟩
  refine PS.imp (ps_par x.calm x.nd (by rw [x.hN]; exact hi) (by rw [x.hN]; exact hj) (fun e => by rw [e, beq_self_eq_true] at hij; cases hij) (locB_ok x lx) (locB_ok x ly) (ha X x) (sw_ok x hsw)) ?_
  rintro D σ H ⟨HB, F0, P, F, τ, o, τ', hp, R, ev, _, q⟩
  obtain ⟨d, e1, e2, rfl⟩ := asg_key _ _ _ ev
  obtain ⟨ds, e3, rfl⟩ := tup_key e1
  have e2 : bnds cl [.v i, .v j] ds τ = some τ' := e2
  obtain ⟨d1, r1, τ1, rfl, b1, e2⟩ := bnds_cons e2
  obtain ⟨d2, r2, τ2, rfl, b2, e2⟩ := bnds_cons e2
  obtain ⟨rfl, rfl⟩ := bnds_nil e2
  have b1 := bnd_v b1
  have b2 := bnd_v b2
  subst b1 b2
  refine ⟨HB, F0, P, F, τ, _, hp, R, e3, fun vs H1 F1 R1 x1 r => ?_⟩
  cases r with
  | cons r1 r =>
    cases r with
    | cons r2 r =>
      cases r
      exact ⟨_, _, rfl, q.next ((R1.setShr r1 (pin_ne hp pi)).setShr r2 (pin_ne hp pj)) x1⟩
theorem okS_par3 {x y z : Str} {i j l kt k2 : Nat} (hi : S.N[i]? = some x) (hj : S.N[j]? = some y) (hl : S.N[l]? = some z) (hij : (i == j) = false) (hil : (i == l) = false) (hjl : (j == l) = false) (pi : i ∉ S.pin) (pj : j ∉ S.pin) (pl : l ∉ S.pin)
    (lx : locB S x = true) (ly : locB S y = true) (lz : locB S z = true)
    (ha : OkA cl k S c [e1, e2, e3] ces c1) (hsw : swapQ S [.Name x p2, .Name y p3, .Name z p6] [e1, e2, e3] = some (some [x, y, z])) :
    OkS cl k w S c (.Assign [.Tuple [.Name x p2, .Name y p3, .Name z p6] kt p4] (.Tuple [e1, e2, e3] k2 p5) pos) (.asg (.tup [.v i, .v j, .v l]) (.tup ces)) (some (((c1.set i .shr).set j .shr).set l .shr)) ci := by
  have ne : ∀ {i j : Nat}, (i == j) = false → i ≠ j := fun h e => by rw [e, beq_self_eq_true] at h; cases h
  refine ⟨fun X x => ?_, fun h => by cases h⟩
  refine PS.imp (ps_par3 x.calm x.nd (by rw [x.hN]; exact hi) (by rw [x.hN]; exact hj) (by rw [x.hN]; exact hl) (ne hij) (ne hil) (ne hjl) (locB_ok x lx) (locB_ok x ly) (locB_ok x lz) (ha X x) (sw_ok x hsw)) ?_
  rintro D σ H ⟨HB, F0, P, F, τ, o, τ', hp, R, ev, _, q⟩
  obtain ⟨d, e1, e2, rfl⟩ := asg_key _ _ _ ev
  obtain ⟨ds, e3, rfl⟩ := tup_key e1
  have e2 : bnds cl [.v i, .v j, .v l] ds τ = some τ' := e2
  obtain ⟨d1, r1, τ1, rfl, b1, e2⟩ := bnds_cons e2
  obtain ⟨d2, r2, τ2, rfl, b2, e2⟩ := bnds_cons e2
  obtain ⟨d3, r3, τ3, rfl, b3, e2⟩ := bnds_cons e2
  obtain ⟨rfl, rfl⟩ := bnds_nil e2
  have b1 := bnd_v b1
  have b2 := bnd_v b2
  have b3 := bnd_v b3
  subst b1 b2 b3
  refine ⟨HB, F0, P, F, τ, _, hp, R, e3, fun vs H1 F1 R1 x1 r => ?_⟩
  cases r with
  | cons r1 r =>
    cases r with
    | cons r2 r =>
      cases r with
      | cons r3 r =>
        cases r
        exact ⟨_, _, _, rfl, q.next (((R1.setShr r1 (pin_ne hp pi)).setShr r2 (pin_ne hp pj)).setShr r3 (pin_ne hp pl)) x1⟩

/-! ### name op= e -/
theorem sVar_some {τ : Env} {i : Nat} {d : D} (h : sVar τ[i]? = some d) : τ[i]? = some (some d) := by
  unfold sVar at h
  split at h
  · cases h; assumption
  · cases h
end
end PV

/-! augmented names; stores into lists and dicts; methods -/
namespace PV
open PySem PySem.Spec PyProof.Rows L2

/-! ### an own slot's object -/
section
variable {K : PySem.W.Frag} {HB : Hp} {F0 : AS} {P : Pins} {c : Ctx} {τ : Env} {F F' : AS} {σ : L2.St} {H H' : Hp}
theorem Rel.ownAt {i : Nat} {d : D} (R : Rel K HB F0 P c τ F σ H) (hf : fl c i = .own) (hd : τ[i]? = some (some d)) (hm : isMut d = true) : ∃ a, σ[i]? = some (some (.ref a)) ∧ OwnC K F H d a := by
  obtain ⟨v, e, s⟩ := R.slot i d hd
  rw [hf] at s
  rcases s with ⟨m, _⟩ | ⟨a, rfl, _, _, s⟩
  · rw [hm] at m; cases m
  · exact ⟨a, e, s⟩
theorem Rel.put {i : Nat} {a : Addr} {d d' : D} {o : HO} (R : Rel K HB F0 P c τ F σ H) (hf : fl c i = .own) (hv : σ[i]? = some (some (.ref a))) (hd : τ[i]? = some (some d)) (hm : isMut d = true)
    (hn : Ext F H F (upd H a o) → OwnC K F (upd H a o) d' a) (hp : ∀ p ∈ P, p.1 ≠ i) : Rel K HB F0 P c (τ.set i (some d')) F σ (upd H a o) ∧ Ext F H F (upd H a o) :=
  R.write hf hv hd hm (fun x e => by
    by_cases h : x = a
    · subst h; exact .inl (hn e)
    · exact .inr h) hp
/-- the slot's value is the one that is read -/
theorem Rel.at_ {i : Nat} {d : D} {v : V} (R : Rel K HB F0 P c τ F σ H) (hd : τ[i]? = some (some d)) (hv : σ[i]? = some (some v)) : ReadR K F H d v := R.read (.inr ⟨i, hd, hv⟩)
end

/-! ### the augmented operators -/
theorem iop_mulW {X : Cx} : OpR X (inplaceOp .Mult) (rI CMulW fun i j => .int (i * j)) := opI fun _ _ _ _ _ _ _ hc q => imul_int q hc.ok
def rAug : Bop → R2
  | .add => rI0 fun i j => .int (i + j)
  | .sub => rI0 fun i j => .int (i - j)
  | .mul => fun x y H Q => (rI CMulW fun i j => .int (i * j)) x y H Q ∨ (rI CMul fun i j => .int (i * j)) x y H Q
  | .fdiv => fun x y H Q => (rI CDiv fun i j => .int (i / j)) x y H Q ∨ (rI CDivW fun i j => .int (i / j)) x y H Q
  | .bxor => rI0 fun i j => .int (Builtin.bitXor i j)
  | _ => fun _ _ _ _ => False
theorem iop_all {X : Cx} : ∀ op : Bop, OpR X (inplaceOp (opOf op)) (rAug op)
  | .add => iop_add
  | .sub => iop_sub
  | .mul => iop_mulW.or iop_mul
  | .fdiv => iop_fdiv.or iop_fdivW
  | .bxor => iop_xor
  | .mod => fun _ _ _ _ _ _ _ _ _ _ _ _ h => h.elim
  | .pow => fun _ _ _ _ _ _ _ _ _ _ _ _ h => h.elim
  | .shl => fun _ _ _ _ _ _ _ _ _ _ _ _ h => h.elim
  | .shr => fun _ _ _ _ _ _ _ _ _ _ _ _ h => h.elim
  | .band => fun _ _ _ _ _ _ _ _ _ _ _ _ h => h.elim
  | .bor => fun _ _ _ _ _ _ _ _ _ _ _ _ h => h.elim
theorem aug_ok {op : Bop} {x y z : D} (e : augD op x y = some z) : ∃ i j n, x = .int i ∧ y = .int j ∧ z = .int n ∧ ∀ (H : Hp) (Q : VK), Q (.int n) H → rAug op (.int i) (.int j) H Q := by
  unfold augD at e
  split at e
  · rename_i ok
    unfold augOk at ok
    split at ok
    · cases e; exact ⟨_, _, _, rfl, rfl, rfl, fun H Q q => ⟨_, _, rfl, rfl, q⟩⟩
    · cases e; exact ⟨_, _, _, rfl, rfl, rfl, fun H Q q => ⟨_, _, rfl, rfl, q⟩⟩
    · rename_i i j
      have e : (if mulOk i j then some (PV.D.int (i * j)) else none) = some z := e
      split at e
      · rename_i hs
        cases e
        refine ⟨_, _, _, rfl, rfl, rfl, fun H Q q => ?_⟩
        unfold mulOk at hs
        simp only [Bool.or_eq_true, decide_eq_true_eq] at hs
        rcases hs with (hs | hs) | hs
        · exact .inl ⟨_, _, rfl, rfl, hs, q⟩
        · exact .inr ⟨_, _, rfl, rfl, .inl (by omega), q⟩
        · exact .inr ⟨_, _, rfl, rfl, .inr (by omega), q⟩
      · cases e
    · cases e; exact ⟨_, _, _, rfl, rfl, rfl, fun H Q q => ⟨_, _, rfl, rfl, q⟩⟩
    · rename_i i j
      have h0 : 0 < j := of_decide_eq_true ok
      have e : (if divOk j then some (PV.D.int (pyDiv i j)) else none) = some z := e
      split at e
      · rename_i hs
        have e1 : pyDiv i j = i / j := by unfold pyDiv; rw [if_pos h0]
        rw [e1] at e
        cases e
        refine ⟨_, _, _, rfl, rfl, rfl, fun H Q q => ?_⟩
        unfold divOk at hs
        simp only [Bool.and_eq_true, Bool.or_eq_true, decide_eq_true_eq] at hs
        rcases hs with ⟨_, h1 | h1⟩
        · exact .inl ⟨_, _, rfl, rfl, ⟨h0, by omega⟩, q⟩
        · exact .inr ⟨_, _, rfl, rfl, ⟨h0, h1.2⟩, q⟩
      · cases e
    · cases ok
  · cases e

section
variable {cl : Nat → List D → Option D} {k w : Nat} {S : SC} {c c1 c2 c3 ci cc : Ctx} {c' : Option Ctx} {e ei e1 e2 e3 tg : Expr} {es : List Expr} {ca cb cd ce ct : C} {ces : List C} {fr : Bool} {pos p2 p3 p4 p5 p6 : Pos} {ps : List Nat} {st : Stmt} {sts a b : List Stmt} {cs : PV.S} {css as bs : List PV.S} {i : Nat} {y : Str}
theorem slotD_some {τ : Env} {d : D} (h : slotD i τ = some d) : τ[i]? = some (some d) := sVar_some h
/-- name op= e -/
theorem okS_aug {op : Bop} (hs : storB S y = true) (hi : S.N[i]? = some y) (hpn : i ∉ S.pin) (ha : OkB cl k S c e ca c1) :
    OkS cl k w S c (.AugAssign (.Name y p2) (opOf op) e pos) (.aug op (.v i) ca) (some (c1.set i .shr)) ci := by
  refine ⟨fun X x => ?_, fun h => by cases h⟩
  obtain ⟨h1, h2⟩ := storB_ok x hs
  refine PS.imp (ps_aug x.nd (by rw [x.hN]; exact hi) h1 (ha X x) (iop_all op) h2) ?_
  rintro D σ H ⟨HB, F0, P, F, τ, o, τ', hp, R, ev, _, q⟩
  have ev : sAug op i (slotD i τ) (evE cl ca τ) τ = some (o, τ') := ev
  unfold sAug at ev
  simp only [Option.bind_eq_some_iff] at ev
  obtain ⟨x, e1, y, e2, z, e3, e4⟩ := ev
  obtain ⟨rfl, e5⟩ := nxt_some e4
  have e5 := bindV_some e5
  subst e5
  obtain ⟨n, m, z, rfl, rfl, rfl, go⟩ := aug_ok e3
  obtain ⟨v, ev, s⟩ := R.slot i _ (slotD_some e1)
  refine ⟨v, ev, HB, F0, P, F, τ, _, hp, R, e2, fun u H1 F1 R1 x1 r1 => ?_⟩
  have hv : v = .int n := (R.at_ (slotD_some e1) ev).int
  have hu : u = .int m := (R1.read r1).int
  subst hv hu
  exact go _ _ (q.next (R1.setShr (.int z) (pin_ne hp hpn)) x1)
theorem put_key : ∀ τ o τ', evS cl w (.asg (.idx (.v i) cb) ca) τ = some (o, τ') → ∃ d kd x y, evE cl ca τ = some d ∧ evE cl cb τ = some kd ∧ τ[i]? = some (some x) ∧ setD x kd d = some y ∧ τ' = τ.set i (some y) ∧ o = .nxt := fun τ o τ' ev => by
  obtain ⟨d, e1, e2, rfl⟩ := asg_key _ _ _ ev
  have e2 : (evE cl cb τ).bind (fun k => storeD i k d τ) = some τ' := e2
  rw [Option.bind_eq_some_iff] at e2
  obtain ⟨kd, e4, e3⟩ := e2
  unfold storeD at e3
  split at e3
  · rename_i x hx
    rw [Option.map_eq_some_iff] at e3
    obtain ⟨y, e3, rfl⟩ := e3
    exact ⟨d, kd, x, y, e1, e4, hx, e3, rfl, rfl⟩
  · cases e3
theorem swap_sub {o i : Expr} {l : Nat} {env : PySem.Env} : swapsWith e (some (.Subscript o i p2)) l env = pure false := by
  cases e <;> rfl
theorem asg_plain {ei o : Expr} {env : PySem.Env} (h : plainE ei = true) : ∀ v, assign (.Subscript o ei pos) env v = (do
      let ov ← holding [v] (eval o env)
      let iv ← holding [v, ov] (eval ei env)
      standAt pos
      holding [v, ov, iv] (setItem ov iv v)
      release [v, ov, iv] []) := by
  intro v
  cases ei <;> first | rfl | cases h
/-- y[i] = e -/
theorem okS_put (hy : visB S y = true) (hi : S.N[i]? = some y) (hpn : i ∉ S.pin) (hv : OkE cl k S c e ca c1 fr) (hx : OkB cl k S c1 ei cb c2) (hf : fl c2 i = .own) (pp : plainE ei = true) :
    OkS cl k w S c (.Assign [.Subscript (.Name y p2) ei p3] e pos) (.asg (.idx (.v i) cb) ca) (some c2) ci := by
  refine ⟨fun X x => ?_, fun h => by cases h⟩
  have hu : X.A.units + 1 < cLine := by have := x.room.un; omega
  have hsw : swapsWithSole [.Subscript (.Name y p2) ei p3] e pos.line X.env = pure false := by cases e <;> rfl
  refine PS.imp (PS.or (ps_asg (hv.shared X x) (pg_sub (pe_slot x hy hi) (hx X x) set_list (asg_plain pp)) hsw (noswap_tg rfl rfl) rfl) (ps_dput hu (pe_slot x hy hi) (hx X x) (hv.shared X x) swap_sub)) ?_
  rintro D σ H ⟨HB, F0, P, F, τ, o, τ', hp, R, ev, _, q⟩
  obtain ⟨d, kd, x, y, e1, e2, e3, e4, rfl, rfl⟩ := put_key _ _ _ ev
  cases x with
  | lst xs =>
    left
    refine ⟨HB, F0, P, F, τ, d, hp, R, e1, fun v H1 F1 R1 x1 r1 => ?_⟩
    obtain ⟨v0, ev0, _⟩ := R.slot i _ e3
    refine ⟨v0, ev0, HB, F0, P, F1, τ, kd, hp, R1, e2, fun u H2 F2 R2 x2 r2 => ?_⟩
    obtain ⟨a, ea, vs, ha, ra⟩ := R2.ownAt hf e3 rfl
    rw [ev0] at ea; cases ea
    cases kd with
    | int n =>
      have e6 : (ixN xs.length n).map (fun j => PV.D.lst (xs.set j d)) = some y := e4
      rw [Option.map_eq_some_iff] at e6
      obtain ⟨j, e6, rfl⟩ := e6
      have hu : u = .int n := (R2.read r2).int
      subst hu
      obtain ⟨R3, x3⟩ := R2.put (o := .lst (vs.set j v)) (d' := .lst (xs.set j d)) hf ev0 e3 rfl (fun xx => ⟨_, upd_same, (ra.mono xx).set (r1.mono (x2.trans xx)) j⟩) (pin_ne hp hpn)
      exact ⟨a, vs, n, j, rfl, rfl, ha, by rw [← ra.length]; exact e6, q.next R3 (x1.trans (x2.trans x3))⟩
    | _ => cases e4
  | dct t ks xs =>
    right
    refine ⟨HB, F0, P, F, τ, d, hp, R, e1, fun v H1 F1 R1 x1 r1 => ?_⟩
    obtain ⟨v0, ev0, _⟩ := R.slot i _ e3
    refine ⟨v0, ev0, HB, F0, P, F1, τ, kd, hp, R1, e2, fun u H2 F2 R2 x2 r2 => ?_⟩
    obtain ⟨a, ea, ow⟩ := R2.ownAt hf e3 rfl
    rw [ev0] at ea; cases ea
    have e4 : (if (kindOk t kd && szOk ks.length) = true then some (PV.D.dct t (putKs ks kd) (putV ks xs kd d)) else none) = some y := e4
    split at e4
    · rename_i hk
      cases e4
      rw [Bool.and_eq_true] at hk
      have nm : isMut kd = false := by
        have := hk.1
        unfold kindOk at this
        rw [Bool.and_eq_true] at this
        cases kd <;> first | rfl | (have := this.1; cases this)
      obtain ⟨H3, dp, o, rfl, own⟩ := dput_ok ow ((R2.read r2).plain nm) (r1.mono x2) hk.1 (of_decide_eq_true hk.2)
      obtain ⟨R3, x3⟩ := R2.put hf ev0 e3 rfl own (pin_ne hp hpn)
      exact ⟨a, _, rfl, dp, q.next R3 (x1.trans (x2.trans x3))⟩
    · cases e4
  | _ => cases e4
end
end PV

/-! augmented places; append, extend, pop; del; an expression alone -/
namespace PV
open PySem PySem.Spec PyProof.Rows L2
section
variable {cl : Nat → List D → Option D} {k w : Nat} {S : SC} {c c1 c2 c3 ci cc : Ctx} {c' : Option Ctx} {e ei e1 e2 e3 tg : Expr} {es : List Expr} {ca cb cd ce ct : C} {ces : List C} {fr : Bool} {pos p2 p3 p4 p5 p6 apos cpos : Pos} {ps : List Nat} {st : Stmt} {sts a b : List Stmt} {cs : PV.S} {css as bs : List PV.S} {i : Nat} {y : Str}
/-- xs[i], by values -/
theorem get_list {X : Cx} : PGet X (rIxL X.K) := by
  intro pins s σ H o i ov iv Q I ro ri h
  obtain ⟨p, xs, n, z, rfl, rfl, hq, he, q⟩ := h
  cases ro
  obtain ⟨t, rfl⟩ := ri
  obtain ⟨its, r, pl, hz⟩ := I.list hq
  obtain ⟨j, h1, h2, h3, h4, h5⟩ := atI_get he
  obtain ⟨w, ew, rw'⟩ := r.get h2
  have hl := r.length
  have hn := line63
  have fin : EP X pins σ Q w s := ⟨z, H, I, rw', q⟩
  by_cases h0 : 0 ≤ n
  · have hj : n.toNat = j := by
      rw [seqIndex_of h0 h5] at h1
      exact Option.some.inj h1
    exact wpAny_getItem_list pl.isList h0 (by omega) (by rw [hj]; simpa using ew) fin
  · have hj : (n + (its.toArray.size : Int)).toNat = j := by
      rw [seqIndex_neg (by omega) h4] at h1
      rw [List.size_toArray, ← hl]
      exact Option.some.inj h1
    exact wpAny_getItem_list_neg pl.isList (by omega) (by rw [List.size_toArray] <;> omega) (by omega) (by rw [hj]; simpa using ew) fin
theorem aug_plain {ei : Expr} (h : plainE ei = true) : ∀ ov iv new, augStore ei ov iv new = (do holding [new, ov, iv] (setItem ov iv new); release [new, ov, iv] []; pure .next) := by
  intro ov iv new
  cases ei <;> first | rfl | cases h
/-- y[i] op= e -/
theorem okS_augI {op : Bop} (hy : visB S y = true) (hi : S.N[i]? = some y) (hpn : i ∉ S.pin) (hx : OkB cl k S c ei cb c1) (hv : OkB cl k S c1 e ca c2) (hf : fl c2 i = .own) (pp : plainE ei = true) :
    OkS cl k w S c (.AugAssign (.Subscript (.Name y p2) ei p3) (opOf op) e pos) (.aug op (.idx (.v i) cb) ca) (some c2) ci := by
  refine ⟨fun X x => ?_, fun h => by cases h⟩
  have hu : X.A.units + 1 < cLine := by have := x.room.un; omega
  refine PS.imp (PS.or (ps_augS (pe_slot x hy hi) (hx X x) get_list (hv X x) (iop_all op) set_list (aug_plain pp)) (ps_daug hu (pe_slot x hy hi) (hx X x) (hv X x) (iop_all op) (aug_plain pp))) ?_
  rintro D σ H ⟨HB, F0, P, F, τ, o, τ', hp, R, ev, _, q⟩
  have ev : sAugI op i (slotD i τ) (evE cl cb τ) (evE cl ca τ) τ = some (o, τ') := ev
  unfold sAugI at ev
  simp only [Option.bind_eq_some_iff] at ev
  obtain ⟨x, e1, kd, e2, u, e3, y, e4, z, e5, e6⟩ := ev
  obtain ⟨rfl, e7⟩ := nxt_some e6
  have e1 := slotD_some e1
  unfold storeD at e7
  rw [e1] at e7
  have e7 : (setD x kd z).map (fun y => τ.set i (some y)) = some τ' := e7
  rw [Option.map_eq_some_iff] at e7
  obtain ⟨x', e8, rfl⟩ := e7
  obtain ⟨n, m, z, rfl, rfl, rfl, go⟩ := aug_ok e5
  obtain ⟨v0, ev0, _⟩ := R.slot i _ e1
  cases x with
  | lst xs =>
    left
    refine ⟨v0, ev0, HB, F0, P, F, τ, kd, hp, R, e2, fun u1 H1 F1 R1 x1 r1 => ?_⟩
    cases kd with
    | int j =>
      have hu1 : u1 = .int j := (R1.read r1).int
      subst hu1
      obtain ⟨a, vs, rfl, ha, ra⟩ := (R1.at_ e1 ev0).lst
      have e3 : atD xs j = some (.int n) := e3
      unfold atD at e3
      rw [Option.bind_eq_some_iff] at e3
      obtain ⟨jn, hj, hx'⟩ := e3
      obtain ⟨v, hv1, rv⟩ := ra.get hx'
      have hvn : v = .int n := by cases rv; rfl
      subst hvn
      refine ⟨a, vs, j, .int n, rfl, rfl, .of ha, ?_, ?_⟩
      · unfold atI
        rw [← ra.length, ixN_eq, hj]; exact hv1
      refine ⟨HB, F0, P, F1, τ, _, hp, R1, e4, fun u2 H2 F2 R2 x2 r2 => ?_⟩
      have hu2 : u2 = .int m := (R2.read r2).int
      subst hu2
      refine go _ _ ?_
      obtain ⟨a', ea, vs', ha', ra'⟩ := R2.ownAt hf e1 rfl
      rw [ev0] at ea; cases ea
      have e9 : (ixN xs.length j).map (fun j => PV.D.lst (xs.set j (.int z))) = some x' := e8
      rw [hj] at e9
      cases e9
      obtain ⟨R3, x3⟩ := R2.put (o := .lst (vs'.set jn (.int z))) (d' := .lst (xs.set jn (.int z))) hf ev0 e1 rfl (fun xx => ⟨_, upd_same, (ra'.mono xx).set (.int z) jn⟩) (pin_ne hp hpn)
      exact ⟨_, vs', j, jn, rfl, rfl, ha', by rw [← ra'.length]; exact hj, q.next R3 (x1.trans (x2.trans x3))⟩
    | _ => cases e3
  | dct t ks xs =>
    right
    refine ⟨v0, ev0, HB, F0, P, F, τ, kd, hp, R, e2, fun u1 H1 F1 R1 x1 r1 => ?_⟩
    have e9 : (if (kindOk t kd && szOk ks.length) = true then some (PV.D.dct t (putKs ks kd) (putV ks xs kd (.int z))) else none) = some x' := e8
    have e7 := e9
    split at e7
    · rename_i hk
      cases e7
      rw [Bool.and_eq_true] at hk
      have nm : isMut kd = false := by
        have := hk.1
        unfold kindOk at this
        rw [Bool.and_eq_true] at this
        cases kd <;> first | rfl | (have := this.1; cases this)
      obtain ⟨a, rfl, le⟩ := (R1.at_ e1 ev0).dct
      have e3 : (if kindOk t kd then lookD ks xs kd else none) = some (.int n) := e3
      rw [if_pos hk.1] at e3
      obtain ⟨o, dg, h⟩ := dget_ok le ((R1.read r1).plain nm) hk.1
      rcases h with ⟨h, _⟩ | ⟨d, v, h, rfl, rv⟩
      · rw [e3] at h; cases h
      rw [e3] at h; cases h
      have hvn : v = .int n := by cases rv; rfl
      subst hvn
      refine ⟨a, _, rfl, dg, HB, F0, P, F1, τ, _, hp, R1, e4, fun u2 H2 F2 R2 x2 r2 => ?_⟩
      have hu2 : u2 = .int m := (R2.read r2).int
      subst hu2
      refine go _ _ ?_
      obtain ⟨a', ea, ow⟩ := R2.ownAt hf e1 rfl
      rw [ev0] at ea; cases ea
      obtain ⟨H3, dp, o, rfl, own⟩ := dput_ok ow ((R2.read (r1.mono x2)).plain nm) (.int z) hk.1 (of_decide_eq_true hk.2)
      obtain ⟨R3, x3⟩ := R2.put hf ev0 e1 rfl own (pin_ne hp hpn)
      exact ⟨_, dp, q.next R3 (x1.trans (x2.trans x3))⟩
    · cases e7
  | _ => cases e8

/-! ### methods of lists -/
theorem bm_few {X : Cx} (h : starQ e = false) : ((backTo cpos (starEach [e] X.env)).all (fun x => !x.1) && (backToKw cpos (keywordEach [] X.env)).all (fun x => x.1.isSome)
      && decide (([e] : List Expr).length + ([] : List Keyword).length + (if ([] : List Keyword).isEmpty then 0 else 1) < 30)) = true := by
  cases e <;> first | rfl | cases h
theorem bm_star {X : Cx} (h : starQ e = false) : starEach [e] X.env = (false, eval e X.env) :: starEach [] X.env := by
  cases e <;> first | rfl | cases h
/-- y.append(e) -/
theorem okS_app (hy : visB S y = true) (hi : S.N[i]? = some y) (hpn : i ∉ S.pin) (ha : OkE cl k S c e ca c1 fr) (hf : fl c1 i = .own) (hs : starQ e = false) (hl : (apos.endLine == cpos.line) = true) :
    OkS cl k w S c (.Expr (.Call (.Attribute (.Name y p2) "append" apos) [e] [] cpos) pos) (.app i ca) (some c1) ci := by
  refine ⟨fun X x => ?_, fun h => by cases h⟩
  refine PS.imp (ps_expr (pe_bm PySem.F.plainAttrs_list PySem.F.slot_list_append PySem.F.type_list_append mt_append (pe_slot x hy hi) (pa_cons (ha.shared X x) pa_nil (bm_star hs)) rfl (bm_few hs) hl (bm_star hs))) ?_
  rintro D σ H ⟨HB, F0, P, F, τ, o, τ', hp, R, ev, _, q⟩
  have ev : (evE cl ca τ).bind (fun d => nxt (appD i d τ)) = some (o, τ') := ev
  rw [Option.bind_eq_some_iff] at ev
  obtain ⟨d, e1, e2⟩ := ev
  obtain ⟨rfl, e4⟩ := nxt_some e2
  unfold appD at e4
  rw [Option.bind_eq_some_iff] at e4
  obtain ⟨x, e5, e3⟩ := e4
  have e6 := slotD_some e5
  cases x with
  | lst xs =>
    have e3 : (if szOk xs.length then some (τ.set i (some (.lst (xs ++ [d])))) else none) = some τ' := e3
    split at e3
    · rename_i hz
      cases e3
      obtain ⟨v0, ev0, _⟩ := R.slot i _ e6
      obtain ⟨a, vs, rfl, h0, _⟩ := (R.at_ e6 ev0).lst
      refine ⟨_, ev0, .inl ⟨rfl, vs, .of h0⟩, HB, F0, P, F, τ, d, hp, R, e1, fun v H1 F1 R1 x1 r1 => ?_⟩
      obtain ⟨a', ea, vs', ha', ra'⟩ := R1.ownAt hf e6 rfl
      rw [ev0] at ea; cases ea
      obtain ⟨R3, x3⟩ := R1.put (o := .lst (vs' ++ [v])) (d' := .lst (xs ++ [d])) hf ev0 e6 rfl (fun xx => ⟨_, upd_same, (ra'.mono xx).append (.cons (r1.mono xx) .nil)⟩) (pin_ne hp hpn)
      have sl : sizeLine = 16777216 := rfl
      have := of_decide_eq_true hz
      have := ra'.length
      exact ⟨_, vs', v, rfl, rfl, ha', by omega, q.next R3 (x1.trans x3)⟩
    · cases e3
  | _ => cases e3
/-- y.extend(e), e fresh -/
theorem okS_ext (hy : visB S y = true) (hi : S.N[i]? = some y) (hpn : i ∉ S.pin) (ha : OkE cl k S c e ca c1 true) (hf : fl c1 i = .own) (hs : starQ e = false) (hl : (apos.endLine == cpos.line) = true) :
    OkS cl k w S c (.Expr (.Call (.Attribute (.Name y p2) "extend" apos) [e] [] cpos) pos) (.ext i ca) (some c1) ci := by
  refine ⟨fun X x => ?_, fun h => by cases h⟩
  refine PS.imp (ps_expr (pe_bm PySem.F.plainAttrs_list PySem.F.slot_list_extend PySem.F.type_list_extend mt_extend (pe_slot x hy hi) (pa_cons (ha X x) pa_nil (bm_star hs)) rfl (bm_few hs) hl (bm_star hs))) ?_
  rintro D σ H ⟨HB, F0, P, F, τ, o, τ', hp, R, ev, _, q⟩
  have ev : (evE cl ca τ).bind (fun d => nxt (extD i d τ)) = some (o, τ') := ev
  rw [Option.bind_eq_some_iff] at ev
  obtain ⟨d, e1, e2⟩ := ev
  obtain ⟨rfl, e4⟩ := nxt_some e2
  unfold extD at e4
  rw [Option.bind_eq_some_iff] at e4
  obtain ⟨x, e5, e3⟩ := e4
  have e6 := slotD_some e5
  cases x with
  | lst xs =>
    cases d with
    | lst ys =>
      have e7 : (if szOk (xs.length + ys.length) then some (τ.set i (some (.lst (xs ++ ys)))) else none) = some τ' := e3
      split at e7
      · rename_i hz
        cases e7
        obtain ⟨v0, ev0, _⟩ := R.slot i _ e6
        obtain ⟨a, vs, rfl, h0, _⟩ := (R.at_ e6 ev0).lst
        refine ⟨_, ev0, .inl ⟨rfl, vs, .of h0⟩, HB, F0, P, F, τ, _, hp, R, e1, fun v H1 F1 R1 x1 r1 => ?_⟩
        have r1 : FreshR X.K HB F1 H1 c1 τ σ (.lst ys) v := r1
        rcases r1 with ⟨m, _⟩ | ⟨b, rfl, nf, hb, ⟨ws, hw, rw'⟩, no⟩
        · cases m
        obtain ⟨a', ea, vs', ha', ra'⟩ := R1.ownAt hf e6 rfl
        rw [ev0] at ea; cases ea
        obtain ⟨R3, x3⟩ := R1.put (o := .lst (vs' ++ ws)) (d' := .lst (xs ++ ys)) hf ev0 e6 rfl (fun xx => ⟨_, upd_same, (ra'.mono xx).append (rw'.mono xx)⟩) (pin_ne hp hpn)
        have sl : sizeLine = 16777216 := rfl
        have := of_decide_eq_true hz
        have := ra'.length
        have := rw'.length
        exact ⟨_, b, vs', ws, rfl, rfl, ha', hw, by omega, q.next R3 (x1.trans x3)⟩
      · cases e7
    | _ => cases e3
  | _ => cases d <;> cases e3
/-- y += e, a list, e fresh -/
theorem okS_extA (hy : storB S y = true) (hv : visB S y = true) (hi : S.N[i]? = some y) (hpn : i ∉ S.pin) (ha : OkE cl k S c e ca c1 true) (hf : fl c1 i = .own) :
    OkS cl k w S c (.AugAssign (.Name y p2) .Add e pos) (.ext i ca) (some c1) ci := by
  refine ⟨fun X x => ?_, fun h => by cases h⟩
  obtain ⟨h1, h2⟩ := storB_ok x hy
  refine PS.imp (ps_aug x.nd (by rw [x.hN]; exact hi) h1 (ha X x) iop_ext h2) ?_
  rintro D σ H ⟨HB, F0, P, F, τ, o, τ', hp, R, ev, _, q⟩
  have ev : (evE cl ca τ).bind (fun d => nxt (extD i d τ)) = some (o, τ') := ev
  rw [Option.bind_eq_some_iff] at ev
  obtain ⟨d, e1, e2⟩ := ev
  obtain ⟨rfl, e4⟩ := nxt_some e2
  unfold extD at e4
  rw [Option.bind_eq_some_iff] at e4
  obtain ⟨x, e5, e3⟩ := e4
  have e6 := slotD_some e5
  cases x with
  | lst xs =>
    cases d with
    | lst ys =>
      have e7 : (if szOk (xs.length + ys.length) then some (τ.set i (some (.lst (xs ++ ys)))) else none) = some τ' := e3
      split at e7
      · rename_i hz
        cases e7
        obtain ⟨v0, ev0, _⟩ := R.slot i _ e6
        refine ⟨_, ev0, HB, F0, P, F, τ, _, hp, R, e1, fun v H1 F1 R1 x1 r1 => ?_⟩
        have r1 : FreshR X.K HB F1 H1 c1 τ σ (.lst ys) v := r1
        rcases r1 with ⟨m, _⟩ | ⟨b, rfl, nf, hb, ⟨ws, hw, rw'⟩, no⟩
        · cases m
        obtain ⟨a', ea, vs', ha', ra'⟩ := R1.ownAt hf e6 rfl
        rw [ev0] at ea; cases ea
        obtain ⟨R3, x3⟩ := R1.put (o := .lst (vs' ++ ws)) (d' := .lst (xs ++ ys)) hf ev0 e6 rfl (fun xx => ⟨_, upd_same, (ra'.mono xx).append (rw'.mono xx)⟩) (pin_ne hp hpn)
        have sl : sizeLine = 16777216 := rfl
        have := of_decide_eq_true hz
        have := ra'.length
        have := rw'.length
        have es : σ.set i (some (.ref a')) = σ := by
          apply List.ext_getElem?
          intro j
          by_cases hj : i = j
          · subst hj
            rw [ev0]
            have hlt : i < σ.length := by
              by_cases hlt : i < σ.length
              · exact hlt
              · rw [List.getElem?_eq_none (by simpa using hlt)] at ev0; cases ev0
            rw [List.getElem?_set_self hlt]
          · rw [List.getElem?_set_ne hj]
        refine ⟨_, b, vs', ws, rfl, rfl, ha', hw, by omega, ?_⟩
        show D.nx (σ.set i (some (.ref a'))) _
        rw [es]
        exact q.next R3 (x1.trans x3)
      · cases e7
    | _ => cases e3
  | _ => cases d <;> cases e3
/-- an expression alone -/
theorem okS_exp (ha : OkE cl k S c e ca c1 fr) (hn : notComp e = true) : OkS cl k w S c (.Expr e pos) (.exp ca) (some c1) ci := by
  refine ⟨fun X x => ?_, fun h => by cases h⟩
  refine PS.imp (ps_expr (ha.shared X x) (swap_plain hn)) ?_
  rintro D σ H ⟨HB, F0, P, F, τ, o, τ', hp, R, ev, _, q⟩
  have ev : (evE cl ca τ).map (fun _ => (Out.nxt, τ)) = some (o, τ') := ev
  rw [Option.map_eq_some_iff] at ev
  obtain ⟨d, e1, e2⟩ := ev
  cases e2
  exact ⟨HB, F0, P, F, τ, d, hp, R, e1, fun v H1 F1 R1 x1 _ => q.next R1 x1⟩
/-- target = y.pop() -/
theorem okS_pop (hy : visB S y = true) (hi : S.N[i]? = some y) (hpn : i ∉ S.pin) (hf : fl c i = .own) (hg : OkG cl k S c tg ct c2) (hsw : ∀ X, XOk cl k S X → ∀ e : Expr, isTupE e = false → swappedStores [tg] e X.env = pure none) (hp : plainG tg = true) (hl : (apos.endLine == cpos.line) = true) :
    OkS cl k w S c (.Assign [tg] (.Call (.Attribute (.Name y p2) "pop" apos) [] [] cpos) pos) (.pop ct i (.k .non)) (some c2) ci := by
  refine ⟨fun X x => ?_, fun h => by cases h⟩
  refine PS.imp (ps_asg (pe_bm0 PySem.F.plainAttrs_list PySem.F.slot_list_pop PySem.F.type_list_pop mt_pop (pe_slot x hy hi) rfl hl) (hg X x) rfl (hsw X x _ rfl) (by cases tg <;> first | rfl | cases hp)) ?_
  rintro D σ H ⟨HB, F0, P, F, τ, o, τ', hp, R, ev, _, q⟩
  have ev : (popD i .non τ).bind (fun r => nxt (bnd cl ct r.1 r.2)) = some (o, τ') := ev
  rw [Option.bind_eq_some_iff] at ev
  obtain ⟨r, e1, e2⟩ := ev
  obtain ⟨rfl, e4⟩ := nxt_some e2
  unfold popD at e1
  rw [Option.bind_eq_some_iff] at e1
  obtain ⟨x, e5, e3⟩ := e1
  have e6 := slotD_some e5
  cases x with
  | lst xs =>
    have e7 : (xs[xs.length - 1]?).map (fun x => (x, τ.set i (some (.lst xs.dropLast)))) = some r := e3
    rw [Option.map_eq_some_iff] at e7
    obtain ⟨z, e7, rfl⟩ := e7
    obtain ⟨a, ea, vs, ha, ra⟩ := R.ownAt hf e6 rfl
    obtain ⟨v, hv, rv⟩ := ra.get e7
    obtain ⟨R3, x3⟩ := R.put (o := .lst vs.dropLast) (d' := .lst xs.dropLast) hf ea e6 rfl (fun xx => ⟨_, upd_same, (ra.mono xx).dropLast⟩) (pin_ne hp hpn)
    refine ⟨_, ea, .inl ⟨rfl, vs, .of ha⟩, a, vs, v, rfl, rfl, ha, by rw [← ra.length]; exact hv, ?_⟩
    exact ⟨HB, F0, P, F, _, z, τ', hp, R3, rv.mono x3, e4, fun σ' H' F' R' x' _ => q.next R' (x3.trans x')⟩
  | _ => cases e3
/-- y.pop() alone -/
theorem okS_popE (hy : visB S y = true) (hi : S.N[i]? = some y) (hpn : i ∉ S.pin) (hf : fl c i = .own) (hl : (apos.endLine == cpos.line) = true) :
    OkS cl k w S c (.Expr (.Call (.Attribute (.Name y p2) "pop" apos) [] [] cpos) pos) (.pop (.lst []) i (.k .non)) (some c) ci := by
  refine ⟨fun X x => ?_, fun h => by cases h⟩
  refine PS.imp (ps_expr (pe_bm0 PySem.F.plainAttrs_list PySem.F.slot_list_pop PySem.F.type_list_pop mt_pop (pe_slot x hy hi) rfl hl)) ?_
  rintro D σ H ⟨HB, F0, P, F, τ, o, τ', hp, R, ev, _, q⟩
  have ev : (popD i .non τ).bind (fun r => nxt (bnd cl (.lst []) r.1 r.2)) = some (o, τ') := ev
  rw [Option.bind_eq_some_iff] at ev
  obtain ⟨r, e1, e2⟩ := ev
  obtain ⟨rfl, e4⟩ := nxt_some e2
  have e4 : some r.2 = some τ' := e4
  cases e4
  unfold popD at e1
  rw [Option.bind_eq_some_iff] at e1
  obtain ⟨x, e5, e3⟩ := e1
  have e6 := slotD_some e5
  cases x with
  | lst xs =>
    have e7 : (xs[xs.length - 1]?).map (fun x => (x, τ.set i (some (.lst xs.dropLast)))) = some r := e3
    rw [Option.map_eq_some_iff] at e7
    obtain ⟨z, e7, rfl⟩ := e7
    obtain ⟨a, ea, vs, ha, ra⟩ := R.ownAt hf e6 rfl
    obtain ⟨v, hv, rv⟩ := ra.get e7
    obtain ⟨R3, x3⟩ := R.put (o := .lst vs.dropLast) (d' := .lst xs.dropLast) hf ea e6 rfl (fun xx => ⟨_, upd_same, (ra.mono xx).dropLast⟩) (pin_ne hp hpn)
    refine ⟨_, ea, .inl ⟨rfl, vs, .of ha⟩, a, vs, v, rfl, rfl, ha, by rw [← ra.length]; exact hv, ?_⟩
    exact q.next R3 x3
  | _ => cases e3
/-- del y[e] -/
theorem eqB_keyI {a b : D} (ha : keyOk a = true) (hb : keyOk b = true) (ta : isTup a = false) (tb : isTup b = false) : eqB a b = true → a = b := fun h => by
  cases a <;> first | (cases ha; done) | skip
  · cases b <;> first | (cases hb; done) | (cases h; done) | skip
    rename_i i j
    have h : (i == j) = true := h
    rw [eq_of_beq h]
  · cases b <;> first | (cases hb; done) | (cases h; done) | skip
    rename_i i j
    have h : (i == j) = true := h
    rw [eq_of_beq h]
  · cases ta
end
end PV

/-! loops -/
namespace PV
open PySem PySem.Spec PyProof.Rows L2
section
variable {K : PySem.W.Frag} {HB : Hp} {F0 : AS} {P Pn : Pins} {c : Ctx} {τ : Env} {F F' : AS} {σ : L2.St} {H H' : Hp}
theorem wipe_len : ∀ (ks : List Nat) (τ : Env), (wipe ks τ).length = τ.length
  | [], _ => rfl
  | k :: ks, τ => by
    show (wipe ks (τ.set k none)).length = _
    rw [wipe_len ks, List.length_set]
theorem wipe_get : ∀ (ks : List Nat) (τ : Env) (i : Nat) (d : D), (wipe ks τ)[i]? = some (some d) → τ[i]? = some (some d)
  | [], _, _, _, h => h
  | k :: ks, τ, i, d, h => by
    have h := wipe_get ks (τ.set k none) i d h
    by_cases e : k = i
    · subst e
      by_cases hk : k < τ.length
      · rw [List.getElem?_set_self hk] at h; cases h
      · rw [List.getElem?_eq_none (by simpa using hk)] at h; cases h
    · rwa [List.getElem?_set_ne e] at h
theorem wipe_keep : ∀ (ks : List Nat) (τ : Env) (i : Nat), i ∉ ks → (wipe ks τ)[i]? = τ[i]?
  | [], _, _, _ => rfl
  | k :: ks, τ, i, h => by
    show (wipe ks (τ.set k none))[i]? = _
    rw [wipe_keep ks _ i (fun z => h (List.mem_cons_of_mem _ z)), List.getElem?_set_ne (fun (z : k = i) => h (by rw [z]; exact List.mem_cons_self))]
theorem Rel.wipeK {ks : List Nat} (R : Rel K HB F0 P c τ F σ H) (hp : ∀ p ∈ P, p.1 ∉ ks) : Rel K HB F0 P c (wipe ks τ) F σ H :=
  R.forget (wipe_len ks τ) (fun i d h => wipe_get ks τ i d h) fun p m => by rw [wipe_keep ks τ p.1 (hp p m)]; exact (R.pin p m).2
theorem Rel.dropPins (R : Rel K HB F0 (Pn ++ P) c τ F σ H) : Rel K HB F0 P c τ F σ H :=
  ⟨R.same, R.dom, R.f0, R.f1, R.len, R.slot, R.sep, fun p m => R.pin p (List.mem_append_right _ m)⟩
/-- what may be told of the flags behind a loop: a walked slot may be owned again -/
def Unl (c c' : Ctx) (ps : List Nat) : Prop := ∀ i, fl c' i = fl c i ∨ fl c' i = .shr ∨ (fl c' i = .own ∧ fl c i = .lent ∧ i ∈ ps)
theorem Rel.unlend {ps : List Nat} {c' : Ctx} (R : Rel K HB F0 (Pn ++ P) c τ F σ H) (hq : PinQ ps Pn) (hd : ∀ p ∈ Pn, isDct p.2.2 = false) (u : ∀ i, fl c' i = fl c i ∨ (fl c' i = .own ∧ fl c i = .lent ∧ i ∈ ps)) : Rel K HB F0 P c' τ F σ H := by
  have ne : ∀ i, fl c' i ≠ .shr → fl c i ≠ .shr := fun i h => by
    rcases u i with e | ⟨_, e, _⟩
    · rw [← e]; exact h
    · rw [e]; exact fun z => nomatch z
  refine ⟨R.same, R.dom, R.f0, R.f1, R.len, fun i d e => ?_, fun i j a n p q => R.sep i j a n ⟨ne i p.1, p.2⟩ ⟨ne j q.1, q.2⟩, fun p m => R.pin p (List.mem_append_right _ m)⟩
  obtain ⟨v, ev, s⟩ := R.slot i d e
  refine ⟨v, ev, ?_⟩
  rcases u i with h | ⟨h1, h2, h3⟩
  · rw [h]; exact s
  · rw [h1]; rw [h2] at s
    rcases s with s | ⟨a, e1, e2, e3, s⟩
    · exact .inl s
    · refine .inr ⟨a, e1, e2, e3, ?_⟩
      obtain ⟨p, hp, hi⟩ := hq.2 i h3
      have pp := R.pin p (List.mem_append_left _ hp)
      rw [hi, e] at pp
      have nd := hd p hp
      rw [← (Option.some.inj (Option.some.inj pp.2))] at nd
      cases d with
      | lst xs => exact s
      | dct t ks vs => cases nd
      | _ => exact s.elim
end
section
variable {cl : Nat → List D → Option D} {k w : Nat} {S : SC} {c c1 c2 c3 ci cc cx m : Ctx} {c' : Option Ctx} {e ei e1 e2 e3 tg it : Expr} {es : List Expr} {ca cb cd ce ct ti : C} {ces : List C} {fr : Bool} {pos p2 p3 p4 p5 p6 apos cpos : Pos} {ps kl : List Nat} {st : Stmt} {sts a b : List Stmt} {cs : PV.S} {css as bs : List PV.S} {i : Nat} {y : Str}
theorem XOk.never {X : Cx} (x : XOk cl k S X) : PassesOwn (model X.prog X.w) X.A X.env X.xe := by rw [x.nox]; exact PassesOwn.never
theorem pin_kill {pn : List Nat} {P : Pins} (hp : PinOk pn P) (h : ∀ i ∈ kl, i ∉ pn) : ∀ p ∈ P, p.1 ∉ kl := fun p m z => h p.1 z (hp p m)
/-- what the body's end asks -/
def endC (cb : Option Ctx) (m : Ctx) : Prop := match cb with
  | none => True
  | some b => Low b m
theorem okS_whl {cb' : Option Ctx} (lm : Low c m) (ht : OkT cl k S m e ct c1) (hb : OkSs cl k w S c1 b bs cb' m) (l1 : Low c1 m) (l2 : endC cb' m) (hk : ∀ i ∈ kl, i ∉ S.pin) :
    OkS cl k w S c (.While e b [] pos) (.whl ct bs kl) (some m) ci := by
  refine ⟨fun X x => PS.imp (ps_while x.never (ht X x) (hb.ps X x)) ?_, fun h => by cases h⟩
  rintro D σ H ⟨HB, F0, P, F, τ, o, τ', hp, R, ev, _, q⟩
  have ev : whlL (evT cl ct) (fun τ => evSs cl w bs τ) kl w τ = some (o, τ') := ev
  have pk := pin_kill hp hk
  obtain ⟨F1, R1, x1⟩ := R.lowTo lm
  refine ⟨fun n σ' H' => ∃ F' τ2, Rel X.K HB F0 P m τ2 F' σ' H' ∧ Ext F H F' H' ∧ whlL (evT cl ct) (fun τ => evSs cl w bs τ) kl n τ2 = some (o, τ'), ⟨w, F1, τ, R1, x1, ev⟩, ?_⟩
  rintro n σ1 H1 ⟨F2, τ2, R2, x2, ev⟩
  cases n with
  | zero => cases ev
  | succ n =>
    have ev : (evT cl ct (wipe kl τ2)).bind (fun b => if b then (evSs cl w bs (wipe kl τ2)).bind fun r => match r.1 with
      | .nxt => whlL (evT cl ct) (fun τ => evSs cl w bs τ) kl n r.2
      | .cnt => whlL (evT cl ct) (fun τ => evSs cl w bs τ) kl n r.2
      | .brk => some (.nxt, wipe kl r.2)
      | .ret d => some (.ret d, r.2)
      else some (.nxt, wipe kl τ2)) = some (o, τ') := ev
    rw [Option.bind_eq_some_iff] at ev
    obtain ⟨t, e1, e2⟩ := ev
    refine ⟨HB, F0, P, F2, _, t, hp, R2.wipeK pk, e1, fun H3 F3 R3 x3 => ?_⟩
    cases t with
    | false =>
      rw [if_neg Bool.false_ne_true] at e2 ⊢
      cases e2
      obtain ⟨F4, R4, x4⟩ := R3.lowTo l1
      exact q.next R4 (x2.trans (x3.trans x4))
    | true =>
      rw [if_pos rfl] at e2 ⊢
      rw [Option.bind_eq_some_iff] at e2
      obtain ⟨⟨o1, τ3⟩, e3, e4⟩ := e2
      refine ⟨fun σ' H' => ∃ F' τ2, Rel X.K HB F0 P m τ2 F' σ' H' ∧ Ext F H F' H' ∧ whlL (evT cl ct) (fun τ => evSs cl w bs τ) kl n τ2 = some (o, τ'), fun σ' H' h => ⟨n, Nat.lt_succ_self n, h⟩, ?_⟩
      refine ⟨HB, F0, P, F3, _, o1, τ3, hp, R3, e3, ?_⟩
      cases o1 with
      | nxt =>
        refine ⟨fun _ c'' e σ' H' F' R' y => ?_, fun z => (nomatch z), fun z => (nomatch z), fun d z => (nomatch z)⟩
        subst e
        obtain ⟨F4, R4, x4⟩ := R'.lowTo l2
        exact ⟨F4, τ3, R4, x2.trans (x3.trans (y.trans x4)), e4⟩
      | cnt => exact ⟨fun z => (nomatch z), fun z => (nomatch z), fun _ σ' H' F' R' y => ⟨F', τ3, R', x2.trans (x3.trans y), e4⟩, fun d z => (nomatch z)⟩
      | brk =>
        cases e4
        exact ⟨fun z => (nomatch z), fun _ σ' H' F' R' y => q.next (R'.wipeK pk) (x2.trans (x3.trans y)), fun z => (nomatch z), fun d z => (nomatch z)⟩
      | ret d =>
        cases e4
        exact ⟨fun z => (nomatch z), fun z => (nomatch z), fun z => (nomatch z), q.rt⟩
theorem evI_nd {τ : Env} {xs : List D} (h : evI cl ct τ = some xs) : ∀ d, evE cl ct τ = some d → isDct d = false := fun d e => by
  have h : (evE cl ct τ).bind itemsD = some xs := h
  rw [e] at h
  cases d <;> first | rfl | cases h
/-- what the targets' object may do to the heap -/
theorem Rel.turn {K : PySem.W.Frag} {HB : Hp} {F0 : AS} {P : Pins} {τ : Env} {F : AS} {σ : L2.St} {H H3 : Hp} (R : Rel K HB F0 P c τ F σ H) (h : H3 = H ∨ ∃ T vs, H T = none ∧ H3 = upd H T (.tup vs)) : Rel K HB F0 P c τ F σ H3 ∧ Ext F H F H3 := by
  rcases h with rfl | ⟨T, vs, hT, rfl⟩
  · exact ⟨R, Ext.refl _ _⟩
  · exact ⟨R.alloc hT, ext_alloc hT R.dom⟩
/-- for: the items xs, one after another; m: what is known at each turn -/
theorem okS_for {cb' : Option Ctx} (hi : OkI cl k S c tg it ti c1 ps) (lm : Low c1 m) (hg : OkG cl k (S.addPin ps) m tg ct c2) (hb : OkSs cl k w (S.addPin ps) c2 b bs cb' m) (l2 : endC cb' m) (hk : ∀ i ∈ kl, i ∉ ps ++ S.pin)
    (hs : ∀ X x, foldedSetIterable it X x = pure x) (u : ∀ i, fl cx i = fl m i ∨ (fl cx i = .own ∧ fl m i = .lent ∧ i ∈ ps)) :
    OkS cl k w S c (.For tg it b [] pos) (.fo ct ti bs kl) (some cx) ci := by
  refine ⟨fun X x => PS.imp (ps_for x.never x.calm (hi X x) (hg X (x.addPin ps)) (hb.ps X (x.addPin ps)) (hs X.env)) ?_, fun h => by cases h⟩
  rintro D σ H ⟨HB, F0, P, F, τ, o, τ', hp, R, ev, _, q⟩
  have ev : (evI cl ti τ).bind (fun xs => forL (bnd cl ct) (fun τ => evSs cl w bs τ) kl xs τ) = some (o, τ') := ev
  rw [Option.bind_eq_some_iff] at ev
  obtain ⟨xs, e1, ev⟩ := ev
  refine ⟨HB, F0, P, F, τ, xs, hp, R, e1, evI_nd e1, fun J H1 F1 Pn R1 hq hnd x1 hJ => ?_⟩
  obtain ⟨F2, R2, x2⟩ := R1.lowTo lm
  have hpp : PinOk (S.addPin ps).pin (Pn ++ P) := hq.1.app hp
  have pk : ∀ p ∈ Pn ++ P, p.1 ∉ kl := pin_kill hpp hk
  have nxt : ∀ σ' H' F' τ', Rel X.K HB F0 (Pn ++ P) m τ' F' σ' H' → Rel X.K HB F0 P cx τ' F' σ' H' := fun σ' H' F' τ' R' => R'.unlend hq hnd u
  refine ⟨fun i n σ' H' => n = xs.length - i ∧ ∃ F' τ2, Rel X.K HB F0 (Pn ++ P) m τ2 F' σ' H' ∧ Ext F1 H1 F' H' ∧ Ext F H F' H' ∧ forL (bnd cl ct) (fun τ => evSs cl w bs τ) kl (xs.drop i) τ2 = some (o, τ'), ⟨xs.length, rfl, F2, τ, R2, x2, x1.trans x2, ev⟩, ?_⟩
  rintro i n σ' H' ⟨rfl, F3, τ2, R3, x3, x3', ev⟩
  obtain ⟨stop, go⟩ := hJ HB F0 (Pn ++ P) m τ2 F3 σ' H' R3 (fun p h => List.mem_append_left _ h) x3 i
  by_cases hi : xs.length ≤ i
  · left
    rw [List.drop_eq_nil_of_le hi] at ev
    cases ev
    exact ⟨stop hi, q.next (nxt _ _ _ _ (R3.wipeK pk)) x3'⟩
  · right
    have hlt : i < xs.length := by omega
    have hx : xs[i]? = some xs[i] := List.getElem?_eq_getElem hlt
    obtain ⟨g, yl⟩ := go _ hx
    rw [List.drop_eq_getElem_cons hlt] at ev
    have ev : (bnd cl ct xs[i] (wipe kl τ2)).bind (fun τ1 => (evSs cl w bs τ1).bind fun r => match r.1 with
      | .nxt => forL (bnd cl ct) (fun τ => evSs cl w bs τ) kl (xs.drop (i + 1)) r.2
      | .cnt => forL (bnd cl ct) (fun τ => evSs cl w bs τ) kl (xs.drop (i + 1)) r.2
      | .brk => some (.nxt, wipe kl r.2)
      | .ret d => some (.ret d, r.2)) = some (o, τ') := ev
    rw [Option.bind_eq_some_iff] at ev
    obtain ⟨τ3, e2, ev⟩ := ev
    rw [Option.bind_eq_some_iff] at ev
    obtain ⟨⟨o1, τ4⟩, e3, e4⟩ := ev
    refine ⟨g, fun σ' H' => xs.length - (i + 1) = xs.length - (i + 1) ∧ ∃ F' τ2, Rel X.K HB F0 (Pn ++ P) m τ2 F' σ' H' ∧ Ext F1 H1 F' H' ∧ Ext F H F' H' ∧ forL (bnd cl ct) (fun τ => evSs cl w bs τ) kl (xs.drop (i + 1)) τ2 = some (o, τ'), fun σ' H' h => ⟨xs.length - (i + 1), by omega, h⟩, fun x H4 hy => ?_⟩
    obtain ⟨h4, rx⟩ := yl x H4 hy
    obtain ⟨R4, x4⟩ := R3.turn h4
    refine ⟨HB, F0, Pn ++ P, F3, _, _, τ3, hpp, R4.wipeK pk, rx, e2, fun σ5 H5 F5 R5 x5 _ => ?_⟩
    refine ⟨HB, F0, Pn ++ P, F5, τ3, o1, τ4, hpp, R5, e3, ?_⟩
    cases o1 with
    | nxt =>
      refine ⟨fun _ c'' e σ' H' F' R' y => ?_, fun z => (nomatch z), fun z => (nomatch z), fun d z => (nomatch z)⟩
      subst e
      obtain ⟨F6, R6, x6⟩ := R'.lowTo l2
      have xx := x4.trans (x5.trans (y.trans x6))
      exact ⟨rfl, F6, τ4, R6, x3.trans xx, x3'.trans xx, e4⟩
    | cnt => exact ⟨fun z => (nomatch z), fun z => (nomatch z), fun _ σ' H' F' R' y => ⟨rfl, F', τ4, R', x3.trans (x4.trans (x5.trans y)), x3'.trans (x4.trans (x5.trans y)), e4⟩, fun d z => (nomatch z)⟩
    | brk =>
      cases e4
      exact ⟨fun z => (nomatch z), fun _ σ' H' F' R' y => q.next (nxt _ _ _ _ (R'.wipeK pk)) (x3'.trans (x4.trans (x5.trans y))), fun z => (nomatch z), fun d z => (nomatch z)⟩
    | ret d =>
      cases e4
      exact ⟨fun z => (nomatch z), fun z => (nomatch z), fun z => (nomatch z), q.rt⟩
end
end PV

/-! comprehensions: what is known while the new list grows -/
namespace PV
open PySem PySem.Spec PyProof.Rows L2
section
variable {K : PySem.W.Frag} {HB : Hp} {F0 : AS} {P Pn : Pins} {c m : Ctx} {τ : Env} {F F' : AS} {σ : L2.St} {H H' : Hp} {D : Addr} {o o' : HO} {vs : List Nat}
theorem Rel.protect (R : Rel K HB F0 P c τ F σ H) (nf : ¬ F D) (no : ∀ i, ¬ Holds c τ σ i D) (hD : H D = some o) : Rel K (upd HB D o) F0 P c τ F σ H := by
  refine ⟨fun a u h => ?_, R.dom, R.f0, fun a h => ?_, R.len, fun i d h => ?_, R.sep, R.pin⟩
  · by_cases e : a = D
    · subst e; rw [upd_same] at h; cases h; exact hD
    · rw [upd_ne e] at h; exact R.same a u h
  · rcases R.f1 a h with h1 | h1
    · exact .inl h1
    · exact .inr (by rw [upd_ne fun (e : a = D) => nf (e ▸ h)]; exact h1)
  · obtain ⟨v, e, s⟩ := R.slot i d h
    refine ⟨v, e, ?_⟩
    cases hf : fl c i with
    | shr => rw [hf] at s; exact s
    | own =>
      rw [hf] at s
      rcases s with s | ⟨a, e1, e2, e3, s⟩
      · exact .inl s
      · refine .inr ⟨a, e1, e2, ?_, s⟩
        rw [upd_ne fun z => no i ⟨by rw [hf]; exact (fun z => nomatch z), by rw [e, e1, z], d, h, s.lent.mut⟩]; exact e3
    | lent =>
      rw [hf] at s
      rcases s with s | ⟨a, e1, e2, e3, s⟩
      · exact .inl s
      · refine .inr ⟨a, e1, e2, ?_, s⟩
        rw [upd_ne fun z => no i ⟨by rw [hf]; exact (fun z => nomatch z), by rw [e, e1, z], d, h, s.mut⟩]; exact e3
theorem Rel.nfD (R : Rel K (upd HB D o) F0 P c τ F σ H) (h0 : ¬ F0 D) : ¬ F D := fun h => by
  rcases R.f1 D h with h1 | h1
  · exact h0 h1
  · rw [upd_same] at h1; cases h1
theorem Rel.reprotect {xs ys : List V} (R : Rel K (upd HB D (.lst xs)) F0 P c τ F σ H) (h0 : ¬ F0 D) : Rel K (upd HB D (.lst ys)) F0 P c τ F σ (upd H D (.lst ys)) ∧ Ext F H F (upd H D (.lst ys)) := by
  have nf := R.nfD h0
  have hD := R.same D _ upd_same
  have x : Ext F H F (upd H D (.lst ys)) := ⟨fun _ h => h, fun b (h : F b) => upd_ne fun (z : b = D) => nf (z ▸ h), fun b vs h => by rw [upd_ne fun z => by rw [z, hD] at h; cases h]; exact h⟩
  have ne : ∀ b, upd HB D (HO.lst xs) b = none → b ≠ D := fun b h z => by rw [z, upd_same] at h; cases h
  have sw : ∀ b, upd HB D (HO.lst xs) b = none → upd HB D (HO.lst ys) b = none := fun b h => by
    have n := ne b h
    rw [upd_ne n] at h ⊢; exact h
  refine ⟨⟨fun a u h => ?_, fun a h => ?_, R.f0, fun a h => ?_, R.len, fun i d h => ?_, R.sep, R.pin⟩, x⟩
  · by_cases e : a = D
    · subst e; rw [upd_same] at h ⊢; exact h
    · rw [upd_ne e] at h ⊢; exact R.same a u (by rw [upd_ne e]; exact h)
  · rw [upd_ne fun (z : a = D) => nf (z ▸ h)]; exact R.dom a h
  · rcases R.f1 a h with h1 | h1
    · exact .inl h1
    · exact .inr (sw a h1)
  · obtain ⟨v, e, s⟩ := R.slot i d h
    refine ⟨v, e, ?_⟩
    cases hf : fl c i with
    | shr => rw [hf] at s; exact RepV.mono x s
    | own =>
      rw [hf] at s
      rcases s with ⟨m, s⟩ | ⟨a, e1, e2, e3, s⟩
      · exact .inl ⟨m, s.mono x⟩
      · exact .inr ⟨a, e1, e2, sw a e3, s.mono x (upd_ne (ne a e3))⟩
    | lent =>
      rw [hf] at s
      rcases s with ⟨m, s⟩ | ⟨a, e1, e2, e3, s⟩
      · exact .inl ⟨m, s.mono x⟩
      · exact .inr ⟨a, e1, e2, sw a e3, s.mono x (upd_ne (ne a e3))⟩
theorem Rel.unprotect (R : Rel K (upd HB D o) F0 P c τ F σ H) (hb : HB D = none) : Rel K HB F0 P c τ F σ H := by
  have un : ∀ a, upd HB D o a = none → HB a = none := fun a h => by
    by_cases e : a = D
    · rw [e]; exact hb
    · rw [upd_ne e] at h; exact h
  refine ⟨fun a u h => R.same a u (by rw [upd_ne fun e => by rw [e, hb] at h; cases h]; exact h), R.dom, R.f0, fun a h => (R.f1 a h).imp id (un a), R.len, fun i d h => ?_, R.sep, R.pin⟩
  obtain ⟨v, e, s⟩ := R.slot i d h
  refine ⟨v, e, ?_⟩
  cases hf : fl c i with
  | shr => rw [hf] at s; exact s
  | own =>
    rw [hf] at s
    rcases s with s | ⟨a, e1, e2, e3, s⟩
    · exact .inl s
    · exact .inr ⟨a, e1, e2, un a e3, s⟩
  | lent =>
    rw [hf] at s
    rcases s with s | ⟨a, e1, e2, e3, s⟩
    · exact .inl s
    · exact .inr ⟨a, e1, e2, un a e3, s⟩
theorem wiped_get {i : Nat} {d : PV.D} (h : (wipe vs τ)[i]? = some (some d)) : i ∉ vs ∧ τ[i]? = some (some d) := by
  rw [wipeτ_at] at h
  by_cases hi : i ∈ vs
  · rw [if_pos hi] at h
    cases e : τ[i]? with
    | none => rw [e] at h; cases h
    | some _ => rw [e] at h; cases h
  · rw [if_neg hi] at h; exact ⟨hi, h⟩
theorem Rel.wipeB (R : Rel K HB F0 P c τ F σ H) (hp : ∀ p ∈ P, p.1 ∉ vs) : Rel K HB F0 P c (wipe vs τ) F (L2.wipe σ vs) H := by
  have hol : ∀ i a, Holds c (wipe vs τ) (L2.wipe σ vs) i a → Holds c τ σ i a := fun i a ⟨h1, h2, d, h3, h4⟩ => by
    obtain ⟨hi, h3⟩ := wiped_get h3
    rw [wipe_at, if_neg hi] at h2
    exact ⟨h1, h2, d, h3, h4⟩
  refine ⟨R.same, R.dom, R.f0, R.f1, by rw [L2.wipe_length, wipe_len]; exact R.len, fun i d h => ?_, fun i j a n p q => R.sep i j a n (hol i a p) (hol j a q), fun p m => ?_⟩
  · obtain ⟨hi, h⟩ := wiped_get h
    obtain ⟨v, e, s⟩ := R.slot i d h
    exact ⟨v, by rw [wipe_at, if_neg hi]; exact e, s⟩
  · rw [wipe_at, wipeτ_at, if_neg (hp p m), if_neg (hp p m)]; exact R.pin p m
theorem Rel.back (R : Rel K HB F0 P m τ F σ H) (Rw : Rel K HB F0 P m (wipe vs τ) F' (L2.wipe σ vs) H') (x : Ext F H F' H') (hsh : ∀ i ∈ vs, fl m i = .shr) : Rel K HB F0 P m τ F' σ H' := by
  have hol : ∀ i a, Holds m τ σ i a → Holds m (wipe vs τ) (L2.wipe σ vs) i a := fun i a ⟨h1, h2, d, h3, h4⟩ => by
    have hi : i ∉ vs := fun z => h1 (hsh i z)
    exact ⟨h1, by rw [wipe_at, if_neg hi]; exact h2, d, by rw [wipeτ_at, if_neg hi]; exact h3, h4⟩
  refine ⟨Rw.same, Rw.dom, Rw.f0, Rw.f1, R.len, fun i d h => ?_, fun i j a n p q => Rw.sep i j a n (hol i a p) (hol j a q), R.pin⟩
  by_cases hi : i ∈ vs
  · obtain ⟨v, e, s⟩ := R.slot i d h
    rw [hsh i hi] at s ⊢
    exact ⟨v, e, RepV.mono x s⟩
  · obtain ⟨v, e, s⟩ := Rw.slot i d (by rw [wipeτ_at, if_neg hi]; exact h)
    rw [wipe_at, if_neg hi] at e
    exact ⟨v, e, s⟩
theorem wipe2σ : L2.wipe (L2.wipe σ vs) vs = L2.wipe σ vs := by
  apply List.ext_getElem?
  intro j
  rw [wipe_at, wipe_at]
  by_cases h : j ∈ vs
  · rw [if_pos h, if_pos h]
    cases σ[j]? <;> rfl
  · rw [if_neg h, if_neg h]
theorem wipe2τ : wipe vs (wipe vs τ) = wipe vs τ := by
  apply List.ext_getElem?
  intro j
  rw [wipeτ_at, wipeτ_at]
  by_cases h : j ∈ vs
  · rw [if_pos h, if_pos h]
    cases τ[j]? <;> rfl
  · rw [if_neg h, if_neg h]
theorem Rel.noHold {c' : Ctx} {ps : List Nat} (u : ∀ i, fl c' i = fl c i ∨ (fl c' i = .own ∧ fl c i = .lent ∧ i ∈ ps)) {i : Nat} {a : Addr} (h : Holds c' τ σ i a) : Holds c τ σ i a :=
  ⟨(by
    rcases u i with e | ⟨_, e, _⟩
    · rw [← e]; exact h.1
    · rw [e]; exact fun z => nomatch z), h.2⟩
end
/-! ### the clauses' tests -/
section
variable (cl : Nat → List D → Option D) (K : PySem.W.Frag) (pn : List Nat)
def RTs (cs : List C) (c c' : Ctx) : TT := fun σ H Q => ∃ HB F0 P F τ b, PinOk pn P ∧ Rel K HB F0 P c τ F σ H ∧ alls cl cs τ = some b ∧
  ∀ H' F', Rel K HB F0 P c' τ F' σ H' → Ext F H F' H' → Q b H'
end
def OkTs (cl : Nat → List D → Option D) (k : Nat) (S : SC) (c : Ctx) (es : List Expr) (ces : List C) (c' : Ctx) : Prop := ∀ X, XOk cl k S X → PTs X es (RTs cl X.K S.pin ces c c')
theorem PTs.imp {X : Cx} {es : List Expr} {t t' : TT} (h : PTs X es t) (i : ∀ σ H Q, t' σ H Q → t σ H Q) : PTs X es t' := ⟨fun pins s σ H Q I q => h.run pins s σ H Q I (i σ H Q q)⟩
section
variable {cl : Nat → List D → Option D} {k w : Nat} {S : SC} {c c1 c2 c3 c4 ci cc cx m : Ctx} {c' : Option Ctx} {e ei e1 e2 e3 tg it elt : Expr} {es : List Expr} {ca cb cd ce ct ti : C} {ces : List C} {fr : Bool} {pos p2 p3 p4 p5 p6 apos cpos spos py : Pos} {ps kl vs : List Nat} {i : Nat} {y : Str}
theorem okTs_nil : OkTs cl k S c [] [] c := fun X x => PTs.imp pts_nil (by
  rintro σ H Q ⟨HB, F0, P, F, τ, b, hp, R, ev, q⟩
  cases ev
  exact q H F R (Ext.refl F H))
theorem okTs_one (h : OkT cl k S c e ct c1) : OkTs cl k S c [e] [ct] c1 := fun X x => PTs.imp (pts_one (h X x)) (by
  rintro σ H Q ⟨HB, F0, P, F, τ, b, hp, R, ev, q⟩
  have ev : (evE cl ct τ).bind (fun x => (truD x).bind fun t => if t then some true else some false) = some b := ev
  simp only [Option.bind_eq_some_iff] at ev
  obtain ⟨x, e1, t, e2, e3⟩ := ev
  have e4 : b = t := by cases t <;> cases e3 <;> rfl
  subst e4
  exact ⟨HB, F0, P, F, τ, b, hp, R, (by
    show (evE cl ct τ).bind truD = some b
    rw [e1]; exact e2), q⟩)
end
end PV

/-! list comprehensions -/
namespace PV
open PySem PySem.Spec PyProof.Rows L2
def SC.blk (S : SC) (scope : Scope) : SC := { S with sc := relS scope S.sc, raw := some scope }
theorem XOk.blk {cl : Nat → List D → Option D} {k : Nat} {S : SC} {X : Cx} (x : XOk cl k S X) {scope : Scope} (hk : scope.kind = .function) (s : Shared) (H : Hp) (C : Addr) (cs : List (Str × Addr)) (fp : List Addr) :
    XOk cl k (S.blk scope) (X.blk s H scope (compEnvC scope cs C X.env) fp) := by
  refine ⟨x.hN, x.nd, ?_, x.calm, fun y h => h, x.free, x.glob, x.funs, x.room, rfl, hk⟩
  show relS scope X.env.scope = relS scope S.sc
  rw [x.sc]
section
variable {cl : Nat → List D → Option D} {K : PySem.W.Frag} {pn : List Nat}
variable {c c1 c2 c3 c4 ci cc cx m : Ctx} {ca cb cd ce ct ti : C} {ces cs : List C} {ps vs : List Nat}
theorem flatL_cons {α β : Type} {f : α → Option (List β)} {x : α} {r : List α} {all : List β} (h : flatL f (x :: r) = some all) : ∃ a b, f x = some a ∧ flatL f r = some b ∧ all = a ++ b := by
  have h : (f x).bind (fun a => (flatL f r).map (a ++ ·)) = some all := h
  simp only [Option.bind_eq_some_iff, Option.map_eq_some_iff] at h
  obtain ⟨a, h1, b, h2, h3⟩ := h
  exact ⟨a, b, h1, h2, h3.symm⟩
theorem turn_key {τ : Env} {d : D} {a : List D} {g : Env → Option (List D)} (h : sTurn (bnd cl ct d τ) (fun τ => alls cl cs τ) g = some a) : ∃ τ1 b, bnd cl ct d τ = some τ1 ∧ alls cl cs τ1 = some b ∧ ((b = true ∧ g τ1 = some a) ∨ (b = false ∧ a = [])) := by
  have h : (bnd cl ct d τ).bind (fun τ1 => (alls cl cs τ1).bind fun t => if t then g τ1 else some []) = some a := h
  simp only [Option.bind_eq_some_iff] at h
  obtain ⟨τ1, h1, b, h2, h3⟩ := h
  refine ⟨τ1, b, h1, h2, ?_⟩
  cases b with
  | true => rw [if_pos rfl] at h3; exact .inl ⟨rfl, h3⟩
  | false => rw [if_neg Bool.false_ne_true] at h3; cases h3; exact .inr ⟨rfl, rfl⟩
theorem lc_key {g : C} {τ : Env} {d : D} (h : evE cl (.lc g) τ = some d) : ∃ all, evG cl g τ = some all ∧ all.length ≤ 1000000 ∧ d = .lst all := by
  have h : (evG cl g τ).bind (fun ds => if szOk ds.length then some (.lst ds) else none) = some d := h
  rw [Option.bind_eq_some_iff] at h
  obtain ⟨all, h1, h2⟩ := h
  split at h2
  · rename_i hz; cases h2; exact ⟨all, h1, of_decide_eq_true hz, rfl⟩
  · cases h2
theorem gen_key {τ : Env} {all : List D} {inner : C} (h : evG cl (.gen vs ct ti cs inner) τ = some all) : ∃ xs, evI cl ti τ = some xs ∧ flatL (fun x => sTurn (bnd cl ct x (wipe vs τ)) (fun τ => alls cl cs τ) (fun τ => evG cl inner τ)) xs = some all := by
  have h : ((evE cl ti τ).bind itemsD).bind (flatL fun x => sTurn (bnd cl ct x (wipe vs τ)) (fun τ => alls cl cs τ) (fun τ => evG cl inner τ)) = some all := h
  rw [Option.bind_eq_some_iff] at h
  exact h
theorem elt_key {τ : Env} {a : List D} (h : evG cl (.elt ce) τ = some a) : ∃ y, evE cl ce τ = some y ∧ a = [y] := by
  have h : (evE cl ce τ).map (fun x => [x]) = some a := h
  rw [Option.map_eq_some_iff] at h
  obtain ⟨y, h1, h2⟩ := h
  exact ⟨y, h1, h2.symm⟩
/-- the reading of [elt for tg in iter if ..] -/
theorem lc_read (lm : Low c1 m) (hsh : ∀ i ∈ vs, fl m i = .shr) (hvs : ∀ i ∈ vs, i ∉ ps ++ pn) (htg : tgIn vs ct = true) (l3 : Low c3 m) (l4 : Low c4 m) (u : ∀ i, fl cx i = fl m i ∨ (fl cx i = .own ∧ fl m i = .lent ∧ i ∈ ps)) :
    ∀ σ H Q, RE cl K pn (.lc (.gen vs ct ti cs (.elt ce))) c cx true σ H Q → tLc (RI cl K pn ti c c1 ps) (RG cl K (ps ++ pn) ct m c2) (RTs cl K (ps ++ pn) cs c2 c3) (RE cl K (ps ++ pn) ce c3 c4 false) vs σ H Q := by
  rintro σ H Q ⟨HB, F0, P, F, τ, d, hp, R, ev, q⟩
  obtain ⟨all, hG, hz, rfl⟩ := lc_key ev
  obtain ⟨xs, e1, e2⟩ := gen_key hG
  refine ⟨HB, F0, P, F, τ, xs, hp, R, e1, evI_nd e1, fun J H1 F1 Pn R1 hq hnd x1 hJ D hD => ?_⟩
  obtain ⟨F2, R2, x2⟩ := R1.lowTo lm
  obtain ⟨Ra, xa, nfa, hba, noa⟩ := R2.newObj (o := .lst []) hD
  have h0 : ¬ F0 D := fun z => nfa (R2.f0 D z)
  have hpp : PinOk (ps ++ pn) (Pn ++ P) := hq.1.app hp
  have pk : ∀ p ∈ Pn ++ P, p.1 ∉ vs := fun p hm hv => hvs p.1 hv (hpp p hm)
  have Rw := (Ra.protect nfa noa upd_same).wipeB (vs := vs) pk
  refine ⟨fun i n H' => n = xs.length - i ∧ ∃ F' done acc rest, Rel K (upd HB D (.lst acc)) F0 (Pn ++ P) m (wipe vs τ) F' (L2.wipe σ vs) H' ∧ Ext F2 (upd H1 D (.lst [])) F' H' ∧ RepL K F' H' done acc ∧
    flatL (fun x => sTurn (bnd cl ct x (wipe vs τ)) (fun τ => alls cl cs τ) (fun τ => evG cl (.elt ce) τ)) (xs.drop i) = some rest ∧ done ++ rest = all, ⟨xs.length, rfl, F2, [], [], all, Rw, Ext.refl _ _, .nil, e2, rfl⟩, ?_⟩
  rintro i n H' ⟨rfl, F', done, acc, rest, R', x', rl, er, ed⟩
  obtain ⟨stop, go⟩ := hJ _ F0 (Pn ++ P) m _ F' _ H' R' (fun p h => List.mem_append_left _ h) (x2.trans (xa.trans x')) i
  have hlen : done.length ≤ 1000000 := by
    have : (done ++ rest).length ≤ 1000000 := by rw [ed]; exact hz
    rw [List.length_append] at this; omega
  by_cases hi : xs.length ≤ i
  · left
    rw [List.drop_eq_nil_of_le hi] at er
    cases er
    rw [List.append_nil] at ed
    subst ed
    have Rb := R2.back (R'.unprotect hba) (xa.trans x') hsh
    refine ⟨stop hi, q (.ref D) H' F' (Rb.unlend hq hnd u) (x1.trans (x2.trans (xa.trans x'))) ?_⟩
    exact .inr ⟨D, rfl, R'.nfD h0, hba, ⟨acc, R'.same D _ upd_same, rl⟩, fun j hj => noa j (Rel.noHold u hj)⟩
  · right
    have hlt : i < xs.length := by omega
    have hx : xs[i]? = some xs[i] := List.getElem?_eq_getElem hlt
    obtain ⟨g, yl⟩ := go _ hx
    rw [List.drop_eq_getElem_cons hlt] at er
    obtain ⟨a, b, ea, eb, rfl⟩ := flatL_cons er
    obtain ⟨τ3, t, e3, e4, e5⟩ := turn_key ea
    refine ⟨g, fun H' => xs.length - (i + 1) = xs.length - (i + 1) ∧ ∃ F' done acc rest, Rel K (upd HB D (.lst acc)) F0 (Pn ++ P) m (wipe vs τ) F' (L2.wipe σ vs) H' ∧ Ext F2 (upd H1 D (.lst [])) F' H' ∧ RepL K F' H' done acc ∧
      flatL (fun x => sTurn (bnd cl ct x (wipe vs τ)) (fun τ => alls cl cs τ) (fun τ => evG cl (.elt ce) τ)) (xs.drop (i + 1)) = some rest ∧ done ++ rest = all, fun H' h => ⟨xs.length - (i + 1), by omega, h⟩, fun x H4 hy => ?_⟩
    obtain ⟨h4, rx⟩ := yl x H4 hy
    obtain ⟨R4, x4⟩ := R'.turn h4
    refine ⟨_, F0, Pn ++ P, F', _, _, τ3, hpp, R4, rx, e3, fun σ5 H5 F5 R5 x5 o5 => ?_⟩
    obtain ⟨o5, o6⟩ := o5 vs htg
    rw [wipe2σ] at o5
    rw [wipe2τ] at o6
    refine ⟨by rw [o5], _, F0, Pn ++ P, F5, τ3, t, hpp, R5, e4, fun H6 F6 R6 x6 => ?_⟩
    rcases e5 with ⟨rfl, e5⟩ | ⟨rfl, rfl⟩
    · rw [if_pos rfl]
      obtain ⟨y, e6, rfl⟩ := elt_key e5
      refine ⟨_, F0, Pn ++ P, F6, τ3, y, hpp, R6, e6, fun v H7 F7 R7 x7 r7 => ?_⟩
      have sl : sizeLine = 16777216 := rfl
      have := rl.length
      refine ⟨acc, R7.same D _ upd_same, by omega, rfl, ?_⟩
      obtain ⟨F8, R8, x8⟩ := R7.lowTo l4
      have R9 := R8.wipeB (vs := vs) pk
      rw [o5, o6] at R9
      obtain ⟨R10, x10⟩ := R9.reprotect (ys := acc ++ [v]) h0
      have xx := x4.trans (x5.trans (x6.trans (x7.trans (x8.trans x10))))
      have r7 : RepV K F7 H7 y v := r7
      exact ⟨F8, done ++ [y], acc ++ [v], b, R10, x'.trans xx, (rl.mono xx).append (.cons (r7.mono (x8.trans x10)) .nil), eb, by rw [List.append_assoc]; exact ed⟩
    · rw [if_neg Bool.false_ne_true]
      obtain ⟨F8, R8, x8⟩ := R6.lowTo l3
      have R9 := R8.wipeB (vs := vs) pk
      rw [o5, o6] at R9
      have xx := x4.trans (x5.trans (x6.trans x8))
      exact ⟨rfl, F8, done, acc, b, R9, x'.trans xx, rl.mono xx, eb, ed⟩
end
section
variable {cl : Nat → List D → Option D} {k w : Nat} {S : SC} {c c1 c2 c3 c4 ci cc cx m : Ctx} {c' : Option Ctx} {e ei e1 e2 e3 tg it elt : Expr} {es ifs : List Expr} {ca cb cd ce ct ti : C} {ces cs : List C} {fr : Bool} {pos p2 p3 p4 p5 p6 apos cpos spos py : Pos} {ps kl vs : List Nat} {i : Nat} {y : Str} {scope : Scope} {own : List (Str × Nat)}
theorem ok_lc (hi : OkI cl k S c tg it ti c1 ps) (hb : blkC S.N S.sc scope own = true) (hv : vs = own.map (·.2)) (lm : Low c1 m) (hsh : ∀ i ∈ vs, fl m i = .shr) (hvs : ∀ i ∈ vs, i ∉ ps ++ S.pin) (htg : tgIn vs ct = true)
    (hg : OkG cl k ((S.addPin ps).blk scope) m tg ct c2) (ht : OkTs cl k ((S.addPin ps).blk scope) c2 ifs cs c3) (he : OkE cl k ((S.addPin ps).blk scope) c3 elt ce c4 fr) (l3 : Low c3 m) (l4 : Low c4 m) (u : ∀ i, fl cx i = fl m i ∨ (fl cx i = .own ∧ fl m i = .lent ∧ i ∈ ps))
    (hs : ∀ X x, foldedSetIterable it X x = pure x) :
    OkE cl k S c (.ListComp elt [⟨tg, it, ifs, 0⟩] scope pos) (.lc (.gen vs ct ti cs (.elt ce))) cx true := fun X x => by
  have ok := blkOk_by hb
  have xb := fun s H C csl fp => (x.addPin ps).blk (scope := scope) ok.kind s H C csl fp
  subst hv
  have hG : ∀ (s : Shared) (H : Hp) (C : Addr) (csl : List (Str × Addr)) (fp : List Addr), PG (X.blk s H scope (compEnvC scope csl C X.env) fp) tg (RG cl X.K (ps ++ S.pin) ct m c2) := fun s H C csl fp => hg _ (xb s H C csl fp)
  have hT : ∀ (s : Shared) (H : Hp) (C : Addr) (csl : List (Str × Addr)) (fp : List Addr), PTs (X.blk s H scope (compEnvC scope csl C X.env) fp) ifs (RTs cl X.K (ps ++ S.pin) cs c2 c3) := fun s H C csl fp => ht _ (xb s H C csl fp)
  have hE : ∀ (s : Shared) (H : Hp) (C : Addr) (csl : List (Str × Addr)) (fp : List Addr), PE (X.blk s H scope (compEnvC scope csl C X.env) fp) elt (RE cl X.K (ps ++ S.pin) ce c3 c4 false) := fun s H C csl fp => he.shared _ (xb s H C csl fp)
  exact PE.imp (pe_lc x.calm x.nd (hi X x) (by rw [x.hN, x.sc]; exact ok) hG hT hE (hs X.env))
    (lc_read lm hsh hvs htg l3 l4 u)
/-- name = [..], on one line -/
theorem okS_setLc (hs1 : locB S y = true) (hN : S.N[i]? = some y) (hpn : i ∉ S.pin) (hcx : i < cx.length) (hl : (py.line == pos.line) = true) (hna : (scope.names.any fun (n, k) => n == y && (k == .local || k == .cell)) = false)
    (hi : OkI cl k S c tg it ti c1 ps) (hb : blkC S.N S.sc scope own = true) (hv : vs = own.map (·.2)) (lm : Low c1 m) (hsh : ∀ i ∈ vs, fl m i = .shr) (hvs : ∀ i ∈ vs, i ∉ ps ++ S.pin) (htg : tgIn vs ct = true)
    (hg : OkG cl k ((S.addPin ps).blk scope) m tg ct c2) (ht : OkTs cl k ((S.addPin ps).blk scope) c2 ifs cs c3) (he : OkE cl k ((S.addPin ps).blk scope) c3 elt ce c4 fr) (l3 : Low c3 m) (l4 : Low c4 m) (u : ∀ i, fl cx i = fl m i ∨ (fl cx i = .own ∧ fl m i = .lent ∧ i ∈ ps))
    (hs : ∀ X x, foldedSetIterable it X x = pure x) :
    OkS cl k w S c (.Assign [.Name y py] (.ListComp elt [⟨tg, it, ifs, 0⟩] scope pos) spos) (.asg (.v i) (.lc (.gen vs ct ti cs (.elt ce)))) (some (cx.set i .own)) ci := by
  refine ⟨fun X x => ?_, fun h => by cases h⟩
  have ok := blkOk_by hb
  have xb := fun s H C csl fp => (x.addPin ps).blk (scope := scope) ok.kind s H C csl fp
  subst hv
  have hk : X.env.scope.kind = .function := by rw [x.sc]; exact x.kind
  have hG : ∀ (s : Shared) (H : Hp) (C : Addr) (csl : List (Str × Addr)) (fp : List Addr), PG (X.blk s H scope (compEnvC scope csl C X.env) fp) tg (RG cl X.K (ps ++ S.pin) ct m c2) := fun s H C csl fp => hg _ (xb s H C csl fp)
  have hT : ∀ (s : Shared) (H : Hp) (C : Addr) (csl : List (Str × Addr)) (fp : List Addr), PTs (X.blk s H scope (compEnvC scope csl C X.env) fp) ifs (RTs cl X.K (ps ++ S.pin) cs c2 c3) := fun s H C csl fp => ht _ (xb s H C csl fp)
  have hE : ∀ (s : Shared) (H : Hp) (C : Addr) (csl : List (Str × Addr)) (fp : List Addr), PE (X.blk s H scope (compEnvC scope csl C X.env) fp) elt (RE cl X.K (ps ++ S.pin) ce c3 c4 false) := fun s H C csl fp => he.shared _ (xb s H C csl fp)
  refine PS.imp (ps_setLc x.calm x.nd (by rw [x.hN]; exact hN) (locB_ok x hs1) (sw_true hk (locB_ok x hs1) hl hna) (hi X x) (by rw [x.hN, x.sc]; exact ok) hG hT hE (hs X.env)) ?_
  rintro D σ H ⟨HB, F0, P, F, τ, o, τ', hp, R, ev, _, q⟩
  obtain ⟨d, e1, e2, rfl⟩ := asg_key _ _ _ ev
  have e3 : τ' = τ.set i (some d) := bindV_some e2
  subst e3
  exact lc_read (cl := cl) lm hsh hvs htg l3 l4 u σ H _ ⟨HB, F0, P, F, τ, d, hp, R, e1, fun v H1 F1 R1 x1 r1 => q.next (R1.setOwn r1 (pin_ne hp hpn) hcx) x1⟩
end
end PV

/-! list comprehensions of two clauses -/
namespace PV
open PySem PySem.Spec PyProof.Rows L2
section
variable {cl : Nat → List D → Option D} {K : PySem.W.Frag} {pn : List Nat}
variable {c c1 c2 c3 c4 c5 c6 c7 c8 ci cc cx cx1 m m1 : Ctx} {ca cb cd ce ct ti ct1 ti1 : C} {ces cs cs1 : List C} {ps vs ps1 vs1 : List Nat}
theorem wipe_subσ {σ : L2.St} (h : ∀ i ∈ vs1, i ∈ vs) : L2.wipe (L2.wipe σ vs1) vs = L2.wipe σ vs := by
  apply List.ext_getElem?
  intro j
  rw [wipe_at, wipe_at, wipe_at]
  by_cases hj : j ∈ vs
  · rw [if_pos hj, if_pos hj]
    split
    · cases σ[j]? <;> rfl
    · rfl
  · rw [if_neg hj, if_neg hj, if_neg (fun z => hj (h j z))]
theorem wipe_subτ {τ : Env} (h : ∀ i ∈ vs1, i ∈ vs) : wipe vs (wipe vs1 τ) = wipe vs τ := by
  apply List.ext_getElem?
  intro j
  rw [wipeτ_at, wipeτ_at, wipeτ_at]
  by_cases hj : j ∈ vs
  · rw [if_pos hj, if_pos hj]
    split
    · cases τ[j]? <;> rfl
    · rfl
  · rw [if_neg hj, if_neg hj, if_neg (fun z => hj (h j z))]
theorem lc2_read (lm : Low c1 m) (hsh : ∀ i ∈ vs, fl m i = .shr) (hvs : ∀ i ∈ vs, i ∉ ps ++ pn) (htg : tgIn vs ct = true) (l3 : Low c3 m) (u : ∀ i, fl cx i = fl m i ∨ (fl cx i = .own ∧ fl m i = .lent ∧ i ∈ ps))
    (lm1 : Low c5 m1) (hsub : ∀ i ∈ vs1, i ∈ vs) (hvs1 : ∀ i ∈ vs, i ∉ ps1) (htg1 : tgIn vs1 ct1 = true) (l7 : Low c7 m1) (l8 : Low c8 m1) (u1 : ∀ i, fl cx1 i = fl m1 i ∨ (fl cx1 i = .own ∧ fl m1 i = .lent ∧ i ∈ ps1)) (lx1 : Low cx1 m) :
    ∀ σ H Q, RE cl K pn (.lc (.gen vs ct ti cs (.gen vs1 ct1 ti1 cs1 (.elt ce)))) c cx true σ H Q → tLc2 (RI cl K pn ti c c1 ps) (RG cl K (ps ++ pn) ct m c2) (RTs cl K (ps ++ pn) cs c2 c3)
      (RI cl K (ps ++ pn) ti1 c3 c5 ps1) (RG cl K (ps1 ++ (ps ++ pn)) ct1 m1 c6) (RTs cl K (ps1 ++ (ps ++ pn)) cs1 c6 c7) (RE cl K (ps1 ++ (ps ++ pn)) ce c7 c8 false) vs vs1 σ H Q := by
  rintro σ H Q ⟨HB, F0, P, F, τ, d, hp, R, ev, q⟩
  obtain ⟨all, hG, hz, rfl⟩ := lc_key ev
  obtain ⟨xs, e1, e2⟩ := gen_key hG
  refine ⟨HB, F0, P, F, τ, xs, hp, R, e1, evI_nd e1, fun J H1 F1 Pn R1 hq hnd x1 hJ D hD => ?_⟩
  obtain ⟨F2, R2, x2⟩ := R1.lowTo lm
  obtain ⟨Ra, xa, nfa, hba, noa⟩ := R2.newObj (o := .lst []) hD
  have h0 : ¬ F0 D := fun z => nfa (R2.f0 D z)
  have hpp : PinOk (ps ++ pn) (Pn ++ P) := hq.1.app hp
  have pk : ∀ p ∈ Pn ++ P, p.1 ∉ vs := fun p hm hv => hvs p.1 hv (hpp p hm)
  have Rw := (Ra.protect nfa noa upd_same).wipeB (vs := vs) pk
  refine ⟨fun i n H' => n = xs.length - i ∧ ∃ F' done acc rest, Rel K (upd HB D (.lst acc)) F0 (Pn ++ P) m (wipe vs τ) F' (L2.wipe σ vs) H' ∧ Ext F2 (upd H1 D (.lst [])) F' H' ∧ RepL K F' H' done acc ∧
    flatL (fun x => sTurn (bnd cl ct x (wipe vs τ)) (fun τ => alls cl cs τ) (fun τ => evG cl (.gen vs1 ct1 ti1 cs1 (.elt ce)) τ)) (xs.drop i) = some rest ∧ done ++ rest = all, ⟨xs.length, rfl, F2, [], [], all, Rw, Ext.refl _ _, .nil, e2, rfl⟩, ?_⟩
  rintro i n H' ⟨rfl, F', done, acc, rest, R', x', rl, er, ed⟩
  obtain ⟨stop, go⟩ := hJ _ F0 (Pn ++ P) m _ F' _ H' R' (fun p h => List.mem_append_left _ h) (x2.trans (xa.trans x')) i
  by_cases hi : xs.length ≤ i
  · left
    rw [List.drop_eq_nil_of_le hi] at er
    cases er
    rw [List.append_nil] at ed
    subst ed
    have Rb := R2.back (R'.unprotect hba) (xa.trans x') hsh
    refine ⟨stop hi, q (.ref D) H' F' (Rb.unlend hq hnd u) (x1.trans (x2.trans (xa.trans x'))) ?_⟩
    exact .inr ⟨D, rfl, R'.nfD h0, hba, ⟨acc, R'.same D _ upd_same, rl⟩, fun j hj => noa j (Rel.noHold u hj)⟩
  · right
    have hlt : i < xs.length := by omega
    have hx : xs[i]? = some xs[i] := List.getElem?_eq_getElem hlt
    obtain ⟨g, yl⟩ := go _ hx
    rw [List.drop_eq_getElem_cons hlt] at er
    obtain ⟨a, b, ea, eb, rfl⟩ := flatL_cons er
    obtain ⟨τ3, t, e3, e4, e5⟩ := turn_key ea
    refine ⟨g, fun H' => ∃ F' done acc rest, Rel K (upd HB D (.lst acc)) F0 (Pn ++ P) m (wipe vs τ) F' (L2.wipe σ vs) H' ∧ Ext F2 (upd H1 D (.lst [])) F' H' ∧ RepL K F' H' done acc ∧
      flatL (fun x => sTurn (bnd cl ct x (wipe vs τ)) (fun τ => alls cl cs τ) (fun τ => evG cl (.gen vs1 ct1 ti1 cs1 (.elt ce)) τ)) (xs.drop (i + 1)) = some rest ∧ done ++ rest = all, fun H' h => ⟨xs.length - (i + 1), by omega, rfl, h⟩, fun x H4 hy => ?_⟩
    obtain ⟨h4, rx⟩ := yl x H4 hy
    obtain ⟨R4, x4⟩ := R'.turn h4
    refine ⟨_, F0, Pn ++ P, F', _, _, τ3, hpp, R4, rx, e3, fun σ5 H5 F5 R5 x5 o5 => ?_⟩
    obtain ⟨o5, o6⟩ := o5 vs htg
    rw [wipe2σ] at o5
    rw [wipe2τ] at o6
    refine ⟨by rw [o5], _, F0, Pn ++ P, F5, τ3, t, hpp, R5, e4, fun H6 F6 R6 x6 => ?_⟩
    rcases e5 with ⟨rfl, e5⟩ | ⟨rfl, rfl⟩
    · rw [if_pos rfl]
      obtain ⟨xs1, f1, f2⟩ := gen_key e5
      refine ⟨_, F0, Pn ++ P, F6, τ3, xs1, hpp, R6, f1, evI_nd f1, fun J1 G1 K1 Pm S1 hq1 hnd1 y1 hJ1 => ?_⟩
      obtain ⟨K2, S2, y2⟩ := S1.lowTo lm1
      have hpp1 : PinOk (ps1 ++ (ps ++ pn)) (Pm ++ (Pn ++ P)) := hq1.1.app hpp
      have pk1 : ∀ p ∈ Pm ++ (Pn ++ P), p.1 ∉ vs := fun p hm hv => by
        rcases List.mem_append.mp (hpp1 p hm) with h | h
        · exact hvs1 p.1 hv h
        · exact hvs p.1 hv h
      have pk2 : ∀ p ∈ Pm ++ (Pn ++ P), p.1 ∉ vs1 := fun p hm hv => pk1 p hm (hsub _ hv)
      have Sw := S2.wipeB (vs := vs1) pk2
      have y0 := x4.trans (x5.trans (x6.trans (y1.trans y2)))
      refine ⟨fun j n H' => n = xs1.length - j ∧ ∃ K' done1 acc1 rest1, Rel K (upd HB D (.lst acc1)) F0 (Pm ++ (Pn ++ P)) m1 (wipe vs1 τ3) K' (L2.wipe σ5 vs1) H' ∧ Ext K2 G1 K' H' ∧ RepL K K' H' (done ++ done1) acc1 ∧
        flatL (fun x => sTurn (bnd cl ct1 x (wipe vs1 τ3)) (fun τ => alls cl cs1 τ) (fun τ => evG cl (.elt ce) τ)) (xs1.drop j) = some rest1 ∧ done1 ++ rest1 = a, ⟨xs1.length, rfl, K2, [], acc, a, Sw, Ext.refl _ _, by rw [List.append_nil]; exact rl.mono y0, f2, rfl⟩, ?_⟩
      rintro j n H' ⟨rfl, K', done1, acc1, rest1, S', z', rl1, er1, ed1⟩
      obtain ⟨stop1, go1⟩ := hJ1 _ F0 (Pm ++ (Pn ++ P)) m1 _ K' _ H' S' (fun p h => List.mem_append_left _ h) (y2.trans z') j
      by_cases hj : xs1.length ≤ j
      · left
        rw [List.drop_eq_nil_of_le hj] at er1
        cases er1
        rw [List.append_nil] at ed1
        subst ed1
        refine ⟨stop1 hj, ?_⟩
        obtain ⟨K8, S8, z8⟩ := (S'.unlend hq1 hnd1 u1).lowTo lx1
        have S9 := S8.wipeB (vs := vs) pk
        rw [wipe_subσ hsub, wipe_subτ hsub, o5, o6] at S9
        exact ⟨K8, done ++ done1, acc1, b, S9, x'.trans (y0.trans (z'.trans z8)), rl1.mono z8, eb, by rw [List.append_assoc]; exact ed⟩
      · right
        have hlt1 : j < xs1.length := by omega
        have hx1 : xs1[j]? = some xs1[j] := List.getElem?_eq_getElem hlt1
        obtain ⟨g1, yl1⟩ := go1 _ hx1
        rw [List.drop_eq_getElem_cons hlt1] at er1
        obtain ⟨a1, b1, ea1, eb1, rfl⟩ := flatL_cons er1
        obtain ⟨τ6, t1, f3, f4, f5⟩ := turn_key ea1
        refine ⟨g1, fun H' => ∃ K' done1 acc1 rest1, Rel K (upd HB D (.lst acc1)) F0 (Pm ++ (Pn ++ P)) m1 (wipe vs1 τ3) K' (L2.wipe σ5 vs1) H' ∧ Ext K2 G1 K' H' ∧ RepL K K' H' (done ++ done1) acc1 ∧
          flatL (fun x => sTurn (bnd cl ct1 x (wipe vs1 τ3)) (fun τ => alls cl cs1 τ) (fun τ => evG cl (.elt ce) τ)) (xs1.drop (j + 1)) = some rest1 ∧ done1 ++ rest1 = a, fun H' h => ⟨xs1.length - (j + 1), by omega, rfl, h⟩, fun x H4 hy => ?_⟩
        obtain ⟨h4, rx⟩ := yl1 x H4 hy
        obtain ⟨S4, z4⟩ := S'.turn h4
        refine ⟨_, F0, Pm ++ (Pn ++ P), K', _, _, τ6, hpp1, S4, rx, f3, fun σ7 H7 K7 S7 z7 o7 => ?_⟩
        obtain ⟨o7, o8⟩ := o7 vs1 htg1
        rw [wipe2σ] at o7
        rw [wipe2τ] at o8
        refine ⟨by rw [o7], _, F0, Pm ++ (Pn ++ P), K7, τ6, t1, hpp1, S7, f4, fun H8 K8 S8 z8 => ?_⟩
        rcases f5 with ⟨rfl, f5⟩ | ⟨rfl, rfl⟩
        · rw [if_pos rfl]
          obtain ⟨y, f6, rfl⟩ := elt_key f5
          refine ⟨_, F0, Pm ++ (Pn ++ P), K8, τ6, y, hpp1, S8, f6, fun v H9 K9 S9 z9 r9 => ?_⟩
          have sl : sizeLine = 16777216 := rfl
          have hlen : (done ++ done1).length ≤ 1000000 := by
            rw [← ed, ← ed1] at hz
            simp only [List.length_append] at hz ⊢; omega
          have := rl1.length
          refine ⟨acc1, S9.same D _ upd_same, by omega, ?_⟩
          obtain ⟨Ka, Sa, za⟩ := S9.lowTo l8
          have Sb := Sa.wipeB (vs := vs1) pk2
          rw [o7, o8] at Sb
          obtain ⟨Sc, zc⟩ := Sb.reprotect (ys := acc1 ++ [v]) h0
          have zz := z4.trans (z7.trans (z8.trans (z9.trans (za.trans zc))))
          have r9 : RepV K K9 H9 y v := r9
          refine ⟨Ka, done1 ++ [y], acc1 ++ [v], b1, Sc, z'.trans zz, ?_, eb1, by rw [List.append_assoc]; exact ed1⟩
          rw [← List.append_assoc]
          exact (rl1.mono zz).append (.cons (r9.mono (za.trans zc)) .nil)
        · rw [if_neg Bool.false_ne_true]
          obtain ⟨Ka, Sa, za⟩ := S8.lowTo l7
          have Sb := Sa.wipeB (vs := vs1) pk2
          rw [o7, o8] at Sb
          have zz := z4.trans (z7.trans (z8.trans za))
          exact ⟨Ka, done1, acc1, b1, Sb, z'.trans zz, rl1.mono zz, eb1, ed1⟩
    · rw [if_neg Bool.false_ne_true]
      obtain ⟨F8, R8, x8⟩ := R6.lowTo l3
      have R9 := R8.wipeB (vs := vs) pk
      rw [o5, o6] at R9
      have xx := x4.trans (x5.trans (x6.trans x8))
      exact ⟨F8, done, acc, b, R9, x'.trans xx, rl.mono xx, eb, ed⟩
end
section
variable {cl : Nat → List D → Option D} {k w : Nat} {S : SC} {c c1 c2 c3 c4 c5 c6 c7 c8 ci cc cx cx1 m m1 : Ctx} {c' : Option Ctx} {e ei e1 e2 e3 tg it elt tg1 it1 : Expr} {es ifs ifs1 : List Expr} {ca cb cd ce ct ti ct1 ti1 : C} {ces cs cs1 : List C} {fr : Bool} {pos p2 p3 p4 p5 p6 apos cpos spos py : Pos} {ps kl vs ps1 vs1 : List Nat} {i : Nat} {y : Str} {scope : Scope} {own : List (Str × Nat)}
theorem ok_lc2 (hi : OkI cl k S c tg it ti c1 ps) (hb : blkC S.N S.sc scope own = true) (hv : vs = own.map (·.2)) (lm : Low c1 m) (hsh : ∀ i ∈ vs, fl m i = .shr) (hvs : ∀ i ∈ vs, i ∉ ps ++ S.pin) (htg : tgIn vs ct = true)
    (hg : OkG cl k ((S.addPin ps).blk scope) m tg ct c2) (ht : OkTs cl k ((S.addPin ps).blk scope) c2 ifs cs c3) (l3 : Low c3 m) (u : ∀ i, fl cx i = fl m i ∨ (fl cx i = .own ∧ fl m i = .lent ∧ i ∈ ps))
    (hi1 : OkI cl k ((S.addPin ps).blk scope) c3 tg1 it1 ti1 c5 ps1) (lm1 : Low c5 m1) (hsub : ∀ i ∈ vs1, i ∈ vs) (hvs1 : ∀ i ∈ vs, i ∉ ps1) (htg1 : tgIn vs1 ct1 = true)
    (hg1 : OkG cl k (((S.addPin ps).blk scope).addPin ps1) m1 tg1 ct1 c6) (ht1 : OkTs cl k (((S.addPin ps).blk scope).addPin ps1) c6 ifs1 cs1 c7) (he : OkE cl k (((S.addPin ps).blk scope).addPin ps1) c7 elt ce c8 fr)
    (l7 : Low c7 m1) (l8 : Low c8 m1) (u1 : ∀ i, fl cx1 i = fl m1 i ∨ (fl cx1 i = .own ∧ fl m1 i = .lent ∧ i ∈ ps1)) (lx1 : Low cx1 m)
    (hs : ∀ X x, foldedSetIterable it X x = pure x) (hs1 : ∀ X x, foldedSetIterable it1 X x = pure x) :
    OkE cl k S c (.ListComp elt [⟨tg, it, ifs, 0⟩, ⟨tg1, it1, ifs1, 0⟩] scope pos) (.lc (.gen vs ct ti cs (.gen vs1 ct1 ti1 cs1 (.elt ce)))) cx true := fun X x => by
  have ok := blkOk_by hb
  have xb := fun s H C csl fp => (x.addPin ps).blk (scope := scope) ok.kind s H C csl fp
  subst hv
  have hG : ∀ (s : Shared) (H : Hp) (C : Addr) (csl : List (Str × Addr)) (fp : List Addr), PG (X.blk s H scope (compEnvC scope csl C X.env) fp) tg (RG cl X.K (ps ++ S.pin) ct m c2) := fun s H C csl fp => hg _ (xb s H C csl fp)
  have hT : ∀ (s : Shared) (H : Hp) (C : Addr) (csl : List (Str × Addr)) (fp : List Addr), PTs (X.blk s H scope (compEnvC scope csl C X.env) fp) ifs (RTs cl X.K (ps ++ S.pin) cs c2 c3) := fun s H C csl fp => ht _ (xb s H C csl fp)
  have hI1 : ∀ (s : Shared) (H : Hp) (C : Addr) (csl : List (Str × Addr)) (fp : List Addr), PI (X.blk s H scope (compEnvC scope csl C X.env) fp) tg1 it1 (RI cl X.K (ps ++ S.pin) ti1 c3 c5 ps1) := fun s H C csl fp => hi1 _ (xb s H C csl fp)
  have hG1 : ∀ (s : Shared) (H : Hp) (C : Addr) (csl : List (Str × Addr)) (fp : List Addr), PG (X.blk s H scope (compEnvC scope csl C X.env) fp) tg1 (RG cl X.K (ps1 ++ (ps ++ S.pin)) ct1 m1 c6) := fun s H C csl fp => hg1 _ ((xb s H C csl fp).addPin ps1)
  have hT1 : ∀ (s : Shared) (H : Hp) (C : Addr) (csl : List (Str × Addr)) (fp : List Addr), PTs (X.blk s H scope (compEnvC scope csl C X.env) fp) ifs1 (RTs cl X.K (ps1 ++ (ps ++ S.pin)) cs1 c6 c7) := fun s H C csl fp => ht1 _ ((xb s H C csl fp).addPin ps1)
  have hE : ∀ (s : Shared) (H : Hp) (C : Addr) (csl : List (Str × Addr)) (fp : List Addr), PE (X.blk s H scope (compEnvC scope csl C X.env) fp) elt (RE cl X.K (ps1 ++ (ps ++ S.pin)) ce c7 c8 false) := fun s H C csl fp => he.shared _ ((xb s H C csl fp).addPin ps1)
  exact PE.imp (pe_lc2 x.calm x.nd (hi X x) (by rw [x.hN, x.sc]; exact ok) hsub hG hT hI1 hG1 hT1 hE (hs X.env) hs1)
    (lc2_read lm hsh hvs htg l3 u lm1 hsub hvs1 htg1 l7 l8 u1 lx1)
theorem okS_setLc2 (hsl : locB S y = true) (hN : S.N[i]? = some y) (hpn : i ∉ S.pin) (hcx : i < cx.length) (hl : (py.line == pos.line) = true) (hna : (scope.names.any fun (n, k) => n == y && (k == .local || k == .cell)) = false)
    (hi : OkI cl k S c tg it ti c1 ps) (hb : blkC S.N S.sc scope own = true) (hv : vs = own.map (·.2)) (lm : Low c1 m) (hsh : ∀ i ∈ vs, fl m i = .shr) (hvs : ∀ i ∈ vs, i ∉ ps ++ S.pin) (htg : tgIn vs ct = true)
    (hg : OkG cl k ((S.addPin ps).blk scope) m tg ct c2) (ht : OkTs cl k ((S.addPin ps).blk scope) c2 ifs cs c3) (l3 : Low c3 m) (u : ∀ i, fl cx i = fl m i ∨ (fl cx i = .own ∧ fl m i = .lent ∧ i ∈ ps))
    (hi1 : OkI cl k ((S.addPin ps).blk scope) c3 tg1 it1 ti1 c5 ps1) (lm1 : Low c5 m1) (hsub : ∀ i ∈ vs1, i ∈ vs) (hvs1 : ∀ i ∈ vs, i ∉ ps1) (htg1 : tgIn vs1 ct1 = true)
    (hg1 : OkG cl k (((S.addPin ps).blk scope).addPin ps1) m1 tg1 ct1 c6) (ht1 : OkTs cl k (((S.addPin ps).blk scope).addPin ps1) c6 ifs1 cs1 c7) (he : OkE cl k (((S.addPin ps).blk scope).addPin ps1) c7 elt ce c8 fr)
    (l7 : Low c7 m1) (l8 : Low c8 m1) (u1 : ∀ i, fl cx1 i = fl m1 i ∨ (fl cx1 i = .own ∧ fl m1 i = .lent ∧ i ∈ ps1)) (lx1 : Low cx1 m)
    (hs : ∀ X x, foldedSetIterable it X x = pure x) (hs1 : ∀ X x, foldedSetIterable it1 X x = pure x) :
    OkS cl k w S c (.Assign [.Name y py] (.ListComp elt [⟨tg, it, ifs, 0⟩, ⟨tg1, it1, ifs1, 0⟩] scope pos) spos) (.asg (.v i) (.lc (.gen vs ct ti cs (.gen vs1 ct1 ti1 cs1 (.elt ce))))) (some (cx.set i .own)) ci := by
  refine ⟨fun X x => ?_, fun h => by cases h⟩
  have ok := blkOk_by hb
  have xb := fun s H C csl fp => (x.addPin ps).blk (scope := scope) ok.kind s H C csl fp
  subst hv
  have hk : X.env.scope.kind = .function := by rw [x.sc]; exact x.kind
  have hG : ∀ (s : Shared) (H : Hp) (C : Addr) (csl : List (Str × Addr)) (fp : List Addr), PG (X.blk s H scope (compEnvC scope csl C X.env) fp) tg (RG cl X.K (ps ++ S.pin) ct m c2) := fun s H C csl fp => hg _ (xb s H C csl fp)
  have hT : ∀ (s : Shared) (H : Hp) (C : Addr) (csl : List (Str × Addr)) (fp : List Addr), PTs (X.blk s H scope (compEnvC scope csl C X.env) fp) ifs (RTs cl X.K (ps ++ S.pin) cs c2 c3) := fun s H C csl fp => ht _ (xb s H C csl fp)
  have hI1 : ∀ (s : Shared) (H : Hp) (C : Addr) (csl : List (Str × Addr)) (fp : List Addr), PI (X.blk s H scope (compEnvC scope csl C X.env) fp) tg1 it1 (RI cl X.K (ps ++ S.pin) ti1 c3 c5 ps1) := fun s H C csl fp => hi1 _ (xb s H C csl fp)
  have hG1 : ∀ (s : Shared) (H : Hp) (C : Addr) (csl : List (Str × Addr)) (fp : List Addr), PG (X.blk s H scope (compEnvC scope csl C X.env) fp) tg1 (RG cl X.K (ps1 ++ (ps ++ S.pin)) ct1 m1 c6) := fun s H C csl fp => hg1 _ ((xb s H C csl fp).addPin ps1)
  have hT1 : ∀ (s : Shared) (H : Hp) (C : Addr) (csl : List (Str × Addr)) (fp : List Addr), PTs (X.blk s H scope (compEnvC scope csl C X.env) fp) ifs1 (RTs cl X.K (ps1 ++ (ps ++ S.pin)) cs1 c6 c7) := fun s H C csl fp => ht1 _ ((xb s H C csl fp).addPin ps1)
  have hE : ∀ (s : Shared) (H : Hp) (C : Addr) (csl : List (Str × Addr)) (fp : List Addr), PE (X.blk s H scope (compEnvC scope csl C X.env) fp) elt (RE cl X.K (ps1 ++ (ps ++ S.pin)) ce c7 c8 false) := fun s H C csl fp => he.shared _ ((xb s H C csl fp).addPin ps1)
  refine PS.imp (ps_setLc2 x.calm x.nd (by rw [x.hN]; exact hN) (locB_ok x hsl) (sw_true hk (locB_ok x hsl) hl hna) (hi X x) (by rw [x.hN, x.sc]; exact ok) hsub hG hT hI1 hG1 hT1 hE (hs X.env) hs1) ?_
  rintro D σ H ⟨HB, F0, P, F, τ, o, τ', hp, R, ev, _, q⟩
  obtain ⟨d, e1, e2, rfl⟩ := asg_key _ _ _ ev
  have e3 : τ' = τ.set i (some d) := bindV_some e2
  subst e3
  exact lc2_read (cl := cl) lm hsh hvs htg l3 u lm1 hsub hvs1 htg1 l7 l8 u1 lx1 σ H _ ⟨HB, F0, P, F, τ, d, hp, R, e1, fun v H1 F1 R1 x1 r1 => q.next (R1.setOwn r1 (pin_ne hp hpn) hcx) x1⟩
end
end PV

/-! a def keeps its promise: its worth -/
namespace PV
open PySem PySem.Spec PyProof.Rows L2
section
variable {P : Program} {w : World} {K : PySem.W.Frag} {mg : Str → Option Value} {base : Heap}
/-- what is known of a def at call level k -/
def FunAt (P : Program) (w : World) (K : PySem.W.Frag) (mg : Str → Option Value) (base : Heap) (k : Nat) (φ : List D → Option D) (x : Str) (ar : Nat) : Prop :=
  ∃ a fd ps, mg x = some (.ref a) ∧ PySem.W.keepIn K (.ref a) = true ∧ Binds K fd ps [] ∧ ps.length = ar ∧ FnOk P w K mg base CX0 k a fd ps (spD K φ)
/-- the world that a def's body finds -/
structure Wo (P : Program) (w : World) (K : PySem.W.Frag) (mg : Str → Option Value) (base : Heap) (cl : Nat → List D → Option D) (k : Nat) (S : SC) : Prop where
  free : ∀ x ∈ S.fr, mg x = none
  glob : ∀ x i, S.gs.lookup x = some i → ∃ t, mg x = some (.int i t)
  funs : ∀ p ∈ S.fs, FunAt P w K mg base k (cl p.2.1) p.1 p.2.2
theorem look_mem {α : Type} : ∀ {l : List (Str × α)} {x : Str} {y : α}, l.lookup x = some y → (x, y) ∈ l
  | [], _, _, h => by cases h
  | (a, b) :: r, x, y, h => by
    by_cases e : x == a
    · rw [List.lookup_cons, e] at h
      cases h
      rw [eq_of_beq e]
      exact List.mem_cons_self
    · have e : (x == a) = false := by simpa using e
      rw [List.lookup_cons, e] at h
      exact List.mem_cons_of_mem _ (look_mem h)
theorem Rel.start {args : List D} {vs : List V} {F0 : AS} {H : Hp} {n : Nat} (dom : ∀ a, F0 a → ∃ o, H a = some o) (r : RepL K F0 H args vs) :
    Rel K H F0 [] (List.replicate n .shr) (args.map some ++ List.replicate (n - args.length) none) F0 (vs.map some ++ List.replicate (n - vs.length) none) H := by
  have fs : ∀ i, fl (List.replicate n .shr) i = .shr := fun i => by
    unfold fl
    by_cases h : i < n
    · rw [List.getElem?_replicate, if_pos h]; rfl
    · rw [List.getElem?_replicate, if_neg h]; rfl
  refine ⟨fun _ _ h => h, dom, fun _ h => h, fun _ h => .inl h, by simp [r.length], fun i d h => ?_, fun i j a n p q => absurd (fs i) p.1, fun p h => by cases h⟩
  rw [fs]
  by_cases hi : i < args.length
  · rw [List.getElem?_append_left (by simpa using hi), List.getElem?_map] at h
    cases e : args[i]? with
    | none => rw [e] at h; cases h
    | some d' =>
      rw [e] at h
      cases h
      obtain ⟨v, h1, h2⟩ := r.get e
      refine ⟨v, ?_, h2⟩
      rw [List.getElem?_append_left (by rw [List.length_map, ← r.length]; exact hi), List.getElem?_map, h1]; rfl
  · rw [List.getElem?_append_right (by simpa using hi), List.getElem?_replicate] at h
    split at h <;> cases h
theorem spD_len {φ : List D → Option D} {n : Nat} (h : ∀ ds d, φ ds = some d → ds.length = n) : ∀ vs H Q E, spD K φ vs H Q E → vs.length = n := by
  rintro vs H Q E ⟨F0, ds, d, _, r, e, _⟩
  rw [← r.length]; exact h ds d e
theorem runF_key {cl : Nat → List D → Option D} {fu np ns : Nat} {bs : List PV.S} {args : List D} {d : D} (h : runF cl fu np ns bs args = some d) :
    args.length = np ∧ ∃ o τ', evSs cl fu bs (args.map some ++ List.replicate (ns - args.length) none) = some (o, τ') ∧ (o = .ret d ∨ (o = .nxt ∧ d = .non)) := by
  unfold runF at h
  split at h
  · rename_i hl
    rw [Option.bind_eq_some_iff] at h
    obtain ⟨⟨o, τ'⟩, h1, h2⟩ := h
    subst hl
    refine ⟨rfl, o, τ', h1, ?_⟩
    cases o with
    | nxt => cases h2; exact .inr ⟨rfl, rfl⟩
    | ret d => cases h2; exact .inl rfl
    | brk => cases h2
    | cnt => cases h2
  · cases h
/-- THE RULE: a def whose body is kept -/
theorem fn_ok {x qual : Str} {params : Arguments} {body : List Stmt} {scope : Scope} {kws : List (Str × V)} {f : Addr} {fd : FuncData} {N ps : List Str} {cl : Nat → List D → Option D} {k fu np : Nat} {bs : List PV.S} {S : SC} {c' : Option Ctx} {ci : Ctx}
    (F : FunD K x qual params body scope [] kws f fd) (Sc : FnScope N ps scope) (hN : S.N = N) (hs : S.sc = scope) (hr : S.raw = none) (hp : S.pin = []) (hl : ps.length = np)
    (W : Wo P w K mg base cl k S) (hb : OkSs cl k fu S (List.replicate N.length .shr) body bs c' ci) : FnOk P w K mg base CX0 (k + 1) f fd ps (spD K (runF cl fu np N.length bs)) := by
  refine F.ok Sc (spD_len fun ds d h => by rw [hl]; exact (runF_key h).1) fun cdv A outer s H vs Q E hR h => ?_
  have xo : XOk cl k S (cxOf CX0 P w K mg base N qual scope f cdv A outer s H E).nox := by
    refine ⟨hN.symm, Sc.nd, hs.symm, rfl, fun y _ => rfl, W.free, W.glob, fun y f' ar e => ?_, hR, rfl, by rw [hs]; exact Sc.kind⟩
    exact W.funs _ (look_mem e)
  refine ⟨_, PSs.nox (hb.ps _ xo), ?_⟩
  obtain ⟨F0, ds, d, dom, r, e, q⟩ := h
  obtain ⟨hln, o, τ', e1, e2⟩ := runF_key e
  refine ⟨H, F0, [], F0, _, o, τ', fun p h => (by cases h), Rel.start dom r, e1, ?_⟩
  rcases e2 with rfl | ⟨rfl, rfl⟩
  · exact ⟨fun z => (nomatch z), fun z => (nomatch z), fun z => (nomatch z), fun d' z v H' F' rv en => by
      cases z
      exact q v H' F' en.same en.f0 en.f1 en.dom rv⟩
  · exact ⟨fun _ c'' _ σ' H' F' R' _ => q .non H' F' R'.same R'.f0 R'.f1 R'.dom .non, fun z => (nomatch z), fun z => (nomatch z), fun d z => (nomatch z)⟩
theorem fn_zero {f : Addr} {fd : FuncData} {ps : List Str} {φ : List D → Option D} {k : Nat} (h : ∀ ds, φ ds = none) : FnOk P w K mg base CX0 k f fd ps (spD K φ) := by
  have no : ∀ vs H Q E, ¬ spD K φ vs H Q E := by
    rintro vs H Q E ⟨F0, ds, d, _, r, e, _⟩
    rw [h] at e; cases e
  exact ⟨fun vs H Q E h => (no vs H Q E h).elim, fun A outer s H args us vs Q E _ _ _ _ h => (no vs H Q E h).elim⟩
/-! ### all defs of a table -/
/-- what is told of one def of the table: its text is kept, or its worth is given -/
structure DefC (K : PySem.W.Frag) (mg : Str → Option Value) (fs : List FD) (fu : Nat) (tab : List (Str × Nat × Nat)) (p : Str × Nat × Nat) (st : Stmt) (S : SC) (ps : List Str) (bs : List PV.S) : Prop where
  sc : FnScope S.N ps (defScope st)
  hs : S.sc = defScope st
  hr : S.raw = none
  hp : S.pin = []
  ht : S.fs = tab
  hl : ps.length = p.2.2
  free : ∀ x ∈ S.fr, mg x = none
  glob : ∀ x i, S.gs.lookup x = some i → ∃ t, mg x = some (.int i t)
  code : fs[p.2.1]? = some (.code ps.length S.N.length bs)
  fn : ∃ a fd, mg p.1 = some (.ref a) ∧ FunD K p.1 p.1 (defArgs st) (defBody st) (defScope st) [] [] a fd ∧ Binds K fd ps []
  ok : ∀ (cl : Nat → List D → Option D) (k : Nat), ∃ c' ci, OkSs cl k fu S (List.replicate S.N.length .shr) (defBody st) bs c' ci
def DefOk (P : Program) (w : World) (K : PySem.W.Frag) (mg : Str → Option Value) (base : Heap) (fs : List FD) (fu : Nat) (tab : List (Str × Nat × Nat)) (p : Str × Nat × Nat) : Prop :=
  (∃ st S ps bs, DefC K mg fs fu tab p st S ps bs) ∨
  ∃ lev φ a fd ps, fs[p.2.1]? = some (.ext lev φ) ∧ mg p.1 = some (.ref a) ∧ PySem.W.keepIn K (.ref a) = true ∧ Binds K fd ps [] ∧ ps.length = p.2.2 ∧ FnOk P w K mg base CX0 lev a fd ps (spD K φ)
theorem all_ok {fs : List FD} {fu : Nat} {tab : List (Str × Nat × Nat)} (h : ∀ p ∈ tab, DefOk P w K mg base fs fu tab p) : ∀ k, ∀ p ∈ tab, FunAt P w K mg base k (call fs fu k p.2.1) p.1 p.2.2
  | 0, p, hp => by
    rcases h p hp with ⟨st, S, ps, bs, d⟩ | ⟨lev, φ, a, fd, ps, h1, h2, h3, h4, h5, h6⟩
    · obtain ⟨a, fd, h1, h2, h3⟩ := d.fn
      exact ⟨a, fd, ps, h1, h2.kp, h3, d.hl, fn_zero fun _ => rfl⟩
    · exact ⟨a, fd, ps, h2, h3, h4, h5, fn_zero fun _ => rfl⟩
  | k + 1, p, hp => by
    have ih := all_ok h k
    rcases h p hp with ⟨st, S, ps, bs, d⟩ | ⟨lev, φ, a, fd, ps, h1, h2, h3, h4, h5, h6⟩
    · obtain ⟨a, fd, h1, h2, h3⟩ := d.fn
      have e : call fs fu (k + 1) p.2.1 = runF (call fs fu k) fu ps.length S.N.length bs := by
        funext args
        show (match fs[p.2.1]? with
          | some (.code np ns body) => runF (call fs fu k) fu np ns body args
          | some (.ext lev φ) => if lev ≤ k + 1 then φ args else none
          | none => none) = _
        rw [d.code]
      obtain ⟨c', ci, ok⟩ := d.ok (call fs fu k) k
      refine ⟨a, fd, ps, h1, h2.kp, h3, d.hl, ?_⟩
      rw [e]
      exact fn_ok h2 d.sc rfl d.hs d.hr d.hp rfl ⟨d.free, d.glob, fun p hp => ih p (by rw [← d.ht]; exact hp)⟩ ok
    · have e : call fs fu (k + 1) p.2.1 = fun args => if lev ≤ k + 1 then φ args else none := by
        funext args
        show (match fs[p.2.1]? with
          | some (.code np ns body) => runF (call fs fu k) fu np ns body args
          | some (.ext lev φ) => if lev ≤ k + 1 then φ args else none
          | none => none) = _
        rw [h1]
      refine ⟨a, fd, ps, h2, h3, h4, h5, ?_⟩
      rw [e]
      by_cases hk : lev ≤ k + 1
      · have e2 : (fun args => if lev ≤ k + 1 then φ args else none) = φ := by funext args; rw [if_pos hk]
        rw [e2]; exact h6.mono hk
      · exact fn_zero fun _ => if_neg hk
/-- the law's def at a script -/
theorem sp_law {φ : List D → Option D} {H : Hp} {a : Addr} {ns : List Int} (hS : SqL K H a (ns.map V.int)) (h : φ [.scr (ns.map .int)] = some (.bl true)) : spD K φ [.ref a] H (fun v _ => v = .bl true) fun _ _ _ => False := by
  have ri : ∀ (F : AS) (ns : List Int), RepL K F H (ns.map .int) (ns.map V.int) := fun F ns => by
    induction ns with
    | nil => exact .nil
    | cons n ns ih => exact .cons (.int n) ih
  refine ⟨fun b => b = a ∧ ∃ o, H b = some o, [.scr (ns.map .int)], .bl true, fun b hb => hb.2, .cons ?_ .nil, h, fun v H' F' _ _ _ _ r => by cases r; rfl⟩
  rcases hS with r | r
  · have ex : ∃ o, H a = some o := by
      rcases r with r | ⟨o, r⟩
      · exact ⟨_, r⟩
      · exact ⟨_, r⟩
    exact .scrF ⟨rfl, ex⟩ r (ri _ ns)
  · exact .scrK (.inr r) (ri _ ns)
end
end PV

/-! more of expressions: get, isinstance; tests -/
namespace PV
open PySem PySem.Spec PyProof.Rows L2
def lowB (c c' : Ctx) : Bool := (List.range (max c.length c'.length)).all fun i => decide (fl c' i = fl c i) || decide (fl c' i = .shr)
theorem low_of {c c' : Ctx} (h : lowB c c' = true) : Low c c' := fun i => by
  by_cases hi : i < max c.length c'.length
  · unfold lowB at h
    have := List.all_eq_true.mp h i (List.mem_range.mpr hi)
    simpa using this
  · have h1 : fl c' i = .shr := by
      unfold fl
      rw [List.getElem?_eq_none (by omega)]; rfl
    exact .inr h1
def unlB (m c : Ctx) (ps : List Nat) : Bool := (List.range (max m.length c.length)).all fun i => decide (fl c i = fl m i) || (decide (fl c i = .own) && decide (fl m i = .lent) && ps.contains i)
theorem unl_of {m c : Ctx} {ps : List Nat} (h : unlB m c ps = true) : ∀ i, fl c i = fl m i ∨ (fl c i = .own ∧ fl m i = .lent ∧ i ∈ ps) := fun i => by
  by_cases hi : i < max m.length c.length
  · unfold unlB at h
    have := List.all_eq_true.mp h i (List.mem_range.mpr hi)
    simp only [Bool.or_eq_true, Bool.and_eq_true, decide_eq_true_eq, List.contains_iff_mem] at this
    rcases this with h | ⟨⟨h1, h2⟩, h3⟩
    · exact .inl h
    · exact .inr ⟨h1, h2, by simpa using h3⟩
  · left
    unfold fl
    rw [List.getElem?_eq_none (by omega), List.getElem?_eq_none (by omega)]
def outB (vs ps : List Nat) : Bool := vs.all fun i => !ps.contains i
theorem out_of {vs ps : List Nat} (h : outB vs ps = true) : ∀ i ∈ vs, i ∉ ps := fun i hi hp => by
  have := List.all_eq_true.mp h i hi
  simp at this
  exact this hp
theorem out1 {i : Nat} {ps : List Nat} (h : (!ps.contains i) = true) : i ∉ ps := fun hp => by simp at h; exact h hp
def shrB (vs : List Nat) (c : Ctx) : Bool := vs.all fun i => decide (fl c i = .shr)
theorem shr_of {vs : List Nat} {c : Ctx} (h : shrB vs c = true) : ∀ i ∈ vs, fl c i = .shr := fun i hi => by
  have := List.all_eq_true.mp h i hi
  simpa using this
def subB (vs ws : List Nat) : Bool := vs.all fun i => ws.contains i
theorem sub_of {vs ws : List Nat} (h : subB vs ws = true) : ∀ i ∈ vs, i ∈ ws := fun i hi => by
  have := List.all_eq_true.mp h i hi
  simpa using this
section
variable {cl : Nat → List D → Option D} {k w : Nat} {S : SC} {c c1 c2 c3 ci cc : Ctx} {c' : Option Ctx} {e ei e1 e2 e3 tg : Expr} {es : List Expr} {ca cb cd ce ct : C} {ces : List C} {fr : Bool} {pos p2 p3 p4 p5 p6 apos cpos : Pos} {ps : List Nat} {st : Stmt} {sts a b : List Stmt} {cs : PV.S} {css as bs : List PV.S} {i : Nat} {y : Str}
theorem okT_bool {t : C} (h : ∀ X, XOk cl k S X → PW X e (RT cl X.K S.pin t c c1)) : OkT cl k S c e t c1 := fun X x => (h X x).pt
theorem OkE.up (h : OkE cl k S c e ca c1 fr) (l : Low c1 c2) : OkE cl k S c e ca c2 false := fun X x => by
  refine PE.imp (h.shared X x) ?_
  rintro σ H Q ⟨HB, F0, P, F, τ, d, hp, R, ev, q⟩
  refine ⟨HB, F0, P, F, τ, d, hp, R, ev, fun v H1 F1 R1 x1 r1 => ?_⟩
  obtain ⟨F2, R2, x2⟩ := R1.lowTo l
  exact q v H1 F2 R2 (x1.trans x2) (RepV.mono x2 r1)
theorem OkT.up (h : OkT cl k S c e ca c1) (l : Low c1 c2) : OkT cl k S c e ca c2 := fun X x => by
  refine PT.imp (h X x) ?_
  rintro σ H Q ⟨HB, F0, P, F, τ, d, hp, R, ev, q⟩
  refine ⟨HB, F0, P, F, τ, d, hp, R, ev, fun H1 F1 R1 x1 => ?_⟩
  obtain ⟨F2, R2, x2⟩ := R1.lowTo l
  exact q H1 F2 R2 (x1.trans x2)
/-- no arguments with stars -/
theorem m2_ok {X : Cx} {o : Expr} {m : Str} (h1 : plainE e1 = true) (h2 : plainE e2 = true) (hb : attributeBase o m X.env (eval o X.env) = eval o X.env) (hl : (apos.endLine == cpos.line) = true) : M2 X o m apos e1 e2 cpos := by
  have s1 : ∀ env : PySem.Env, starEach [e1, e2] env = [(false, eval e1 env), (false, eval e2 env)] := fun env => by
    rw [star_plain h1, star_plain h2]; rfl
  refine ⟨hb, ?_, hl, ?_⟩
  · rw [s1]; rfl
  · rw [s1]; rfl
theorem key_mut {t : Bool} {kd : D} (h : kindOk t kd = true) : isMut kd = false := by
  unfold kindOk at h
  rw [Bool.and_eq_true] at h
  cases kd <;> first | rfl | (have := h.1; cases this)
/-- y.get(k, x) -/
theorem ok_get (hy : visB S y = true) (hi : S.N[i]? = some y) (ha : OkB cl k S c e1 ca c1) (hb : OkE cl k S c1 e2 cb c2 fr) (h1 : plainE e1 = true) (h2 : plainE e2 = true) (hl : (apos.endLine == cpos.line) = true) :
    OkE cl k S c (.Call (.Attribute (.Name y p2) "get" apos) [e1, e2] [] cpos) (.get (.v i) ca cb) c2 false := fun X x => by
  have hu : X.A.units + 1 < cLine := by have := x.room.un; omega
  refine PE.imp (pe_dget2 hu (okB_name (c := c) hy hi X x) (ha X x) (hb.shared X x) (m2_ok h1 h2 rfl hl)) ?_
  rintro σ H Q ⟨HB, F0, P, F, τ, d, hp, R, ev, q⟩
  have ev : sGet (evE cl (.v i) τ) (evE cl ca τ) (evE cl cb τ) = some d := ev
  unfold sGet at ev
  simp only [Option.bind_eq_some_iff] at ev
  obtain ⟨x, f1, kd, f2, z, f3, f4⟩ := ev
  cases x with
  | dct t ks xs =>
    have f5 : (if kindOk t kd then some ((lookD ks xs kd).getD z) else none) = some d := f4
    split at f5
    · rename_i hk
      cases f5
      refine ⟨HB, F0, P, F, τ, _, hp, R, f1, fun v H1 F1 R1 x1 r1 => ?_⟩
      obtain ⟨a, rfl, le⟩ := (R1.read r1).dct
      refine ⟨a, rfl, ?_, HB, F0, P, F1, τ, kd, hp, R1, f2, fun u H2 F2 R2 x2 r2 => ⟨HB, F0, P, F2, τ, z, hp, R2, f3, fun w H3 F3 R3 x3 r3 => ?_⟩⟩
      · cases t with
        | false => obtain ⟨kvs, h, _⟩ := le; exact .inl ⟨kvs, h⟩
        | true => obtain ⟨kvs, h, _⟩ := le; exact .inr ⟨kvs, h⟩
      · have r1' : HdR X.K F3 H3 τ σ (.dct t ks xs) (.ref a) := (r1.mono x2).mono x3
        obtain ⟨a', ea, le'⟩ := (R3.read r1').dct
        cases ea
        obtain ⟨o, dg, h⟩ := dget_ok le' ((R3.read (r2.mono x3)).plain (key_mut hk)) hk
        refine ⟨o, dg, q _ H3 F3 R3 ((x1.trans x2).trans x3) ?_⟩
        rcases h with ⟨h, rfl⟩ | ⟨d, v, h, rfl, rv⟩
        · rw [h]; exact r3
        · rw [h]; exact rv
    · cases f5
  | _ => cases f4
/-! ### isinstance -/
def tyName : Ty → String
  | .int => "int" | .bool => "bool" | .str => "str" | .tuple => "tuple" | .list => "list" | .dict => "dict"
def tyStr : Ty → Str
  | .int => "int" | .bool => "bool" | .str => "str" | .tuple => "tuple" | .list => "list" | .dict => "dict"
theorem ty_boot : ∀ t : Ty, bootBuiltins (tyStr t) = some (.type (tyName t))
  | .int => by decide +kernel
  | .bool => by decide +kernel
  | .str => by decide +kernel
  | .tuple => by decide +kernel
  | .list => by decide +kernel
  | .dict => by decide +kernel
def ofD : D → Option String
  | .non => some "NoneType"
  | .bl _ => some "bool"
  | .int _ => some "int"
  | .str _ => some "str"
  | .tup _ => some "tuple"
  | .lst _ => some "list"
  | .scr _ => some "list"
  | .dct _ _ _ => none
theorem ofD_read {K : PySem.W.Frag} {F : AS} {H : Hp} : ∀ {d : D} {v : V} {n : String}, ReadR K F H d v → ofD d = some n → TyX K H v (.type n) := by
  intro d v n r e
  cases d with
  | non => cases e; cases r.plain rfl; exact .base .non
  | bl b => cases e; cases r.bl; exact .base (.bl b)
  | int i => cases e; cases r.int; exact .base (.int i)
  | str y => cases e; cases r.plain rfl; exact .base (.str y)
  | tup xs => cases e; obtain ⟨a, vs, rfl, h, _⟩ := r.tup; exact .base (.tup h)
  | lst xs => cases e; obtain ⟨a, vs, rfl, h, _⟩ := r.lst; exact .base (.lst h)
  | scr xs =>
    cases e
    obtain ⟨a, vs, rfl, h, _⟩ := r.scr
    rcases h with (h | ⟨o, h⟩) | ⟨o, _, _, h, hc, _⟩
    · exact .base (.lst h)
    · exact .base (.frz h)
    · exact .kList h hc
  | dct t ks vs => cases e
theorem ty_kit : ∀ (t : Ty) (d : D) (n : String), ofD d = some n → kitB n (tyName t) = some (tyOf d t) := by
  intro t d n e
  cases d <;> cases e <;> cases t <;> first | (change _ = some true; decide +kernel) | (change _ = some false; decide +kernel)
theorem ok_isi {t : Ty} (hg : globB S "isinstance" = true) (hf : ("isinstance" : Str) ∈ S.fr) (hg2 : globB S (tyStr t) = true) (hf2 : tyStr t ∈ S.fr) (ha : OkB cl k S c e1 ca c1) (h1 : plainE e1 = true) :
    OkE cl k S c (.Call (.Name "isinstance" p2) [e1, .Name (tyStr t) p3] [] pos) (.isi ca [t]) c1 true := fun X x => by
  obtain ⟨g1, g2, g3⟩ := globB_ok x hg
  obtain ⟨g4, g5, g6⟩ := globB_ok x hg2
  refine PE.imp (pe_callB call_isi g1 (x.free _ hf) PyProof.Rows.boot_isinstance (pa_cons (ha X x) (pa_cons (pe_bltn (v := .ty (tyName t)) g4 (x.free _ hf2) (ty_boot t) rfl g6 g5) pa_nil rfl) (star_plain h1)) g3 g2 (star_plain h1) (backTo_plain rfl)) ?_
  rintro σ H Q ⟨HB, F0, P, F, τ, d, hp, R, ev, q⟩
  have ev : (evE cl ca τ).bind (fun x => if isDct x then none else some (.bl ([t].any (tyOf x)))) = some d := ev
  rw [Option.bind_eq_some_iff] at ev
  obtain ⟨x, f1, f2⟩ := ev
  split at f2
  · cases f2
  · rename_i hd
    cases f2
    refine ⟨HB, F0, P, F, τ, x, hp, R, f1, fun v H1 F1 R1 x1 r1 => ?_⟩
    obtain ⟨n, hn⟩ : ∃ n, ofD x = some n := by
      cases x <;> first | exact ⟨_, rfl⟩ | exact absurd rfl hd
    refine ⟨v, .ty (tyName t), _, _, tyOf x t, rfl, .ty _, ofD_read (R1.read r1) hn, kit_ty (ty_kit t x n hn), ?_⟩
    have e : [t].any (tyOf x) = tyOf x t := by simp
    rw [e] at q
    exact (show Post _ HB F0 P c1 τ F1 σ H1 true (.bl (tyOf x t)) Q from fun w H3 F3 R3 x3 r3 => q w H3 F3 R3 (x1.trans x3) r3).bl R1
end
end PV

/-! for over a dict's keys: the dict is locked while it is walked -/
namespace PV
open PySem PySem.Spec PyProof.Rows L2
def DictO (u : HO) : Prop := (∃ kvs, u = .dK kvs) ∨ ∃ kvs, u = .dT kvs
theorem DictO.mut {u : HO} (h : DictO u) : Mut (some u) := by
  rcases h with ⟨kvs, rfl⟩ | ⟨kvs, rfl⟩ <;> trivial
/-- two heaps that read alike -/
structure Alike (H H' : Hp) : Prop where
  tup : ∀ a vs, H a = some (.tup vs) → H' a = some (.tup vs)
  lst : ∀ a vs, H a = some (.lst vs) → H' a = some (.lst vs)
  rl : ∀ a vs, Rd H a (.lst vs) → Rd H' a (.lst vs)
  rk : ∀ a vs, Rd H a (.dK vs) → Rd H' a (.dK vs)
  rt : ∀ a vs, Rd H a (.dT vs) → Rd H' a (.dT vs)
section
variable {K : PySem.W.Frag} {HB : Hp} {F0 : AS} {P Pn : Pins} {c : Ctx} {τ : Env} {F F' : AS} {σ : L2.St} {H H' : Hp} {a : Addr} {u : HO} {od : Obj}
mutual
theorem RepV.alike (x : Alike H H') : ∀ {d : D} {v : V}, RepV K F H d v → RepV K F H' d v
  | _, _, .non => .non
  | _, _, .bl b => .bl b
  | _, _, .int b => .int b
  | _, _, .str b => .str b
  | _, _, .tup h r => .tup (x.tup _ _ h) (RepL.alike x r)
  | _, _, .lst f h r => .lst f (x.lst _ _ h) (RepL.alike x r)
  | _, _, .scrF f h r => .scrF f (x.rl _ _ h) (RepL.alike x r)
  | _, _, .scrK h r => .scrK h (RepL.alike x r)
  | _, _, .dctK f h e r => .dctK f (x.rk _ _ h) e (RepL.alike x r)
  | _, _, .dctT f h e r => .dctT f (x.rt _ _ h) e (RepL.alike x r)
theorem RepL.alike (x : Alike H H') : ∀ {ds : List D} {vs : List V}, RepL K F H ds vs → RepL K F H' ds vs
  | _, _, .nil => .nil
  | _, _, .cons a r => .cons (RepV.alike x a) (RepL.alike x r)
end
theorem OwnC.alike (x : Alike H H') {b : Addr} (e : H' b = H b) : ∀ {d : D}, OwnC K F H d b → OwnC K F H' d b
  | .lst _, ⟨vs, h, r⟩ => ⟨vs, e.trans h, r.alike x⟩
  | .dct false _ _, ⟨k, h, b, r⟩ => ⟨k, e.trans h, b, r.alike x⟩
  | .dct true _ _, ⟨k, h, b, r⟩ => ⟨k, e.trans h, b, r.alike x⟩
  | .non, h => h.elim
  | .bl _, h => h.elim
  | .int _, h => h.elim
  | .str _, h => h.elim
  | .tup _, h => h.elim
  | .scr _, h => h.elim
theorem LentC.alike (x : Alike H H') {b : Addr} (e : H' b = H b) : ∀ {d : D}, LentC K F H d b → LentC K F H' d b
  | .lst _, ⟨vs, h, r⟩ => ⟨vs, e.trans h, r.alike x⟩
  | .dct false _ _, ⟨k, h, b, r⟩ => ⟨k, rd_keep e h, b, r.alike x⟩
  | .dct true _ _, ⟨k, h, b, r⟩ => ⟨k, rd_keep e h, b, r.alike x⟩
  | .non, h => h.elim
  | .bl _, h => h.elim
  | .int _, h => h.elim
  | .str _, h => h.elim
  | .tup _, h => h.elim
  | .scr _, h => h.elim
theorem alike_lock (h : H a = some u) (d : DictO u) : Alike H (upd H a (.frz od u)) := by
  have rd : ∀ b x, Rd H b x → Rd (upd H a (.frz od u)) b x := fun b x r => by
    by_cases e : b = a
    · subst e
      rcases r with r | ⟨o, r⟩
      · rw [h] at r; cases r; exact .inr ⟨od, upd_same⟩
      · rw [h] at r; cases r
        rcases d with ⟨_, d⟩ | ⟨_, d⟩ <;> cases d
    · rcases r with r | ⟨o, r⟩
      · exact .inl (by rw [upd_ne e]; exact r)
      · exact .inr ⟨o, by rw [upd_ne e]; exact r⟩
  have ne : ∀ b o, H b = some o → ¬ DictO o → b ≠ a := fun b o e n z => by
    subst z; rw [h] at e; cases e; exact n d
  refine ⟨fun b vs e => ?_, fun b vs e => ?_, fun b vs => rd b _, fun b vs => rd b _, fun b vs => rd b _⟩
  · rw [upd_ne (ne b _ e (by rintro (⟨_, z⟩ | ⟨_, z⟩) <;> cases z))]; exact e
  · rw [upd_ne (ne b _ e (by rintro (⟨_, z⟩ | ⟨_, z⟩) <;> cases z))]; exact e
theorem alike_unlock (h : H a = some (.frz od u)) (d : DictO u) : Alike H (upd H a u) := by
  have rd : ∀ b x, (∀ o y, x ≠ .frz o y) → Rd H b x → Rd (upd H a u) b x := fun b x n r => by
    by_cases e : b = a
    · subst e
      rcases r with r | ⟨o, r⟩
      · rw [h] at r; cases r; exact absurd rfl (n _ _)
      · rw [h] at r; cases r; exact .inl upd_same
    · rcases r with r | ⟨o, r⟩
      · exact .inl (by rw [upd_ne e]; exact r)
      · exact .inr ⟨o, by rw [upd_ne e]; exact r⟩
  have ne : ∀ b o, H b = some o → (∀ p y, o ≠ .frz p y) → b ≠ a := fun b o e n z => by
    subst z; rw [h] at e; cases e; exact n _ _ rfl
  refine ⟨fun b vs e => ?_, fun b vs e => ?_, fun b vs => rd b _ (fun _ _ z => nomatch z), fun b vs => rd b _ (fun _ _ z => nomatch z), fun b vs => rd b _ (fun _ _ z => nomatch z)⟩
  · rw [upd_ne (ne b _ e (fun _ _ z => nomatch z))]; exact e
  · rw [upd_ne (ne b _ e (fun _ _ z => nomatch z))]; exact e
theorem SlotR.alike {HB2 : Hp} {f : Fl} {d : PV.D} {v : V} (x : Alike H H') (hk : ∀ b, HB b = none → ¬ F b → H' b = H b ∧ HB2 b = none) (s : SlotR K HB F H f d v) : SlotR K HB2 F H' f d v := by
  cases f with
  | shr => exact RepV.alike x s
  | own =>
    rcases s with ⟨m, s⟩ | ⟨b, e1, e2, e3, s⟩
    · exact .inl ⟨m, s.alike x⟩
    · obtain ⟨k1, k2⟩ := hk b e3 e2
      exact .inr ⟨b, e1, e2, k2, s.alike x k1⟩
  | lent =>
    rcases s with ⟨m, s⟩ | ⟨b, e1, e2, e3, s⟩
    · exact .inl ⟨m, s.alike x⟩
    · obtain ⟨k1, k2⟩ := hk b e3 e2
      exact .inr ⟨b, e1, e2, k2, s.alike x k1⟩
theorem Rel.lock (R : Rel K HB F0 P c τ F σ H) (fa : F a) (h : H a = some u) (d : DictO u) (od : Obj) : Rel K (upd HB a (.frz od u)) (fun b => F0 b ∨ b = a) P c τ F σ (upd H a (.frz od u)) := by
  refine ⟨fun b o e => ?_, fun b hb => ?_, fun b hb => ?_, fun b hb => ?_, R.len, fun i x e => ?_, R.sep, R.pin⟩
  · by_cases z : b = a
    · subst z; rw [upd_same] at e ⊢; exact e
    · rw [upd_ne z] at e ⊢; exact R.same b o e
  · by_cases z : b = a
    · subst z; exact ⟨_, upd_same⟩
    · rw [upd_ne z]; exact R.dom b hb
  · rcases hb with hb | rfl
    · exact R.f0 b hb
    · exact fa
  · by_cases z : b = a
    · exact .inl (.inr z)
    · rcases R.f1 b hb with q | q
      · exact .inl (.inl q)
      · exact .inr (by rw [upd_ne z]; exact q)
  · obtain ⟨v, ev, s⟩ := R.slot i x e
    refine ⟨v, ev, s.alike (alike_lock h d) fun b h1 h2 => ?_⟩
    have z : b ≠ a := fun z => h2 (z ▸ fa)
    exact ⟨upd_ne z, by rw [upd_ne z]; exact h1⟩
theorem Rel.unlock (R : Rel K (upd HB a (.frz od u)) (fun b => F0 b ∨ b = a) P c τ F σ H) (d : DictO u) (h1 : F0 a ∨ HB a = none) (h2 : ∀ o, HB a = some o → o = u) : Rel K HB F0 P c τ F σ (upd H a u) := by
  have ha : H a = some (.frz od u) := R.same a _ upd_same
  have fa : F a := R.f0 a (.inr rfl)
  refine ⟨fun b o e => ?_, fun b hb => ?_, fun b hb => R.f0 b (.inl hb), fun b hb => ?_, R.len, fun i x e => ?_, R.sep, R.pin⟩
  · by_cases z : b = a
    · subst z; rw [upd_same, h2 o e]
    · rw [upd_ne z]; exact R.same b o (by rw [upd_ne z]; exact e)
  · by_cases z : b = a
    · subst z; exact ⟨_, upd_same⟩
    · rw [upd_ne z]; exact R.dom b hb
  · by_cases z : b = a
    · rw [z]; exact h1
    · rcases R.f1 b hb with (q | q) | q
      · exact .inl q
      · exact absurd q z
      · exact .inr (by rw [upd_ne z] at q; exact q)
  · obtain ⟨v, ev, s⟩ := R.slot i x e
    refine ⟨v, ev, s.alike (alike_unlock ha d) fun b h1 h2 => ?_⟩
    have z : b ≠ a := fun z => h2 (z ▸ fa)
    rw [upd_ne z] at h1
    exact ⟨upd_ne z, h1⟩
theorem EndR.unlock (R : EndR (upd HB a (.frz od u)) (fun b => F0 b ∨ b = a) F H) (h1 : F0 a ∨ HB a = none) (h2 : ∀ o, HB a = some o → o = u) : EndR HB F0 F (upd H a u) := by
  refine ⟨fun b o e => ?_, fun b hb => ?_, fun b hb => R.f0 b (.inl hb), fun b hb => ?_⟩
  · by_cases z : b = a
    · subst z; rw [upd_same, h2 o e]
    · rw [upd_ne z]; exact R.same b o (by rw [upd_ne z]; exact e)
  · by_cases z : b = a
    · subst z; exact ⟨_, upd_same⟩
    · rw [upd_ne z]; exact R.dom b hb
  · by_cases z : b = a
    · rw [z]; exact h1
    · rcases R.f1 b hb with (q | q) | q
      · exact .inl q
      · exact absurd q z
      · exact .inr (by rw [upd_ne z] at q; exact q)
theorem ext_unlock (h : H a = some u) (d : DictO u) (x : Ext F (upd H a (.frz od u)) F' H') : Ext F H F' (upd H' a u) := by
  refine ⟨x.sub, fun b hb => ?_, fun b vs e => ?_⟩
  · by_cases z : b = a
    · subst z; rw [upd_same, h]
    · rw [upd_ne z, x.keep b hb, upd_ne z]
  · have z : b ≠ a := fun z => by
      subst z; rw [h] at e; cases e
      rcases d with ⟨_, d⟩ | ⟨_, d⟩ <;> cases d
    rw [upd_ne z]
    exact x.tups b vs (by rw [upd_ne z]; exact e)
end
section
variable {cl : Nat → List D → Option D} {k w : Nat} {S : SC} {c c1 c2 c3 ci cc cx m : Ctx} {c' : Option Ctx} {e ei e1 e2 e3 tg it : Expr} {es : List Expr} {ca cb cd ce ct ti : C} {ces : List C} {fr : Bool} {pos p2 p3 p4 p5 p6 apos cpos : Pos} {ps kl pn : List Nat} {st : Stmt} {sts a b : List Stmt} {cs : PV.S} {css as bs : List PV.S} {i : Nat} {y : Str}
/-- the turns of a for, for any walked thing -/
theorem for_core {K : PySem.W.Frag} {cb' : Option Ctx} {HB : Hp} {F0 F1 : AS} {P Pn : Pins} {σ : L2.St} {H1 : Hp} {τ τ' : Env} {o : Out} {J : It} {xs : List D} {D : Ends}
    (R1 : Rel K HB F0 P m τ F1 σ H1) (hpp : PinOk pn P) (pk : ∀ p ∈ P, p.1 ∉ kl) (hJ : ItOk K J xs Pn F1 H1) (hPn : ∀ p ∈ Pn, p ∈ P) (l2 : endC cb' m)
    (ev : forL (bnd cl ct) (fun τ => evSs cl w bs τ) kl xs τ = some (o, τ'))
    (qn : o = .nxt → ∀ σ' H' F', Rel K HB F0 P m τ' F' σ' H' → Ext F1 H1 F' H' → D.nx σ' H') (qr : ∀ d, o = .ret d → ∀ v H' F', RepV K F' H' d v → EndR HB F0 F' H' → D.rt v H') :
    ∃ W : Nat → Nat → L2.St → Hp → Prop, (∃ n, W 0 n σ H1) ∧ ∀ i n σ H, W i n σ H →
      (J.stop i H ∧ D.nx σ H) ∨ (J.go i H ∧ ∃ N : L2.St → Hp → Prop, (∀ σ' H', N σ' H' → ∃ n', n' < n ∧ W (i + 1) n' σ' H') ∧ ∀ x H', J.yld i H x H' → RG cl K pn ct m c2 x σ H' fun σ2 H2 => RSs cl w K pn bs c2 cb' m { D with nx := N, ct := N, bk := D.nx } σ2 H2) := by
  refine ⟨fun i n σ' H' => n = xs.length - i ∧ ∃ F' τ2, Rel K HB F0 P m τ2 F' σ' H' ∧ Ext F1 H1 F' H' ∧ forL (bnd cl ct) (fun τ => evSs cl w bs τ) kl (xs.drop i) τ2 = some (o, τ'), ⟨xs.length, rfl, F1, τ, R1, Ext.refl _ _, ev⟩, ?_⟩
  rintro i n σ' H' ⟨rfl, F3, τ2, R3, x3, ev⟩
  obtain ⟨stop, go⟩ := hJ HB F0 P m τ2 F3 σ' H' R3 hPn x3 i
  by_cases hi : xs.length ≤ i
  · left
    rw [List.drop_eq_nil_of_le hi] at ev
    cases ev
    exact ⟨stop hi, qn rfl _ _ _ (R3.wipeK pk) x3⟩
  · right
    have hlt : i < xs.length := by omega
    have hx : xs[i]? = some xs[i] := List.getElem?_eq_getElem hlt
    obtain ⟨g, yl⟩ := go _ hx
    rw [List.drop_eq_getElem_cons hlt] at ev
    have ev : (bnd cl ct xs[i] (wipe kl τ2)).bind (fun τ1 => (evSs cl w bs τ1).bind fun r => match r.1 with
      | .nxt => forL (bnd cl ct) (fun τ => evSs cl w bs τ) kl (xs.drop (i + 1)) r.2
      | .cnt => forL (bnd cl ct) (fun τ => evSs cl w bs τ) kl (xs.drop (i + 1)) r.2
      | .brk => some (.nxt, wipe kl r.2)
      | .ret d => some (.ret d, r.2)) = some (o, τ') := ev
    rw [Option.bind_eq_some_iff] at ev
    obtain ⟨τ3, e2, ev⟩ := ev
    rw [Option.bind_eq_some_iff] at ev
    obtain ⟨⟨o1, τ4⟩, e3, e4⟩ := ev
    refine ⟨g, fun σ' H' => ∃ F' τ2, Rel K HB F0 P m τ2 F' σ' H' ∧ Ext F1 H1 F' H' ∧ forL (bnd cl ct) (fun τ => evSs cl w bs τ) kl (xs.drop (i + 1)) τ2 = some (o, τ'), fun σ' H' h => ⟨xs.length - (i + 1), by omega, rfl, h⟩, fun x H4 hy => ?_⟩
    obtain ⟨h4, rx⟩ := yl x H4 hy
    obtain ⟨R4, x4⟩ := R3.turn h4
    refine ⟨HB, F0, P, F3, _, _, τ3, hpp, R4.wipeK pk, rx, e2, fun σ5 H5 F5 R5 x5 _ => ?_⟩
    refine ⟨HB, F0, P, F5, τ3, o1, τ4, hpp, R5, e3, ?_⟩
    cases o1 with
    | nxt =>
      refine ⟨fun _ c'' e σ' H' F' R' y => ?_, fun z => (nomatch z), fun z => (nomatch z), fun d z => (nomatch z)⟩
      subst e
      obtain ⟨F6, R6, x6⟩ := R'.lowTo l2
      exact ⟨F6, τ4, R6, x3.trans (x4.trans (x5.trans (y.trans x6))), e4⟩
    | cnt => exact ⟨fun z => (nomatch z), fun z => (nomatch z), fun _ σ' H' F' R' y => ⟨F', τ4, R', x3.trans (x4.trans (x5.trans y)), e4⟩, fun d z => (nomatch z)⟩
    | brk =>
      cases e4
      exact ⟨fun z => (nomatch z), fun _ σ' H' F' R' y => qn rfl _ _ _ (R'.wipeK pk) (x3.trans (x4.trans (x5.trans y))), fun z => (nomatch z), fun d z => (nomatch z)⟩
    | ret d =>
      cases e4
      exact ⟨fun z => (nomatch z), fun z => (nomatch z), fun z => (nomatch z), qr⟩
theorem itok_keys {K : PySem.W.Frag} {F : AS} {H : Hp} {ad : Addr} {od : Obj} {kvs : List (Key × V)} (fa : F ad) (h : H ad = some (.frz od (.dK kvs))) : ItOk K (Itk ad od kvs) (kvs.map fun p => kD p.1) [] F H := by
  intro HB2 F02 P2 c2 τ2 F2 σ2 H2 R2 hp x i
  have h2 : H2 ad = some (.frz od (.dK kvs)) := (x.keep ad fa).trans h
  rw [List.length_map]
  refine ⟨fun hi => ⟨h2, hi⟩, fun d hd => ?_⟩
  rw [List.getElem?_map, Option.map_eq_some_iff] at hd
  obtain ⟨⟨ky, vl⟩, hk, rfl⟩ := hd
  have hlt : i < kvs.length := by
    by_cases hlt : i < kvs.length
    · exact hlt
    · rw [List.getElem?_eq_none (by omega)] at hk; cases hk
  refine ⟨⟨h2, hlt⟩, fun y H3 hy => ?_⟩
  obtain ⟨rfl, k', v', hk', rfl⟩ := hy
  rw [hk] at hk'; cases hk'
  refine ⟨.inl rfl, ?_⟩
  cases ky with
  | inl n => exact .int n
  | inr s => exact .str s
theorem repL_key {K : PySem.W.Frag} {F : AS} {H : Hp} : ∀ (ks : List Key), RepL K F H (ks.map kD) (ks.map kV)
  | [] => .nil
  | .inl n :: ks => .cons (.int n) (repL_key ks)
  | .inr n :: ks => .cons (.str n) (repL_key ks)
theorem itok_keysT {K : PySem.W.Frag} {F : AS} {H : Hp} {ad : Addr} {od : Obj} {kvs : List (List Key × V)} (fa : F ad) (h : H ad = some (.frz od (.dT kvs))) : ItOk K (Itkt ad od kvs) (kvs.map fun p => .tup (p.1.map kD)) [] F H := by
  intro HB2 F02 P2 c2 τ2 F2 σ2 H2 R2 hp x i
  have h2 : H2 ad = some (.frz od (.dT kvs)) := (x.keep ad fa).trans h
  rw [List.length_map]
  refine ⟨fun hi => ⟨h2, hi⟩, fun d hd => ?_⟩
  rw [List.getElem?_map, Option.map_eq_some_iff] at hd
  obtain ⟨⟨ky, vl⟩, hk, rfl⟩ := hd
  have hlt : i < kvs.length := by
    by_cases hlt : i < kvs.length
    · exact hlt
    · rw [List.getElem?_eq_none (by omega)] at hk; cases hk
  refine ⟨⟨h2, hlt⟩, fun y H3 hy => ?_⟩
  obtain ⟨rfl, k', v', ad', hk', rfl, ht⟩ := hy
  rw [hk] at hk'; cases hk'
  exact ⟨.inl rfl, .tup ht (repL_key _)⟩
/-- for tg in y: y a dict -/
theorem okS_forK {cb' : Option Ctx} (hy : visB S y = true) (hi : S.N[i]? = some y) (lm : Low (c.set i .shr) m) (hg : OkG cl k S m tg ct c2) (hb : OkSs cl k w S c2 b bs cb' m) (l2 : endC cb' m) (hk : ∀ i ∈ kl, i ∉ S.pin) :
    OkS cl k w S c (.For tg (.Name y p2) b [] pos) (.fo ct (.keys (.v i)) bs kl) (some m) ci := by
  refine ⟨fun X x => ?_, fun h => by cases h⟩
  have base := ps_for (pos := pos) (iter := .Name y p2) x.never x.calm (pi_keys (pe_slot x hy hi)) (hg X x) (hb.ps X x) (fun _ => rfl)
  refine PS.imp (PS.or base (ps_lock base)) ?_
  rintro D σ H ⟨HB, F0, P, F, τ, o, τ', hp, R, ev, _, q⟩
  have ev : (evI cl (.keys (.v i)) τ).bind (fun xs => forL (bnd cl ct) (fun τ => evSs cl w bs τ) kl xs τ) = some (o, τ') := ev
  rw [Option.bind_eq_some_iff] at ev
  obtain ⟨xs, e1, ev⟩ := ev
  have e1 : ((sVar τ[i]?).bind keysD).bind itemsD = some xs := e1
  simp only [Option.bind_eq_some_iff] at e1
  obtain ⟨kl', ⟨d, f1, f2⟩, f3⟩ := e1
  have f1 := sVar_some f1
  have pk := pin_kill hp hk
  cases d with
  | dct t ks vs =>
    cases f2
    cases f3
    obtain ⟨F1, R1, x1⟩ := R.freeze i
    obtain ⟨F2, R2, x2⟩ := R1.lowTo lm
    obtain ⟨v0, ev0, s⟩ := R1.slot i _ f1
    rw [fl_set_shr] at s
    have s : RepV X.K F2 H (.dct t xs vs) v0 := RepV.mono x2 s
    -- the dict's object, locked or not
    have go : ∀ (ad : Addr) (u : HO), DictO u → F2 ad → (∀ kvs, u = .dK kvs → xs = kvs.map fun p => kD p.1) → (∀ kvs, u = .dT kvs → xs = kvs.map fun p => .tup (p.1.map kD)) →
        v0 = .ref ad → Rd H ad u → tFor (iKeys (tVar i)) (RG cl X.K S.pin ct m c2) (RSs cl w X.K S.pin bs c2 cb' m) D σ H ∨ tLock (tFor (iKeys (tVar i)) (RG cl X.K S.pin ct m c2) (RSs cl w X.K S.pin bs c2 cb' m)) D σ H := by
      rintro ad u du fa hk1 hk2 rfl (r | ⟨o', r⟩)
      · right
        refine ⟨ad, u, r, du.mut, fun od => ⟨_, ev0, ad, od, rfl, ?_⟩⟩
        have RL := R2.lock fa r du od
        have h2 : ∀ o, HB ad = some o → o = u := fun o e => by
          have := R2.same ad o e
          rw [r] at this; cases this; rfl
        have fin := fun (J : It) (hJ : ItOk X.K J xs [] F2 (upd H ad (.frz od u))) => for_core (D := ⟨fun σ' H' => H' ad = some (.frz od u) ∧ D.nx σ' (upd H' ad u), fun v H' => H' ad = some (.frz od u) ∧ D.rt v (upd H' ad u), fun σ' H' => H' ad = some (.frz od u) ∧ D.bk σ' (upd H' ad u), fun σ' H' => H' ad = some (.frz od u) ∧ D.ct σ' (upd H' ad u)⟩)
          (c2 := c2) (cb' := cb') (bs := bs) RL hp pk hJ (fun p h => by cases h) l2 ev (fun e σ' H' F' R' x' => by
            subst e
            exact ⟨R'.same ad _ upd_same, q.next (R'.unlock du (R2.f1 ad fa) h2) (x1.trans (x2.trans (ext_unlock r du x')))⟩) (fun d e v H' F' rv en => by
            have hh := en.same ad _ upd_same
            exact ⟨hh, q.rt d e v _ F' (rv.alike (alike_unlock hh du)) (en.unlock (R2.f1 ad fa) h2)⟩)
        rcases du with ⟨kvs, rfl⟩ | ⟨kvs, rfl⟩
        · have e := hk1 kvs rfl
          subst e
          exact .inl ⟨kvs, upd_same, fin _ (itok_keys fa upd_same)⟩
        · have e := hk2 kvs rfl
          subst e
          exact .inr ⟨kvs, upd_same, fin _ (itok_keysT fa upd_same)⟩
      · left
        refine ⟨_, ev0, ad, o', rfl, ?_⟩
        have fin := fun (J : It) (hJ : ItOk X.K J xs [] F2 H) => for_core (D := D) (c2 := c2) (cb' := cb') (bs := bs) R2 hp pk hJ (fun p h => by cases h) l2 ev (fun e σ' H' F' R' x' => by
          subst e
          exact q.next R' (x1.trans (x2.trans x'))) (fun d e v H' F' rv en => q.rt d e v H' F' rv en)
        rcases du with ⟨kvs, rfl⟩ | ⟨kvs, rfl⟩
        · have e := hk1 kvs rfl
          subst e
          exact .inl ⟨kvs, r, fin _ (itok_keys fa r)⟩
        · have e := hk2 kvs rfl
          subst e
          exact .inr ⟨kvs, r, fin _ (itok_keysT fa r)⟩
    cases s with
    | @dctK ad _ _ kvs f h e r => exact go ad _ (.inl ⟨kvs, rfl⟩) f (fun kvs' z => by cases z; exact e) (fun kvs' z => by cases z) rfl h
    | @dctT ad _ _ kvs f h e r => exact go ad _ (.inr ⟨kvs, rfl⟩) f (fun kvs' z => by cases z) (fun kvs' z => by cases z; exact e) rfl h
  | _ => cases f2
end
end PV

/-! a dict's display; a choice of new things -/
namespace PV
open PySem PySem.Spec PyProof.Rows L2
section
variable {K : PySem.W.Frag} {HB : Hp} {F0 : AS} {P Pn : Pins} {c m : Ctx} {τ : Env} {F F' : AS} {σ : L2.St} {H H' : Hp} {D : Addr} {o o' : HO} {vs : List Nat}
theorem Rel.noHoldD (R : Rel K (upd HB D o) F0 P c τ F σ H) : ∀ i, ¬ Holds c τ σ i D := fun i ⟨h1, h2, d, h3, h4⟩ => by
  obtain ⟨v, e, s⟩ := R.slot i d h3
  rw [h2] at e; cases e
  cases hf : fl c i with
  | shr => exact h1 hf
  | own =>
    rw [hf] at s
    rcases s with ⟨m, _⟩ | ⟨a, e1, _, e3, _⟩
    · rw [h4] at m; cases m
    · cases e1; rw [upd_same] at e3; cases e3
  | lent =>
    rw [hf] at s
    rcases s with ⟨m, _⟩ | ⟨a, e1, _, e3, _⟩
    · rw [h4] at m; cases m
    · cases e1; rw [upd_same] at e3; cases e3
/-- the object that is kept is told anew -/
theorem Rel.reset (R : Rel K (upd HB D o) F0 P c τ F σ H) (h0 : ¬ F0 D) (nt : ∀ vs, o ≠ .tup vs) : Rel K (upd HB D o') F0 P c τ F σ (upd H D o') ∧ Ext F H F (upd H D o') := by
  have nf := R.nfD h0
  have hD := R.same D _ upd_same
  have x : Ext F H F (upd H D o') := ⟨fun _ h => h, fun b (h : F b) => upd_ne fun (z : b = D) => nf (z ▸ h), fun b vs h => by rw [upd_ne fun z => by rw [z, hD] at h; cases h; exact nt _ rfl]; exact h⟩
  have ne : ∀ b, upd HB D o b = none → b ≠ D := fun b h z => by rw [z, upd_same] at h; cases h
  have sw : ∀ b, upd HB D o b = none → upd HB D o' b = none := fun b h => by
    have n := ne b h
    rw [upd_ne n] at h ⊢; exact h
  refine ⟨⟨fun a u h => ?_, fun a h => ?_, R.f0, fun a h => ?_, R.len, fun i d h => ?_, R.sep, R.pin⟩, x⟩
  · by_cases e : a = D
    · subst e; rw [upd_same] at h ⊢; exact h
    · rw [upd_ne e] at h ⊢; exact R.same a u (by rw [upd_ne e]; exact h)
  · rw [upd_ne fun (z : a = D) => nf (z ▸ h)]; exact R.dom a h
  · rcases R.f1 a h with h1 | h1
    · exact .inl h1
    · exact .inr (sw a h1)
  · obtain ⟨v, e, s⟩ := R.slot i d h
    refine ⟨v, e, ?_⟩
    cases hf : fl c i with
    | shr => rw [hf] at s; exact RepV.mono x s
    | own =>
      rw [hf] at s
      rcases s with ⟨m, s⟩ | ⟨a, e1, e2, e3, s⟩
      · exact .inl ⟨m, s.mono x⟩
      · exact .inr ⟨a, e1, e2, sw a e3, s.mono x (upd_ne (ne a e3))⟩
    | lent =>
      rw [hf] at s
      rcases s with ⟨m, s⟩ | ⟨a, e1, e2, e3, s⟩
      · exact .inl ⟨m, s.mono x⟩
      · exact .inr ⟨a, e1, e2, sw a e3, s.mono x (upd_ne (ne a e3))⟩
end
section
variable {cl : Nat → List D → Option D} {k w : Nat} {S : SC} {c c1 c2 c3 ci cc : Ctx} {c' : Option Ctx} {e ei e1 e2 e3 tg : Expr} {es : List Expr} {ca cb cd ce ct : C} {ces : List C} {fr fr2 : Bool} {pos p2 p3 p4 p5 p6 apos cpos : Pos} {ps : List Nat} {st : Stmt} {sts a b : List Stmt} {cs : PV.S} {css as bs : List PV.S} {i : Nat} {y : Str}
/-- {e1: e2}: a key that is no tuple -/
theorem ok_disp1 (ha : OkE cl k S c e1 ca c1 fr) (hb : OkE cl k S c1 e2 cb c2 fr2) : OkE cl k S c (.Dict [some e1] [e2] pos) (.dct false [ca] [cb]) c2 true := fun X x => by
  refine PE.imp (pe_disp (pps_cons (ha.shared X x) (hb.shared X x) pps_nil) rfl rfl (fun z => nomatch z) (by show 1 ≤ 15; decide)) ?_
  rintro σ H Q ⟨HB, F0, P, F, τ, d, hp, R, ev, q⟩ p hn
  have ev : ((sCons (evE cl ca τ) (some [])).bind fun ks => (sCons (evE cl cb τ) (some [])).bind fun vs => if ks.length ≤ 15 then mkD false [] [] (zipD ks vs) else none) = some d := ev
  simp only [Option.bind_eq_some_iff] at ev
  obtain ⟨ks, f1, vs, f2, f3⟩ := ev
  have f1 : ((evE cl ca τ).bind fun x => some [x]) = some ks := f1
  have f2 : ((evE cl cb τ).bind fun x => some [x]) = some vs := f2
  rw [Option.bind_eq_some_iff] at f1 f2
  obtain ⟨kd, g1, f4⟩ := f1
  obtain ⟨vd, g2, f5⟩ := f2
  cases f4; cases f5
  have f3 : (if kindOk false kd && szOk 0 then some (PV.D.dct false [kd] [vd]) else none) = some d := f3
  split at f3
  · rename_i hk
    cases f3
    rw [Bool.and_eq_true] at hk
    have ko := hk.1
    unfold kindOk at ko
    rw [Bool.and_eq_true, beq_iff_eq] at ko
    obtain ⟨κ, rfl⟩ := key_plain ko.1 ko.2
    obtain ⟨Ra, xa, nfa, hba, noa⟩ := R.newObj (o := .dK []) hn
    have h0 : ¬ F0 p := fun z => nfa (R.f0 p z)
    have Rp := Ra.protect nfa noa upd_same
    refine ⟨_, F0, P, F, τ, _, hp, Rp, g1, fun v H1 F1 R1 x1 r1 => ⟨_, F0, P, F1, τ, vd, hp, R1, g2, fun u H2 F2 R2 x2 r2 => ?_⟩⟩
    have r1 : RepV X.K F1 H1 (kD κ) v := r1
    have hv := rep_key r1
    subst hv
    refine ⟨R2.same p _ upd_same, [(κ, u)], rfl, (by show 1 ≤ 15; decide), ?_⟩
    obtain ⟨R3, x3⟩ := R2.reset (o' := .dK (mergeK [] [(κ, u)])) h0 (fun _ z => nomatch z)
    have r2 : RepV X.K F2 H2 vd u := r2
    refine q (.ref p) _ F2 (R3.unprotect hba) (xa.trans (x1.trans (x2.trans x3))) ?_
    refine .inr ⟨p, rfl, R3.nfD h0, hba, ⟨mergeK [] [(κ, u)], upd_same, rfl, .cons (r2.mono x3) .nil⟩, R3.noHoldD⟩
  · cases f3
/-- a choice of two new things -/
theorem ok_iteF (ht : OkT cl k S c e1 ca c1) (ha : OkE cl k S c1 e2 cb cc true) (hb : OkE cl k S c1 e3 cd cc true) : OkE cl k S c (.IfExp e1 e2 e3 pos) (.ite ca cb cd) cc true := fun X x => by
  refine PE.imp (pe_ifExp (ht X x) (ha X x) (hb X x)) ?_
  rintro σ H Q ⟨HB, F0, P, F, τ, d, hp, R, ev, q⟩
  have ev : sIte (evE cl ca τ) (evE cl cb τ) (evE cl cd τ) = some d := ev
  unfold sIte at ev
  simp only [Option.bind_eq_some_iff] at ev
  obtain ⟨y, e1, t, e2, e3⟩ := ev
  refine ⟨HB, F0, P, F, τ, t, hp, R, by show (evE cl ca τ).bind truD = some t; rw [e1]; exact e2, fun H1 F1 R1 x1 => ?_⟩
  cases t with
  | true =>
    rw [if_pos rfl] at e3 ⊢
    exact ⟨HB, F0, P, F1, τ, d, hp, R1, e3, fun w H2 F2 R2 x2 r2 => q w H2 F2 R2 (x1.trans x2) r2⟩
  | false =>
    rw [if_neg Bool.false_ne_true] at e3 ⊢
    exact ⟨HB, F0, P, F1, τ, d, hp, R1, e3, fun w H2 F2 R2 x2 r2 => q w H2 F2 R2 (x1.trans x2) r2⟩
theorem OkS.to (h : OkS cl k w S c st cs (some c1) ci) (e : c1 = c2) : OkS cl k w S c st cs (some c2) ci := e ▸ h
/-- a comprehension into a name that is no plain local: no swap -/
theorem swap_cell {X : Cx} (x : XOk cl k S X) (h : locB S y = false) {l : Nat} : swapsWith e (some (.Name y p2)) l X.env = pure false := by
  have hk : X.env.kindOf y = S.sc.names.lookup y := by unfold PySem.Env.kindOf; rw [x.sc]
  have hb : X.env.blockKind = .function := by
    unfold PySem.Env.blockKind
    rw [x.sc, x.kind]; rfl
  have hl : (X.env.kindOf y == some .local) = false := by
    rw [hk]
    unfold locB at h
    split at h
    · cases h
    · rename_i hn
      simpa using hn
  cases e <;> first | rfl | (unfold swapsWith; simp only [hb, hl, Bool.and_false, Bool.false_and]; done)
theorem okS_setOwnC (hs : storB S y = true) (hc2 : locB S y = false) (hi : S.N[i]? = some y) (hpn : i ∉ S.pin) (hc : i < c1.length) (ha : OkE cl k S c e ca c1 true) :
    OkS cl k w S c (.Assign [.Name y p2] e pos) (.asg (.v i) ca) (some (c1.set i .own)) ci := by
  refine ⟨fun X x => ?_, fun h => by cases h⟩
  obtain ⟨h1, h2⟩ := storB_ok x hs
  refine PS.imp (ps_set x.nd (by rw [x.hN]; exact hi) h1 (ha X x) (swap_cell x hc2) h2) ?_
  rintro D σ H ⟨HB, F0, P, F, τ, o, τ', hp, R, ev, _, q⟩
  obtain ⟨d, e1, e2, rfl⟩ := asg_key _ _ _ ev
  have e3 : τ' = τ.set i (some d) := bindV_some e2
  subst e3
  exact ⟨HB, F0, P, F, τ, d, hp, R, e1, fun v H1 F1 R1 x1 r1 => q.next (R1.setOwn r1 (pin_ne hp hpn) hc) x1⟩
end
end PV

/-! sorted(set(x)): x a list or a tuple of whole numbers -/
namespace PVS
open PySem PySem.Spec PyProof.Rows L2
/-- the set that is just made -/
abbrev noneSet (w : World) : Obj := { cls := .type "set", dict := none, data := .set #[] 0 (.fresh 0 0 (!w.params.followText "set-order")) }
theorem set_of_list {P : Program} {w : World} {A : Around} {E : Value → Shared → Prop} {s : Shared} {l : Addr} {items : Array Value} (ns : List Int) {Q : Value → Shared → Prop}
    (hh : A.handled = none) (hl : s.heap.IsList l items) (hit : IntsAre items.toList ns) (hb : ns.length + 1 < scanBound)
    (done : ∀ (g : Heap) (tk c : Nat), SetR w g s.heap.objs.size (fun j => decide (j ∈ ns)) c → c ≤ ns.length → (∀ b o, s.heap.get? b = some o → g.get? b = some o) → Q (.ref s.heap.objs.size) { s with heap := g, toks := tk }) :
    wpAny (model P w) A (call (.type "set") [.ref l]) Q E s := by
  have size_eq : items.size = ns.length := by have q := IntsAre.length hit; rwa [Array.length_toList] at q
  obtain ⟨cc, tl, mro⟩ := F.called_set.mro
  have f1 := F.called_set.made
  have f2 := F.called_set.sub
  have f3 := F.called_set.notType
  have f4 := F.called_set.canCreate
  have f5 := F.typeCall_set_1 (.ref l)
  have f6 := F.called_set.init.lookup
  refine wpAny_call (codeAny_of_tree ?_)
  show wpAny _ _ (callAny (.type "set") _) _ _ _
  refine wpAny_pure ⟨Code.quiet_builtin _ (by decide +kernel), codeAny_builtin F.entry_type_call ?_⟩
  rw [Around.under_plain (weight_type_call_type "set" [.ref l] []) rfl]
  repeat (any_goals (first | assumption | wp_step))
  refine codeAny_mono (code_set_led1 (.ref l) (E := E) (Q₁ := fun ob z => ob = .ref s.heap.objs.size ∧ z = { s with heap := s.heap.push (noneSet w) }) ⟨rfl, rfl⟩) fun res z hz => ?_
  cases res with
  | error e => exact hz
  | ok flow =>
    cases flow with
    | ret ob =>
      obtain ⟨rfl, rfl⟩ := hz
      have got : (s.heap.push (noneSet w)).get? s.heap.objs.size = some (noneSet w) := Heap.get?_push_size _ rfl
      have isS : Shared.TypeIs { s with heap := s.heap.push (noneSet w) } (.ref s.heap.objs.size) "set" := ⟨_, got, rfl⟩
      have f7 := F.called_set.init.bind (.ref s.heap.objs.size)
      repeat (any_goals (first | assumption | wp_step))
      refine codeAny_mono (codeAny_call_builtin (R := wants (fun r z => r = .none ∧ ∃ g tk c, z = { s with heap := g, toks := tk } ∧ SetR w g s.heap.objs.size (fun j => decide (j ∈ ns)) c ∧ c ≤ ns.length ∧ ∀ b o, s.heap.get? b = some o → g.get? b = some o) E)
        F.called_set.init.plain F.entry_set_init (check_set_init_1 isS ?_)) fun res2 z2 hz2 => ?_
      · obtain ⟨⟨oc, od, odt, osl⟩, hol, hcl, nl, hdl⟩ := hl
        simp only at hcl hdl
        subst hcl; subst hdl
        have lo : (s.heap.push (noneSet w)).get? l = some { cls := .type "list", dict := od, data := .seq items nl, slots := osl } := Heap.get?_push_of_some _ hol
        have lis : (s.heap.push (noneSet w)).IsList l items := ⟨_, lo, rfl, nl, rfl⟩
        have g1 := F.sub_list_set
        have g2 := F.sub_list_frozenset
        have g3 : (Value.type "list" == Value.type "dict") = false := by decide
        unfold Builtin.«set.__init__» noKeywords Builtin.Frozenset.updateFrom
        generalize hIter : pyIter = IT
        wp_walk
        subst hIter
        refine wpAny_pyIter_list lis ?_
        refine wpAny_bind (wpAny_runValue ?_)
        have lt : l < s.heap.objs.size := Heap.lt_size hol
        have hn3 : A.in1.in1.in1.handled = none := by simp [hh]
        have sz : (s.heap.push (noneSet w)).objs.size = s.heap.objs.size + 1 := Heap.size_push ..
        have apart : l ≠ (s.heap.push (noneSet w)).objs.size := by rw [sz]; exact Nat.ne_of_lt (Nat.lt_succ_of_lt lt)
        have off : s.heap.objs.size ∉ [(s.heap.push (noneSet w)).objs.size, l] := by
          rw [sz]
          simp only [List.mem_cons, List.not_mem_nil, or_false, not_or]
          exact ⟨Nat.ne_of_lt (Nat.lt_succ_self _), Nat.ne_of_gt lt⟩
        have vals : ∀ (i : Nat) (v : Value), items[i]? = some v → ∃ k t, ns[i]? = some k ∧ v = .int k t := fun i v hv => by
          have lti : i < ns.length := by rw [← size_eq]; exact (Array.getElem?_eq_some_iff.mp hv).1
          obtain ⟨t, ev⟩ := PyProof.Rows.IntsAre.int_at hit i v (by rw [Array.getElem?_toList]; exact hv)
          rw [List.getD_eq_getElem?_getD, List.getElem?_eq_getElem lti] at ev
          exact ⟨ns[i], t, List.getElem?_eq_getElem lti, ev⟩
        refine set_update_ints ((Walks.list hn3 _ l apart items).toS) s.heap.objs.size off ns size_eq hb vals (items.size - 0) 0 _ (by omega) (Nat.zero_le _) ⟨⟨_, Heap.get?_push_size _ rfl, rfl, rfl⟩, lis.push _⟩ ?start ?stop
        case start =>
          exact ⟨0, Nat.le_refl 0, setR_new_at (Heap.get?_push_of_some _ got)⟩
        case stop =>
          intro z3 c3 mv hc3 hS3
          obtain ⟨g, ge, dr, tk, os⟩ := z3
          have q1 : ge = s.gens := mv.gens
          have q2 : dr = s.drawn := mv.drawn
          have q3 : os = s.os := mv.os
          subst q1; subst q2; subst q3
          show wpAny _ _ _ _ _ _
          refine wpAny_pure ?_
          show wpAny _ _ (ret Value.none) _ _ _
          rw [size_eq] at hc3
          refine wpAny_pure ⟨rfl, g, tk, c3, rfl, hS3, hc3, fun b o e => ?_⟩
          have lb : b < s.heap.objs.size := Heap.lt_size e
          refine mv.heap b o ?_ (Heap.get?_push_of_some _ (Heap.get?_push_of_some _ e))
          rw [sz]
          simp only [List.mem_cons, List.not_mem_nil, or_false, not_or]
          exact ⟨Nat.ne_of_lt lb, Nat.ne_of_lt (Nat.lt_succ_of_lt lb)⟩
      · cases res2 with
        | error e => exact hz2
        | ok flow2 =>
          cases flow2 with
          | ret r =>
            obtain ⟨rfl, g, tk, c3, rfl, hS3, hc3, keep⟩ := hz2
            repeat (any_goals (first | assumption | wp_step))
            exact done _ _ _ hS3 hc3 keep
          | _ => exact hz2.elim
    | _ => exact hz.elim
/-- set(x): x a list or a tuple of whole numbers -/
def rSetNew (K : PySem.W.Frag) (w : World) : List V → Hp → VK → Prop := fun xs H Q => ∃ (l : Addr) (ns : List Int), xs = [V.ref l] ∧ (SqL K H l (ns.map V.int) ∨ SqT K H l (ns.map V.int)) ∧ ns.length ≤ 1000 ∧
  ∀ p c, H p = none → c ≤ ns.length → Q (.ref p) (upd H p (SetO w p (fun j => decide (j ∈ ns)) c))
theorem cr_setNew {X : Cx} (hc : X.calm = true) : CallR X (.type "set") (rSetNew X.K X.w) := by
  intro pins s σ H xs us Q I r h
  obtain ⟨l, ns, rfl, hq, hn, q⟩ := h
  rw [Vals.ref1 r]
  have hb : ns.length + 1 < scanBound := by
    have e : scanBound = 4096 := rfl
    omega
  have fin : ∀ (g : Heap) (tk c : Nat), SetR X.w g s.heap.objs.size (fun j => decide (j ∈ ns)) c → c ≤ ns.length → (∀ b o, s.heap.get? b = some o → g.get? b = some o) → EP X pins σ Q (.ref s.heap.objs.size) { s with heap := g, toks := tk } := fun g tk c hS hc' hk =>
    ⟨.ref s.heap.objs.size, _, I.laid (t' := tk) (fun b u e => hk b u e) (Nat.le_refl _) (setO_new hS), rfl, q _ c (I.hok.fresh (Nat.le_refl _)) hc'⟩
  rcases hq with hq | hq
  · obtain ⟨its, rv, pl, hz⟩ := I.list hq
    exact set_of_list ns (I.ok.hd hc) pl.isList (ints_of_vals rv) hb fin
  · obtain ⟨its, rv, pl, hz⟩ := I.tuple hq
    exact call_set_tupI ns (I.ok.hd hc) pl (ints_of_vals rv) hb fin
end PVS

/-! sorted(set(x)) -/
namespace PV
open PySem PySem.Spec PyProof.Rows L2
theorem dedup_mem : ∀ (l : List Int) (a : Int), a ∈ dedupI l ↔ a ∈ l
  | [], _ => Iff.rfl
  | b :: r, a => by
    unfold dedupI
    have ih := dedup_mem r a
    by_cases h : r.contains b = true
    · rw [if_pos h, ih, List.mem_cons]
      have hb : b ∈ r := by simpa using h
      exact ⟨.inr, fun z => z.elim (fun e => e ▸ hb) id⟩
    · rw [if_neg h, List.mem_cons, List.mem_cons, ih]
theorem dedup_nodup : ∀ l : List Int, (dedupI l).Nodup
  | [] => List.nodup_nil
  | b :: r => by
    unfold dedupI
    by_cases h : r.contains b = true
    · rw [if_pos h]; exact dedup_nodup r
    · rw [if_neg h]
      refine List.nodup_cons.mpr ⟨fun z => h ?_, dedup_nodup r⟩
      have := (dedup_mem r b).mp z
      simpa using this
theorem set_sorted {ns out : List Int} (pw : out.Pairwise (· < ·)) (mem : ∀ k : Int, k ∈ out ↔ decide (k ∈ ns) = true) : out = sortI (dedupI ns) := by
  have nd : out.Nodup := pw.imp (fun h => by omega)
  have le : out.Pairwise (· ≤ ·) := pw.imp (fun h => by omega)
  refine sorted_uniq le (sorted_sortI _) (((List.perm_ext_iff_of_nodup nd (dedup_nodup ns)).mpr fun k => ?_).trans (perm_sortI _).symm)
  rw [mem k, dedup_mem, decide_eq_true_eq]
section
variable {cl : Nat → List D → Option D} {k w : Nat} {S : SC} {c c1 c2 : Ctx} {e1 : Expr} {ca : C} {p2 p3 p4 pos : Pos}
theorem set_name_boot : bootBuiltins ("set" : Str) = some (.type "set") := by decide +kernel
theorem sorted_name_boot : bootBuiltins ("sorted" : Str) = some (.builtin "sorted") := by decide +kernel
theorem ok_sset (hg : globB S "sorted" = true) (hf : ("sorted" : Str) ∈ S.fr) (hg2 : globB S "set" = true) (hf2 : ("set" : Str) ∈ S.fr) (ha : OkB cl k S c e1 ca c1) (h1 : plainE e1 = true) :
    OkE cl k S c (.Call (.Name "sorted" p2) [.Call (.Name "set" p3) [e1] [] p4] [] pos) (.sset ca) c1 true := fun X x => by
  obtain ⟨g1, g2, g3⟩ := globB_ok x hg
  obtain ⟨g4, g5, g6⟩ := globB_ok x hg2
  refine PE.imp (pe_callB (cr_sortedSet x.calm) g1 (x.free _ hf) sorted_name_boot (pa_cons (pe_callTy (PVS.cr_setNew x.calm) g4 (x.free _ hf2) set_name_boot (okAB_cons ha okAB_nil h1 X x) g6 g5 (star_plain h1) (backTo_plain rfl)) pa_nil rfl) g3 g2 rfl rfl) ?_
  rintro σ H Q ⟨HB, F0, P, F, τ, d, hp, R, ev, q⟩
  have ev : (evE cl ca τ).bind ssetD = some d := ev
  rw [Option.bind_eq_some_iff] at ev
  obtain ⟨z, f1, f2⟩ := ev
  have f3 : evEs cl [ca] τ = some [z] := by
    show (evE cl ca τ).bind (fun x => some [x]) = some [z]
    rw [f1]; rfl
  refine ⟨HB, F0, P, F, τ, [z], hp, R, f3, fun vs H1 F1 R1 x1 r1 => ?_⟩
  cases r1 with
  | @cons _ v _ _ rz rr =>
    cases rr
    have fin : ∀ (a : Addr) (ns : List Int), v = .ref a → (SqL X.K H1 a (ns.map V.int) ∨ SqT X.K H1 a (ns.map V.int)) → ns.length ≤ 60 → d = .lst ((sortI (dedupI ns)).map .int) →
        PVS.rSetNew X.K X.w [v] H1 fun u H2 => tNil σ H2 fun us H3 => rSortedSet X.w (u :: us) H3 Q := by
      rintro a ns rfl hq hl rfl
      refine ⟨a, ns, rfl, hq, by omega, fun p c0 hp0 hc0 => ?_⟩
      obtain ⟨R2, x2, _⟩ := R1.newObj (o := SetO X.w p (fun j => decide (j ∈ ns)) c0) hp0
      refine ⟨p, _, c0, rfl, upd_same, by omega, fun out p' pw mem hlen hp' => ?_⟩
      have e := set_sorted pw mem
      subst e
      obtain ⟨R3, x3, _⟩ := R2.newObj (o := .lst ((sortI (dedupI ns)).map V.int)) hp'
      have ri : ∀ (F : AS) (H : Hp) (l : List Int), RepL X.K F H (l.map .int) (l.map V.int) := fun F H l => by
        induction l with
        | nil => exact .nil
        | cons n l ih => exact .cons (.int n) ih
      exact q _ _ F1 R3 (x1.trans (x2.trans x3)) (fresh_lst R2 hp' (ri _ _ _))
    unfold ssetD at f2
    split at f2
    · rw [Option.bind_eq_some_iff] at f2
      obtain ⟨ns, f4, f5⟩ := f2
      split at f5
      · rename_i hl
        cases f5
        obtain ⟨a, ws, rfl, h, rl⟩ := (R1.read rz).lst
        have := intsD_rep f4 rl
        subst this
        exact fin a ns rfl (.inl (.of h)) hl rfl
      · cases f5
    · rw [Option.bind_eq_some_iff] at f2
      obtain ⟨ns, f4, f5⟩ := f2
      split at f5
      · rename_i hl
        cases f5
        obtain ⟨a, ws, rfl, h, rl⟩ := (R1.read rz).tup
        have := intsD_rep f4 rl
        subst this
        exact fin a ns rfl (.inr (.of h)) hl rfl
      · cases f5
    · cases f2
end
end PV

namespace K92
open PySem PySem.Spec PyProof.Rows L2 PV
def top (i : Nat) : Stmt := PySem.Challenge.pw_rootstold_k92_stay_paths.main.body.getD i (.Pass ⟨0, 0, 0, 0⟩)
def tab : List (Str × Nat × Nat) := [("divisor", 0, 2), ("lowest", 1, 2), ("ratio_plus", 2, 2), ("ratio_times", 3, 2), ("stay_paths", 4, 3), ("moments_of", 5, 2), ("_law_mixed", 6, 2), ("_law_row", 7, 2), ("_law_is_int", 8, 1), ("_law_like", 9, 2), ("law", 10, 1)]
/-! divisor: 0=first 1=second -/
def core0 : List PV.S := [.asg (.tup [.v 0, .v 1]) (.tup [.bi .abs [.v 0], .bi .abs [.v 1]]), .whl (.cmp .gt (.v 1) (.k (.int 0))) [.asg (.tup [.v 0, .v 1]) (.tup [.v 1, .bin .mod (.v 0) (.v 1)])] [], .ret (.v 0)]
def sc0 : SC := ⟨["first", "second"], defScope (top 1), tab, [], ["abs"], [], none, []⟩
theorem ok0 (cl : Nat → List D → Option D) (k fu : Nat) : OkSs cl k fu sc0 (List.replicate 2 .shr) (defBody (top 1)) core0 none [] :=
 (okSs_cons (OkS.to (c2 := [.shr, .shr]) (okS_par (i := 0) (j := 1) (by kernel_rfl) (by kernel_rfl) (by kernel_rfl) (out1 (by kernel_rfl)) (out1 (by kernel_rfl)) (by kernel_rfl) (by kernel_rfl) (okA_cons (ok_bi (f := .abs) (by kernel_rfl) (by decide +kernel) (okAB_cons (okB_name (i := 0) (by kernel_rfl) (by kernel_rfl)) okAB_nil rfl) rfl).shared (okA_cons (ok_bi (f := .abs) (by kernel_rfl) (by decide +kernel) (okAB_cons (okB_name (i := 1) (by kernel_rfl) (by kernel_rfl)) okAB_nil rfl) rfl).shared okA_nil rfl) rfl) (by kernel_rfl)) (by kernel_rfl))
 (okSs_cons (OkS.to (c2 := [.shr, .shr]) (okS_whl (m := [.shr, .shr]) (low_of (by kernel_rfl)) (okT_cmp (op := .gt) (okB_name (i := 1) (by kernel_rfl) (by kernel_rfl)) (OkE.b ok_int) rfl (fun h => h.elim (fun z => nomatch z) fun z => nomatch z)) (okSs_cons (OkS.to (c2 := [.shr, .shr]) (okS_par (i := 0) (j := 1) (by kernel_rfl) (by kernel_rfl) (by kernel_rfl) (out1 (by kernel_rfl)) (out1 (by kernel_rfl)) (by kernel_rfl) (by kernel_rfl) (okA_cons (ok_name (i := 1) (by kernel_rfl) (by kernel_rfl)).shared (okA_cons (ok_bin (op := .mod) (okB_name (i := 0) (by kernel_rfl) (by kernel_rfl)) (okB_name (i := 1) (by kernel_rfl) (by kernel_rfl))).shared okA_nil rfl) rfl) (by kernel_rfl)) (by kernel_rfl))
 okSs_nil) (low_of (by kernel_rfl)) (low_of (by kernel_rfl)) (out_of (by kernel_rfl))) (by kernel_rfl))
 (okSs_last (okS_ret (ok_name (i := 0) (by kernel_rfl) (by kernel_rfl))))))
theorem fs0 : FnScope sc0.N ["first", "second"] (defScope (top 1)) := ⟨rfl, rfl, rfl, by decide +kernel, rfl, by decide +kernel, by decide +kernel⟩
/-! lowest: 0=a 1=b 2=common -/
def core1 : List PV.S := [.asg (.v 2) (.ite (.cmp .gt (.v 1) (.k (.int 0))) (.cal 0 [.v 0, .v 1]) (.neg (.cal 0 [.v 0, .v 1]))), .ret (.tup [.bin .fdiv (.v 0) (.v 2), .bin .fdiv (.v 1) (.v 2)])]
def sc1 : SC := ⟨["a", "b", "common"], defScope (top 2), tab, [], [], [], none, []⟩
theorem ok1 (cl : Nat → List D → Option D) (k fu : Nat) : OkSs cl k fu sc1 (List.replicate 3 .shr) (defBody (top 2)) core1 none [] :=
 (okSs_cons (OkS.to (c2 := [.shr, .shr, .shr]) (okS_setShr (i := 2) (by kernel_rfl) (by kernel_rfl) (out1 (by kernel_rfl)) (ok_ite (cc := [.shr, .shr, .shr]) (low_of (by kernel_rfl)) (low_of (by kernel_rfl)) (okT_cmp (op := .gt) (okB_name (i := 1) (by kernel_rfl) (by kernel_rfl)) (OkE.b ok_int) rfl (fun h => h.elim (fun z => nomatch z) fun z => nomatch z)) (ok_cal (by kernel_rfl) (by kernel_rfl) rfl (okA_cons (ok_name (i := 0) (by kernel_rfl) (by kernel_rfl)).shared (okA_cons (ok_name (i := 1) (by kernel_rfl) (by kernel_rfl)).shared okA_nil rfl) rfl) rfl).shared (ok_neg (ok_cal (by kernel_rfl) (by kernel_rfl) rfl (okA_cons (ok_name (i := 0) (by kernel_rfl) (by kernel_rfl)).shared (okA_cons (ok_name (i := 1) (by kernel_rfl) (by kernel_rfl)).shared okA_nil rfl) rfl) rfl).b).shared) rfl) (by kernel_rfl))
 (okSs_last (okS_ret (ok_tup (okA_cons (ok_bin (op := .fdiv) (okB_name (i := 0) (by kernel_rfl) (by kernel_rfl)) (okB_name (i := 2) (by kernel_rfl) (by kernel_rfl))).shared (okA_cons (ok_bin (op := .fdiv) (okB_name (i := 1) (by kernel_rfl) (by kernel_rfl)) (okB_name (i := 2) (by kernel_rfl) (by kernel_rfl))).shared okA_nil rfl) rfl)))))
theorem fs1 : FnScope sc1.N ["a", "b"] (defScope (top 2)) := ⟨rfl, rfl, rfl, by decide +kernel, rfl, by decide +kernel, by decide +kernel⟩
/-! ratio_plus: 0=first 1=second -/
def core2 : List PV.S := [.ret (.cal 1 [.bin .add (.bin .mul (.idx (.v 0) (.k (.int 0))) (.idx (.v 1) (.k (.int 1)))) (.bin .mul (.idx (.v 1) (.k (.int 0))) (.idx (.v 0) (.k (.int 1)))), .bin .mul (.idx (.v 0) (.k (.int 1))) (.idx (.v 1) (.k (.int 1)))])]
def sc2 : SC := ⟨["first", "second"], defScope (top 3), tab, [], [], [], none, []⟩
theorem ok2 (cl : Nat → List D → Option D) (k fu : Nat) : OkSs cl k fu sc2 (List.replicate 2 .shr) (defBody (top 3)) core2 none [] :=
 (okSs_last (okS_ret (ok_cal (by kernel_rfl) (by kernel_rfl) rfl (okA_cons (ok_bin (op := .add) (ok_bin (op := .mul) (ok_idx (okB_name (i := 0) (by kernel_rfl) (by kernel_rfl)) (OkE.b ok_int) rfl).b (ok_idx (okB_name (i := 1) (by kernel_rfl) (by kernel_rfl)) (OkE.b ok_int) rfl).b).b (ok_bin (op := .mul) (ok_idx (okB_name (i := 1) (by kernel_rfl) (by kernel_rfl)) (OkE.b ok_int) rfl).b (ok_idx (okB_name (i := 0) (by kernel_rfl) (by kernel_rfl)) (OkE.b ok_int) rfl).b).b).shared (okA_cons (ok_bin (op := .mul) (ok_idx (okB_name (i := 0) (by kernel_rfl) (by kernel_rfl)) (OkE.b ok_int) rfl).b (ok_idx (okB_name (i := 1) (by kernel_rfl) (by kernel_rfl)) (OkE.b ok_int) rfl).b).shared okA_nil rfl) rfl) rfl)))
theorem fs2 : FnScope sc2.N ["first", "second"] (defScope (top 3)) := ⟨rfl, rfl, rfl, by decide +kernel, rfl, by decide +kernel, by decide +kernel⟩
/-! ratio_times: 0=first 1=second -/
def core3 : List PV.S := [.ret (.cal 1 [.bin .mul (.idx (.v 0) (.k (.int 0))) (.idx (.v 1) (.k (.int 0))), .bin .mul (.idx (.v 0) (.k (.int 1))) (.idx (.v 1) (.k (.int 1)))])]
def sc3 : SC := ⟨["first", "second"], defScope (top 4), tab, [], [], [], none, []⟩
theorem ok3 (cl : Nat → List D → Option D) (k fu : Nat) : OkSs cl k fu sc3 (List.replicate 2 .shr) (defBody (top 4)) core3 none [] :=
 (okSs_last (okS_ret (ok_cal (by kernel_rfl) (by kernel_rfl) rfl (okA_cons (ok_bin (op := .mul) (ok_idx (okB_name (i := 0) (by kernel_rfl) (by kernel_rfl)) (OkE.b ok_int) rfl).b (ok_idx (okB_name (i := 1) (by kernel_rfl) (by kernel_rfl)) (OkE.b ok_int) rfl).b).shared (okA_cons (ok_bin (op := .mul) (ok_idx (okB_name (i := 0) (by kernel_rfl) (by kernel_rfl)) (OkE.b ok_int) rfl).b (ok_idx (okB_name (i := 1) (by kernel_rfl) (by kernel_rfl)) (OkE.b ok_int) rfl).b).shared okA_nil rfl) rfl) rfl)))
theorem fs3 : FnScope sc3.N ["first", "second"] (defScope (top 4)) := ⟨rfl, rfl, rfl, by decide +kernel, rfl, by decide +kernel, by decide +kernel⟩
/-! stay_paths: 0=n 1=steps 2=h 3=counts 4=_ 5=grown 6=here 7=step -/
def core4 : List PV.S := [.asg (.v 3) (.dct false [.k (.int 0)] [.k (.int 1)]), .fo (.v 4) (.rng [.v 0]) [.asg (.v 5) (.dct false [] []), .fo (.v 6) (.keys (.v 3)) [.fo (.v 7) (.v 1) [.ite (.cmp .ge (.bin .add (.v 6) (.v 7)) (.k (.int 0))) [.asg (.idx (.v 5) (.bin .add (.v 6) (.v 7))) (.bin .add (.get (.v 5) (.bin .add (.v 6) (.v 7)) (.k (.int 0))) (.idx (.v 3) (.v 6)))] []] []] [], .asg (.v 3) (.v 5)] [], .ret (.get (.v 3) (.v 2) (.k (.int 0)))]
def sc4 : SC := ⟨["n", "steps", "h", "counts", "_", "grown", "here", "step"], defScope (top 6), tab, [], ["range"], [], none, []⟩
theorem ok4 (cl : Nat → List D → Option D) (k fu : Nat) : OkSs cl k fu sc4 (List.replicate 8 .shr) (defBody (top 6)) core4 none [] :=
 (okSs_cons (OkS.to (c2 := [.shr, .shr, .shr, .own, .shr, .shr, .shr, .shr]) (okS_setOwn (i := 3) (by kernel_rfl) (by kernel_rfl) (out1 (by kernel_rfl)) (by decide) (ok_disp1 ok_int ok_int) rfl) (by kernel_rfl))
 (okSs_cons (OkS.to (c2 := [.shr, .shr, .shr, .shr, .shr, .shr, .shr, .shr]) (okS_for (m := [.shr, .shr, .shr, .shr, .shr, .shr, .shr, .shr]) (cx := [.shr, .shr, .shr, .shr, .shr, .shr, .shr, .shr]) (okI_rng (by kernel_rfl) (by decide +kernel) (okAB_cons (okB_name (i := 0) (by kernel_rfl) (by kernel_rfl)) okAB_nil rfl) rfl (.inl rfl) (fun _ _ => rfl)) (low_of (by kernel_rfl)) (okG_name (i := 4) (by kernel_rfl) (by kernel_rfl) (out1 (by kernel_rfl))) (okSs_cons (OkS.to (c2 := [.shr, .shr, .shr, .shr, .shr, .own, .shr, .shr]) (okS_setOwn (i := 5) (by kernel_rfl) (by kernel_rfl) (out1 (by kernel_rfl)) (by decide) (ok_dct0 (t := false)) rfl) (by kernel_rfl))
 (okSs_cons (OkS.to (c2 := [.shr, .shr, .shr, .shr, .shr, .own, .shr, .shr]) (okS_forK (i := 3) (m := [.shr, .shr, .shr, .shr, .shr, .own, .shr, .shr]) (by kernel_rfl) (by kernel_rfl) (low_of (by kernel_rfl)) (okG_name (i := 6) (by kernel_rfl) (by kernel_rfl) (out1 (by kernel_rfl))) (okSs_cons (OkS.to (c2 := [.shr, .shr, .shr, .shr, .shr, .own, .shr, .shr]) (okS_for (m := [.shr, .shr, .shr, .shr, .shr, .own, .shr, .shr]) (cx := [.shr, .shr, .shr, .shr, .shr, .own, .shr, .shr]) (okI_seq (okH_expr (ok_name (i := 1) (by kernel_rfl) (by kernel_rfl)))) (low_of (by kernel_rfl)) (okG_name (i := 7) (by kernel_rfl) (by kernel_rfl) (out1 (by kernel_rfl))) (okSs_cons (OkS.to (c2 := [.shr, .shr, .shr, .shr, .shr, .own, .shr, .shr]) (okS_if (okT_cmp (op := .ge) (ok_bin (op := .add) (okB_name (i := 6) (by kernel_rfl) (by kernel_rfl)) (okB_name (i := 7) (by kernel_rfl) (by kernel_rfl))).b (OkE.b ok_int) rfl (fun h => h.elim (fun z => nomatch z) fun z => nomatch z)) (okSs_cons (OkS.to (c2 := [.shr, .shr, .shr, .shr, .shr, .own, .shr, .shr]) (okS_put (i := 5) (by kernel_rfl) (by kernel_rfl) (out1 (by kernel_rfl)) (ok_bin (op := .add) (ok_get (i := 5) (by kernel_rfl) (by kernel_rfl) (ok_bin (op := .add) (okB_name (i := 6) (by kernel_rfl) (by kernel_rfl)) (okB_name (i := 7) (by kernel_rfl) (by kernel_rfl))).b ok_int rfl rfl (by kernel_rfl)).b (ok_idx (okB_name (i := 3) (by kernel_rfl) (by kernel_rfl)) (okB_name (i := 6) (by kernel_rfl) (by kernel_rfl)) rfl).b) (ok_bin (op := .add) (okB_name (i := 6) (by kernel_rfl) (by kernel_rfl)) (okB_name (i := 7) (by kernel_rfl) (by kernel_rfl))).b (by kernel_rfl) rfl) (by kernel_rfl))
 okSs_nil) okSs_nil ⟨[.shr, .shr, .shr, .shr, .shr, .own, .shr, .shr], rfl, low_of (by kernel_rfl), low_of (by kernel_rfl)⟩) (by kernel_rfl))
 okSs_nil) (low_of (by kernel_rfl)) (out_of (by kernel_rfl)) (fun _ _ => rfl) (unl_of (by kernel_rfl))) (by kernel_rfl))
 okSs_nil) (low_of (by kernel_rfl)) (out_of (by kernel_rfl))) (by kernel_rfl))
 (okSs_cons (OkS.to (c2 := [.shr, .shr, .shr, .shr, .shr, .shr, .shr, .shr]) (okS_setShr (i := 3) (by kernel_rfl) (by kernel_rfl) (out1 (by kernel_rfl)) (ok_name (i := 5) (by kernel_rfl) (by kernel_rfl)) rfl) (by kernel_rfl))
 okSs_nil))) (low_of (by kernel_rfl)) (out_of (by kernel_rfl)) (fun _ _ => rfl) (unl_of (by kernel_rfl))) (by kernel_rfl))
 (okSs_last (okS_ret (ok_get (i := 3) (by kernel_rfl) (by kernel_rfl) (okB_name (i := 2) (by kernel_rfl) (by kernel_rfl)) ok_int rfl rfl (by kernel_rfl))))))
theorem fs4 : FnScope sc4.N ["n", "steps", "h"] (defScope (top 6)) := ⟨rfl, rfl, rfl, by decide +kernel, rfl, by decide +kernel, by decide +kernel⟩
/-! moments_of: 0=first 1=ladder 2=stays 3=downs 4=n 5=heights 6=found 7=_ 8=grown 9=here 10=moves 11=there 12=factor -/
def core5 : List PV.S := [.asg (.tup [.v 2, .v 3]) (.v 1), .asg (.v 4) (.bi .len [.v 2]), .asg (.v 5) (.dct false [.k (.int 0)] [.tup [.v 0, .k (.int 1)]]), .asg (.v 6) (.lst [.tup [.v 0, .k (.int 1)]]), .fo (.v 7) (.rng [.bin .mul (.k (.int 2)) (.v 4)]) [.asg (.v 8) (.dct false [] []), .fo (.v 9) (.keys (.v 5)) [.asg (.v 10) (.ite (.cmp .lt (.v 9) (.v 4)) (.lst [.tup [.bin .add (.v 9) (.k (.int 1)), .tup [.k (.int 1), .k (.int 1)]]]) (.lst [])), .ite (.cmp .lt (.v 9) (.v 4)) [.app 10 (.tup [.v 9, .idx (.v 2) (.v 9)])] [], .ite (.cmp .gt (.v 9) (.k (.int 0))) [.app 10 (.tup [.bin .sub (.v 9) (.k (.int 1)), .idx (.v 3) (.bin .sub (.v 9) (.k (.int 1)))])] [], .fo (.tup [.v 11, .v 12]) (.v 10) [.asg (.idx (.v 8) (.v 11)) (.cal 2 [.get (.v 8) (.v 11) (.tup [.k (.int 0), .k (.int 1)]), .cal 3 [.idx (.v 5) (.v 9), .v 12]])] []] [], .asg (.v 5) (.v 8), .app 6 (.get (.v 5) (.k (.int 0)) (.tup [.k (.int 0), .k (.int 1)]))] [], .ret (.bi .tuple [.v 6])]
def sc5 : SC := ⟨["first", "ladder", "stays", "downs", "n", "heights", "found", "_", "grown", "here", "moves", "there", "factor"], defScope (top 8), tab, [], ["len", "range", "tuple"], [], none, []⟩
theorem ok5 (cl : Nat → List D → Option D) (k fu : Nat) : OkSs cl k fu sc5 (List.replicate 13 .shr) (defBody (top 8)) core5 none [] :=
 (okSs_cons (OkS.to (c2 := [.shr, .shr, .shr, .shr, .shr, .shr, .shr, .shr, .shr, .shr, .shr, .shr, .shr]) (okS_asg (ok_name (i := 1) (by kernel_rfl) (by kernel_rfl)) (okG_tup (okGs_cons (okG_name (i := 2) (by kernel_rfl) (by kernel_rfl) (out1 (by kernel_rfl))) (okGs_cons (okG_name (i := 3) (by kernel_rfl) (by kernel_rfl) (out1 (by kernel_rfl))) okGs_nil rfl) rfl) rfl rfl) rfl (fun _ _ => noswap_val rfl) rfl) (by kernel_rfl))
 (okSs_cons (OkS.to (c2 := [.shr, .shr, .shr, .shr, .own, .shr, .shr, .shr, .shr, .shr, .shr, .shr, .shr]) (okS_setOwn (i := 4) (by kernel_rfl) (by kernel_rfl) (out1 (by kernel_rfl)) (by decide) (ok_bi (f := .len) (by kernel_rfl) (by decide +kernel) (okAB_cons (okB_name (i := 2) (by kernel_rfl) (by kernel_rfl)) okAB_nil rfl) rfl) rfl) (by kernel_rfl))
 (okSs_cons (OkS.to (c2 := [.shr, .shr, .shr, .shr, .own, .own, .shr, .shr, .shr, .shr, .shr, .shr, .shr]) (okS_setOwn (i := 5) (by kernel_rfl) (by kernel_rfl) (out1 (by kernel_rfl)) (by decide) (ok_disp1 ok_int (ok_tup (okA_cons (ok_name (i := 0) (by kernel_rfl) (by kernel_rfl)).shared (okA_cons (OkE.shared ok_int) okA_nil rfl) rfl))) rfl) (by kernel_rfl))
 (okSs_cons (OkS.to (c2 := [.shr, .shr, .shr, .shr, .own, .own, .own, .shr, .shr, .shr, .shr, .shr, .shr]) (okS_setOwn (i := 6) (by kernel_rfl) (by kernel_rfl) (out1 (by kernel_rfl)) (by decide) (ok_lst (okA_cons (ok_tup (okA_cons (ok_name (i := 0) (by kernel_rfl) (by kernel_rfl)).shared (okA_cons (OkE.shared ok_int) okA_nil rfl) rfl)).shared okA_nil rfl)) rfl) (by kernel_rfl))
 (okSs_cons (OkS.to (c2 := [.shr, .shr, .shr, .shr, .own, .shr, .own, .shr, .shr, .shr, .shr, .shr, .shr]) (okS_for (m := [.shr, .shr, .shr, .shr, .own, .shr, .own, .shr, .shr, .shr, .shr, .shr, .shr]) (cx := [.shr, .shr, .shr, .shr, .own, .shr, .own, .shr, .shr, .shr, .shr, .shr, .shr]) (okI_rng (by kernel_rfl) (by decide +kernel) (okAB_cons (ok_bin (op := .mul) (OkE.b ok_int) (okB_name (i := 4) (by kernel_rfl) (by kernel_rfl))).b okAB_nil rfl) rfl (.inl rfl) (fun _ _ => rfl)) (low_of (by kernel_rfl)) (okG_name (i := 7) (by kernel_rfl) (by kernel_rfl) (out1 (by kernel_rfl))) (okSs_cons (OkS.to (c2 := [.shr, .shr, .shr, .shr, .own, .shr, .own, .shr, .own, .shr, .shr, .shr, .shr]) (okS_setOwn (i := 8) (by kernel_rfl) (by kernel_rfl) (out1 (by kernel_rfl)) (by decide) (ok_dct0 (t := false)) rfl) (by kernel_rfl))
 (okSs_cons (OkS.to (c2 := [.shr, .shr, .shr, .shr, .own, .shr, .own, .shr, .own, .shr, .shr, .shr, .shr]) (okS_forK (i := 5) (m := [.shr, .shr, .shr, .shr, .own, .shr, .own, .shr, .own, .shr, .shr, .shr, .shr]) (by kernel_rfl) (by kernel_rfl) (low_of (by kernel_rfl)) (okG_name (i := 9) (by kernel_rfl) (by kernel_rfl) (out1 (by kernel_rfl))) (okSs_cons (OkS.to (c2 := [.shr, .shr, .shr, .shr, .own, .shr, .own, .shr, .own, .shr, .own, .shr, .shr]) (okS_setOwn (i := 10) (by kernel_rfl) (by kernel_rfl) (out1 (by kernel_rfl)) (by decide) (ok_iteF (okT_cmp (op := .lt) (okB_name (i := 9) (by kernel_rfl) (by kernel_rfl)) (okB_name (i := 4) (by kernel_rfl) (by kernel_rfl)) rfl (fun h => h.elim (fun z => nomatch z) fun z => nomatch z)) (ok_lst (okA_cons (ok_tup (okA_cons (ok_bin (op := .add) (okB_name (i := 9) (by kernel_rfl) (by kernel_rfl)) (OkE.b ok_int)).shared (okA_cons (ok_tup (okA_cons (OkE.shared ok_int) (okA_cons (OkE.shared ok_int) okA_nil rfl) rfl)).shared okA_nil rfl) rfl)).shared okA_nil rfl)) (ok_lst okA_nil)) rfl) (by kernel_rfl))
 (okSs_cons (OkS.to (c2 := [.shr, .shr, .shr, .shr, .own, .shr, .own, .shr, .own, .shr, .own, .shr, .shr]) (okS_if (okT_cmp (op := .lt) (okB_name (i := 9) (by kernel_rfl) (by kernel_rfl)) (okB_name (i := 4) (by kernel_rfl) (by kernel_rfl)) rfl (fun h => h.elim (fun z => nomatch z) fun z => nomatch z)) (okSs_cons (OkS.to (c2 := [.shr, .shr, .shr, .shr, .own, .shr, .own, .shr, .own, .shr, .own, .shr, .shr]) (okS_app (i := 10) (by kernel_rfl) (by kernel_rfl) (out1 (by kernel_rfl)) (ok_tup (okA_cons (ok_name (i := 9) (by kernel_rfl) (by kernel_rfl)).shared (okA_cons (ok_idx (okB_name (i := 2) (by kernel_rfl) (by kernel_rfl)) (okB_name (i := 9) (by kernel_rfl) (by kernel_rfl)) rfl).shared okA_nil rfl) rfl)) (by kernel_rfl) rfl (by kernel_rfl)) (by kernel_rfl))
 okSs_nil) okSs_nil ⟨[.shr, .shr, .shr, .shr, .own, .shr, .own, .shr, .own, .shr, .own, .shr, .shr], rfl, low_of (by kernel_rfl), low_of (by kernel_rfl)⟩) (by kernel_rfl))
 (okSs_cons (OkS.to (c2 := [.shr, .shr, .shr, .shr, .own, .shr, .own, .shr, .own, .shr, .own, .shr, .shr]) (okS_if (okT_cmp (op := .gt) (okB_name (i := 9) (by kernel_rfl) (by kernel_rfl)) (OkE.b ok_int) rfl (fun h => h.elim (fun z => nomatch z) fun z => nomatch z)) (okSs_cons (OkS.to (c2 := [.shr, .shr, .shr, .shr, .own, .shr, .own, .shr, .own, .shr, .own, .shr, .shr]) (okS_app (i := 10) (by kernel_rfl) (by kernel_rfl) (out1 (by kernel_rfl)) (ok_tup (okA_cons (ok_bin (op := .sub) (okB_name (i := 9) (by kernel_rfl) (by kernel_rfl)) (OkE.b ok_int)).shared (okA_cons (ok_idx (okB_name (i := 3) (by kernel_rfl) (by kernel_rfl)) (ok_bin (op := .sub) (okB_name (i := 9) (by kernel_rfl) (by kernel_rfl)) (OkE.b ok_int)).b rfl).shared okA_nil rfl) rfl)) (by kernel_rfl) rfl (by kernel_rfl)) (by kernel_rfl))
 okSs_nil) okSs_nil ⟨[.shr, .shr, .shr, .shr, .own, .shr, .own, .shr, .own, .shr, .own, .shr, .shr], rfl, low_of (by kernel_rfl), low_of (by kernel_rfl)⟩) (by kernel_rfl))
 (okSs_cons (OkS.to (c2 := [.shr, .shr, .shr, .shr, .own, .shr, .own, .shr, .own, .shr, .own, .shr, .shr]) (okS_for (m := [.shr, .shr, .shr, .shr, .own, .shr, .own, .shr, .own, .shr, .lent, .shr, .shr]) (cx := [.shr, .shr, .shr, .shr, .own, .shr, .own, .shr, .own, .shr, .own, .shr, .shr]) (okI_seq (okH_own (i := 10) (by kernel_rfl) (by kernel_rfl) (by kernel_rfl))) (low_of (by kernel_rfl)) (okG_tup (okGs_cons (okG_name (i := 11) (by kernel_rfl) (by kernel_rfl) (out1 (by kernel_rfl))) (okGs_cons (okG_name (i := 12) (by kernel_rfl) (by kernel_rfl) (out1 (by kernel_rfl))) okGs_nil rfl) rfl) rfl rfl) (okSs_cons (OkS.to (c2 := [.shr, .shr, .shr, .shr, .own, .shr, .own, .shr, .own, .shr, .lent, .shr, .shr]) (okS_put (i := 8) (by kernel_rfl) (by kernel_rfl) (out1 (by kernel_rfl)) (ok_cal (by kernel_rfl) (by kernel_rfl) rfl (okA_cons (ok_get (i := 8) (by kernel_rfl) (by kernel_rfl) (okB_name (i := 11) (by kernel_rfl) (by kernel_rfl)) (ok_tup (okA_cons (OkE.shared ok_int) (okA_cons (OkE.shared ok_int) okA_nil rfl) rfl)) rfl rfl (by kernel_rfl)).shared (okA_cons (ok_cal (by kernel_rfl) (by kernel_rfl) rfl (okA_cons (ok_idx (okB_name (i := 5) (by kernel_rfl) (by kernel_rfl)) (okB_name (i := 9) (by kernel_rfl) (by kernel_rfl)) rfl).shared (okA_cons (ok_name (i := 12) (by kernel_rfl) (by kernel_rfl)).shared okA_nil rfl) rfl) rfl).shared okA_nil rfl) rfl) rfl) (okB_name (i := 11) (by kernel_rfl) (by kernel_rfl)) (by kernel_rfl) rfl) (by kernel_rfl))
 okSs_nil) (low_of (by kernel_rfl)) (out_of (by kernel_rfl)) (fun _ _ => rfl) (unl_of (by kernel_rfl))) (by kernel_rfl))
 okSs_nil)))) (low_of (by kernel_rfl)) (out_of (by kernel_rfl))) (by kernel_rfl))
 (okSs_cons (OkS.to (c2 := [.shr, .shr, .shr, .shr, .own, .shr, .own, .shr, .shr, .shr, .shr, .shr, .shr]) (okS_setShr (i := 5) (by kernel_rfl) (by kernel_rfl) (out1 (by kernel_rfl)) (ok_name (i := 8) (by kernel_rfl) (by kernel_rfl)) rfl) (by kernel_rfl))
 (okSs_cons (OkS.to (c2 := [.shr, .shr, .shr, .shr, .own, .shr, .own, .shr, .shr, .shr, .shr, .shr, .shr]) (okS_app (i := 6) (by kernel_rfl) (by kernel_rfl) (out1 (by kernel_rfl)) (ok_get (i := 5) (by kernel_rfl) (by kernel_rfl) (OkE.b ok_int) (ok_tup (okA_cons (OkE.shared ok_int) (okA_cons (OkE.shared ok_int) okA_nil rfl) rfl)) rfl rfl (by kernel_rfl)) (by kernel_rfl) rfl (by kernel_rfl)) (by kernel_rfl))
 okSs_nil)))) (low_of (by kernel_rfl)) (out_of (by kernel_rfl)) (fun _ _ => rfl) (unl_of (by kernel_rfl))) (by kernel_rfl))
 (okSs_last (okS_ret (ok_bi (f := .tuple) (by kernel_rfl) (by decide +kernel) (okAB_cons (okB_name (i := 6) (by kernel_rfl) (by kernel_rfl)) okAB_nil rfl) rfl))))))))
theorem fs5 : FnScope sc5.N ["first", "ladder"] (defScope (top 8)) := ⟨rfl, rfl, rfl, by decide +kernel, rfl, by decide +kernel, by decide +kernel⟩
/-! _law_mixed: 0=script 1=k 2=cell 3=first 4=second 5=third -/
def core6 : List PV.S := [.asg (.v 2) (.k (.int 0)), .ite (.cmp .gt (.bi .len [.v 0]) (.k (.int 0))) [.asg (.v 2) (.idx (.v 0) (.bin .mod (.v 1) (.bi .len [.v 0])))] [], .asg (.v 3) (.bin .mod (.bi .int [.bin .add (.bin .add (.bin .mul (.v 2) (.k (.int 48271))) (.bin .mul (.v 1) (.k (.int 69621)))) (.k (.int 8191))]) (.k (.int 2147483647))), .asg (.v 4) (.bin .mod (.bi .int [.bin .add (.bin .add (.bin .mul (.v 3) (.v 3)) (.bin .fdiv (.v 3) (.k (.int 7)))) (.bin .mul (.v 1) (.k (.int 16807)))]) (.k (.int 2147483629))), .asg (.v 5) (.bin .mod (.bi .int [.bin .add (.bin .add (.bin .mul (.v 4) (.v 4)) (.bin .fdiv (.v 4) (.k (.int 11)))) (.k (.int 40692))]) (.k (.int 2147483563))), .ret (.bin .mod (.bin .fdiv (.v 5) (.k (.int 5))) (.k (.int 1000003)))]
def sc6 : SC := ⟨["script", "k", "cell", "first", "second", "third"], defScope (top 10), tab, [], ["int", "len"], [], none, []⟩
theorem ok6 (cl : Nat → List D → Option D) (k fu : Nat) : OkSs cl k fu sc6 (List.replicate 6 .shr) (defBody (top 10)) core6 none [] :=
 (okSs_cons (OkS.to (c2 := [.shr, .shr, .own, .shr, .shr, .shr]) (okS_setOwn (i := 2) (by kernel_rfl) (by kernel_rfl) (out1 (by kernel_rfl)) (by decide) ok_int rfl) (by kernel_rfl))
 (okSs_cons (OkS.to (c2 := [.shr, .shr, .shr, .shr, .shr, .shr]) (okS_if (okT_cmp (op := .gt) (ok_bi (f := .len) (by kernel_rfl) (by decide +kernel) (okAB_cons (okB_name (i := 0) (by kernel_rfl) (by kernel_rfl)) okAB_nil rfl) rfl).b (OkE.b ok_int) rfl (fun h => h.elim (fun z => nomatch z) fun z => nomatch z)) (okSs_cons (OkS.to (c2 := [.shr, .shr, .shr, .shr, .shr, .shr]) (okS_setShr (i := 2) (by kernel_rfl) (by kernel_rfl) (out1 (by kernel_rfl)) (ok_idx (okB_name (i := 0) (by kernel_rfl) (by kernel_rfl)) (ok_bin (op := .mod) (okB_name (i := 1) (by kernel_rfl) (by kernel_rfl)) (ok_bi (f := .len) (by kernel_rfl) (by decide +kernel) (okAB_cons (okB_name (i := 0) (by kernel_rfl) (by kernel_rfl)) okAB_nil rfl) rfl).b).b rfl) rfl) (by kernel_rfl))
 okSs_nil) okSs_nil ⟨[.shr, .shr, .shr, .shr, .shr, .shr], rfl, low_of (by kernel_rfl), low_of (by kernel_rfl)⟩) (by kernel_rfl))
 (okSs_cons (OkS.to (c2 := [.shr, .shr, .shr, .own, .shr, .shr]) (okS_setOwn (i := 3) (by kernel_rfl) (by kernel_rfl) (out1 (by kernel_rfl)) (by decide) (ok_bin (op := .mod) (ok_bi (f := .int) (by kernel_rfl) (by decide +kernel) (okAB_cons (ok_bin (op := .add) (ok_bin (op := .add) (ok_bin (op := .mul) (okB_name (i := 2) (by kernel_rfl) (by kernel_rfl)) (OkE.b ok_int)).b (ok_bin (op := .mul) (okB_name (i := 1) (by kernel_rfl) (by kernel_rfl)) (OkE.b ok_int)).b).b (OkE.b ok_int)).b okAB_nil rfl) rfl).b (OkE.b ok_int)) rfl) (by kernel_rfl))
 (okSs_cons (OkS.to (c2 := [.shr, .shr, .shr, .own, .own, .shr]) (okS_setOwn (i := 4) (by kernel_rfl) (by kernel_rfl) (out1 (by kernel_rfl)) (by decide) (ok_bin (op := .mod) (ok_bi (f := .int) (by kernel_rfl) (by decide +kernel) (okAB_cons (ok_bin (op := .add) (ok_bin (op := .add) (ok_bin (op := .mul) (okB_name (i := 3) (by kernel_rfl) (by kernel_rfl)) (okB_name (i := 3) (by kernel_rfl) (by kernel_rfl))).b (ok_bin (op := .fdiv) (okB_name (i := 3) (by kernel_rfl) (by kernel_rfl)) (OkE.b ok_int)).b).b (ok_bin (op := .mul) (okB_name (i := 1) (by kernel_rfl) (by kernel_rfl)) (OkE.b ok_int)).b).b okAB_nil rfl) rfl).b (OkE.b ok_int)) rfl) (by kernel_rfl))
 (okSs_cons (OkS.to (c2 := [.shr, .shr, .shr, .own, .own, .own]) (okS_setOwn (i := 5) (by kernel_rfl) (by kernel_rfl) (out1 (by kernel_rfl)) (by decide) (ok_bin (op := .mod) (ok_bi (f := .int) (by kernel_rfl) (by decide +kernel) (okAB_cons (ok_bin (op := .add) (ok_bin (op := .add) (ok_bin (op := .mul) (okB_name (i := 4) (by kernel_rfl) (by kernel_rfl)) (okB_name (i := 4) (by kernel_rfl) (by kernel_rfl))).b (ok_bin (op := .fdiv) (okB_name (i := 4) (by kernel_rfl) (by kernel_rfl)) (OkE.b ok_int)).b).b (OkE.b ok_int)).b okAB_nil rfl) rfl).b (OkE.b ok_int)) rfl) (by kernel_rfl))
 (okSs_last (okS_ret (ok_bin (op := .mod) (ok_bin (op := .fdiv) (okB_name (i := 5) (by kernel_rfl) (by kernel_rfl)) (OkE.b ok_int)).b (OkE.b ok_int)))))))))
theorem fs6 : FnScope sc6.N ["script", "k"] (defScope (top 10)) := ⟨rfl, rfl, rfl, by decide +kernel, rfl, by decide +kernel, by decide +kernel⟩
/-! _law_row: 0=script 1=many 2=big 3=row 4=k -/
def core7 : List PV.S := [.asg (.v 2) (.k (.int 0)), .ite (.an (.cmp .gt (.bi .len [.v 0]) (.k (.int 0))) (.cmp .ge (.idx (.v 0) (.k (.int 0))) (.bin .pow (.k (.int 10)) (.k (.int 18))))) [.asg (.v 2) (.idx (.v 0) (.k (.int 0)))] [], .asg (.v 3) (.lst []), .fo (.v 4) (.rng [.v 1]) [.ite (.cmp .gt (.v 2) (.k (.int 0))) [.app 3 (.bin .mod (.bi .int [.v 2]) (.k (.int 1000))), .asg (.v 2) (.bin .fdiv (.v 2) (.k (.int 1000)))] [.app 3 (.cal 6 [.v 0, .v 4])]] [], .ret (.v 3)]
def sc7 : SC := ⟨["script", "many", "big", "row", "k"], defScope (top 11), tab, [], ["int", "len", "range"], [], none, []⟩
theorem ok7 (cl : Nat → List D → Option D) (k fu : Nat) : OkSs cl k fu sc7 (List.replicate 5 .shr) (defBody (top 11)) core7 none [] :=
 (okSs_cons (OkS.to (c2 := [.shr, .shr, .own, .shr, .shr]) (okS_setOwn (i := 2) (by kernel_rfl) (by kernel_rfl) (out1 (by kernel_rfl)) (by decide) ok_int rfl) (by kernel_rfl))
 (okSs_cons (OkS.to (c2 := [.shr, .shr, .shr, .shr, .shr]) (okS_if (okT_bool (okT_and (low_of (by kernel_rfl)) (okT_cmp (op := .gt) (ok_bi (f := .len) (by kernel_rfl) (by decide +kernel) (okAB_cons (okB_name (i := 0) (by kernel_rfl) (by kernel_rfl)) okAB_nil rfl) rfl).b (OkE.b ok_int) rfl (fun h => h.elim (fun z => nomatch z) fun z => nomatch z)) (okT_and1 (okT_cmp (op := .ge) (ok_idx (okB_name (i := 0) (by kernel_rfl) (by kernel_rfl)) (OkE.b ok_int) rfl).b (ok_bin (op := .pow) (OkE.b ok_int) (OkE.b ok_int)).b rfl (fun h => h.elim (fun z => nomatch z) fun z => nomatch z))))) (okSs_cons (OkS.to (c2 := [.shr, .shr, .shr, .shr, .shr]) (okS_setShr (i := 2) (by kernel_rfl) (by kernel_rfl) (out1 (by kernel_rfl)) (ok_idx (okB_name (i := 0) (by kernel_rfl) (by kernel_rfl)) (OkE.b ok_int) rfl) rfl) (by kernel_rfl))
 okSs_nil) okSs_nil ⟨[.shr, .shr, .shr, .shr, .shr], rfl, low_of (by kernel_rfl), low_of (by kernel_rfl)⟩) (by kernel_rfl))
 (okSs_cons (OkS.to (c2 := [.shr, .shr, .shr, .own, .shr]) (okS_setOwn (i := 3) (by kernel_rfl) (by kernel_rfl) (out1 (by kernel_rfl)) (by decide) (ok_lst okA_nil) rfl) (by kernel_rfl))
 (okSs_cons (OkS.to (c2 := [.shr, .shr, .shr, .own, .shr]) (okS_for (m := [.shr, .shr, .shr, .own, .shr]) (cx := [.shr, .shr, .shr, .own, .shr]) (okI_rng (by kernel_rfl) (by decide +kernel) (okAB_cons (okB_name (i := 1) (by kernel_rfl) (by kernel_rfl)) okAB_nil rfl) rfl (.inl rfl) (fun _ _ => rfl)) (low_of (by kernel_rfl)) (okG_name (i := 4) (by kernel_rfl) (by kernel_rfl) (out1 (by kernel_rfl))) (okSs_cons (OkS.to (c2 := [.shr, .shr, .shr, .own, .shr]) (okS_if (okT_cmp (op := .gt) (okB_name (i := 2) (by kernel_rfl) (by kernel_rfl)) (OkE.b ok_int) rfl (fun h => h.elim (fun z => nomatch z) fun z => nomatch z)) (okSs_cons (OkS.to (c2 := [.shr, .shr, .shr, .own, .shr]) (okS_app (i := 3) (by kernel_rfl) (by kernel_rfl) (out1 (by kernel_rfl)) (ok_bin (op := .mod) (ok_bi (f := .int) (by kernel_rfl) (by decide +kernel) (okAB_cons (okB_name (i := 2) (by kernel_rfl) (by kernel_rfl)) okAB_nil rfl) rfl).b (OkE.b ok_int)) (by kernel_rfl) rfl (by kernel_rfl)) (by kernel_rfl))
 (okSs_cons (OkS.to (c2 := [.shr, .shr, .own, .own, .shr]) (okS_setOwn (i := 2) (by kernel_rfl) (by kernel_rfl) (out1 (by kernel_rfl)) (by decide) (ok_bin (op := .fdiv) (okB_name (i := 2) (by kernel_rfl) (by kernel_rfl)) (OkE.b ok_int)) rfl) (by kernel_rfl))
 okSs_nil)) (okSs_cons (OkS.to (c2 := [.shr, .shr, .shr, .own, .shr]) (okS_app (i := 3) (by kernel_rfl) (by kernel_rfl) (out1 (by kernel_rfl)) (ok_cal (by kernel_rfl) (by kernel_rfl) rfl (okA_cons (ok_name (i := 0) (by kernel_rfl) (by kernel_rfl)).shared (okA_cons (ok_name (i := 4) (by kernel_rfl) (by kernel_rfl)).shared okA_nil rfl) rfl) rfl) (by kernel_rfl) rfl (by kernel_rfl)) (by kernel_rfl))
 okSs_nil) ⟨[.shr, .shr, .shr, .own, .shr], rfl, low_of (by kernel_rfl), low_of (by kernel_rfl)⟩) (by kernel_rfl))
 okSs_nil) (low_of (by kernel_rfl)) (out_of (by kernel_rfl)) (fun _ _ => rfl) (unl_of (by kernel_rfl))) (by kernel_rfl))
 (okSs_last (okS_ret (ok_name (i := 3) (by kernel_rfl) (by kernel_rfl))))))))
theorem fs7 : FnScope sc7.N ["script", "many"] (defScope (top 11)) := ⟨rfl, rfl, rfl, by decide +kernel, rfl, by decide +kernel, by decide +kernel⟩
/-! _law_is_int: 0=value -/
def core8 : List PV.S := [.ret (.an (.isi (.v 0) [.int]) (.nt (.isi (.v 0) [.bool])))]
def sc8 : SC := ⟨["value"], defScope (top 12), tab, [], ["bool", "int", "isinstance"], [], none, []⟩
theorem ok8 (cl : Nat → List D → Option D) (k fu : Nat) : OkSs cl k fu sc8 (List.replicate 1 .shr) (defBody (top 12)) core8 none [] :=
 (okSs_last (okS_ret (ok_and (low_of (by kernel_rfl)) (ok_isi (t := .int) (by kernel_rfl) (by decide +kernel) (by kernel_rfl) (by decide +kernel) (okB_name (i := 0) (by kernel_rfl) (by kernel_rfl)) rfl).shared ((ok_bool1 (ok_nt (ok_isi (t := .bool) (by kernel_rfl) (by decide +kernel) (by kernel_rfl) (by decide +kernel) (okB_name (i := 0) (by kernel_rfl) (by kernel_rfl)) rfl).b)).shared))))
theorem fs8 : FnScope sc8.N ["value"] (defScope (top 12)) := ⟨rfl, rfl, rfl, by decide +kernel, rfl, by decide +kernel, by decide +kernel⟩
/-! _law_like: 0=value 1=due 2=k -/
def core9 : List PV.S := [.ite (.cmp .isN (.v 1) (.k .non)) [.ret (.cmp .isN (.v 0) (.k .non))] [], .ite (.isi (.v 1) [.bool]) [.ret (.an (.isi (.v 0) [.bool]) (.cmp .eq (.v 0) (.v 1)))] [], .ite (.isi (.v 1) [.tuple]) [.ite (.oo (.nt (.isi (.v 0) [.tuple])) (.cmp .ne (.bi .len [.v 0]) (.bi .len [.v 1]))) [.ret (.k (.bl false))] [], .ret (.bi .all [.lc (.gen [2] (.v 2) (.rng [.bi .len [.v 1]]) [] (.elt (.cal 9 [.idx (.v 0) (.v 2), .idx (.v 1) (.v 2)])))])] [], .ite (.isi (.v 1) [.str]) [.ret (.an (.isi (.v 0) [.str]) (.cmp .eq (.v 0) (.v 1)))] [], .ret (.an (.cal 8 [.v 0]) (.cmp .eq (.v 0) (.v 1)))]
def sc9 : SC := ⟨["value", "due", "k"], defScope (top 13), tab, [], ["all", "bool", "isinstance", "len", "range", "str", "tuple"], [], none, []⟩
theorem ok9 (cl : Nat → List D → Option D) (k fu : Nat) : OkSs cl k fu sc9 (List.replicate 3 .shr) (defBody (top 13)) core9 none [] :=
 (okSs_cons (OkS.to (c2 := [.shr, .shr, .shr]) (okS_if (okT_cmp (op := .isN) (okB_name (i := 1) (by kernel_rfl) (by kernel_rfl)) (OkE.b ok_non) rfl (fun h => h.elim (fun z => nomatch z) fun z => nomatch z)) (okSs_last (okS_ret (ok_cmp (op := .isN) (okB_name (i := 0) (by kernel_rfl) (by kernel_rfl)) (OkE.b ok_non) rfl (fun h => h.elim (fun z => nomatch z) fun z => nomatch z)))) okSs_nil ⟨[.shr, .shr, .shr], rfl, low_of (by kernel_rfl)⟩) (by kernel_rfl))
 (okSs_cons (OkS.to (c2 := [.shr, .shr, .shr]) (okS_if (okT_val (ok_isi (t := .bool) (by kernel_rfl) (by decide +kernel) (by kernel_rfl) (by decide +kernel) (okB_name (i := 1) (by kernel_rfl) (by kernel_rfl)) rfl).b rfl) (okSs_last (okS_ret (ok_and (low_of (by kernel_rfl)) (ok_isi (t := .bool) (by kernel_rfl) (by decide +kernel) (by kernel_rfl) (by decide +kernel) (okB_name (i := 0) (by kernel_rfl) (by kernel_rfl)) rfl).shared ((ok_bool1 (ok_cmp (op := .eq) (okB_name (i := 0) (by kernel_rfl) (by kernel_rfl)) (okB_name (i := 1) (by kernel_rfl) (by kernel_rfl)) rfl (fun h => h.elim (fun z => nomatch z) fun z => nomatch z))).shared)))) okSs_nil ⟨[.shr, .shr, .shr], rfl, low_of (by kernel_rfl)⟩) (by kernel_rfl))
 (okSs_cons (OkS.to (c2 := [.shr, .shr, .shr]) (okS_if (okT_val (ok_isi (t := .tuple) (by kernel_rfl) (by decide +kernel) (by kernel_rfl) (by decide +kernel) (okB_name (i := 1) (by kernel_rfl) (by kernel_rfl)) rfl).b rfl) (okSs_cons (OkS.to (c2 := [.shr, .shr, .shr]) (okS_if (okT_bool (okT_or (low_of (by kernel_rfl)) (okT_nt (okT_val (ok_isi (t := .tuple) (by kernel_rfl) (by decide +kernel) (by kernel_rfl) (by decide +kernel) (okB_name (i := 0) (by kernel_rfl) (by kernel_rfl)) rfl).b rfl)) (okT_or1 (okT_cmp (op := .ne) (ok_bi (f := .len) (by kernel_rfl) (by decide +kernel) (okAB_cons (okB_name (i := 0) (by kernel_rfl) (by kernel_rfl)) okAB_nil rfl) rfl).b (ok_bi (f := .len) (by kernel_rfl) (by decide +kernel) (okAB_cons (okB_name (i := 1) (by kernel_rfl) (by kernel_rfl)) okAB_nil rfl) rfl).b rfl (fun h => h.elim (fun z => nomatch z) fun z => nomatch z))))) (okSs_last (okS_ret ok_bl)) okSs_nil ⟨[.shr, .shr, .shr], rfl, low_of (by kernel_rfl)⟩) (by kernel_rfl))
 (okSs_last (okS_ret (ok_bi (f := .all) (by kernel_rfl) (by decide +kernel) (okAB_cons (ok_lc (vs := [2]) (m := [.shr, .shr, .shr]) (cx := [.shr, .shr, .shr]) (own := [("k", 2)]) (okI_rng (by kernel_rfl) (by decide +kernel) (okAB_cons (ok_bi (f := .len) (by kernel_rfl) (by decide +kernel) (okAB_cons (okB_name (i := 1) (by kernel_rfl) (by kernel_rfl)) okAB_nil rfl) rfl).b okAB_nil rfl) rfl (.inl rfl) (fun _ _ => rfl)) (by kernel_rfl) rfl (low_of (by kernel_rfl)) (shr_of (by kernel_rfl)) (out_of (by kernel_rfl)) (by kernel_rfl) (okG_name (i := 2) (by kernel_rfl) (by kernel_rfl) (out1 (by kernel_rfl))) okTs_nil (ok_cal (by kernel_rfl) (by kernel_rfl) rfl (okA_cons (ok_idx (okB_name (i := 0) (by kernel_rfl) (by kernel_rfl)) (okB_name (i := 2) (by kernel_rfl) (by kernel_rfl)) rfl).shared (okA_cons (ok_idx (okB_name (i := 1) (by kernel_rfl) (by kernel_rfl)) (okB_name (i := 2) (by kernel_rfl) (by kernel_rfl)) rfl).shared okA_nil rfl) rfl) rfl) (low_of (by kernel_rfl)) (low_of (by kernel_rfl)) (unl_of (by kernel_rfl)) (fun _ _ => rfl)).b okAB_nil rfl) rfl)))) okSs_nil ⟨[.shr, .shr, .shr], rfl, low_of (by kernel_rfl)⟩) (by kernel_rfl))
 (okSs_cons (OkS.to (c2 := [.shr, .shr, .shr]) (okS_if (okT_val (ok_isi (t := .str) (by kernel_rfl) (by decide +kernel) (by kernel_rfl) (by decide +kernel) (okB_name (i := 1) (by kernel_rfl) (by kernel_rfl)) rfl).b rfl) (okSs_last (okS_ret (ok_and (low_of (by kernel_rfl)) (ok_isi (t := .str) (by kernel_rfl) (by decide +kernel) (by kernel_rfl) (by decide +kernel) (okB_name (i := 0) (by kernel_rfl) (by kernel_rfl)) rfl).shared ((ok_bool1 (ok_cmp (op := .eq) (okB_name (i := 0) (by kernel_rfl) (by kernel_rfl)) (okB_name (i := 1) (by kernel_rfl) (by kernel_rfl)) rfl (fun h => h.elim (fun z => nomatch z) fun z => nomatch z))).shared)))) okSs_nil ⟨[.shr, .shr, .shr], rfl, low_of (by kernel_rfl)⟩) (by kernel_rfl))
 (okSs_last (okS_ret (ok_and (low_of (by kernel_rfl)) (ok_cal (by kernel_rfl) (by kernel_rfl) rfl (okA_cons (ok_name (i := 0) (by kernel_rfl) (by kernel_rfl)).shared okA_nil rfl) rfl).shared ((ok_bool1 (ok_cmp (op := .eq) (okB_name (i := 0) (by kernel_rfl) (by kernel_rfl)) (okB_name (i := 1) (by kernel_rfl) (by kernel_rfl)) rfl (fun h => h.elim (fun z => nomatch z) fun z => nomatch z))).shared))))))))
theorem fs9 : FnScope sc9.N ["value", "due"] (defScope (top 13)) := ⟨rfl, rfl, rfl, by decide +kernel, rfl, by decide +kernel, by decide +kernel⟩
/-! law: 0=script 1=row 2=steps 3=n 4=h 5=heights 6=turn 7=grown 8=here 9=m 10=stay 11=ladder 12=found 13=moves 14=k 15=step -/
def core10 : List PV.S := [.asg (.v 1) (.cal 7 [.v 0, .k (.int 12)]), .asg (.v 2) (.bi .tuple [.sset (.lc (.gen [14] (.v 14) (.rng [.bin .add (.k (.int 1)) (.bin .mod (.bi .int [.idx (.v 1) (.k (.int 1))]) (.k (.int 3)))]) [] (.elt (.bin .sub (.bin .mod (.bi .int [.idx (.v 1) (.bin .add (.k (.int 2)) (.v 14))]) (.k (.int 7))) (.k (.int 3))))))]), .asg (.tup [.v 3, .v 4]) (.tup [.bin .mod (.bi .int [.idx (.v 1) (.k (.int 0))]) (.k (.int 9)), .bin .mod (.bi .int [.idx (.v 1) (.k (.int 6))]) (.k (.int 7))]), .asg (.v 5) (.lst [.k (.int 0)]), .fo (.v 6) (.rng [.v 3]) [.asg (.v 7) (.lst []), .fo (.v 8) (.v 5) [.ext 7 (.lc (.gen [15] (.v 15) (.v 2) [.cmp .ge (.bin .add (.v 8) (.v 15)) (.k (.int 0))] (.elt (.bin .add (.v 8) (.v 15)))))] [], .asg (.v 5) (.v 7)] [], .ite (.nt (.cal 9 [.cal 4 [.v 3, .v 2, .v 4], .bi .len [.lc (.gen [8] (.v 8) (.v 5) [.cmp .eq (.v 8) (.v 4)] (.elt (.k (.int 1))))]])) [.ret (.k (.bl false))] [], .asg (.v 9) (.bin .mod (.bi .int [.idx (.v 1) (.k (.int 7))]) (.k (.int 5))), .asg (.v 10) (.bin .mod (.bi .int [.idx (.v 1) (.k (.int 8))]) (.k (.int 2))), .asg (.v 11) (.tup [.bin .mul (.tup [.tup [.v 10, .k (.int 1)]]) (.v 9), .bin .mul (.tup [.tup [.k (.int 1), .k (.int 1)]]) (.v 9)]), .asg (.v 12) (.cal 5 [.k (.int 1), .v 11]), .asg (.v 13) (.idx (.tup [.tup [.neg (.k (.int 1)), .k (.int 1)], .tup [.neg (.k (.int 1)), .k (.int 0), .k (.int 1)]]) (.v 10)), .ret (.cal 9 [.v 12, .bi .tuple [.lc (.gen [14] (.v 14) (.rng [.bin .add (.bin .mul (.k (.int 2)) (.v 9)) (.k (.int 1))]) [] (.elt (.tup [.cal 4 [.v 14, .v 13, .k (.int 0)], .k (.int 1)])))]])]
def sc10 : SC := ⟨["script", "row", "steps", "n", "h", "heights", "turn", "grown", "here", "m", "stay", "ladder", "found", "moves", "k", "step"], defScope (top 18), tab, [], ["int", "len", "range", "set", "sorted", "tuple"], [], none, []⟩
theorem ok10 (cl : Nat → List D → Option D) (k fu : Nat) : OkSs cl k fu sc10 (List.replicate 16 .shr) (defBody (top 18)) core10 none [] :=
 (okSs_cons (OkS.to (c2 := [.shr, .shr, .shr, .shr, .shr, .shr, .shr, .shr, .shr, .shr, .shr, .shr, .shr, .shr, .shr, .shr]) (okS_setShr (i := 1) (by kernel_rfl) (by kernel_rfl) (out1 (by kernel_rfl)) (ok_cal (by kernel_rfl) (by kernel_rfl) rfl (okA_cons (ok_name (i := 0) (by kernel_rfl) (by kernel_rfl)).shared (okA_cons (OkE.shared ok_int) okA_nil rfl) rfl) rfl) rfl) (by kernel_rfl))
 (okSs_cons (OkS.to (c2 := [.shr, .shr, .own, .shr, .shr, .shr, .shr, .shr, .shr, .shr, .shr, .shr, .shr, .shr, .shr, .shr]) (okS_setOwn (i := 2) (by kernel_rfl) (by kernel_rfl) (out1 (by kernel_rfl)) (by decide) (ok_bi (f := .tuple) (by kernel_rfl) (by decide +kernel) (okAB_cons (ok_sset (by kernel_rfl) (by decide +kernel) (by kernel_rfl) (by decide +kernel) (ok_lc (vs := [14]) (m := [.shr, .shr, .shr, .shr, .shr, .shr, .shr, .shr, .shr, .shr, .shr, .shr, .shr, .shr, .shr, .shr]) (cx := [.shr, .shr, .shr, .shr, .shr, .shr, .shr, .shr, .shr, .shr, .shr, .shr, .shr, .shr, .shr, .shr]) (own := [("k", 14)]) (okI_rng (by kernel_rfl) (by decide +kernel) (okAB_cons (ok_bin (op := .add) (OkE.b ok_int) (ok_bin (op := .mod) (ok_bi (f := .int) (by kernel_rfl) (by decide +kernel) (okAB_cons (ok_idx (okB_name (i := 1) (by kernel_rfl) (by kernel_rfl)) (OkE.b ok_int) rfl).b okAB_nil rfl) rfl).b (OkE.b ok_int)).b).b okAB_nil rfl) rfl (.inl rfl) (fun _ _ => rfl)) (by kernel_rfl) rfl (low_of (by kernel_rfl)) (shr_of (by kernel_rfl)) (out_of (by kernel_rfl)) (by kernel_rfl) (okG_name (i := 14) (by kernel_rfl) (by kernel_rfl) (out1 (by kernel_rfl))) okTs_nil (ok_bin (op := .sub) (ok_bin (op := .mod) (ok_bi (f := .int) (by kernel_rfl) (by decide +kernel) (okAB_cons (ok_idx (okB_name (i := 1) (by kernel_rfl) (by kernel_rfl)) (ok_bin (op := .add) (OkE.b ok_int) (okB_name (i := 14) (by kernel_rfl) (by kernel_rfl))).b rfl).b okAB_nil rfl) rfl).b (OkE.b ok_int)).b (OkE.b ok_int)) (low_of (by kernel_rfl)) (low_of (by kernel_rfl)) (unl_of (by kernel_rfl)) (fun _ _ => rfl)).b rfl).b okAB_nil rfl) rfl) rfl) (by kernel_rfl))
 (okSs_cons (OkS.to (c2 := [.shr, .shr, .own, .shr, .shr, .shr, .shr, .shr, .shr, .shr, .shr, .shr, .shr, .shr, .shr, .shr]) (okS_asg (ok_tup (okA_cons (ok_bin (op := .mod) (ok_bi (f := .int) (by kernel_rfl) (by decide +kernel) (okAB_cons (ok_idx (okB_name (i := 1) (by kernel_rfl) (by kernel_rfl)) (OkE.b ok_int) rfl).b okAB_nil rfl) rfl).b (OkE.b ok_int)).shared (okA_cons (ok_bin (op := .mod) (ok_bi (f := .int) (by kernel_rfl) (by decide +kernel) (okAB_cons (ok_idx (okB_name (i := 1) (by kernel_rfl) (by kernel_rfl)) (OkE.b ok_int) rfl).b okAB_nil rfl) rfl).b (OkE.b ok_int)).shared okA_nil rfl) rfl)) (okG_tup (okGs_cons (okG_name (i := 3) (by kernel_rfl) (by kernel_rfl) (out1 (by kernel_rfl))) (okGs_cons (okG_name (i := 4) (by kernel_rfl) (by kernel_rfl) (out1 (by kernel_rfl))) okGs_nil rfl) rfl) rfl rfl) rfl (fun _ x => sw_ok x (by kernel_rfl)) rfl) (by kernel_rfl))
 (okSs_cons (OkS.to (c2 := [.shr, .shr, .own, .shr, .shr, .own, .shr, .shr, .shr, .shr, .shr, .shr, .shr, .shr, .shr, .shr]) (okS_setOwn (i := 5) (by kernel_rfl) (by kernel_rfl) (out1 (by kernel_rfl)) (by decide) (ok_lst (okA_cons (OkE.shared ok_int) okA_nil rfl)) rfl) (by kernel_rfl))
 (okSs_cons (OkS.to (c2 := [.shr, .shr, .own, .shr, .shr, .shr, .shr, .shr, .shr, .shr, .shr, .shr, .shr, .shr, .shr, .shr]) (okS_for (m := [.shr, .shr, .own, .shr, .shr, .shr, .shr, .shr, .shr, .shr, .shr, .shr, .shr, .shr, .shr, .shr]) (cx := [.shr, .shr, .own, .shr, .shr, .shr, .shr, .shr, .shr, .shr, .shr, .shr, .shr, .shr, .shr, .shr]) (okI_rng (by kernel_rfl) (by decide +kernel) (okAB_cons (okB_name (i := 3) (by kernel_rfl) (by kernel_rfl)) okAB_nil rfl) rfl (.inl rfl) (fun _ _ => rfl)) (low_of (by kernel_rfl)) (okG_name (i := 6) (by kernel_rfl) (by kernel_rfl) (out1 (by kernel_rfl))) (okSs_cons (OkS.to (c2 := [.shr, .shr, .own, .shr, .shr, .shr, .shr, .own, .shr, .shr, .shr, .shr, .shr, .shr, .shr, .shr]) (okS_setOwn (i := 7) (by kernel_rfl) (by kernel_rfl) (out1 (by kernel_rfl)) (by decide) (ok_lst okA_nil) rfl) (by kernel_rfl))
 (okSs_cons (OkS.to (c2 := [.shr, .shr, .own, .shr, .shr, .shr, .shr, .own, .shr, .shr, .shr, .shr, .shr, .shr, .shr, .shr]) (okS_for (m := [.shr, .shr, .own, .shr, .shr, .shr, .shr, .own, .shr, .shr, .shr, .shr, .shr, .shr, .shr, .shr]) (cx := [.shr, .shr, .own, .shr, .shr, .shr, .shr, .own, .shr, .shr, .shr, .shr, .shr, .shr, .shr, .shr]) (okI_seq (okH_expr (ok_name (i := 5) (by kernel_rfl) (by kernel_rfl)))) (low_of (by kernel_rfl)) (okG_name (i := 8) (by kernel_rfl) (by kernel_rfl) (out1 (by kernel_rfl))) (okSs_cons (OkS.to (c2 := [.shr, .shr, .own, .shr, .shr, .shr, .shr, .own, .shr, .shr, .shr, .shr, .shr, .shr, .shr, .shr]) (okS_ext (i := 7) (by kernel_rfl) (by kernel_rfl) (out1 (by kernel_rfl)) (ok_lc (vs := [15]) (m := [.shr, .shr, .lent, .shr, .shr, .shr, .shr, .own, .shr, .shr, .shr, .shr, .shr, .shr, .shr, .shr]) (cx := [.shr, .shr, .own, .shr, .shr, .shr, .shr, .own, .shr, .shr, .shr, .shr, .shr, .shr, .shr, .shr]) (own := [("step", 15)]) (okI_seq (okH_own (i := 2) (by kernel_rfl) (by kernel_rfl) (by kernel_rfl))) (by kernel_rfl) rfl (low_of (by kernel_rfl)) (shr_of (by kernel_rfl)) (out_of (by kernel_rfl)) (by kernel_rfl) (okG_name (i := 15) (by kernel_rfl) (by kernel_rfl) (out1 (by kernel_rfl))) (okTs_one (okT_cmp (op := .ge) (ok_bin (op := .add) (okB_name (i := 8) (by kernel_rfl) (by kernel_rfl)) (okB_name (i := 15) (by kernel_rfl) (by kernel_rfl))).b (OkE.b ok_int) rfl (fun h => h.elim (fun z => nomatch z) fun z => nomatch z))) (ok_bin (op := .add) (okB_name (i := 8) (by kernel_rfl) (by kernel_rfl)) (okB_name (i := 15) (by kernel_rfl) (by kernel_rfl))) (low_of (by kernel_rfl)) (low_of (by kernel_rfl)) (unl_of (by kernel_rfl)) (fun _ _ => rfl)) (by kernel_rfl) rfl (by kernel_rfl)) (by kernel_rfl))
 okSs_nil) (low_of (by kernel_rfl)) (out_of (by kernel_rfl)) (fun _ _ => rfl) (unl_of (by kernel_rfl))) (by kernel_rfl))
 (okSs_cons (OkS.to (c2 := [.shr, .shr, .own, .shr, .shr, .shr, .shr, .shr, .shr, .shr, .shr, .shr, .shr, .shr, .shr, .shr]) (okS_setShr (i := 5) (by kernel_rfl) (by kernel_rfl) (out1 (by kernel_rfl)) (ok_name (i := 7) (by kernel_rfl) (by kernel_rfl)) rfl) (by kernel_rfl))
 okSs_nil))) (low_of (by kernel_rfl)) (out_of (by kernel_rfl)) (fun _ _ => rfl) (unl_of (by kernel_rfl))) (by kernel_rfl))
 (okSs_cons (OkS.to (c2 := [.shr, .shr, .shr, .shr, .shr, .shr, .shr, .shr, .shr, .shr, .shr, .shr, .shr, .shr, .shr, .shr]) (okS_if (okT_nt (okT_val (ok_cal (by kernel_rfl) (by kernel_rfl) rfl (okA_cons (ok_cal (by kernel_rfl) (by kernel_rfl) rfl (okA_cons (ok_name (i := 3) (by kernel_rfl) (by kernel_rfl)).shared (okA_cons (ok_name (i := 2) (by kernel_rfl) (by kernel_rfl)).shared (okA_cons (ok_name (i := 4) (by kernel_rfl) (by kernel_rfl)).shared okA_nil rfl) rfl) rfl) rfl).shared (okA_cons (ok_bi (f := .len) (by kernel_rfl) (by decide +kernel) (okAB_cons (ok_lc (vs := [8]) (m := [.shr, .shr, .shr, .shr, .shr, .shr, .shr, .shr, .shr, .shr, .shr, .shr, .shr, .shr, .shr, .shr]) (cx := [.shr, .shr, .shr, .shr, .shr, .shr, .shr, .shr, .shr, .shr, .shr, .shr, .shr, .shr, .shr, .shr]) (own := [("here", 8)]) (okI_seq (okH_expr (ok_name (i := 5) (by kernel_rfl) (by kernel_rfl)))) (by kernel_rfl) rfl (low_of (by kernel_rfl)) (shr_of (by kernel_rfl)) (out_of (by kernel_rfl)) (by kernel_rfl) (okG_name (i := 8) (by kernel_rfl) (by kernel_rfl) (out1 (by kernel_rfl))) (okTs_one (okT_cmp (op := .eq) (okB_name (i := 8) (by kernel_rfl) (by kernel_rfl)) (okB_name (i := 4) (by kernel_rfl) (by kernel_rfl)) rfl (fun h => h.elim (fun z => nomatch z) fun z => nomatch z))) ok_int (low_of (by kernel_rfl)) (low_of (by kernel_rfl)) (unl_of (by kernel_rfl)) (fun _ _ => rfl)).b okAB_nil rfl) rfl).shared okA_nil rfl) rfl) rfl).b rfl)) (okSs_last (okS_ret ok_bl)) okSs_nil ⟨[.shr, .shr, .shr, .shr, .shr, .shr, .shr, .shr, .shr, .shr, .shr, .shr, .shr, .shr, .shr, .shr], rfl, low_of (by kernel_rfl)⟩) (by kernel_rfl))
 (okSs_cons (OkS.to (c2 := [.shr, .shr, .shr, .shr, .shr, .shr, .shr, .shr, .shr, .own, .shr, .shr, .shr, .shr, .shr, .shr]) (okS_setOwn (i := 9) (by kernel_rfl) (by kernel_rfl) (out1 (by kernel_rfl)) (by decide) (ok_bin (op := .mod) (ok_bi (f := .int) (by kernel_rfl) (by decide +kernel) (okAB_cons (ok_idx (okB_name (i := 1) (by kernel_rfl) (by kernel_rfl)) (OkE.b ok_int) rfl).b okAB_nil rfl) rfl).b (OkE.b ok_int)) rfl) (by kernel_rfl))
 (okSs_cons (OkS.to (c2 := [.shr, .shr, .shr, .shr, .shr, .shr, .shr, .shr, .shr, .own, .own, .shr, .shr, .shr, .shr, .shr]) (okS_setOwn (i := 10) (by kernel_rfl) (by kernel_rfl) (out1 (by kernel_rfl)) (by decide) (ok_bin (op := .mod) (ok_bi (f := .int) (by kernel_rfl) (by decide +kernel) (okAB_cons (ok_idx (okB_name (i := 1) (by kernel_rfl) (by kernel_rfl)) (OkE.b ok_int) rfl).b okAB_nil rfl) rfl).b (OkE.b ok_int)) rfl) (by kernel_rfl))
 (okSs_cons (OkS.to (c2 := [.shr, .shr, .shr, .shr, .shr, .shr, .shr, .shr, .shr, .own, .shr, .own, .shr, .shr, .shr, .shr]) (okS_setOwn (i := 11) (by kernel_rfl) (by kernel_rfl) (out1 (by kernel_rfl)) (by decide) (ok_tup (okA_cons (ok_bin (op := .mul) (ok_tup (okA_cons (ok_tup (okA_cons (ok_name (i := 10) (by kernel_rfl) (by kernel_rfl)).shared (okA_cons (OkE.shared ok_int) okA_nil rfl) rfl)).shared okA_nil rfl)).b (okB_name (i := 9) (by kernel_rfl) (by kernel_rfl))).shared (okA_cons (ok_bin (op := .mul) (ok_tup (okA_cons (ok_tup (okA_cons (OkE.shared ok_int) (okA_cons (OkE.shared ok_int) okA_nil rfl) rfl)).shared okA_nil rfl)).b (okB_name (i := 9) (by kernel_rfl) (by kernel_rfl))).shared okA_nil rfl) rfl)) rfl) (by kernel_rfl))
 (okSs_cons (OkS.to (c2 := [.shr, .shr, .shr, .shr, .shr, .shr, .shr, .shr, .shr, .own, .shr, .shr, .shr, .shr, .shr, .shr]) (okS_setShr (i := 12) (by kernel_rfl) (by kernel_rfl) (out1 (by kernel_rfl)) (ok_cal (by kernel_rfl) (by kernel_rfl) rfl (okA_cons (OkE.shared ok_int) (okA_cons (ok_name (i := 11) (by kernel_rfl) (by kernel_rfl)).shared okA_nil rfl) rfl) rfl) rfl) (by kernel_rfl))
 (okSs_cons (OkS.to (c2 := [.shr, .shr, .shr, .shr, .shr, .shr, .shr, .shr, .shr, .own, .shr, .shr, .shr, .shr, .shr, .shr]) (okS_setShr (i := 13) (by kernel_rfl) (by kernel_rfl) (out1 (by kernel_rfl)) (ok_idx (ok_tup (okA_cons (ok_tup (okA_cons (ok_neg (OkE.b ok_int)).shared (okA_cons (OkE.shared ok_int) okA_nil rfl) rfl)).shared (okA_cons (ok_tup (okA_cons (ok_neg (OkE.b ok_int)).shared (okA_cons (OkE.shared ok_int) (okA_cons (OkE.shared ok_int) okA_nil rfl) rfl) rfl)).shared okA_nil rfl) rfl)).b (okB_name (i := 10) (by kernel_rfl) (by kernel_rfl)) rfl) rfl) (by kernel_rfl))
 (okSs_last (okS_ret (ok_cal (by kernel_rfl) (by kernel_rfl) rfl (okA_cons (ok_name (i := 12) (by kernel_rfl) (by kernel_rfl)).shared (okA_cons (ok_bi (f := .tuple) (by kernel_rfl) (by decide +kernel) (okAB_cons (ok_lc (vs := [14]) (m := [.shr, .shr, .shr, .shr, .shr, .shr, .shr, .shr, .shr, .own, .shr, .shr, .shr, .shr, .shr, .shr]) (cx := [.shr, .shr, .shr, .shr, .shr, .shr, .shr, .shr, .shr, .own, .shr, .shr, .shr, .shr, .shr, .shr]) (own := [("k", 14)]) (okI_rng (by kernel_rfl) (by decide +kernel) (okAB_cons (ok_bin (op := .add) (ok_bin (op := .mul) (OkE.b ok_int) (okB_name (i := 9) (by kernel_rfl) (by kernel_rfl))).b (OkE.b ok_int)).b okAB_nil rfl) rfl (.inl rfl) (fun _ _ => rfl)) (by kernel_rfl) rfl (low_of (by kernel_rfl)) (shr_of (by kernel_rfl)) (out_of (by kernel_rfl)) (by kernel_rfl) (okG_name (i := 14) (by kernel_rfl) (by kernel_rfl) (out1 (by kernel_rfl))) okTs_nil (ok_tup (okA_cons (ok_cal (by kernel_rfl) (by kernel_rfl) rfl (okA_cons (ok_name (i := 14) (by kernel_rfl) (by kernel_rfl)).shared (okA_cons (ok_name (i := 13) (by kernel_rfl) (by kernel_rfl)).shared (okA_cons (OkE.shared ok_int) okA_nil rfl) rfl) rfl) rfl).shared (okA_cons (OkE.shared ok_int) okA_nil rfl) rfl)) (low_of (by kernel_rfl)) (low_of (by kernel_rfl)) (unl_of (by kernel_rfl)) (fun _ _ => rfl)).b okAB_nil rfl) rfl).shared okA_nil rfl) rfl) rfl))))))))))))))
theorem fs10 : FnScope sc10.N ["script"] (defScope (top 18)) := ⟨rfl, rfl, rfl, by decide +kernel, rfl, by decide +kernel, by decide +kernel⟩
end K92

namespace K92
open PySem PySem.Spec PyProof.Rows L2 PV
abbrev FU : Nat := 1000000
abbrev KK : Nat := 20
def fsT : List FD := [.code 2 2 core0, .code 2 3 core1, .code 2 2 core2, .code 2 2 core3, .code 3 8 core4, .code 2 13 core5, .code 2 6 core6, .code 2 5 core7, .code 1 1 core8, .code 2 3 core9, .code 1 16 core10]
def dd0 : He.DefD := ⟨("divisor", none), "divisor", "divisor", defArgs (top 1), defBody (top 1), defScope (top 1), [], []⟩
def dd1 : He.DefD := ⟨("lowest", none), "lowest", "lowest", defArgs (top 2), defBody (top 2), defScope (top 2), [], []⟩
def dd2 : He.DefD := ⟨("ratio_plus", none), "ratio_plus", "ratio_plus", defArgs (top 3), defBody (top 3), defScope (top 3), [], []⟩
def dd3 : He.DefD := ⟨("ratio_times", none), "ratio_times", "ratio_times", defArgs (top 4), defBody (top 4), defScope (top 4), [], []⟩
def dd4 : He.DefD := ⟨("stay_paths", none), "stay_paths", "stay_paths", defArgs (top 6), defBody (top 6), defScope (top 6), [], []⟩
def dd5 : He.DefD := ⟨("moments_of", none), "moments_of", "moments_of", defArgs (top 8), defBody (top 8), defScope (top 8), [], []⟩
def dd6 : He.DefD := ⟨("_law_mixed", none), "_law_mixed", "_law_mixed", defArgs (top 10), defBody (top 10), defScope (top 10), [], []⟩
def dd7 : He.DefD := ⟨("_law_row", none), "_law_row", "_law_row", defArgs (top 11), defBody (top 11), defScope (top 11), [], []⟩
def dd8 : He.DefD := ⟨("_law_is_int", none), "_law_is_int", "_law_is_int", defArgs (top 12), defBody (top 12), defScope (top 12), [], []⟩
def dd9 : He.DefD := ⟨("_law_like", none), "_law_like", "_law_like", defArgs (top 13), defBody (top 13), defScope (top 13), [], []⟩
def dd10 : He.DefD := ⟨("law", none), "law", "law", defArgs (top 18), defBody (top 18), defScope (top 18), [], []⟩
def fn : List He.DefD := [dd0, dd1, dd2, dd3, dd4, dd5, dd6, dd7, dd8, dd9, dd10]
def FR : List Str := ["abs", "all", "bool", "int", "isinstance", "len", "range", "set", "sorted", "str", "tuple"]
def GL : List Str := ["divisor", "lowest", "ratio_plus", "ratio_times", "stay_paths", "moments_of", "_law_mixed", "_law_row", "_law_is_int", "_law_like", "law"]
def fa : List He.Fa := GL.map He.Fa.glo ++ FR.map He.Fa.free
abbrev R : PySem.W.OpenRow := PySem.W.OpenLaw.row PySem.Challenge.rw_rootstold_k92_stay_paths
abbrev hk : PySem.W.Hook := He.hookD 4 fa fn
def ob (s : PySem.W.SharedT) : He.AlD := He.obsDG 4 fa fn (HandSHeadRun.getT s)
theorem ob_eq (s : PySem.W.SharedT) : ob s = hk.obs s.abs := He.obsDG_eq (HandSHeadRun.getT_eq s)
def looseN : List Str := (["divisor", "lowest", "ratio_plus", "ratio_times", "stay_paths", "moments_of", "_law_mixed", "_law_row", "_law_is_int", "_law_like", "_law_trim", "_law_poly", "_law_times", "_law_plus"] : List Str)
theorem run (w : World) : HandSHeadRun.RunEq R (PySem.W.view R.prog [18]) hk ob 4000 looseN w := by
  intro os
  kernel_rfl
section
variable {P : Program} {w : World} {K : PySem.W.Frag} {mg : Str → Option Value} {h : Heap}
theorem fa_glo {x : Str} (hx : x ∈ GL) (X : K.In h) (G : h.Ns mainGlobals mg) (c : He.SaysD fa fn K) : mg x = some (.ref (He.ga K x)) := by
  obtain ⟨i, hi⟩ := List.getElem?_of_mem hx
  refine He.glo_ok X G (c.fact i (f := .glo x) ?_)
  have hl : i < (GL.map He.Fa.glo).length := by
    by_cases hl : i < (GL.map He.Fa.glo).length
    · exact hl
    · rw [List.getElem?_eq_none (by simpa using hl)] at hi; cases hi
  show (GL.map He.Fa.glo ++ FR.map He.Fa.free)[i]? = _
  rw [List.getElem?_append_left hl, List.getElem?_map, hi]; rfl
theorem fa_free {x : Str} (hx : x ∈ FR) (X : K.In h) (G : h.Ns mainGlobals mg) (c : He.SaysD fa fn K) : mg x = none := by
  obtain ⟨i, hi⟩ := List.getElem?_of_mem hx
  refine He.free_ok X G (c.fact ((GL.map He.Fa.glo).length + i) (f := .free x) ?_)
  show (GL.map He.Fa.glo ++ FR.map He.Fa.free)[(GL.map He.Fa.glo).length + i]? = _
  rw [List.getElem?_append_right (Nat.le_add_right _ _), Nat.add_sub_cancel_left, List.getElem?_map, hi]; rfl
theorem def0 (X : K.In h) (G : h.Ns mainGlobals mg) (c : He.SaysD fa fn K) (base : Heap) : DefOk P w K mg base fsT FU tab ("divisor", 0, 2) := by
  obtain ⟨fd, F⟩ := c.def_ 0 (d := dd0) rfl
  have b := FunD.bindsN (ps := ["first", "second"]) F fun _ _ _ _ _ _ us hl => match us, hl with | [_, _], _ => rfl
  exact .inl ⟨top 1, sc0, ["first", "second"], core0, ⟨fs0, rfl, rfl, rfl, rfl, rfl, fun x hx => fa_free ((by decide +kernel : ∀ x ∈ sc0.fr, x ∈ FR) x hx) X G c, fun x i z => (by cases z), rfl, ⟨_, fd, fa_glo (by decide +kernel) X G c, F, b⟩, fun cl k => ⟨_, _, ok0 cl k FU⟩⟩⟩
theorem def1 (X : K.In h) (G : h.Ns mainGlobals mg) (c : He.SaysD fa fn K) (base : Heap) : DefOk P w K mg base fsT FU tab ("lowest", 1, 2) := by
  obtain ⟨fd, F⟩ := c.def_ 1 (d := dd1) rfl
  have b := FunD.bindsN (ps := ["a", "b"]) F fun _ _ _ _ _ _ us hl => match us, hl with | [_, _], _ => rfl
  exact .inl ⟨top 2, sc1, ["a", "b"], core1, ⟨fs1, rfl, rfl, rfl, rfl, rfl, fun x hx => fa_free ((by decide +kernel : ∀ x ∈ sc1.fr, x ∈ FR) x hx) X G c, fun x i z => (by cases z), rfl, ⟨_, fd, fa_glo (by decide +kernel) X G c, F, b⟩, fun cl k => ⟨_, _, ok1 cl k FU⟩⟩⟩
theorem def2 (X : K.In h) (G : h.Ns mainGlobals mg) (c : He.SaysD fa fn K) (base : Heap) : DefOk P w K mg base fsT FU tab ("ratio_plus", 2, 2) := by
  obtain ⟨fd, F⟩ := c.def_ 2 (d := dd2) rfl
  have b := FunD.bindsN (ps := ["first", "second"]) F fun _ _ _ _ _ _ us hl => match us, hl with | [_, _], _ => rfl
  exact .inl ⟨top 3, sc2, ["first", "second"], core2, ⟨fs2, rfl, rfl, rfl, rfl, rfl, fun x hx => fa_free ((by decide +kernel : ∀ x ∈ sc2.fr, x ∈ FR) x hx) X G c, fun x i z => (by cases z), rfl, ⟨_, fd, fa_glo (by decide +kernel) X G c, F, b⟩, fun cl k => ⟨_, _, ok2 cl k FU⟩⟩⟩
theorem def3 (X : K.In h) (G : h.Ns mainGlobals mg) (c : He.SaysD fa fn K) (base : Heap) : DefOk P w K mg base fsT FU tab ("ratio_times", 3, 2) := by
  obtain ⟨fd, F⟩ := c.def_ 3 (d := dd3) rfl
  have b := FunD.bindsN (ps := ["first", "second"]) F fun _ _ _ _ _ _ us hl => match us, hl with | [_, _], _ => rfl
  exact .inl ⟨top 4, sc3, ["first", "second"], core3, ⟨fs3, rfl, rfl, rfl, rfl, rfl, fun x hx => fa_free ((by decide +kernel : ∀ x ∈ sc3.fr, x ∈ FR) x hx) X G c, fun x i z => (by cases z), rfl, ⟨_, fd, fa_glo (by decide +kernel) X G c, F, b⟩, fun cl k => ⟨_, _, ok3 cl k FU⟩⟩⟩
theorem def4 (X : K.In h) (G : h.Ns mainGlobals mg) (c : He.SaysD fa fn K) (base : Heap) : DefOk P w K mg base fsT FU tab ("stay_paths", 4, 3) := by
  obtain ⟨fd, F⟩ := c.def_ 4 (d := dd4) rfl
  have b := FunD.bindsN (ps := ["n", "steps", "h"]) F fun _ _ _ _ _ _ us hl => match us, hl with | [_, _, _], _ => rfl
  exact .inl ⟨top 6, sc4, ["n", "steps", "h"], core4, ⟨fs4, rfl, rfl, rfl, rfl, rfl, fun x hx => fa_free ((by decide +kernel : ∀ x ∈ sc4.fr, x ∈ FR) x hx) X G c, fun x i z => (by cases z), rfl, ⟨_, fd, fa_glo (by decide +kernel) X G c, F, b⟩, fun cl k => ⟨_, _, ok4 cl k FU⟩⟩⟩
theorem def5 (X : K.In h) (G : h.Ns mainGlobals mg) (c : He.SaysD fa fn K) (base : Heap) : DefOk P w K mg base fsT FU tab ("moments_of", 5, 2) := by
  obtain ⟨fd, F⟩ := c.def_ 5 (d := dd5) rfl
  have b := FunD.bindsN (ps := ["first", "ladder"]) F fun _ _ _ _ _ _ us hl => match us, hl with | [_, _], _ => rfl
  exact .inl ⟨top 8, sc5, ["first", "ladder"], core5, ⟨fs5, rfl, rfl, rfl, rfl, rfl, fun x hx => fa_free ((by decide +kernel : ∀ x ∈ sc5.fr, x ∈ FR) x hx) X G c, fun x i z => (by cases z), rfl, ⟨_, fd, fa_glo (by decide +kernel) X G c, F, b⟩, fun cl k => ⟨_, _, ok5 cl k FU⟩⟩⟩
theorem def6 (X : K.In h) (G : h.Ns mainGlobals mg) (c : He.SaysD fa fn K) (base : Heap) : DefOk P w K mg base fsT FU tab ("_law_mixed", 6, 2) := by
  obtain ⟨fd, F⟩ := c.def_ 6 (d := dd6) rfl
  have b := FunD.bindsN (ps := ["script", "k"]) F fun _ _ _ _ _ _ us hl => match us, hl with | [_, _], _ => rfl
  exact .inl ⟨top 10, sc6, ["script", "k"], core6, ⟨fs6, rfl, rfl, rfl, rfl, rfl, fun x hx => fa_free ((by decide +kernel : ∀ x ∈ sc6.fr, x ∈ FR) x hx) X G c, fun x i z => (by cases z), rfl, ⟨_, fd, fa_glo (by decide +kernel) X G c, F, b⟩, fun cl k => ⟨_, _, ok6 cl k FU⟩⟩⟩
theorem def7 (X : K.In h) (G : h.Ns mainGlobals mg) (c : He.SaysD fa fn K) (base : Heap) : DefOk P w K mg base fsT FU tab ("_law_row", 7, 2) := by
  obtain ⟨fd, F⟩ := c.def_ 7 (d := dd7) rfl
  have b := FunD.bindsN (ps := ["script", "many"]) F fun _ _ _ _ _ _ us hl => match us, hl with | [_, _], _ => rfl
  exact .inl ⟨top 11, sc7, ["script", "many"], core7, ⟨fs7, rfl, rfl, rfl, rfl, rfl, fun x hx => fa_free ((by decide +kernel : ∀ x ∈ sc7.fr, x ∈ FR) x hx) X G c, fun x i z => (by cases z), rfl, ⟨_, fd, fa_glo (by decide +kernel) X G c, F, b⟩, fun cl k => ⟨_, _, ok7 cl k FU⟩⟩⟩
theorem def8 (X : K.In h) (G : h.Ns mainGlobals mg) (c : He.SaysD fa fn K) (base : Heap) : DefOk P w K mg base fsT FU tab ("_law_is_int", 8, 1) := by
  obtain ⟨fd, F⟩ := c.def_ 8 (d := dd8) rfl
  have b := FunD.bindsN (ps := ["value"]) F fun _ _ _ _ _ _ us hl => match us, hl with | [_], _ => rfl
  exact .inl ⟨top 12, sc8, ["value"], core8, ⟨fs8, rfl, rfl, rfl, rfl, rfl, fun x hx => fa_free ((by decide +kernel : ∀ x ∈ sc8.fr, x ∈ FR) x hx) X G c, fun x i z => (by cases z), rfl, ⟨_, fd, fa_glo (by decide +kernel) X G c, F, b⟩, fun cl k => ⟨_, _, ok8 cl k FU⟩⟩⟩
theorem def9 (X : K.In h) (G : h.Ns mainGlobals mg) (c : He.SaysD fa fn K) (base : Heap) : DefOk P w K mg base fsT FU tab ("_law_like", 9, 2) := by
  obtain ⟨fd, F⟩ := c.def_ 9 (d := dd9) rfl
  have b := FunD.bindsN (ps := ["value", "due"]) F fun _ _ _ _ _ _ us hl => match us, hl with | [_, _], _ => rfl
  exact .inl ⟨top 13, sc9, ["value", "due"], core9, ⟨fs9, rfl, rfl, rfl, rfl, rfl, fun x hx => fa_free ((by decide +kernel : ∀ x ∈ sc9.fr, x ∈ FR) x hx) X G c, fun x i z => (by cases z), rfl, ⟨_, fd, fa_glo (by decide +kernel) X G c, F, b⟩, fun cl k => ⟨_, _, ok9 cl k FU⟩⟩⟩
theorem def10 (X : K.In h) (G : h.Ns mainGlobals mg) (c : He.SaysD fa fn K) (base : Heap) : DefOk P w K mg base fsT FU tab ("law", 10, 1) := by
  obtain ⟨fd, F⟩ := c.def_ 10 (d := dd10) rfl
  have b := FunD.bindsN (ps := ["script"]) F fun _ _ _ _ _ _ us hl => match us, hl with | [_], _ => rfl
  exact .inl ⟨top 18, sc10, ["script"], core10, ⟨fs10, rfl, rfl, rfl, rfl, rfl, fun x hx => fa_free ((by decide +kernel : ∀ x ∈ sc10.fr, x ∈ FR) x hx) X G c, fun x i z => (by cases z), rfl, ⟨_, fd, fa_glo (by decide +kernel) X G c, F, b⟩, fun cl k => ⟨_, _, ok10 cl k FU⟩⟩⟩
theorem defs (X : K.In h) (G : h.Ns mainGlobals mg) (c : He.SaysD fa fn K) (base : Heap) : ∀ p ∈ tab, DefOk P w K mg base fsT FU tab p := by
  intro p hp
  rcases List.mem_cons.mp hp with rfl | hp
  · exact def0 X G c base
  rcases List.mem_cons.mp hp with rfl | hp
  · exact def1 X G c base
  rcases List.mem_cons.mp hp with rfl | hp
  · exact def2 X G c base
  rcases List.mem_cons.mp hp with rfl | hp
  · exact def3 X G c base
  rcases List.mem_cons.mp hp with rfl | hp
  · exact def4 X G c base
  rcases List.mem_cons.mp hp with rfl | hp
  · exact def5 X G c base
  rcases List.mem_cons.mp hp with rfl | hp
  · exact def6 X G c base
  rcases List.mem_cons.mp hp with rfl | hp
  · exact def7 X G c base
  rcases List.mem_cons.mp hp with rfl | hp
  · exact def8 X G c base
  rcases List.mem_cons.mp hp with rfl | hp
  · exact def9 X G c base
  rcases List.mem_cons.mp hp with rfl | hp
  · exact def10 X G c base
  cases hp
theorem facts {f : Addr} (X : K.In h) (G : h.Ns mainGlobals mg) (hfa : mg ("law" : Str) = some (.ref f)) (c : He.SaysD fa fn K) :
    ∃ fd : FuncData, (∀ (s : Shared) (v : Value), BindsTo s fd ⟨[v], []⟩ [("script", v)]) ∧ ∀ base : Heap, K.In base → base.Ns mainGlobals mg → FnOk P w K mg base CX0 KK f fd ["script"] (spD K (call fsT FU KK 10)) := by
  obtain ⟨fd, F⟩ := c.def_ 10 (d := dd10) rfl
  have e := hfa.symm.trans (fa_glo (x := "law") (by decide +kernel) X G c)
  cases e
  have b := FunD.bindsA (ps := ["script"]) F fun _ _ _ _ _ _ us hl => match us, hl with | [_], _ => rfl
  refine ⟨fd, fun s v => b s [v] rfl, fun base _ _ => ?_⟩
  exact fn_ok (S := sc10) F fs10 rfl rfl rfl rfl rfl ⟨fun x hx => fa_free ((by decide +kernel : ∀ x ∈ sc10.fr, x ∈ FR) x hx) X G c, fun x i z => (by cases z), all_ok (defs X G c base) 19⟩ (ok10 _ 19 FU)
end
end K92

/-! plain laws: the evaluator's words, one equation a construct -/
namespace PV
open PySem
section
variable (cl : Nat → List D → Option D) (fu : Nat)
theorem e_k (d : D) (τ : Env) : evE cl (.k d) τ = some d := rfl
theorem e_v (i : Nat) (τ : Env) : evE cl (.v i) τ = sVar τ[i]? := rfl
theorem e_bin (op : Bop) (a b : C) (τ : Env) : evE cl (.bin op a b) τ = sBin op (evE cl a τ) (evE cl b τ) := rfl
theorem e_bi (f : Bi) (es : List C) (τ : Env) : evE cl (.bi f es) τ = (evEs cl es τ).bind (biD f) := rfl
theorem e_idx (a i : C) (τ : Env) : evE cl (.idx a i) τ = sIdx (evE cl a τ) (evE cl i τ) := rfl
theorem e_cmp (op : Cop) (a b : C) (τ : Env) : evE cl (.cmp op a b) τ = sCmp op (evE cl a τ) (evE cl b τ) := rfl
theorem e_cal (f : Nat) (es : List C) (τ : Env) : evE cl (.cal f es) τ = (evEs cl es τ).bind (cl f) := rfl
theorem e_tup (es : List C) (τ : Env) : evE cl (.tup es) τ = sTup (evEs cl es τ) := rfl
theorem e_lst (es : List C) (τ : Env) : evE cl (.lst es) τ = sLst (evEs cl es τ) := rfl
theorem e_nil (τ : Env) : evEs cl [] τ = some [] := rfl
theorem e_cons (e : C) (es : List C) (τ : Env) : evEs cl (e :: es) τ = sCons (evE cl e τ) (evEs cl es τ) := rfl
theorem s_nil (τ : Env) : evSs cl fu [] τ = some (.nxt, τ) := rfl
theorem s_cons (s : S) (r : List S) (τ : Env) : evSs cl fu (s :: r) τ = sSeq (evS cl fu s τ) (fun τ => evSs cl fu r τ) := rfl
theorem s_asg (tg e : C) (τ : Env) : evS cl fu (.asg tg e) τ = (evE cl e τ).bind fun d => nxt (bnd cl tg d τ) := rfl
theorem s_ite (t : C) (a b : List S) (τ : Env) : evS cl fu (.ite t a b) τ = sIf (evT cl t τ) (evSs cl fu a τ) (evSs cl fu b τ) := rfl
theorem s_ret (e : C) (τ : Env) : evS cl fu (.ret e) τ = (evE cl e τ).map fun d => (.ret d, τ) := rfl
theorem s_app (i : Nat) (e : C) (τ : Env) : evS cl fu (.app i e) τ = (evE cl e τ).bind fun d => nxt (appD i d τ) := rfl
theorem t_val (e : C) (τ : Env) : evT cl e τ = (evE cl e τ).bind truD := rfl
theorem b_v (i : Nat) (d : D) (τ : Env) : bnd cl (.v i) d τ = bindV i d τ := rfl
end
theorem seq_nxt (τ : Env) (f : Env → Res) : sSeq (some (.nxt, τ)) f = f τ := rfl
theorem seq_ret (d : D) (τ : Env) (f : Env → Res) : sSeq (some (.ret d, τ)) f = some (.ret d, τ) := rfl
theorem if_t (a b : Res) : sIf (some true) a b = a := rfl
theorem if_f (a b : Res) : sIf (some false) a b = b := rfl
theorem var_s (d : D) : sVar (some (some d)) = some d := rfl
theorem bin_s (op : Bop) (x y : D) : sBin op (some x) (some y) = binD op x y := rfl
theorem idx_s (x y : D) : sIdx (some x) (some y) = idxD x y := rfl
theorem cmp_s (op : Cop) (x y : D) : sCmp op (some x) (some y) = (cmpD op x y).map .bl := rfl
theorem cons_s (x : D) (r : List D) : sCons (some x) (some r) = some (x :: r) := rfl
theorem nxt_s (τ : Env) : nxt (some τ) = some (.nxt, τ) := rfl
theorem b_add (i j : Int) : binD .add (.int i) (.int j) = some (.int (i + j)) := rfl
theorem b_sub (i j : Int) : binD .sub (.int i) (.int j) = some (.int (i - j)) := rfl
theorem b_mul {i j : Int} (h : j.natAbs < 2 ^ 64) : binD .mul (.int i) (.int j) = some (.int (i * j)) := by
  show (if mulOk i j then some (D.int (i * j)) else none) = _
  have : mulOk i j = true := by unfold mulOk; rw [decide_eq_true h]; simp
  rw [if_pos this]
theorem b_mulL {i j : Int} (h : i.natAbs < 2 ^ 64) : binD .mul (.int i) (.int j) = some (.int (i * j)) := by
  show (if mulOk i j then some (D.int (i * j)) else none) = _
  have : mulOk i j = true := by unfold mulOk; rw [decide_eq_true h]; simp
  rw [if_pos this]
theorem b_mod {i j : Int} (h : 0 < j) : binD .mod (.int i) (.int j) = some (.int (i % j)) := by
  show (if j = 0 then none else some (D.int (pyMod i j))) = _
  rw [if_neg (by omega)]
  unfold pyMod
  rw [if_pos h]
theorem b_div {i j : Int} (h : 0 < j) (h2 : j < 1073741824) : binD .fdiv (.int i) (.int j) = some (.int (i / j)) := by
  show (if divOk j then some (D.int (pyDiv i j)) else none) = _
  have : divOk j = true := by
    unfold divOk
    rw [decide_eq_true (show j ≠ 0 by omega), decide_eq_true (show j.natAbs < 1073741824 by omega)]; rfl
  rw [if_pos this]
  unfold pyDiv
  rw [if_pos h]
/-! ### the drawn numbers, the same in all laws -/
def mixCore : List S := [.asg (.v 2) (.k (.int 0)), .ite (.cmp .gt (.bi .len [.v 0]) (.k (.int 0))) [.asg (.v 2) (.idx (.v 0) (.bin .mod (.v 1) (.bi .len [.v 0])))] [],
  .asg (.v 3) (.bin .mod (.bi .int [.bin .add (.bin .add (.bin .mul (.v 2) (.k (.int 48271))) (.bin .mul (.v 1) (.k (.int 69621)))) (.k (.int 8191))]) (.k (.int 2147483647))),
  .asg (.v 4) (.bin .mod (.bi .int [.bin .add (.bin .add (.bin .mul (.v 3) (.v 3)) (.bin .fdiv (.v 3) (.k (.int 7)))) (.bin .mul (.v 1) (.k (.int 16807)))]) (.k (.int 2147483629))),
  .asg (.v 5) (.bin .mod (.bi .int [.bin .add (.bin .add (.bin .mul (.v 4) (.v 4)) (.bin .fdiv (.v 4) (.k (.int 11)))) (.k (.int 40692))]) (.k (.int 2147483563))),
  .ret (.bin .mod (.bin .fdiv (.v 5) (.k (.int 5))) (.k (.int 1000003)))]
section
variable {cl : Nat → List D → Option D} {fu : Nat} {τ τ' : Env} {a b e : C} {i j n : Nat} {x y : Int} {d d' : D} {r as bs : List S} {z : Res}
theorem xv (h : τ[n]? = some (some d)) : evE cl (.v n) τ = some d := by rw [e_v, h]; rfl
theorem xadd (ha : evE cl a τ = some (.int x)) (hb : evE cl b τ = some (.int y)) : evE cl (.bin .add a b) τ = some (.int (x + y)) := by rw [e_bin, ha, hb]; rfl
theorem xsub (ha : evE cl a τ = some (.int x)) (hb : evE cl b τ = some (.int y)) : evE cl (.bin .sub a b) τ = some (.int (x - y)) := by rw [e_bin, ha, hb]; rfl
theorem xmul (ha : evE cl a τ = some (.int x)) (hb : evE cl b τ = some (.int y)) (h : x.natAbs < 2 ^ 64 ∨ y.natAbs < 2 ^ 64) : evE cl (.bin .mul a b) τ = some (.int (x * y)) := by
  rw [e_bin, ha, hb, bin_s]
  rcases h with h | h
  · exact b_mulL h
  · exact b_mul h
theorem xmod (ha : evE cl a τ = some (.int x)) (hb : evE cl b τ = some (.int y)) (h : 0 < y) : evE cl (.bin .mod a b) τ = some (.int (x % y)) := by rw [e_bin, ha, hb, bin_s]; exact b_mod h
theorem xdiv (ha : evE cl a τ = some (.int x)) (hb : evE cl b τ = some (.int y)) (h : 0 < y) (h2 : y < 1073741824) : evE cl (.bin .fdiv a b) τ = some (.int (x / y)) := by rw [e_bin, ha, hb, bin_s]; exact b_div h h2
theorem xint (ha : evE cl a τ = some (.int x)) : evE cl (.bi .int [a]) τ = some (.int x) := by rw [e_bi, e_cons, ha]; rfl
theorem xgt (ha : evE cl a τ = some (.int x)) (hb : evE cl b τ = some (.int y)) : evT cl (.cmp .gt a b) τ = some (decide (y < x)) := by rw [t_val, e_cmp, ha, hb]; rfl
theorem xge (ha : evE cl a τ = some (.int x)) (hb : evE cl b τ = some (.int y)) : evT cl (.cmp .ge a b) τ = some (decide (y ≤ x)) := by rw [t_val, e_cmp, ha, hb]; rfl
theorem bv (h : n < τ.length) : bnd cl (.v n) d τ = some (τ.set n (some d)) := by
  show bindV n d τ = _
  unfold bindV
  rw [if_pos h]
theorem yasg (h : evE cl e τ = some d) (hi : n < τ.length) (hr : evSs cl fu r (τ.set n (some d)) = z) : evSs cl fu (.asg (.v n) e :: r) τ = z := by
  rw [s_cons, s_asg, h]
  show sSeq (nxt (bnd cl (.v n) d τ)) _ = z
  rw [bv hi]; exact hr
theorem yret (h : evE cl e τ = some d) : evSs cl fu (.ret e :: r) τ = some (.ret d, τ) := by rw [s_cons, s_ret, h]; rfl
theorem yifT (h : evT cl e τ = some true) (ha : evSs cl fu as τ = some (.nxt, τ')) (hr : evSs cl fu r τ' = z) : evSs cl fu (.ite e as bs :: r) τ = z := by
  rw [s_cons, s_ite, h, if_t, ha]; exact hr
theorem yifF (h : evT cl e τ = some false) (ha : evSs cl fu bs τ = some (.nxt, τ')) (hr : evSs cl fu r τ' = z) : evSs cl fu (.ite e as bs :: r) τ = z := by
  rw [s_cons, s_ite, h, if_f, ha]; exact hr
end
def mixZ (c k : Int) : Int :=
  ((((((c * 48271 + k * 69621 + 8191) % 2147483647) * ((c * 48271 + k * 69621 + 8191) % 2147483647) + ((c * 48271 + k * 69621 + 8191) % 2147483647) / 7 + k * 16807) % 2147483629) * ((((c * 48271 + k * 69621 + 8191) % 2147483647) * ((c * 48271 + k * 69621 + 8191) % 2147483647) + ((c * 48271 + k * 69621 + 8191) % 2147483647) / 7 + k * 16807) % 2147483629) + ((((c * 48271 + k * 69621 + 8191) % 2147483647) * ((c * 48271 + k * 69621 + 8191) % 2147483647) + ((c * 48271 + k * 69621 + 8191) % 2147483647) / 7 + k * 16807) % 2147483629) / 11 + 40692) % 2147483563) / 5 % 1000003
theorem idx_scr {ns : List Int} {k : Int} (h : ns ≠ []) : ∃ x, idxD (.scr (ns.map .int)) (.int (k % (ns.length : Int))) = some (.int x) := by
  have hl : 0 < (ns.length : Int) := by
    have := List.length_pos_iff.mpr h
    omega
  have h1 := Int.emod_nonneg k (show (ns.length : Int) ≠ 0 by omega)
  have h2 := Int.emod_lt_of_pos k hl
  refine ⟨ns[(k % (ns.length : Int)).toNat]'(by omega), ?_⟩
  show atD (ns.map .int) _ = _
  unfold atD ixN
  rw [List.length_map, if_pos h1, if_pos h2]
  show (ns.map D.int)[(k % (ns.length : Int)).toNat]? = _
  rw [List.getElem?_map, List.getElem?_eq_getElem (by omega)]; rfl
theorem mix_tail (cl : Nat → List D → Option D) (fu : Nat) (s : D) (k c : Int) : ∃ τ, evSs cl fu (mixCore.drop 2) [some s, some (.int k), some (.int c), none, none, none] = some (.ret (.int (mixZ c k)), τ) := by
  have sm : ∀ a m : Int, 0 < m → m < 2 ^ 64 → (a % m).natAbs < 2 ^ 64 := fun a m h1 h2 => by
    have := Int.emod_nonneg a (show m ≠ 0 by omega)
    have := Int.emod_lt_of_pos a h1
    omega
  exact ⟨_, yasg (xmod (xint (xadd (xadd (xmul (xv rfl) (e_k ..) (.inr (by decide))) (xmul (xv rfl) (e_k ..) (.inr (by decide)))) (e_k ..))) (e_k ..) (by decide)) (by simp)
   (yasg (xmod (xint (xadd (xadd (xmul (xv rfl) (xv rfl) (.inr (sm _ _ (by decide) (by decide)))) (xdiv (xv rfl) (e_k ..) (by decide) (by decide))) (xmul (xv rfl) (e_k ..) (.inr (by decide))))) (e_k ..) (by decide)) (by simp)
   (yasg (xmod (xint (xadd (xadd (xmul (xv rfl) (xv rfl) (.inr (sm _ _ (by decide) (by decide)))) (xdiv (xv rfl) (e_k ..) (by decide) (by decide))) (e_k ..))) (e_k ..) (by decide)) (by simp)
   (yret (xmod (xdiv (xv rfl) (e_k ..) (by decide) (by decide)) (e_k ..) (by decide)))))⟩
theorem mixZ_nn (c k : Int) : 0 ≤ mixZ c k := Int.emod_nonneg _ (by decide)
theorem run_ret {cl : Nat → List D → Option D} {fu np ns : Nat} {body : List S} {args : List D} {d : D} {τ : Env} (hl : args.length = np) (h : evSs cl fu body (args.map some ++ List.replicate (ns - np) none) = some (.ret d, τ)) : runF cl fu np ns body args = some d := by
  unfold runF
  rw [if_pos hl, h]; rfl
theorem mix_ok (cl : Nat → List D → Option D) (fu : Nat) (ns : List Int) (k : Int) : ∃ x : Int, 0 ≤ x ∧ runF cl fu 2 6 mixCore [.scr (ns.map .int), .int k] = some (.int x) := by
  have len : ∀ τ : Env, τ[0]? = some (some (.scr (ns.map .int))) → evE cl (.bi .len [.v 0]) τ = some (.int ns.length) := fun τ h => by
    rw [e_bi, e_cons, e_v, h]
    show some (D.int ((ns.map D.int).length : Nat)) = _
    rw [List.length_map]
  by_cases h : ns = []
  · subst h
    obtain ⟨τ, ht⟩ := mix_tail cl fu (.scr []) k 0
    refine ⟨_, mixZ_nn 0 k, run_ret rfl (τ := τ) ?_⟩
    refine yasg (e_k ..) (by simp) ?_
    refine yifF (τ' := _) ?_ rfl ht
    rw [xgt (len _ rfl) (e_k ..)]; rfl
  · obtain ⟨x, hx⟩ := idx_scr (k := k) h
    obtain ⟨τ, ht⟩ := mix_tail cl fu (.scr (ns.map .int)) k x
    have hl : 0 < (ns.length : Int) := by
      have := List.length_pos_iff.mpr h
      omega
    refine ⟨_, mixZ_nn x k, run_ret rfl (τ := τ) ?_⟩
    refine yasg (e_k ..) (by simp) ?_
    refine yifT (τ' := [some (.scr (ns.map .int)), some (.int k), some (.int x), none, none, none]) ?_ ?_ ht
    · rw [xgt (len _ rfl) (e_k ..), decide_eq_true hl]
    · refine yasg (d := .int x) ?_ (by simp) rfl
      rw [e_idx, xmod (xv rfl) (len _ rfl) hl]
      exact hx
end PV

/-! plain laws: loops, the row of drawn numbers -/
namespace PV
open PySem
theorem for_inv {bd : D → Env → Option Env} {body : Env → Res} (Inv : Nat → Env → Prop) : ∀ (xs : List D) (i : Nat) (τ : Env), Inv i τ →
    (∀ (j : Nat) (x : D) (τ : Env), xs[j]? = some x → Inv (i + j) τ → ∃ τ1 τ2, bd x τ = some τ1 ∧ body τ1 = some (.nxt, τ2) ∧ Inv (i + j + 1) τ2) →
    ∃ τ', forL bd body [] xs τ = some (.nxt, τ') ∧ Inv (i + xs.length) τ'
  | [], i, τ, h0, _ => ⟨τ, rfl, h0⟩
  | x :: xs, i, τ, h0, step => by
    obtain ⟨τ1, τ2, h1, h2, h3⟩ := step 0 x τ rfl h0
    obtain ⟨τ', h4, h5⟩ := for_inv Inv xs (i + 1) τ2 h3 fun j x τ hx hi => by
      have := step (j + 1) x τ hx (by rw [show i + (j + 1) = i + 1 + j by omega]; exact hi)
      rwa [show i + (j + 1) = i + 1 + j by omega] at this
    refine ⟨τ', ?_, by rw [List.length_cons, show i + (xs.length + 1) = i + 1 + xs.length by omega]; exact h5⟩
    show (bd x τ).bind _ = _
    rw [h1]
    show (body τ1).bind _ = _
    rw [h2]
    exact h4
section
variable {cl : Nat → List D → Option D} {fu : Nat} {τ τ' : Env} {a b e ct ti : C} {i j n : Nat} {x y : Int} {d d' : D} {r as bs : List S} {z : Res} {xs : List D}
theorem yfor (hi : evI cl ti τ = some xs) (h : forL (bnd cl ct) (fun τ => evSs cl fu bs τ) [] xs τ = some (.nxt, τ')) (hr : evSs cl fu r τ' = z) : evSs cl fu (.fo ct ti bs [] :: r) τ = z := by
  rw [s_cons]
  show sSeq ((evI cl ti τ).bind fun xs => forL (bnd cl ct) (fun τ => evSs cl fu bs τ) [] xs τ) _ = z
  rw [hi]
  show sSeq (forL (bnd cl ct) (fun τ => evSs cl fu bs τ) [] xs τ) _ = z
  rw [h]; exact hr
theorem yapp (h : evE cl e τ = some d) (hx : τ[n]? = some (some (.lst xs))) (hs : xs.length ≤ 1000000) (hr : evSs cl fu r (τ.set n (some (.lst (xs ++ [d])))) = z) : evSs cl fu (.app n e :: r) τ = z := by
  rw [s_cons, s_app, h]
  show sSeq (nxt (appD n d τ)) _ = z
  have : appD n d τ = some (τ.set n (some (.lst (xs ++ [d])))) := by
    unfold appD slotD
    rw [hx]
    show (if szOk xs.length then _ else _) = _
    rw [if_pos (decide_eq_true hs)]
  rw [this]; exact hr
theorem yendIf (h : evT cl e τ = some true) (ha : evSs cl fu as τ = z) (hz : ∃ τ', z = some (.nxt, τ')) : evSs cl fu [.ite e as bs] τ = z := by
  obtain ⟨τ', rfl⟩ := hz
  exact yifT h ha rfl
theorem xrng1 (ha : evE cl a τ = some (.int x)) (h1 : -(2 ^ 61) ≤ x) (h2 : x < 2 ^ 61) : evI cl (.rng [a]) τ = some ((List.range x.toNat).map fun i => .int (i : Nat)) := by
  show ((((sCons (evE cl a τ) (some [])).bind fun ds => (rngD ds).map D.lst)).bind itemsD) = _
  rw [ha]
  show ((rngD [.int x]).map D.lst).bind itemsD = _
  have : rngD [.int x] = some ((List.range x.toNat).map fun i => .int (i : Nat)) := by
    show (if rngB x then _ else _) = _
    have hb : rngB x = true := by
      unfold rngB
      rw [decide_eq_true h1, decide_eq_true h2]; rfl
    rw [if_pos hb]
  rw [this]; rfl
end
def rowCore (q : Nat) : List S := [.asg (.v 2) (.k (.int 0)), .ite (.an (.cmp .gt (.bi .len [.v 0]) (.k (.int 0))) (.cmp .ge (.idx (.v 0) (.k (.int 0))) (.bin .pow (.k (.int 10)) (.k (.int 18))))) [.asg (.v 2) (.idx (.v 0) (.k (.int 0)))] [], .asg (.v 3) (.lst []),
  .fo (.v 4) (.rng [.v 1]) [.ite (.cmp .gt (.v 2) (.k (.int 0))) [.app 3 (.bin .mod (.bi .int [.v 2]) (.k (.int 1000))), .asg (.v 2) (.bin .fdiv (.v 2) (.k (.int 1000)))] [.app 3 (.cal q [.v 0, .v 4])]] [], .ret (.v 3)]
theorem row_tail {cl : Nat → List D → Option D} {fu q : Nat} {ns : List Int} (hm : ∀ k : Int, ∃ x : Int, 0 ≤ x ∧ cl q [.scr (ns.map .int), .int k] = some (.int x)) (many : Nat) (hmany : many ≤ 1000) (big : Int) (hb : 0 ≤ big) :
    ∃ (L : List Int) (τ : Env), L.length = many ∧ (∀ x ∈ L, 0 ≤ x) ∧ evSs cl fu ((rowCore q).drop 2) [some (.scr (ns.map .int)), some (.int many), some (.int big), none, none] = some (.ret (.lst (L.map .int)), τ) := by
  obtain ⟨τ', h1, h2⟩ := for_inv (bd := bnd cl (.v 4)) (body := fun τ => evSs cl fu [.ite (.cmp .gt (.v 2) (.k (.int 0))) [.app 3 (.bin .mod (.bi .int [.v 2]) (.k (.int 1000))), .asg (.v 2) (.bin .fdiv (.v 2) (.k (.int 1000)))] [.app 3 (.cal q [.v 0, .v 4])]] τ)
    (fun i τ => ∃ (L : List Int) (bg : Int) (j : Option D), L.length = i ∧ (∀ x ∈ L, 0 ≤ x) ∧ 0 ≤ bg ∧ τ = [some (.scr (ns.map .int)), some (.int many), some (.int bg), some (.lst (L.map .int)), j])
    ((List.range many).map fun i => .int (i : Nat)) 0 [some (.scr (ns.map .int)), some (.int many), some (.int big), some (.lst []), none]
    ⟨[], big, none, rfl, (fun x h => by cases h), hb, rfl⟩ (by
      rintro i x τ hx ⟨L, bg, j, hl, hL, hbg, rfl⟩
      have hi : i < many := by
        by_cases hi : i < many
        · exact hi
        · rw [List.getElem?_eq_none (by simpa using hi)] at hx; cases hx
      have hx : x = .int i := by
        rw [List.getElem?_map, List.getElem?_range hi] at hx
        cases hx; rfl
      subst hx
      refine ⟨[some (.scr (ns.map .int)), some (.int many), some (.int bg), some (.lst (L.map .int)), some (.int i)], ?_⟩
      have hlen : (L.map D.int).length ≤ 1000000 := by rw [List.length_map]; omega
      by_cases hbz : 0 < bg
      · refine ⟨[some (.scr (ns.map .int)), some (.int many), some (.int (bg / 1000)), some (.lst ((L ++ [bg % 1000]).map .int)), some (.int i)], rfl, ?_, L ++ [bg % 1000], bg / 1000, some (.int i), ?_, ?_, Int.ediv_nonneg hbg (by decide), rfl⟩
        · refine yendIf ?_ (yapp (xmod (xint (xv rfl)) (e_k ..) (by decide)) rfl hlen (yasg (xdiv (xv rfl) (e_k ..) (by decide) (by decide)) (by simp) ?_)) ⟨_, rfl⟩
          · rw [xgt (xv rfl) (e_k ..), decide_eq_true hbz]
          · rw [List.map_append]; rfl
        · rw [List.length_append, hl]; simp
        · intro x hx
          rcases List.mem_append.mp hx with h | h
          · exact hL x h
          · rw [List.mem_singleton] at h; rw [h]; exact Int.emod_nonneg _ (by decide)
      · obtain ⟨v, hv0, hv⟩ := hm i
        refine ⟨[some (.scr (ns.map .int)), some (.int many), some (.int bg), some (.lst ((L ++ [v]).map .int)), some (.int i)], rfl, ?_, L ++ [v], bg, some (.int i), ?_, ?_, hbg, rfl⟩
        · refine yifF (τ' := [some (.scr (ns.map .int)), some (.int many), some (.int bg), some (.lst ((L ++ [v]).map .int)), some (.int i)]) ?_ (yapp (d := .int v) hv rfl hlen ?_) rfl
          · rw [xgt (xv rfl) (e_k ..), decide_eq_false hbz]
          · rw [List.map_append]; rfl
        · rw [List.length_append, hl]; simp
        · intro x hx
          rcases List.mem_append.mp hx with h | h
          · exact hL x h
          · rw [List.mem_singleton] at h; rw [h]; exact hv0)
  obtain ⟨L, bg, j, hl, hL, _, rfl⟩ := h2
  exact ⟨L, _, by simpa using hl, hL, yasg (d := .lst []) rfl (by simp) (yfor (xrng1 (xv rfl) (by omega) (by omega)) h1 (yret (xv rfl)))⟩
theorem row_ok {cl : Nat → List D → Option D} {fu q : Nat} {ns : List Int} (hm : ∀ k : Int, ∃ x : Int, 0 ≤ x ∧ cl q [.scr (ns.map .int), .int k] = some (.int x)) (many : Nat) (hmany : many ≤ 1000) :
    ∃ L : List Int, L.length = many ∧ (∀ x ∈ L, 0 ≤ x) ∧ runF cl fu 2 5 (rowCore q) [.scr (ns.map .int), .int many] = some (.lst (L.map .int)) := by
  have key : ∀ big : Int, 0 ≤ big → evSs cl fu ((rowCore q).take 2) [some (.scr (ns.map .int)), some (.int many), none, none, none] = some (.nxt, [some (.scr (ns.map .int)), some (.int many), some (.int big), none, none]) →
      ∃ L : List Int, L.length = many ∧ (∀ x ∈ L, 0 ≤ x) ∧ runF cl fu 2 5 (rowCore q) [.scr (ns.map .int), .int many] = some (.lst (L.map .int)) := by
    intro big hb h
    obtain ⟨L, τ, h1, h2, h3⟩ := row_tail (fu := fu) hm many hmany big hb
    refine ⟨L, h1, h2, run_ret (τ := τ) rfl ?_⟩
    have sp : ∀ (a b : List S) (τ τ' : Env), evSs cl fu a τ = some (.nxt, τ') → evSs cl fu (a ++ b) τ = evSs cl fu b τ' := by
      intro a
      induction a with
      | nil => intro b τ τ' h; cases h; rfl
      | cons s r ih =>
        intro b τ τ' h
        rw [s_cons] at h
        rw [List.cons_append, s_cons]
        cases e : evS cl fu s τ with
        | none => rw [e] at h; cases h
        | some q =>
          obtain ⟨o, τ2⟩ := q
          rw [e] at h
          cases o with
          | nxt => exact ih b τ2 τ' h
          | brk => cases h
          | cnt => cases h
          | ret d => cases h
    exact (sp ((rowCore q).take 2) ((rowCore q).drop 2) _ _ h).trans h3
  have len : ∀ τ : Env, τ[0]? = some (some (.scr (ns.map .int))) → evE cl (.bi .len [.v 0]) τ = some (.int ns.length) := fun τ h => by
    rw [e_bi, e_cons, e_v, h]
    show some (D.int ((ns.map D.int).length : Nat)) = _
    rw [List.length_map]
  have hand : ∀ (t : Bool) (a b : C) (τ : Env), evT cl a τ = some t → (t = true → evT cl (.an a b) τ = evT cl b τ) ∧ (t = false → evT cl (.an a b) τ = some false) := by
    intro t a b τ h
    have h : (evE cl a τ).bind truD = some t := h
    rw [Option.bind_eq_some_iff] at h
    obtain ⟨x, h1, h2⟩ := h
    constructor
    · rintro rfl
      show (sAnd (evE cl a τ) (evE cl b τ)).bind truD = (evE cl b τ).bind truD
      unfold sAnd
      rw [h1, Option.bind_some, h2]; rfl
    · rintro rfl
      show (sAnd (evE cl a τ) (evE cl b τ)).bind truD = _
      unfold sAnd
      rw [h1, Option.bind_some, h2]
      exact h2
  by_cases h : ns = []
  · refine key 0 (Int.le_refl 0) (yasg (e_k ..) (by simp) (yifF (τ' := _) ((hand false _ _ _ ?_).2 rfl) rfl rfl))
    rw [xgt (len _ rfl) (e_k ..), h]; rfl
  · have hl : 0 < ns.length := List.length_pos_iff.mpr h
    have h0 : ∀ τ : Env, τ[0]? = some (some (.scr (ns.map .int))) → evE cl (.idx (.v 0) (.k (.int 0))) τ = some (.int ns[0]) := fun τ hτ => by
      rw [e_idx, e_v, hτ]
      show atD (ns.map .int) 0 = _
      unfold atD ixN
      rw [List.length_map, if_pos (by decide), if_pos (by omega)]
      show (ns.map D.int)[0]? = _
      rw [List.getElem?_map, List.getElem?_eq_getElem hl]; rfl
    have hc : ∀ τ : Env, τ[0]? = some (some (.scr (ns.map .int))) → evT cl (.an (.cmp .gt (.bi .len [.v 0]) (.k (.int 0))) (.cmp .ge (.idx (.v 0) (.k (.int 0))) (.bin .pow (.k (.int 10)) (.k (.int 18))))) τ = some (decide ((10 : Int) ^ 18 ≤ ns[0])) := fun τ hτ => by
      rw [(hand true _ _ _ (by rw [xgt (len _ hτ) (e_k ..), decide_eq_true (by omega)])).1 rfl]
      exact xge (h0 _ hτ) rfl
    by_cases hb : (10 : Int) ^ 18 ≤ ns[0]
    · refine key ns[0] (by omega) (yasg (e_k ..) (by simp) (yifT (τ' := [some (.scr (ns.map .int)), some (.int many), some (.int ns[0]), none, none]) ?_ (yasg (h0 _ rfl) (by simp) rfl) rfl))
      rw [hc _ rfl, decide_eq_true hb]
    · refine key 0 (Int.le_refl 0) (yasg (e_k ..) (by simp) (yifF (τ' := _) ?_ rfl rfl))
      rw [hc _ rfl, decide_eq_false hb]
end PV

/-! plain laws: dicts from whole numbers to whole numbers -/
namespace PV
open PySem
/-- the dict with these keys, by a function -/
def dOf (ks : List Int) (g : Int → Int) : D := .dct false (ks.map .int) (ks.map fun x => .int (g x))
theorem eqB_int (a b : Int) : eqB (.int a) (.int b) = (a == b) := rfl
theorem look_dOf (g : Int → Int) (y : Int) : ∀ ks : List Int, lookD (ks.map .int) (ks.map fun x => .int (g x)) (.int y) = if y ∈ ks then some (.int (g y)) else none
  | [] => rfl
  | k :: ks => by
    show (if eqB (.int k) (.int y) then some (D.int (g k)) else lookD (ks.map .int) (ks.map fun x => .int (g x)) (.int y)) = _
    rw [eqB_int, look_dOf g y ks]
    by_cases e : k = y
    · subst e; simp
    · rw [if_neg (by simpa using e)]
      have : (y ∈ k :: ks) ↔ y ∈ ks := by simp [Ne.symm e]
      simp only [this]
theorem get_dOf {ks : List Int} {g : Int → Int} {y : Int} (h0 : y ∉ ks → g y = 0) : getD' (dOf ks g) (.int y) (.int 0) = some (.int (g y)) := by
  show (if kindOk false (.int y) then some ((lookD (ks.map .int) (ks.map fun x => .int (g x)) (.int y)).getD (.int 0)) else none) = _
  rw [look_dOf, if_pos (show kindOk false (.int y) = true from rfl)]
  by_cases h : y ∈ ks
  · rw [if_pos h]; rfl
  · rw [if_neg h, h0 h]; rfl
theorem idx_dOf {ks : List Int} {g : Int → Int} {y : Int} (h : y ∈ ks) : idxD (dOf ks g) (.int y) = some (.int (g y)) := by
  show (if kindOk false (.int y) then lookD (ks.map .int) (ks.map fun x => .int (g x)) (.int y) else none) = _
  rw [look_dOf, if_pos (show kindOk false (.int y) = true from rfl), if_pos h]
theorem hasK_dOf (y : Int) (ks : List Int) : hasK (ks.map .int) (.int y) = decide (y ∈ ks) := by
  induction ks with
  | nil => rfl
  | cons k ks ih =>
    show (eqB (.int k) (.int y) || hasK (ks.map .int) (.int y)) = _
    rw [ih, eqB_int]
    by_cases e : k = y
    · subst e; simp
    · have : (k == y) = false := by simpa using e
      rw [this, Bool.false_or]
      congr 1
      simp [Ne.symm e]
theorem repV_dOf (g : Int → Int) (y v : Int) : ∀ ks : List Int, repV (ks.map .int) (ks.map fun x => .int (g x)) (.int y) (.int v) = ks.map fun x => .int (if x = y then v else g x)
  | [] => rfl
  | k :: ks => by
    show (if eqB (.int k) (.int y) then D.int v else .int (g k)) :: repV (ks.map .int) (ks.map fun x => .int (g x)) (.int y) (.int v) = _
    rw [repV_dOf g y v ks, eqB_int, List.map_cons]
    congr 1
    by_cases e : k = y
    · subst e; simp
    · rw [if_neg (by simpa using e), if_neg e]
def putN (ks : List Int) (y : Int) : List Int := if y ∈ ks then ks else ks ++ [y]
theorem put_dOf {ks : List Int} {g : Int → Int} {y v : Int} (hs : ks.length ≤ 1000000) : setD (dOf ks g) (.int y) (.int v) = some (dOf (putN ks y) fun x => if x = y then v else g x) := by
  show (if kindOk false (.int y) && szOk (ks.map D.int).length then some (D.dct false (putKs (ks.map .int) (.int y)) (putV (ks.map .int) (ks.map fun x => .int (g x)) (.int y) (.int v))) else none) = _
  rw [List.length_map, if_pos (show (kindOk false (D.int y) && szOk ks.length) = true from decide_eq_true hs)]
  unfold putKs putV putN dOf
  rw [hasK_dOf]
  by_cases h : y ∈ ks
  · rw [decide_eq_true h, if_pos rfl, if_pos rfl, if_pos h, repV_dOf]
  · rw [decide_eq_false h, if_neg Bool.false_ne_true, if_neg Bool.false_ne_true, if_neg h, List.map_append, List.map_append]
    congr 2
    have : ks.map (fun x => D.int (g x)) = ks.map fun x => .int (if x = y then v else g x) := List.map_congr_left fun x hx => by
      have e : x ≠ y := fun e => h (by rw [← e]; exact hx)
      rw [if_neg e]
    rw [this]; simp
theorem putN_nodup {ks : List Int} {y : Int} (h : ks.Nodup) : (putN ks y).Nodup := by
  unfold putN
  split
  · exact h
  · rename_i hy
    rw [List.nodup_append]
    exact ⟨h, by simp, fun a ha b hb e => by rw [List.mem_singleton] at hb; subst hb; subst e; exact hy ha⟩
theorem putN_mem {ks : List Int} {y x : Int} : x ∈ putN ks y ↔ x ∈ ks ∨ x = y := by
  unfold putN
  split
  · rename_i hy
    exact ⟨.inl, fun h => h.elim id fun e => e ▸ hy⟩
  · simp
theorem putN_len {ks : List Int} {y : Int} : (putN ks y).length ≤ ks.length + 1 := by
  unfold putN
  split
  · omega
  · simp
section
variable {cl : Nat → List D → Option D} {fu : Nat} {τ τ' : Env} {a b e ct ti : C} {i j n : Nat} {x y : Int} {d d' : D} {r as bs : List S} {z : Res} {xs : List D}
theorem xget {m : Int} {ks : List Int} {g : Int → Int} (h : τ[n]? = some (some (dOf ks g))) (ha : evE cl a τ = some (.int y)) (h0 : y ∉ ks → g y = 0) : evE cl (.get (.v n) a (.k (.int 0))) τ = some (.int (g y)) := by
  show sGet (sVar τ[n]?) (evE cl a τ) (some (.int 0)) = _
  rw [h, ha]
  exact get_dOf h0
theorem xidxD {ks : List Int} {g : Int → Int} (h : evE cl b τ = some (dOf ks g)) (ha : evE cl a τ = some (.int y)) (hy : y ∈ ks) : evE cl (.idx b a) τ = some (.int (g y)) := by
  rw [e_idx, h, ha]
  exact idx_dOf hy
theorem yput {m : Int} {ks : List Int} {g : Int → Int} (h : τ[n]? = some (some (dOf ks g))) (ha : evE cl a τ = some (.int y)) (he : evE cl e τ = some (.int m)) (hs : ks.length ≤ 1000000)
    (hr : evSs cl fu r (τ.set n (some (dOf (putN ks y) fun x => if x = y then m else g x))) = z) : evSs cl fu (.asg (.idx (.v n) a) e :: r) τ = z := by
  rw [s_cons, s_asg, he]
  show sSeq (nxt (sStore n (evE cl a τ) (.int m) τ)) _ = z
  rw [ha]
  show sSeq (nxt (storeD n (.int y) (.int m) τ)) _ = z
  unfold storeD
  rw [h]
  show sSeq (nxt ((setD (dOf ks g) (.int y) (.int m)).map fun y => τ.set n (some y))) _ = z
  rw [put_dOf hs]; exact hr
theorem yasgD {cv : C} (h : evE cl e τ = some d) (hb : bnd cl cv d τ = some τ') (hr : evSs cl fu r τ' = z) : evSs cl fu (.asg cv e :: r) τ = z := by
  rw [s_cons, s_asg, h]
  show sSeq (nxt (bnd cl cv d τ)) _ = z
  rw [hb]; exact hr
theorem xkeys {ks : List Int} {g : Int → Int} (h : τ[n]? = some (some (dOf ks g))) : evI cl (.keys (.v n)) τ = some (ks.map .int) := by
  show ((sVar τ[n]?).bind keysD).bind itemsD = _
  rw [h]; rfl
theorem xseqT (h : τ[n]? = some (some (.tup xs))) : evI cl (.v n) τ = some xs := by
  show (sVar τ[n]?).bind itemsD = _
  rw [h]; rfl
theorem xseqL (h : τ[n]? = some (some (.lst xs))) : evI cl (.v n) τ = some xs := by
  show (sVar τ[n]?).bind itemsD = _
  rw [h]; rfl
end
end PV

/-! law k92: stay_paths -/
namespace PV
open PySem
/-- one turn's moves from a height -/
def mov (steps : List Int) (here : Int) : List Int := (steps.filter fun s => decide (0 ≤ here + s)).map fun s => here + s
def rowsN (steps : List Int) : Nat → List Int
  | 0 => [0]
  | n + 1 => (rowsN steps n).flatMap (mov steps)
def stayCore : List S := [.asg (.v 3) (.dct false [.k (.int 0)] [.k (.int 1)]), .fo (.v 4) (.rng [.v 0]) [.asg (.v 5) (.dct false [] []), .fo (.v 6) (.keys (.v 3)) [.fo (.v 7) (.v 1) [.ite (.cmp .ge (.bin .add (.v 6) (.v 7)) (.k (.int 0))) [.asg (.idx (.v 5) (.bin .add (.v 6) (.v 7))) (.bin .add (.get (.v 5) (.bin .add (.v 6) (.v 7)) (.k (.int 0))) (.idx (.v 3) (.v 6)))] []] []] [], .asg (.v 3) (.v 5)] [], .ret (.get (.v 3) (.v 2) (.k (.int 0)))]
theorem mov_snoc (steps : List Int) (s here : Int) : mov (steps ++ [s]) here = mov steps here ++ (if 0 ≤ here + s then [here + s] else []) := by
  unfold mov
  rw [List.filter_append, List.map_append]
  congr 1
  by_cases h : 0 ≤ here + s
  · rw [if_pos h]; simp [h]
  · rw [if_neg h]; simp [h]
theorem mov_len (steps : List Int) (here : Int) : (mov steps here).length ≤ steps.length := by
  unfold mov
  rw [List.length_map]
  exact List.length_filter_le _ _
/-- the sum over keys -/
def wsum (L : List Int) (steps : List Int) (kk : List Int) (x : Int) : Int := (kk.map fun here => (L.count here : Int) * ((mov steps here).count x : Int)).sum
section
variable {cl : Nat → List D → Option D} {fu : Nat}
abbrev env92 (n : Int) (steps : List Int) (h : Int) (counts : D) (j4 : Option D) (grown : Option D) (j6 j7 : Option D) : Env := [some (.int n), some (.tup (steps.map .int)), some (.int h), some counts, j4, grown, j6, j7]
/-- the innermost loop: all steps from one height -/
theorem stay_in (n h : Int) (steps kk : List Int) (cf : Int → Int) (j4 j7 : Option D) (here : Int) (hk : here ∈ kk) (gk : List Int) (g : Int → Int) (nd : gk.Nodup) (h0 : ∀ x, x ∉ gk → g x = 0) (hs : gk.length + steps.length ≤ 1000000) :
    ∃ (gk' : List Int) (j7' : Option D), gk'.Nodup ∧ gk'.length ≤ gk.length + steps.length ∧ (∀ x, x ∈ gk → x ∈ gk') ∧ (∀ x ∈ mov steps here, x ∈ gk') ∧ (∀ x, x ∉ gk' → g x + cf here * ((mov steps here).count x : Int) = 0) ∧
    forL (bnd cl (.v 7)) (fun τ => evSs cl fu [.ite (.cmp .ge (.bin .add (.v 6) (.v 7)) (.k (.int 0))) [.asg (.idx (.v 5) (.bin .add (.v 6) (.v 7))) (.bin .add (.get (.v 5) (.bin .add (.v 6) (.v 7)) (.k (.int 0))) (.idx (.v 3) (.v 6)))] []] τ) [] (steps.map .int) (env92 n steps h (dOf kk cf) j4 (some (dOf gk g)) (some (.int here)) j7)
      = some (.nxt, env92 n steps h (dOf kk cf) j4 (some (dOf gk' fun x => g x + cf here * ((mov steps here).count x : Int))) (some (.int here)) j7') := by
  obtain ⟨τ', h1, h2⟩ := for_inv (bd := bnd cl (.v 7)) (body := fun τ => evSs cl fu [.ite (.cmp .ge (.bin .add (.v 6) (.v 7)) (.k (.int 0))) [.asg (.idx (.v 5) (.bin .add (.v 6) (.v 7))) (.bin .add (.get (.v 5) (.bin .add (.v 6) (.v 7)) (.k (.int 0))) (.idx (.v 3) (.v 6)))] []] τ)
    (fun i τ => ∃ (gk' : List Int) (j7' : Option D), gk'.Nodup ∧ gk'.length ≤ gk.length + i ∧ (∀ x, x ∈ gk → x ∈ gk') ∧ (∀ x ∈ mov (steps.take i) here, x ∈ gk') ∧ (∀ x, x ∉ gk' → g x + cf here * ((mov (steps.take i) here).count x : Int) = 0) ∧
      τ = env92 n steps h (dOf kk cf) j4 (some (dOf gk' fun x => g x + cf here * ((mov (steps.take i) here).count x : Int))) (some (.int here)) j7')
    (steps.map .int) 0 _ ⟨gk, j7, nd, Nat.le_refl _, fun x hx => hx, fun x hx => by simp [mov] at hx, fun x hx => by rw [h0 x hx]; simp [mov], by
      have : (fun x => g x + cf here * ((mov (steps.take 0) here).count x : Int)) = g := by funext x; simp [mov]
      rw [this]⟩ (by
      rintro i x τ hx ⟨gk', j7', nd', hl', hsub, hin, hz, rfl⟩
      rw [List.getElem?_map, Option.map_eq_some_iff] at hx
      obtain ⟨s, hs1, rfl⟩ := hx
      have hi : i < steps.length := by
        by_cases hi : i < steps.length
        · exact hi
        · rw [List.getElem?_eq_none (by omega)] at hs1; cases hs1
      rw [Nat.zero_add] at hl' hin hz ⊢
      have tk : steps.take (i + 1) = steps.take i ++ [s] := by rw [List.take_add_one, hs1]; rfl
      refine ⟨env92 n steps h (dOf kk cf) j4 (some (dOf gk' fun x => g x + cf here * ((mov (steps.take i) here).count x : Int))) (some (.int here)) (some (.int s)), ?_⟩
      by_cases hp : 0 ≤ here + s
      · refine ⟨env92 n steps h (dOf kk cf) j4 (some (dOf (putN gk' (here + s)) fun x => if x = here + s then (g (here + s) + cf here * ((mov (steps.take i) here).count (here + s) : Int)) + cf here else g x + cf here * ((mov (steps.take i) here).count x : Int))) (some (.int here)) (some (.int s)), rfl, ?_, putN gk' (here + s), some (.int s), putN_nodup nd', ?_, ?_, ?_, ?_, ?_⟩
        · refine yifT (τ' := _) ?_ (yput (m := (g (here + s) + cf here * ((mov (steps.take i) here).count (here + s) : Int)) + cf here) (y := here + s) rfl (xadd (xv rfl) (xv rfl)) (xadd (xget (g := fun x => g x + cf here * ((mov (steps.take i) here).count x : Int)) (m := 0) rfl (xadd (xv rfl) (xv rfl)) (fun hx => hz _ hx)) (xidxD (g := cf) (xv rfl) (xv rfl) hk)) (by omega) rfl) rfl
          rw [xge (xadd (xv rfl) (xv rfl)) (e_k ..), decide_eq_true hp]
        · have := putN_len (ks := gk') (y := here + s); omega
        · exact fun x hx => putN_mem.mpr (.inl (hsub x hx))
        · intro x hx
          rw [tk, mov_snoc, if_pos hp] at hx
          rcases List.mem_append.mp hx with hx | hx
          · exact putN_mem.mpr (.inl (hin x hx))
          · exact putN_mem.mpr (.inr (List.mem_singleton.mp hx))
        · intro x hx
          rw [putN_mem, not_or] at hx
          rw [tk, mov_snoc, if_pos hp, List.count_append, List.count_singleton, if_neg (by simpa using Ne.symm hx.2)]
          simpa using hz x hx.1
        · congr 6
          funext x
          rw [tk, mov_snoc, if_pos hp, List.count_append, List.count_singleton]
          by_cases e : x = here + s
          · subst e
            rw [if_pos rfl, if_pos (by simp), Int.natCast_add, Int.mul_add]
            simp only [Int.natCast_one, Int.mul_one]
            omega
          · rw [if_neg e, if_neg (by simpa using Ne.symm e)]
            simp
      · refine ⟨env92 n steps h (dOf kk cf) j4 (some (dOf gk' fun x => g x + cf here * ((mov (steps.take i) here).count x : Int))) (some (.int here)) (some (.int s)), rfl, ?_, gk', some (.int s), nd', by omega, hsub, ?_, ?_, ?_⟩
        · refine yifF (τ' := _) ?_ rfl rfl
          rw [xge (xadd (xv rfl) (xv rfl)) (e_k ..), decide_eq_false hp]
        · intro x hx
          rw [tk, mov_snoc, if_neg hp, List.append_nil] at hx
          exact hin x hx
        · intro x hx
          rw [tk, mov_snoc, if_neg hp, List.append_nil]; exact hz x hx
        · rw [tk, mov_snoc, if_neg hp, List.append_nil])
  obtain ⟨gk', j7', nd', hl', hsub, hin, hz, rfl⟩ := h2
  rw [List.length_map, Nat.zero_add, List.take_length] at *
  exact ⟨gk', j7', nd', hl', hsub, hin, hz, h1⟩
end
end PV

/-! law k92: stay_paths counts the rows -/
namespace PV
open PySem
theorem sum_zero : ∀ kk : List Int, (kk.map fun _ => (0 : Int)).sum = 0
  | [] => rfl
  | _ :: kk => by rw [List.map_cons, List.sum_cons, sum_zero kk]; rfl
theorem sum_ite (a : Int) (f : Int → Int) : ∀ {kk : List Int}, kk.Nodup → a ∈ kk → (kk.map fun h => if h = a then f h else 0).sum = f a
  | k :: kk, nd, ha => by
    rw [List.map_cons, List.sum_cons]
    obtain ⟨n1, n2⟩ := List.nodup_cons.mp nd
    by_cases e : k = a
    · subst e
      have z : (kk.map fun h => if h = k then f h else 0).sum = 0 := by
        have : (kk.map fun h => if h = k then f h else 0) = kk.map fun _ => 0 := List.map_congr_left fun x hx => by
          have : x ≠ k := fun e => n1 (by rw [← e]; exact hx)
          rw [if_neg this]
        rw [this, sum_zero]
      rw [if_pos rfl, z, Int.add_zero]
    · rw [if_neg e, Int.zero_add]
      exact sum_ite a f n2 ((List.mem_cons.mp ha).resolve_left (Ne.symm e))
theorem sum_add (f g : Int → Int) : ∀ kk : List Int, (kk.map fun h => f h + g h).sum = (kk.map f).sum + (kk.map g).sum
  | [] => rfl
  | k :: kk => by
    rw [List.map_cons, List.map_cons, List.map_cons, List.sum_cons, List.sum_cons, List.sum_cons, sum_add f g kk]; omega
theorem wsum_eq {steps kk : List Int} (nd : kk.Nodup) (x : Int) : ∀ L : List Int, (∀ y ∈ L, y ∈ kk) → wsum L steps kk x = ((L.flatMap (mov steps)).count x : Int)
  | [], _ => by
    have : (kk.map fun here => ((([] : List Int).count here : Nat) : Int) * ((mov steps here).count x : Int)) = kk.map fun _ => 0 := List.map_congr_left fun y _ => by simp
    unfold wsum
    rw [this, sum_zero]; rfl
  | a :: L, h => by
    have ih := wsum_eq (steps := steps) nd x L fun y hy => h y (List.mem_cons_of_mem _ hy)
    rw [List.flatMap_cons, List.count_append, Int.natCast_add, ← ih]
    unfold wsum
    have e : (kk.map fun here => ((a :: L).count here : Int) * ((mov steps here).count x : Int)) = kk.map fun here => (if here = a then ((mov steps here).count x : Int) else 0) + (L.count here : Int) * ((mov steps here).count x : Int) := List.map_congr_left fun y _ => by
      rw [List.count_cons]
      by_cases e : y = a
      · subst e
        rw [if_pos rfl, if_pos (by simp), Int.natCast_add, Int.add_mul]
        simp only [Int.natCast_one, Int.one_mul]
        omega
      · rw [if_neg e, if_neg (by simpa using Ne.symm e)]
        simp
    rw [e, sum_add, sum_ite a (fun here => ((mov steps here).count x : Int)) nd (h a List.mem_cons_self)]
theorem wsum_snoc (L steps kk : List Int) (here x : Int) : wsum L steps (kk ++ [here]) x = wsum L steps kk x + (L.count here : Int) * ((mov steps here).count x : Int) := by
  unfold wsum
  rw [List.map_append, List.sum_append]
  simp
section
variable {cl : Nat → List D → Option D} {fu : Nat}
def inCore : List S := [.fo (.v 7) (.v 1) [.ite (.cmp .ge (.bin .add (.v 6) (.v 7)) (.k (.int 0))) [.asg (.idx (.v 5) (.bin .add (.v 6) (.v 7))) (.bin .add (.get (.v 5) (.bin .add (.v 6) (.v 7)) (.k (.int 0))) (.idx (.v 3) (.v 6)))] []] []]
theorem stay_mid (n h : Int) (steps kk L : List Int) (j4 j6 j7 : Option D) (hs : kk.length * steps.length + steps.length ≤ 1000000) :
    ∃ (gk : List Int) (j6' j7' : Option D), gk.Nodup ∧ gk.length ≤ kk.length * steps.length ∧ (∀ here ∈ kk, ∀ x ∈ mov steps here, x ∈ gk) ∧
    forL (bnd cl (.v 6)) (fun τ => evSs cl fu inCore τ) [] (kk.map .int) (env92 n steps h (dOf kk fun x => (L.count x : Int)) j4 (some (.dct false [] [])) j6 j7)
      = some (.nxt, env92 n steps h (dOf kk fun x => (L.count x : Int)) j4 (some (dOf gk (wsum L steps kk))) j6' j7') := by
  obtain ⟨τ', h1, h2⟩ := for_inv (bd := bnd cl (.v 6)) (body := fun τ => evSs cl fu inCore τ)
    (fun i τ => ∃ (gk : List Int) (j6' j7' : Option D), gk.Nodup ∧ gk.length ≤ i * steps.length ∧ (∀ here ∈ kk.take i, ∀ x ∈ mov steps here, x ∈ gk) ∧ (∀ x, x ∉ gk → wsum L steps (kk.take i) x = 0) ∧
      τ = env92 n steps h (dOf kk fun x => (L.count x : Int)) j4 (some (dOf gk (wsum L steps (kk.take i)))) j6' j7')
    (kk.map .int) 0 (env92 n steps h (dOf kk fun x => (L.count x : Int)) j4 (some (.dct false [] [])) j6 j7) ⟨[], j6, j7, List.nodup_nil, Nat.zero_le _, (fun a ha => by simp at ha), (fun x _ => rfl), rfl⟩ (by
      rintro i x τ hx ⟨gk, j6', j7', nd, hl, hin, hz, rfl⟩
      rw [List.getElem?_map, Option.map_eq_some_iff] at hx
      obtain ⟨here, hs1, rfl⟩ := hx
      have hi : i < kk.length := by
        by_cases hi : i < kk.length
        · exact hi
        · rw [List.getElem?_eq_none (by omega)] at hs1; cases hs1
      rw [Nat.zero_add] at hl hin hz ⊢
      have tk : kk.take (i + 1) = kk.take i ++ [here] := by rw [List.take_add_one, hs1]; rfl
      have hm : here ∈ kk := List.mem_of_getElem? hs1
      have hle : i * steps.length ≤ kk.length * steps.length := Nat.mul_le_mul_right _ (by omega)
      obtain ⟨gk', j7'', nd', hl', hsub, hin', hz', run⟩ := stay_in (cl := cl) (fu := fu) n h steps kk (fun x => (L.count x : Int)) j4 j7' here hm gk (wsum L steps (kk.take i)) nd hz (by omega)
      have eg : (fun x => wsum L steps (kk.take i) x + (L.count here : Int) * ((mov steps here).count x : Int)) = wsum L steps (kk.take (i + 1)) := by
        funext x
        rw [tk, wsum_snoc]
      refine ⟨env92 n steps h (dOf kk fun x => (L.count x : Int)) j4 (some (dOf gk (wsum L steps (kk.take i)))) (some (.int here)) j7', _, rfl, yfor (xseqT rfl) run rfl, gk', some (.int here), j7'', nd', ?_, ?_, ?_, by rw [eg]⟩
      · rw [Nat.add_mul]; omega
      · intro a ha x hx
        rw [tk] at ha
        rcases List.mem_append.mp ha with ha | ha
        · exact hsub x (hin a ha x hx)
        · rw [List.mem_singleton] at ha; subst ha; exact hin' x hx
      · intro x hx
        have := hz' x hx
        rw [tk, wsum_snoc]; exact this)
  obtain ⟨gk, j6', j7', nd, hl, hin, hz, rfl⟩ := h2
  rw [List.length_map, Nat.zero_add, List.take_length] at *
  exact ⟨gk, j6', j7', nd, hl, hin, h1⟩
def turnCore : List S := [.asg (.v 5) (.dct false [] []), .fo (.v 6) (.keys (.v 3)) inCore [], .asg (.v 3) (.v 5)]
theorem stay_ok (n : Nat) (h : Int) (steps : List Int) (hn : n ≤ 8) (hst : steps.length ≤ 3) :
    runF cl fu 3 8 stayCore [.int n, .tup (steps.map .int), .int h] = some (.int ((rowsN steps n).count h)) := by
  obtain ⟨τ', h1, h2⟩ := for_inv (bd := bnd cl (.v 4)) (body := fun τ => evSs cl fu turnCore τ)
    (fun i τ => ∃ (kk : List Int) (j4 j5 j6 j7 : Option D), kk.Nodup ∧ kk.length ≤ 3 ^ i ∧ (∀ x ∈ rowsN steps i, x ∈ kk) ∧ τ = env92 n steps h (dOf kk fun x => ((rowsN steps i).count x : Int)) j4 j5 j6 j7)
    ((List.range n).map fun i => .int (i : Nat)) 0 (env92 n steps h (.dct false [.int 0] [.int 1]) none none none none)
    ⟨[0], none, none, none, none, by simp, by simp, (fun x hx => hx), rfl⟩ (by
      rintro i x τ hx ⟨kk, j4, j5, j6, j7, nd, hl, hin, rfl⟩
      have hi : i < n := by
        by_cases hi : i < n
        · exact hi
        · rw [List.getElem?_eq_none (by simpa using hi)] at hx; cases hx
      rw [Nat.zero_add] at hl hin ⊢
      have p3 : 3 ^ i ≤ 3 ^ 8 := Nat.pow_le_pow_right (by decide) (by omega)
      have p8 : 3 ^ 8 = 6561 := by decide
      have hm : kk.length * steps.length ≤ 3 ^ i * 3 := Nat.mul_le_mul hl hst
      obtain ⟨gk, j6', j7', nd', hl', hin', run⟩ := stay_mid (cl := cl) (fu := fu) n h steps kk (rowsN steps i) (some x) j6 j7 (by omega)
      have eg : wsum (rowsN steps i) steps kk = fun x => ((rowsN steps (i + 1)).count x : Int) := by
        funext x
        exact wsum_eq nd x _ hin
      rw [eg] at run
      refine ⟨env92 n steps h (dOf kk fun x => ((rowsN steps i).count x : Int)) (some x) j5 j6 j7, env92 n steps h (dOf gk fun x => ((rowsN steps (i + 1)).count x : Int)) (some x) (some (dOf gk fun x => ((rowsN steps (i + 1)).count x : Int))) j6' j7', rfl, ?_, gk, some x, _, j6', j7', nd', ?_, ?_, rfl⟩
      · exact yasg (d := .dct false [] []) rfl (by simp) (yfor (xkeys rfl) run (yasg (xv rfl) (by simp) rfl))
      · rw [Nat.pow_succ]; omega
      · intro y hy
        obtain ⟨a, ha, hy⟩ := List.mem_flatMap.mp hy
        exact hin' a (hin a ha) y hy)
  obtain ⟨kk, j4, j5, j6, j7, nd, hl, hin, rfl⟩ := h2
  rw [List.length_map, List.length_range, Nat.zero_add] at *
  refine run_ret (τ := _) rfl (yasg (d := .dct false [.int 0] [.int 1]) rfl (by simp) (yfor (xrng1 (xv rfl) (by omega) (by omega)) h1 (yret (xget (m := 0) (g := fun x => ((rowsN steps n).count x : Int)) rfl (xv rfl) fun hx => ?_))))
  have : h ∉ rowsN steps n := fun z => hx (hin h z)
  rw [List.count_eq_zero_of_not_mem this]; rfl
end
end PV

namespace PV
open PySem
mutual
/-- the very same -/
def same : D → D → Bool
  | .non, .non => true
  | .bl a, .bl b => a == b
  | .int a, .int b => a == b
  | .tup xs, .tup ys => sames xs ys
  | .lst xs, .lst ys => sames xs ys
  | _, _ => false
def sames : List D → List D → Bool
  | [], [] => true
  | x :: xs, y :: ys => same x y && sames xs ys
  | _, _ => false
end
mutual
theorem same_eq : ∀ {x y : D}, same x y = true → x = y
  | .non, .non, _ => rfl
  | .bl a, .bl b, h => by rw [eq_of_beq (show (a == b) = true from h)]
  | .int a, .int b, h => by rw [eq_of_beq (show (a == b) = true from h)]
  | .tup xs, .tup ys, h => by rw [sames_eq (show sames xs ys = true from h)]
  | .lst xs, .lst ys, h => by rw [sames_eq (show sames xs ys = true from h)]
theorem sames_eq : ∀ {xs ys : List D}, sames xs ys = true → xs = ys
  | [], [], _ => rfl
  | x :: xs, y :: ys, h => by
    have h : (same x y && sames xs ys) = true := h
    rw [Bool.and_eq_true] at h
    rw [same_eq h.1, sames_eq h.2]
end
def sameO (x : Option D) (y : D) : Bool := match x with
  | some x => same x y
  | none => false
theorem sameO_eq {x : Option D} {y : D} (h : sameO x y = true) : x = some y := by
  cases x with
  | none => cases h
  | some x => rw [same_eq h]
end PV
namespace K92
open PV
def movesN (st : Nat) : List Int := if st = 0 then [-1, 1] else [-1, 0, 1]
def want (m st : Nat) : D := .tup ((List.range (2 * m + 1)).map fun k => .tup [.int ((rowsN (movesN st) k).count 0), .int 1])
def ladderN (m st : Nat) : D := .tup [.tup (List.replicate m (.tup [.int st, .int 1])), .tup (List.replicate m (.tup [.int 1, .int 1]))]
theorem mom_all : ((List.range 5).all fun m => (List.range 2).all fun st => sameO (PV.call fsT FU 19 5 [.int 1, ladderN m st]) (want m st) && sameO (PV.call fsT FU 19 9 [want m st, want m st]) (.bl true)) = true := by kernel_rfl
end K92

namespace PV
open PySem
section
variable {cl : Nat → List D → Option D} {fu : Nat} {τ τ' : Env} {a b e t ct ti : C} {i j n : Nat} {x y : Int} {d d' : D} {r as bs : List S} {z : Res} {xs ys : List D} {vs : List Nat}
theorem idx_lst {L : List Int} {i : Nat} (h : i < L.length) : idxD (.lst (L.map .int)) (.int (i : Nat)) = some (.int L[i]) := by
  show atD (L.map .int) _ = _
  unfold atD ixN
  rw [List.length_map, if_pos (by omega), if_pos (by omega)]
  show (L.map D.int)[((i : Nat) : Int).toNat]? = _
  rw [Int.toNat_natCast, List.getElem?_map, List.getElem?_eq_getElem h]; rfl
theorem flat_map {f : D → D} {g : D → Option (List D)} : ∀ {xs : List D}, (∀ x ∈ xs, g x = some [f x]) → flatL g xs = some (xs.map f)
  | [], _ => rfl
  | x :: xs, h => by
    show (g x).bind (fun a => (flatL g xs).map (a ++ ·)) = _
    rw [h x List.mem_cons_self, flat_map fun x hx => h x (List.mem_cons_of_mem _ hx)]; rfl
theorem flat_filter {p : D → Bool} {f : D → D} {g : D → Option (List D)} : ∀ {xs : List D}, (∀ x ∈ xs, g x = some (if p x then [f x] else [])) → flatL g xs = some ((xs.filter p).map f)
  | [], _ => rfl
  | x :: xs, h => by
    show (g x).bind (fun a => (flatL g xs).map (a ++ ·)) = _
    rw [h x List.mem_cons_self, flat_filter fun x hx => h x (List.mem_cons_of_mem _ hx), List.filter_cons]
    by_cases hp : p x = true
    · rw [if_pos hp, if_pos hp]; rfl
    · rw [if_neg hp, if_neg hp]; rfl
theorem wipe_len2 : ∀ (ks : List Nat) (τ : Env), (wipe ks τ).length = τ.length
  | [], _ => rfl
  | k :: ks, τ => by
    show (wipe ks (τ.set k none)).length = _
    rw [wipe_len2 ks, List.length_set]
theorem xlc_map {f : D → D} (hi : evI cl ti τ = some xs) (hl : i < τ.length) (hs : xs.length ≤ 1000000) (h : ∀ x ∈ xs, evE cl e ((wipe vs τ).set i (some x)) = some (f x)) :
    evE cl (.lc (.gen vs (.v i) ti [] (.elt e))) τ = some (.lst (xs.map f)) := by
  show sLst ((evI cl ti τ).bind (flatL fun x => sTurn (bnd cl (.v i) x (wipe vs τ)) (fun _ => some true) (fun τ => (evE cl e τ).map fun x => [x]))) = _
  rw [hi, Option.bind_some, flat_map (f := f) fun x hx => ?_]
  · show (if szOk (xs.map f).length then _ else _) = _
    rw [if_pos (by rw [List.length_map]; exact decide_eq_true hs)]
  · rw [bv (by rw [wipe_len2]; exact hl)]
    show ((evE cl e ((wipe vs τ).set i (some x))).map fun x => [x]) = _
    rw [h x hx]; rfl
theorem xlc_filter {p : D → Bool} {f : D → D} (hi : evI cl ti τ = some xs) (hl : i < τ.length) (hs : xs.length ≤ 1000000) (ht : ∀ x ∈ xs, evT cl t ((wipe vs τ).set i (some x)) = some (p x)) (h : ∀ x ∈ xs, p x = true → evE cl e ((wipe vs τ).set i (some x)) = some (f x)) :
    evE cl (.lc (.gen vs (.v i) ti [t] (.elt e))) τ = some (.lst ((xs.filter p).map f)) := by
  show sLst ((evI cl ti τ).bind (flatL fun x => sTurn (bnd cl (.v i) x (wipe vs τ)) (fun τ => sAll (evE cl t τ) (some true)) (fun τ => (evE cl e τ).map fun x => [x]))) = _
  rw [hi, Option.bind_some, flat_filter (f := f) (p := p) fun x hx => ?_]
  · show (if szOk ((xs.filter p).map f).length then _ else _) = _
    rw [if_pos (by rw [List.length_map]; exact decide_eq_true (Nat.le_trans (List.length_filter_le _ _) hs))]
  · rw [bv (by rw [wipe_len2]; exact hl)]
    show ((sAll (evE cl t ((wipe vs τ).set i (some x))) (some true)).bind fun q => if q then (evE cl e ((wipe vs τ).set i (some x))).map (fun x => [x]) else some []) = _
    have ht := ht x hx
    have ht : (evE cl t ((wipe vs τ).set i (some x))).bind truD = some (p x) := ht
    rw [Option.bind_eq_some_iff] at ht
    obtain ⟨w, h1, h2⟩ := ht
    rw [h1]
    show (((truD w).bind fun q => if q then some true else some false).bind _) = _
    rw [h2]
    by_cases hp : p x = true
    · rw [hp]
      show (evE cl e ((wipe vs τ).set i (some x))).map (fun x => [x]) = _
      rw [h x hx hp]; rfl
    · have hp : p x = false := by simpa using hp
      rw [hp]; rfl
theorem yext (h : evE cl e τ = some (.lst ys)) (hx : τ[n]? = some (some (.lst xs))) (hs : xs.length + ys.length ≤ 1000000) (hr : evSs cl fu r (τ.set n (some (.lst (xs ++ ys)))) = z) : evSs cl fu (.ext n e :: r) τ = z := by
  rw [s_cons]
  show sSeq ((evE cl e τ).bind fun d => nxt (extD n d τ)) _ = z
  rw [h]
  show sSeq (nxt (extD n (.lst ys) τ)) _ = z
  have : extD n (.lst ys) τ = some (τ.set n (some (.lst (xs ++ ys)))) := by
    unfold extD slotD
    rw [hx]
    show (if szOk (xs.length + ys.length) then _ else _) = _
    rw [if_pos (decide_eq_true hs)]
  rw [this]; exact hr
end
end PV
namespace K92
open PySem PV
theorem c19 (f : Nat) (args : List D) {np nn : Nat} {body : List PV.S} (k : Nat) (h : fsT[f]? = some (.code np nn body)) : PV.call fsT FU (k + 1) f args = runF (PV.call fsT FU k) FU np nn body args := by
  show (match fsT[f]? with
    | some (.code np ns body) => runF (PV.call fsT FU k) FU np ns body args
    | some (.ext lev φ) => if lev ≤ k + 1 then φ args else none
    | none => none) = _
  rw [h]
theorem row12 (ns : List Int) : ∃ L : List Int, L.length = 12 ∧ (∀ x ∈ L, 0 ≤ x) ∧ PV.call fsT FU 19 7 [.scr (ns.map .int), .int 12] = some (.lst (L.map .int)) := by
  obtain ⟨L, h1, h2, h3⟩ := row_ok (cl := PV.call fsT FU 18) (fu := FU) (q := 6) (ns := ns) (fun k => by
    obtain ⟨x, h1, h2⟩ := mix_ok (PV.call fsT FU 17) FU ns k
    exact ⟨x, h1, (c19 6 _ 17 rfl).trans h2⟩) 12 (by decide)
  exact ⟨L, h1, h2, (c19 7 _ 18 rfl).trans h3⟩
theorem stay19 (n : Nat) (h : Int) (steps : List Int) (hn : n ≤ 8) (hst : steps.length ≤ 3) : PV.call fsT FU 19 4 [.int n, .tup (steps.map .int), .int h] = some (.int ((rowsN steps n).count h)) :=
  (c19 4 _ 18 rfl).trans (stay_ok n h steps hn hst)
theorem like_int (a : Int) : PV.call fsT FU 19 9 [.int a, .int a] = some (.bl true) := by
  refine (c19 9 _ 18 rfl).trans (run_ret rfl (τ := [some (.int a), some (.int a), none]) ?_)
  refine yifF (τ' := _) rfl rfl (yifF (τ' := _) rfl rfl (yifF (τ' := _) rfl rfl (yifF (τ' := _) rfl rfl (yret ?_))))
  show sAnd (some (.bl true)) ((eqD (.int a) (.int a)).map .bl) = _
  have : eqD (.int a) (.int a) = some true := by
    show some (a == a) = _
    rw [beq_self_eq_true]
  rw [this]; rfl
theorem mom (m st : Nat) (hm : m < 5) (hs : st < 2) : PV.call fsT FU 19 5 [.int 1, ladderN m st] = some (want m st) ∧ PV.call fsT FU 19 9 [want m st, want m st] = some (.bl true) := by
  have h := List.all_eq_true.mp (List.all_eq_true.mp mom_all m (List.mem_range.mpr hm)) st (List.mem_range.mpr hs)
  rw [Bool.and_eq_true] at h
  exact ⟨sameO_eq h.1, sameO_eq h.2⟩
end K92

namespace PV
theorem sort_len (l : List Int) : (sortI l).length = l.length := by
  induction l with
  | nil => rfl
  | cons a r ih =>
    have ins : ∀ (b : Int) (l : List Int), (insI b l).length = l.length + 1 := by
      intro b l
      induction l with
      | nil => rfl
      | cons c l ih =>
        unfold insI
        split
        · rfl
        · rw [List.length_cons, ih, List.length_cons]
    show (insI a (sortI r)).length = _
    rw [ins, ih, List.length_cons]
theorem dedup_len : ∀ l : List Int, (dedupI l).length ≤ l.length
  | [] => Nat.le_refl _
  | a :: r => by
    unfold dedupI
    have ih := dedup_len r
    split
    · rw [List.length_cons]; omega
    · rw [List.length_cons, List.length_cons]; omega
theorem intsD_map : ∀ l : List Int, intsD (l.map .int) = some l
  | [] => rfl
  | a :: l => by
    show (intsD (l.map .int)).map (a :: ·) = _
    rw [intsD_map l]; rfl
theorem rows_len (steps : List Int) (hs : steps.length ≤ 3) : ∀ n, (rowsN steps n).length ≤ 3 ^ n
  | 0 => by simp [rowsN]
  | n + 1 => by
    have ih := rows_len steps hs n
    have : ∀ l : List Int, (l.flatMap (mov steps)).length ≤ l.length * 3 := by
      intro l
      induction l with
      | nil => simp
      | cons a l ih =>
        have := mov_len steps a
        rw [List.flatMap_cons, List.length_append, List.length_cons]
        omega
    have h2 := this (rowsN steps n)
    show ((rowsN steps n).flatMap (mov steps)).length ≤ _
    rw [Nat.pow_succ]
    omega
end PV
namespace K92
open PySem PV
abbrev cl : Nat → List D → Option D := PV.call fsT FU 19
/-- the law's env -/
abbrev envL (scr row : D) (s2 s3 s4 s5 s6 s7 s8 s9 s10 s11 s12 s13 s14 s15 : Option D) : PV.Env := [some scr, some row, s2, s3, s4, s5, s6, s7, s8, s9, s10, s11, s12, s13, s14, s15]
def heightsCore : List PV.S := [.asg (.v 7) (.lst []), .fo (.v 8) (.v 5) [.ext 7 (.lc (.gen [15] (.v 15) (.v 2) [.cmp .ge (.bin .add (.v 8) (.v 15)) (.k (.int 0))] (.elt (.bin .add (.v 8) (.v 15)))))] [], .asg (.v 5) (.v 7)]
theorem heights_in (scr row : D) (steps L : List Int) (s3 s4 s6 s8 : Option D) (hs : L.length * 3 ≤ 900000) (hst : steps.length ≤ 3) :
    ∃ s8', forL (bnd cl (.v 8)) (fun τ => evSs cl FU [.ext 7 (.lc (.gen [15] (.v 15) (.v 2) [.cmp .ge (.bin .add (.v 8) (.v 15)) (.k (.int 0))] (.elt (.bin .add (.v 8) (.v 15)))))] τ) [] (L.map .int)
      (envL scr row (some (.tup (steps.map .int))) s3 s4 (some (.lst (L.map .int))) s6 (some (.lst [])) s8 none none none none none none none)
      = some (.nxt, envL scr row (some (.tup (steps.map .int))) s3 s4 (some (.lst (L.map .int))) s6 (some (.lst ((L.flatMap (mov steps)).map .int))) s8' none none none none none none none) := by
  obtain ⟨τ', h1, h2⟩ := for_inv (bd := bnd cl (.v 8)) (body := fun τ => evSs cl FU [.ext 7 (.lc (.gen [15] (.v 15) (.v 2) [.cmp .ge (.bin .add (.v 8) (.v 15)) (.k (.int 0))] (.elt (.bin .add (.v 8) (.v 15)))))] τ)
    (fun i τ => ((L.take i).flatMap (mov steps)).length ≤ i * 3 ∧ ∃ s8', τ = envL scr row (some (.tup (steps.map .int))) s3 s4 (some (.lst (L.map .int))) s6 (some (.lst (((L.take i).flatMap (mov steps)).map .int))) s8' none none none none none none none)
    (L.map .int) 0 (envL scr row (some (.tup (steps.map .int))) s3 s4 (some (.lst (L.map .int))) s6 (some (.lst [])) s8 none none none none none none none) ⟨by simp, s8, rfl⟩ (by
      rintro i x τ hx ⟨hl, s8', rfl⟩
      rw [List.getElem?_map, Option.map_eq_some_iff] at hx
      obtain ⟨here, hs1, rfl⟩ := hx
      have hi : i < L.length := by
        by_cases hi : i < L.length
        · exact hi
        · rw [List.getElem?_eq_none (by omega)] at hs1; cases hs1
      rw [Nat.zero_add] at hl ⊢
      have tk : L.take (i + 1) = L.take i ++ [here] := by rw [List.take_add_one, hs1]; rfl
      have ml := mov_len steps here
      have fm : (L.take (i + 1)).flatMap (mov steps) = (L.take i).flatMap (mov steps) ++ mov steps here := by rw [tk, List.flatMap_append]; simp
      have comp : evE cl (.lc (.gen [15] (.v 15) (.v 2) [.cmp .ge (.bin .add (.v 8) (.v 15)) (.k (.int 0))] (.elt (.bin .add (.v 8) (.v 15)))))
          (envL scr row (some (.tup (steps.map .int))) s3 s4 (some (.lst (L.map .int))) s6 (some (.lst (((L.take i).flatMap (mov steps)).map .int))) (some (.int here)) none none none none none none none) = some (.lst ((mov steps here).map .int)) := by
        have := xlc_filter (cl := cl) (vs := [15]) (i := 15) (t := .cmp .ge (.bin .add (.v 8) (.v 15)) (.k (.int 0))) (e := .bin .add (.v 8) (.v 15)) (ti := .v 2)
          (τ := envL scr row (some (.tup (steps.map .int))) s3 s4 (some (.lst (L.map .int))) s6 (some (.lst (((L.take i).flatMap (mov steps)).map .int))) (some (.int here)) none none none none none none none)
          (p := fun d => match d with
            | .int s => decide (0 ≤ here + s)
            | _ => false) (f := fun d => match d with
            | .int s => .int (here + s)
            | _ => .non) (xseqT rfl) (by simp) (by rw [List.length_map]; omega) (fun x hx => by
            obtain ⟨s, _, rfl⟩ := List.mem_map.mp hx
            exact xge (xadd (xv rfl) (xv rfl)) (e_k ..)) (fun x hx _ => by
            obtain ⟨s, _, rfl⟩ := List.mem_map.mp hx
            exact xadd (xv rfl) (xv rfl))
        rw [this]
        congr 2
        unfold mov
        rw [List.map_map, List.filter_map, List.map_map]
        rfl
      refine ⟨envL scr row (some (.tup (steps.map .int))) s3 s4 (some (.lst (L.map .int))) s6 (some (.lst (((L.take i).flatMap (mov steps)).map .int))) (some (.int here)) none none none none none none none, _, rfl, yext comp rfl (by rw [List.length_map, List.length_map]; omega) rfl, ?_, some (.int here), ?_⟩
      · rw [fm, List.length_append]; omega
      · rw [fm, List.map_append]; rfl)
  obtain ⟨_, s8', rfl⟩ := h2
  rw [List.length_map, Nat.zero_add, List.take_length] at *
  exact ⟨s8', h1⟩
theorem heights (scr row : D) (steps : List Int) (n : Nat) (hn : n ≤ 8) (s3 s4 : Option D) (hst : steps.length ≤ 3) :
    ∃ s6' s7' s8', forL (bnd cl (.v 6)) (fun τ => evSs cl FU heightsCore τ) [] ((List.range n).map fun i => .int (i : Nat))
      (envL scr row (some (.tup (steps.map .int))) s3 s4 (some (.lst [.int 0])) none none none none none none none none none none)
      = some (.nxt, envL scr row (some (.tup (steps.map .int))) s3 s4 (some (.lst ((rowsN steps n).map .int))) s6' s7' s8' none none none none none none none) := by
  obtain ⟨τ', h1, h2⟩ := for_inv (bd := bnd cl (.v 6)) (body := fun τ => evSs cl FU heightsCore τ)
    (fun i τ => ∃ s6' s7' s8', τ = envL scr row (some (.tup (steps.map .int))) s3 s4 (some (.lst ((rowsN steps i).map .int))) s6' s7' s8' none none none none none none none)
    ((List.range n).map fun i => .int (i : Nat)) 0 (envL scr row (some (.tup (steps.map .int))) s3 s4 (some (.lst [.int 0])) none none none none none none none none none none) ⟨none, none, none, rfl⟩ (by
      rintro i x τ hx ⟨s6', s7', s8', rfl⟩
      have hi : i < n := by
        by_cases hi : i < n
        · exact hi
        · rw [List.getElem?_eq_none (by simpa using hi)] at hx; cases hx
      rw [Nat.zero_add]
      have p3 : 3 ^ i ≤ 3 ^ 8 := Nat.pow_le_pow_right (by decide) (by omega)
      have p8 : 3 ^ 8 = 6561 := by decide
      have hl := rows_len steps hst i
      obtain ⟨s8'', run⟩ := heights_in scr row steps (rowsN steps i) s3 s4 (some x) s8' (by omega) hst
      exact ⟨envL scr row (some (.tup (steps.map .int))) s3 s4 (some (.lst ((rowsN steps i).map .int))) (some x) s7' s8' none none none none none none none, _, rfl, yasg (d := .lst []) rfl (by simp) (yfor (xseqL rfl) run (yasg (xv rfl) (by simp) rfl)), _, _, _, rfl⟩)
  obtain ⟨s6', s7', s8', rfl⟩ := h2
  rw [List.length_map, List.length_range, Nat.zero_add] at *
  exact ⟨s6', s7', s8', h1⟩
end K92

namespace K92
open PySem PV
/-- the steps that are drawn -/
def drawn (L : List Int) : List Int := sortI (dedupI ((List.range (1 + L.getD 1 0 % 3).toNat).map fun k => L.getD (2 + k) 0 % 7 - 3))
theorem get_at {L : List Int} (hL : L.length = 12) (i : Nat) (hi : i < 12) {τ : PV.Env} (h : τ[1]? = some (some (.lst (L.map .int)))) {e : C} (he : evE cl e τ = some (.int (i : Nat))) : evE cl (.bi .int [.idx (.v 1) e]) τ = some (.int (L.getD i 0)) := by
  refine xint ?_
  rw [e_idx, e_v, h, he]
  show idxD (.lst (L.map .int)) (.int (i : Nat)) = _
  rw [idx_lst (by omega), List.getD_eq_getElem?_getD, List.getElem?_eq_getElem (by omega)]; rfl
theorem drawn_len (L : List Int) : (drawn L).length ≤ 3 := by
  unfold drawn
  rw [sort_len]
  refine Nat.le_trans (dedup_len _) ?_
  rw [List.length_map, List.length_range]
  have := Int.emod_lt_of_pos (L.getD 1 0) (show (0 : Int) < 3 by decide)
  omega
theorem steps_ok {L : List Int} (hL : L.length = 12) (τ : PV.Env) (h1 : τ[1]? = some (some (.lst (L.map .int)))) (hl : τ.length = 16) :
    evE cl (.bi .tuple [.sset (.lc (.gen [14] (.v 14) (.rng [.bin .add (.k (.int 1)) (.bin .mod (.bi .int [.idx (.v 1) (.k (.int 1))]) (.k (.int 3)))]) [] (.elt (.bin .sub (.bin .mod (.bi .int [.idx (.v 1) (.bin .add (.k (.int 2)) (.v 14))]) (.k (.int 7))) (.k (.int 3))))))]) τ = some (.tup ((drawn L).map .int)) := by
  have m1 := Int.emod_lt_of_pos (L.getD 1 0) (show (0 : Int) < 3 by decide)
  have m2 := Int.emod_nonneg (L.getD 1 0) (show (3 : Int) ≠ 0 by decide)
  have comp := xlc_map (cl := cl) (vs := [14]) (i := 14) (τ := τ) (ti := .rng [.bin .add (.k (.int 1)) (.bin .mod (.bi .int [.idx (.v 1) (.k (.int 1))]) (.k (.int 3)))]) (e := .bin .sub (.bin .mod (.bi .int [.idx (.v 1) (.bin .add (.k (.int 2)) (.v 14))]) (.k (.int 7))) (.k (.int 3)))
    (f := fun d => match d with
      | .int k => .int (L.getD (2 + k.toNat) 0 % 7 - 3)
      | _ => .non)
    (xrng1 (xadd (e_k ..) (xmod (get_at hL 1 (by decide) h1 (e_k ..)) (e_k ..) (by decide))) (by omega) (by omega)) (by omega) (by simp; omega) (fun x hx => by
      obtain ⟨k, hk, rfl⟩ := List.mem_map.mp hx
      have hk := List.mem_range.mp hk
      have e14 : ((wipe [14] τ).set 14 (some (.int (k : Nat))))[14]? = some (some (.int (k : Nat))) := by
        rw [List.getElem?_set_self (by rw [wipe_len2]; omega)]
      have e1 : ((wipe [14] τ).set 14 (some (.int (k : Nat))))[1]? = some (some (.lst (L.map .int))) := by
        rw [List.getElem?_set_ne (by decide)]
        show (τ.set 14 none)[1]? = _
        rw [List.getElem?_set_ne (by decide)]; exact h1
      have := xsub (xmod (get_at hL (2 + k) (by omega) e1 (e := .bin .add (.k (.int 2)) (.v 14)) (by
        rw [xadd (e_k ..) (xv e14)]
        congr 2)) (e_k ..) (show (0 : Int) < 7 by decide)) (e_k (cl := cl) (.int 3) _)
      rw [this]
      rfl)
  rw [e_bi, e_cons]
  show (sCons ((evE cl (.lc _) τ).bind ssetD) (some [])).bind (biD .tuple) = _
  rw [comp, List.map_map]
  have em : (List.range (1 + L.getD 1 0 % 3).toNat).map ((fun d => match d with
      | D.int k => D.int (L.getD (2 + k.toNat) 0 % 7 - 3)
      | _ => .non) ∘ fun i => D.int ((i : Nat) : Int)) = ((List.range (1 + L.getD 1 0 % 3).toNat).map fun k => L.getD (2 + k) 0 % 7 - 3).map D.int := by
    rw [List.map_map]
    exact List.map_congr_left fun k _ => rfl
  rw [em]
  show (sCons ((intsD _).bind fun ns => if ns.length ≤ 60 then some (.lst ((sortI (dedupI ns)).map .int)) else none) (some [])).bind (biD .tuple) = _
  rw [intsD_map, Option.bind_some, if_pos (by rw [List.length_map, List.length_range]; omega)]
  rfl
theorem rep1 (n : Nat) (x : D) : repL n [x] = List.replicate n x := by
  unfold repL
  induction n with
  | zero => rfl
  | succ n ih => rw [List.replicate_succ, List.flatten_cons, ih, List.replicate_succ]; rfl
theorem mul_rep (n : Nat) (hn : n ≤ 1000) (x : D) : binD .mul (.tup [x]) (.int (n : Nat)) = some (.tup (List.replicate n x)) := by
  show (if decide ([x].length ≤ 1000) && decide (-(2 ^ 62) < ((n : Nat) : Int)) && decide (((n : Nat) : Int) ≤ 1000) then some (D.tup (repL ((n : Nat) : Int).toNat [x])) else none) = _
  rw [decide_eq_true (show -(2 ^ 62) < ((n : Nat) : Int) by omega), decide_eq_true (show ((n : Nat) : Int) ≤ 1000 by omega), Int.toNat_natCast, rep1]; rfl
theorem moves_at (st : Nat) (hs : st < 2) : idxD (.tup [.tup [.int (-1), .int 1], .tup [.int (-1), .int 0, .int 1]]) (.int (st : Nat)) = some (.tup ((movesN st).map .int)) := by
  rcases st with _ | _ | st
  · rfl
  · rfl
  · omega
theorem xtup2 {a b : C} {x y : D} {τ : PV.Env} (ha : evE cl a τ = some x) (hb : evE cl b τ = some y) : evE cl (.tup [a, b]) τ = some (.tup [x, y]) := by
  rw [e_tup, e_cons, e_cons, ha, hb]; rfl
theorem xcal2 {a b : C} {x y : D} {τ : PV.Env} {f : Nat} (ha : evE cl a τ = some x) (hb : evE cl b τ = some y) : evE cl (.cal f [a, b]) τ = cl f [x, y] := by
  rw [e_cal, e_cons, e_cons, ha, hb]; rfl
theorem xcal3 {a b c : C} {x y z : D} {τ : PV.Env} {f : Nat} (ha : evE cl a τ = some x) (hb : evE cl b τ = some y) (hc : evE cl c τ = some z) : evE cl (.cal f [a, b, c]) τ = cl f [x, y, z] := by
  rw [e_cal, e_cons, e_cons, e_cons, ha, hb, hc]; rfl
theorem xnot {a : C} {τ : PV.Env} (h : evE cl a τ = some (.bl true)) : evT cl (.nt a) τ = some false := by
  show (sNot (evE cl a τ)).bind truD = _
  rw [h]; rfl
theorem eqT (x y : Int) {a b : C} {τ : PV.Env} (ha : evE cl a τ = some (.int x)) (hb : evE cl b τ = some (.int y)) : evT cl (.cmp .eq a b) τ = some (x == y) := by
  rw [t_val, e_cmp, ha, hb]; rfl
theorem num_rows (rows : List Int) (h : Int) (τ : PV.Env) (h5 : τ[5]? = some (some (.lst (rows.map .int)))) (h4 : τ[4]? = some (some (.int h))) (hl : τ.length = 16) (hz : rows.length ≤ 1000000) :
    evE cl (.bi .len [.lc (.gen [8] (.v 8) (.v 5) [.cmp .eq (.v 8) (.v 4)] (.elt (.k (.int 1))))]) τ = some (.int (rows.count h : Nat)) := by
  have comp := xlc_filter (cl := cl) (vs := [8]) (i := 8) (τ := τ) (ti := .v 5) (t := .cmp .eq (.v 8) (.v 4)) (e := .k (.int 1)) (p := fun d => match d with
      | .int x => x == h
      | _ => false) (f := fun _ => .int 1) (xseqL h5) (by omega) (by rw [List.length_map]; exact hz) (fun x hx => by
      obtain ⟨k, _, rfl⟩ := List.mem_map.mp hx
      refine eqT k h (xv ?_) (xv ?_)
      · rw [List.getElem?_set_self (by rw [wipe_len2]; omega)]
      · rw [List.getElem?_set_ne (by decide)]
        show (τ.set 8 none)[4]? = _
        rw [List.getElem?_set_ne (by decide)]; exact h4) (fun x _ _ => rfl)
  rw [e_bi, e_cons, comp]
  show some (D.int ((((rows.map D.int).filter _).map _).length : Nat)) = _
  rw [List.length_map, List.filter_map, List.length_map, List.count_eq_length_filter]
  rfl
theorem plain (ns : List Int) (_ : ns.length ≤ 63) : PV.call fsT FU KK 10 [.scr (ns.map .int)] = some (.bl true) := by
  obtain ⟨L, hL, hnn, hrow⟩ := row12 ns
  have ex : ∀ (a m : Int), 0 < m → ∃ n : Nat, a % m = (n : Int) ∧ (n : Int) < m := fun a m hm => by
    have h1 := Int.emod_nonneg a (show m ≠ 0 by omega)
    have h2 := Int.emod_lt_of_pos a hm
    exact ⟨(a % m).toNat, by omega, by omega⟩
  obtain ⟨n, en, hn⟩ := ex (L.getD 0 0) 9 (by decide)
  obtain ⟨h, eh, hh⟩ := ex (L.getD 6 0) 7 (by decide)
  obtain ⟨m, em, hm⟩ := ex (L.getD 7 0) 5 (by decide)
  obtain ⟨st, es, hst⟩ := ex (L.getD 8 0) 2 (by decide)
  have hd := drawn_len L
  obtain ⟨s6, s7, s8, run⟩ := heights (.scr (ns.map .int)) (.lst (L.map .int)) (drawn L) n (by omega) (some (.int n)) (some (.int h)) hd
  have p3 : 3 ^ n ≤ 3 ^ 8 := Nat.pow_le_pow_right (by decide) (by omega)
  have p8 : 3 ^ 8 = 6561 := by decide
  have rl := rows_len (drawn L) hd n
  obtain ⟨mom1, mom2⟩ := mom m st (by omega) (by omega)
  have last : ∀ τ : PV.Env, τ[9]? = some (some (.int m)) → τ[13]? = some (some (.tup ((movesN st).map .int))) → τ.length = 16 →
      evE cl (.bi .tuple [.lc (.gen [14] (.v 14) (.rng [.bin .add (.bin .mul (.k (.int 2)) (.v 9)) (.k (.int 1))]) [] (.elt (.tup [.cal 4 [.v 14, .v 13, .k (.int 0)], .k (.int 1)])))]) τ = some (want m st) := by
    intro τ h9 h13 hl
    have ml : (movesN st).length ≤ 3 := by unfold movesN; split <;> decide
    have comp := xlc_map (cl := cl) (vs := [14]) (i := 14) (τ := τ) (ti := .rng [.bin .add (.bin .mul (.k (.int 2)) (.v 9)) (.k (.int 1))]) (e := .tup [.cal 4 [.v 14, .v 13, .k (.int 0)], .k (.int 1)])
      (f := fun d => match d with
        | .int k => .tup [.int ((rowsN (movesN st) k.toNat).count 0), .int 1]
        | _ => .non)
      (xrng1 (xadd (xmul (e_k ..) (xv h9) (.inl (by decide))) (e_k ..)) (by omega) (by omega)) (by omega) (by simp; omega) (fun x hx => by
        obtain ⟨k, hk, rfl⟩ := List.mem_map.mp hx
        have hk := List.mem_range.mp hk
        have e14 : ((wipe [14] τ).set 14 (some (.int (k : Nat))))[14]? = some (some (.int (k : Nat))) := by
          rw [List.getElem?_set_self (by rw [wipe_len2]; omega)]
        have e13 : ((wipe [14] τ).set 14 (some (.int (k : Nat))))[13]? = some (some (.tup ((movesN st).map .int))) := by
          rw [List.getElem?_set_ne (by decide)]
          show (τ.set 14 none)[13]? = _
          rw [List.getElem?_set_ne (by decide)]; exact h13
        exact xtup2 ((xcal3 (xv e14) (xv e13) (e_k ..)).trans (stay19 k 0 (movesN st) (by omega) ml)) (e_k ..))
    rw [e_bi, e_cons, comp, List.map_map]
    show some (D.tup _) = _
    unfold want
    have e2 : (2 * (m : Int) + 1).toNat = 2 * m + 1 := by omega
    rw [e2]
    congr 1
  have final : evSs cl FU core10 (envL (.scr (ns.map .int)) (.lst (L.map .int)) none none none none none none none none none none none none none none |>.set 1 none) = some (.ret (.bl true),
      envL (.scr (ns.map .int)) (.lst (L.map .int)) (some (.tup ((drawn L).map .int))) (some (.int n)) (some (.int h)) (some (.lst ((rowsN (drawn L) n).map .int))) s6 s7 s8 (some (.int m)) (some (.int st)) (some (ladderN m st)) (some (want m st)) (some (.tup ((movesN st).map .int))) none none) := by
    refine yasg hrow (by simp) (yasg (steps_ok hL _ rfl (by simp)) (by simp) (yasgD (d := .tup [.int n, .int h]) (xtup2 ?_ ?_) rfl (yasg (d := .lst [.int 0]) rfl (by simp) (yfor (xrng1 (xv rfl) (by omega) (by omega)) run
      (yifF (τ' := _) (xnot ?_) rfl (yasg (d := .int m) ?_ (by simp) (yasg (d := .int st) ?_ (by simp) (yasg (d := ladderN m st) (xtup2 ?_ ?_) (by simp) (yasg ((xcal2 (e_k ..) (xv rfl)).trans mom1) (by simp) (yasg (d := .tup ((movesN st).map .int)) ?_ (by simp) (yret ((xcal2 (xv rfl) (last _ rfl rfl (by simp))).trans mom2))))))))))))
    · rw [← en]; exact xmod (get_at hL 0 (by decide) rfl (e_k ..)) (e_k ..) (by decide)
    · rw [← eh]; exact xmod (get_at hL 6 (by decide) rfl (e_k ..)) (e_k ..) (by decide)
    · exact (xcal2 ((xcal3 (xv rfl) (xv rfl) (xv rfl)).trans (stay19 n h (drawn L) (by omega) hd)) (num_rows (rowsN (drawn L) n) h _ rfl rfl (by simp) (by omega))).trans (like_int _)
    · rw [← em]; exact xmod (get_at hL 7 (by decide) rfl (e_k ..)) (e_k ..) (by decide)
    · rw [← es]; exact xmod (get_at hL 8 (by decide) rfl (e_k ..)) (e_k ..) (by decide)
    · rw [e_bin]
      show sBin .mul (sTup (sCons (sTup (sCons (some (.int st)) (some [.int 1]))) (some []))) (some (.int m)) = _
      exact mul_rep m (by omega) _
    · rw [e_bin]
      show sBin .mul (some (.tup [.tup [.int 1, .int 1]])) (some (.int m)) = _
      exact mul_rep m (by omega) _
    · exact moves_at st (by omega)
  exact (c19 10 _ 19 rfl).trans (run_ret rfl final)
end K92

open PySem PySem.W PySem.Calls PyProof.Rows
theorem PySem.Challenge.cw_rootstold_k92_stay_paths_holds : PySem.Challenge.rw_rootstold_k92_stay_paths.Holds := by
  w_on; o_law
  refine HandSHeadRun.head_any (r := OpenLaw.row PySem.Challenge.rw_rootstold_k92_stay_paths) (q := view (OpenLaw.row PySem.Challenge.rw_rootstold_k92_stay_paths).prog [18]) (H := K92.hk) (ob := K92.ob) (M := 4000) (loose := K92.looseN) (d := HandSHeadRun.topDef (OpenLaw.row PySem.Challenge.rw_rootstold_k92_stay_paths).prog 18) (kwd := []) K92.ob_eq
    (by kernel_rfl) (fun s => by kernel_rfl) K92.run (by kernel_rfl) (by kernel_rfl) (by kernel_rfl) (by rfl) (by first | assumption | decide +kernel) (by decide +kernel) ⟨rfl, rfl, rfl, rfl, rfl, by decide +kernel⟩ ?hw ?hc
  case hw => w_witness2
  case hc =>
    refine L2.walk_ofE (l := PySem.Challenge.rw_rootstold_k92_stay_paths) (n := 63) (k := K92.KK) (x := "script") (CX := L2.CX0) rfl (by decide) (by kernel_rfl) ⟨rfl, by decide, by decide⟩ ?F (fun _ _ _ _ z => z)
    intro w mg fa h Y G hmg0
    obtain ⟨K, KX, c⟩ := Y
    have hmg : mg ("law" : PySem.Str) = some (.ref fa) := by
      have e : (HandSHeadRun.topDef (OpenLaw.row PySem.Challenge.rw_rootstold_k92_stay_paths).prog 18).name = ("law" : PySem.Str) := by kernel_rfl
      rw [← e]
      exact hmg0
    obtain ⟨fd, hb, hF⟩ := K92.facts (P := (PySem.Challenge.rw_rootstold_k92_stay_paths).prog) (w := w) KX G hmg c
    exact ⟨K, fd, PV.spD K (PV.call K92.fsT K92.FU K92.KK 10), KX, hb, fun H a ns hl _ hS => PV.sp_law hS (K92.plain ns hl), hF⟩
