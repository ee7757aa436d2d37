import PyProof.Rows.All
import Wide.All
import OpenK.AllK
import Wide.FinOn
import KE.KStateDown
import Lean
import HandS.ForMost
import HandS.WordsExc
import HandS.Defaults
import HandS.Head0
import HandS.Head1
import HandS.Head2
import HandS.HeadEnd
import HandS.HeadHook1
import HandS.HeadHook2
import HandS.Iter
import KE.KeyNested
import KE.KDictKeyed
import KE.KDictWalk
import KE.SortData
import KE.SortKeyHeap
import KE.DataCmp
import PySem.Syntax
import HandS.TupAny
import HandS.TupMul
import HandS.Conv
import HandS.Wide
import HandS.Flow
import HandS.Style
import HandS.IsInst
import KE.KSortKey
import HandS.Zip
import HandS.Comp
import KE.KDictPairs
import HandS.TupSets
import HandS.Exc
import PySem.Challenge.RW_looktasks_k53_whole_plain_tasks
section
set_option linter.all false
/-! Ev1: data, their operations, the core language and its evaluator (plain Lean). -/
namespace Ev
open PySem

/-- a datum: containers are told by what is in them -/
inductive D where
  | non | bl (b : Bool) | int (i : Int) | str (x : Str)
  | tup (xs : List D) | lst (xs : List D) | dic (ks vs : List D)
  | ref (n : Nat) | fn (k : Nat) | exc (c : Nat)
  /-- a list that is read only (it may be an object of the module) -/
  | scr (xs : List D)
  deriving Inhabited

mutual
/-- Python's == of plain data -/
def eqv : D → D → Bool
  | .non, .non => true
  | .bl a, .bl b => a == b
  | .bl a, .int j => (if a then 1 else 0) == j
  | .int i, .bl b => i == (if b then 1 else 0)
  | .int i, .int j => i == j
  | .str x, .str y => x == y
  | .lst xs, .lst ys => eqvL xs ys
  | .tup xs, .tup ys => eqvL xs ys
  | _, _ => false
def eqvL : List D → List D → Bool
  | [], [] => true
  | x :: xs, y :: ys => eqv x y && eqvL xs ys
  | _, _ => false
end

mutual
/-- plain data (no dict, no reference), nested at most n deep -/
def okD : Nat → D → Bool
  | _, .non | _, .bl _ | _, .int _ => true
  | _, .str x => x.cps.all (fun c => decide (c < 128))
  | n + 1, .tup xs => okL n xs
  | n + 1, .lst xs => okL n xs
  | _, _ => false
def okL : Nat → List D → Bool
  | _, [] => true
  | n, x :: xs => okD n x && okL n xs
end

mutual
/-- the two can be ordered, place by place -/
def alike : D → D → Bool
  | .non, .non => true
  | .bl _, .bl _ => true
  | .int _, .int _ => true
  | .str _, .str _ => true
  | .lst xs, .lst ys => alikeL xs ys
  | .tup xs, .tup ys => alikeL xs ys
  | _, _ => false
def alikeL : List D → List D → Bool
  | x :: xs, y :: ys => alike x y && alikeL xs ys
  | _, _ => true
end

mutual
/-- x < y, of alike data -/
def ltv : D → D → Bool
  | .bl a, .bl b => !a && b
  | .int i, .int j => decide (i < j)
  | .str x, .str y => decide (x.cps.toList < y.cps.toList)
  | .lst xs, .lst ys => ltvL xs ys
  | .tup xs, .tup ys => ltvL xs ys
  | _, _ => false
def ltvL : List D → List D → Bool
  | [], [] => false
  | [], _ :: _ => true
  | _ :: _, [] => false
  | x :: xs, y :: ys => if eqv x y then ltvL xs ys else ltv x y
end

/-- how deep plain data may be nested where they are compared -/
def deep : Nat := 60
def line : Nat := 16777216

def dEq (x y : D) : Option Bool := if okD deep x && okD deep y then some (eqv x y) else none
def notNon : D → Bool
  | .non => false
  | _ => true
def dLt (x y : D) : Option Bool := if okD deep x && okD deep y && alike x y && notNon x then some (ltv x y) else none

/-! ### keys of dicts -/
mutual
def noLst : D → Bool
  | .tup xs => noLstL xs
  | .lst _ => false
  | _ => true
def noLstL : List D → Bool
  | [] => true
  | x :: xs => noLst x && noLstL xs
end
/-- a key: a number, a text, a tuple -/
def okK : D → Bool
  | .int _ => true
  | .str _ => true
  | .tup xs => okD 8 (.tup xs) && noLstL xs
  | _ => false
def isT : D → Bool
  | .tup _ => true
  | _ => false
/-- a key beside these: all tuples, or none -/
def fitK (k : D) (ks : List D) : Bool := okK k && match ks with
  | [] => true
  | x :: _ => isT x == isT k

/-- the place of a key -/
def findK (k : D) : List D → Option Nat
  | [] => none
  | x :: xs => if eqv x k then some 0 else (findK k xs).map (· + 1)

/-! ### sorting -/
def insBy (le : D → D → Bool) (x : D) : List D → List D
  | [] => [x]
  | y :: ys => if le x y then x :: y :: ys else y :: insBy le x ys
def sortBy (le : D → D → Bool) : List D → List D
  | [] => []
  | x :: xs => insBy le x (sortBy le xs)
def dedup : List D → List D
  | [] => []
  | x :: xs => x :: (dedup xs).filter (fun y => !eqv x y)
def allPairs (p : D → D → Bool) : List D → Bool
  | [] => true
  | x :: xs => p x x && xs.all (p x) && allPairs p xs
def tupNe : D → Bool
  | .tup (_ :: _) => true
  | _ => false
def notTupNon : D → Bool
  | .tup _ => false
  | .non => false
  | _ => true
/-- what the sort takes -/
def okSort (xs : List D) : Bool := okL deep xs && allPairs alike xs && (xs.all tupNe || xs.all notTupNon) && decide (xs.length ≤ line)
def leUp (x y : D) : Bool := !ltv y x
def leDown (x y : D) : Bool := !ltv x y
/-- pairs (key, item), sorted by keys -/
def insKey (le : D → D → Bool) (p : D × D) : List (D × D) → List (D × D)
  | [] => [p]
  | q :: qs => if le p.1 q.1 then p :: q :: qs else q :: insKey le p qs
def sortKey (le : D → D → Bool) : List (D × D) → List (D × D)
  | [] => []
  | p :: ps => insKey le p (sortKey le ps)

/-! ### places -/
def ixOf (n : Nat) (i : Int) : Option Nat := if 0 ≤ i then (if i < n then some i.toNat else none) else if -(n : Int) ≤ i then some (i + n).toNat else none
def atI (xs : List D) (i : Int) : Option D := (ixOf xs.length i).bind fun j => xs[j]?
def clipI (n d : Nat) : Option Int → Nat
  | none => d
  | some i => if i < 0 then (i + n).toNat else min i.toNat n
def cutL (xs : List D) (lo hi : Option Int) : List D := (xs.drop (clipI xs.length 0 lo)).take (clipI xs.length xs.length hi - clipI xs.length 0 lo)

def truth : D → Option Bool
  | .non => some false
  | .bl b => some b
  | .int i => some (i != 0)
  | .str x => if x.length ≤ line then some ((x.length : Int) != 0) else none
  | .tup xs | .lst xs | .scr xs => some (!xs.isEmpty)
  | _ => none

def small (i : Int) : Bool := decide (-18446744073709551616 < i ∧ i < 18446744073709551616)

inductive Bop where
  | add | sub | mul | fdiv | mod | pow | shl
  deriving DecidableEq
def binop : Bop → D → D → Option D
  | .add, .int i, .int j => some (.int (i + j))
  | .add, .tup xs, .tup ys => if xs.length + ys.length ≤ line then some (.tup (xs ++ ys)) else none
  | .add, .lst xs, .lst ys => if xs.length + ys.length ≤ line then some (.lst (xs ++ ys)) else none
  | .sub, .int i, .int j => some (.int (i - j))
  | .mul, .int i, .int j => if small i || small j then some (.int (i * j)) else none
  | .mul, .tup (x :: xs), .int k => if 2 ≤ k ∧ k ≤ 1000 ∧ xs.length < 1000 then some (.tup (List.replicate k.toNat (x :: xs)).flatten) else none
  | .mul, .lst xs, .int k => if 0 ≤ k ∧ k < 16777216 ∧ xs.length * k.toNat ≤ line then some (.lst (List.replicate k.toNat xs).flatten) else none
  | .fdiv, .int i, .int j => if 0 < j ∧ j < 1073741824 then some (.int (i / j)) else none
  | .mod, .int i, .int j => if 0 < j then some (.int (i % j)) else none
  | .pow, .int i, .int j => if 0 ≤ j ∧ j ≤ 1000 ∧ small i = true then some (.int (i ^ j.toNat)) else none
  | .shl, .int i, .int j => if 0 ≤ j ∧ j ≤ 1000 ∧ small i = true then some (.int (i * 2 ^ j.toNat)) else none
  | _, _, _ => none

inductive Cop where
  | eq | ne | lt | le | gt | ge | isin | notin | is_ | isnot
  deriving DecidableEq
def inD (x : D) : D → Option Bool
  | .tup ys | .lst ys => if okD deep x && okL deep ys then some (ys.any fun y => eqv y x) else none
  | .dic ks _ => if fitK x ks then some (findK x ks).isSome else none
  | _ => none
def isNon : D → Bool
  | .non => true
  | _ => false
def cmpop : Cop → D → D → Option Bool
  | .eq, x, y => dEq x y
  | .ne, x, y => (dEq x y).map (!·)
  | .lt, x, y => dLt x y
  | .gt, x, y => dLt y x
  | .le, x, y => (dLt y x).map (!·)
  | .ge, x, y => (dLt x y).map (!·)
  | .isin, x, y => inD x y
  | .notin, x, y => (inD x y).map (!·)
  | .is_, x, .non => some (isNon x)
  | .isnot, x, .non => some (!isNon x)
  | _, _, _ => none

def subD : D → D → Option D
  | .tup xs, .int i => atI xs i
  | .lst xs, .int i => atI xs i
  | .scr xs, .int i => atI xs i
  | .dic ks vs, k => if fitK k ks then (findK k ks).bind fun j => vs[j]? else none
  | _, _ => none
def optI : Option D → Option (Option Int)
  | none => some none
  | some (.int i) => some (some i)
  | some _ => none
def cutD : D → Option Int → Option Int → Option D
  | .tup xs, lo, hi => some (.tup (cutL xs lo hi))
  | .lst xs, lo, hi => some (.lst (cutL xs lo hi))
  | .scr xs, lo, hi => some (.lst (cutL xs lo hi))
  | _, _, _ => none
def backD : D → Option D
  | .tup xs => some (.tup xs.reverse)
  | .lst xs => some (.lst xs.reverse)
  | _ => none

/-- all ints, all bools -/
def intsOf : List D → Option (List Int)
  | [] => some []
  | .int i :: r => (intsOf r).map (i :: ·)
  | _ => none
def bools : List D → Option (List Bool)
  | [] => some []
  | .bl b :: r => (bools r).map (b :: ·)
  | _ => none

/-- what is walked of a value -/
def items : D → Option (List D)
  | .tup xs | .lst xs | .scr xs => some xs
  | .dic ks _ => some ks
  | _ => none
def seqs : D → Option (List D)
  | .tup xs | .lst xs | .scr xs => some xs
  | _ => none
def lstOf : D → Option (List D)
  | .lst xs => some xs
  | _ => none
def rangeL (lo : Int) : Nat → List D
  | 0 => []
  | n + 1 => .int lo :: rangeL (lo + 1) n
def enumL (k : Int) : List D → List D
  | [] => []
  | x :: xs => .tup [.int k, x] :: enumL (k + 1) xs
def zipL : List D → List D → List D
  | x :: xs, y :: ys => .tup [x, y] :: zipL xs ys
  | _, _ => []

/-- range(n), range(m, n) -/
def rngOk (m n : Int) : Bool := decide (-4611686018427387904 ≤ m ∧ m < 4611686018427387904 ∧ -4611686018427387904 ≤ n ∧ n < 4611686018427387904 ∧ n - m ≤ 16777216)
def rgB : List D → Option (Int × Int)
  | [.int n] => if rngOk 0 n then some (0, n) else none
  | [.int m, .int n] => if rngOk m n then some (m, n) else none
  | _ => none
def rngD (ds : List D) : Option D := (rgB ds).map fun p => .lst (rangeL p.1 (p.2 - p.1).toNat)

def enumD : D → Option (List D)
  | .lst xs | .scr xs => some (enumL 0 xs)
  | _ => none
def zipD : D → D → Option (List D)
  | .lst xs, .lst ys => some (zipL xs ys)
  | .tup xs, .tup ys => some (zipL xs ys)
  | _, _ => none

inductive Bi where
  | len | abs | int | max | min | max2 | min2 | sum | all | any
  deriving DecidableEq
def builtin : Bi → List D → Option D
  | .len, [.tup xs] => some (.int xs.length)
  | .len, [.lst xs] => some (.int xs.length)
  | .len, [.scr xs] => some (.int xs.length)
  | .abs, [.int i] => some (.int (if i < 0 then -i else i))
  | .int, [.int i] => some (.int i)
  | .int, [.bl b] => some (.int (if b then 1 else 0))
  | .max, [.lst xs] => (intsOf xs).bind fun
    | [] => none
    | i :: is => some (.int (is.foldl max i))
  | .min, [.lst xs] => (intsOf xs).bind fun
    | [] => none
    | i :: is => some (.int (is.foldl min i))
  | .max2, [.int i, .int j] => some (.int (if j > i then j else i))
  | .min2, [.int i, .int j] => some (.int (if j < i then j else i))
  | .sum, [.lst xs] => (intsOf xs).map fun is => .int is.sum
  | .all, [.lst xs] => (bools xs).map fun bs => .bl (bs.all id)
  | .any, [.lst xs] => (bools xs).map fun bs => .bl (bs.any id)
  | _, _ => none

inductive Ty where
  | int | bool | str | tuple | list | listTuple | tupleList | boolStr
  deriving DecidableEq
def isI : Ty → D → Option Bool
  | _, .ref _ | _, .fn _ | _, .exc _ | _, .dic _ _ => none
  | .int, .int _ => some true
  | .int, .bl _ => some true
  | .int, _ => some false
  | .bool, .bl _ => some true
  | .bool, _ => some false
  | .str, .str _ => some true
  | .str, _ => some false
  | .tuple, .tup _ => some true
  | .tuple, _ => some false
  | .list, .lst _ => some true
  | .list, .scr _ => some true
  | .list, _ => some false
  | .listTuple, .lst _ => some true
  | .listTuple, .scr _ => some true
  | .listTuple, .tup _ => some true
  | .listTuple, _ => some false
  | .tupleList, .lst _ => some true
  | .tupleList, .scr _ => some true
  | .tupleList, .tup _ => some true
  | .tupleList, _ => some false
  | .boolStr, .bl _ => some true
  | .boolStr, .str _ => some true
  | .boolStr, _ => some false

/-- a dict put together -/
def putK (ks vs : List D) (k v : D) : List D × List D :=
  match findK k ks with
  | some j => (ks, vs.set j v)
  | none => (ks ++ [k], vs ++ [v])
def dictOf : List D → List D → List D → Option (List D × List D)
  | [], ks, vs => some (ks, vs)
  | .tup [k, v] :: r, ks, vs => if fitK k ks && decide (ks.length < line) then dictOf r (putK ks vs k v).1 (putK ks vs k v).2 else none
  | _ :: _, _, _ => none

inductive Cast where
  | tuple | list | dict
  deriving DecidableEq

end Ev

end
section
set_option linter.all false
/-! Ev2: the core language, its evaluator. -/
namespace Ev
open PySem

/-- what a name holds: a datum, or a container of its own (told by nobody else) -/
inductive Own where
  | lst (xs : List D) | dic (ks vs : List D)
  deriving Inhabited
inductive Cell where
  | val (d : D) | own (o : Own)
  deriving Inhabited
abbrev Slots := List (Option Cell)
inductive Ob where
  | dead | box (o : Own)
  deriving Inhabited
abbrev AH := List Ob
def Own.d : Own → D
  | .lst xs => .lst xs
  | .dic ks vs => .dic ks vs
def D.own? : D → Option Own
  | .lst xs => some (.lst xs)
  | .dic ks vs => some (.dic ks vs)
  | _ => none

inductive R (α : Type) where
  | ok (a : α) (h : AH)
  | ex (c : Nat) (h : AH)
  | bad
  deriving Inhabited
def R.bind {α β : Type} : R α → (α → AH → R β) → R β
  | .ok a h, f => f a h
  | .ex c h, _ => .ex c h
  | .bad, _ => .bad
def R.opt {α : Type} (h : AH) : Option α → R α
  | some a => .ok a h
  | none => .bad

inductive SKey where
  | non | len | fn (k : Nat)
inductive Tg where
  | nm (i : Nat) | tp (is : List Nat)

/-- expressions; behind bs, bx: a container that is only looked at; range .. rev: what is walked; cl, yl, yp: a comprehension's body -/
inductive E where
  | var (i : Nat) | con (d : D) | glob (k : Nat) | fnv (k : Nat)
  | bs (i : Nat) | bsl (i : Nat) | bx (e : E)
  | bin (o : Bop) (a b : E) | neg (a : E) | cmp (o : Cop) (a b : E) | chain (o p : Cop) (a b c : E)
  | and (es : List E) | or (es : List E) | not (a : E) | ite (c a b : E)
  | tup (es : List E) | lst (es : List E) | dic (es : List E)
  | sub (a b : E) | cut (a : E) (lo hi : Option E) | back (a : E)
  | bi (b : Bi) (es : List E) | cast (c : Cast) (a : E) | srt (a : E) (key : SKey) (rev : Option Bool) | srtset (a : E) | lenset (a : E)
  | isi (a : E) (t : Ty)
  | call (f : Nat) (es : List E) (perm : List Nat)
  | box (e : E)
  | range (es : List E) | enum (a : E) | zip (a b : E)
  | lc (b : E) | dc (b : E) | cl (t : Tg) (it : E) (ifs : List E) (b : E) | yl (e : E) | yp (k v : E)

def getS (sl : Slots) (i : Nat) : Option D := match sl[i]? with
  | some (some (.val d)) => some d
  | _ => none
def getO (sl : Slots) (i : Nat) : Option Own := match sl[i]? with
  | some (some (.own o)) => some o
  | _ => none
/-- a list of one's own -/
def getOL (sl : Slots) (i : Nat) : Option D := match getO sl i with
  | some (.lst xs) => some (.lst xs)
  | _ => none
def getB (h : AH) : D → Option Own
  | .ref n => match h[n]? with
    | some (.box o) => some o
    | _ => none
  | _ => none
def setS (sl : Slots) (i : Nat) (d : D) : Slots := sl.set i (some (.val d))
def setAll : Slots → List Nat → List D → Option Slots
  | sl, [], [] => some sl
  | sl, i :: is, d :: ds => setAll (setS sl i d) is ds
  | _, _, _ => none
def setTg (sl : Slots) : Tg → D → Option Slots
  | .nm i, d => some (setS sl i d)
  | .tp is, .tup ds => setAll sl is ds
  | _, _ => none
def tgs : Tg → List Nat
  | .nm i => [i]
  | .tp is => is
/-- the names of a comprehension's block -/
def owns : E → List Nat
  | .cl t _ _ b => tgs t ++ owns b
  | _ => []
def wipeS (sl : Slots) : List Nat → Slots
  | [] => sl
  | i :: is => (wipeS sl is).set i none
/-- fold over what is walked -/
def walkR {α : Type} (f : D → α → AH → R α) : List D → α → AH → R α
  | [], a, h => .ok a h
  | d :: ds, a, h => (f d a h).bind fun a h => walkR f ds a h
def keyEach (f : D → AH → R D) : List D → AH → R (List (D × D))
  | [], h => .ok [] h
  | x :: xs, h => (f x h).bind fun k h => (keyEach f xs h).bind fun ps h => .ok ((k, x) :: ps) h
def permD {α : Type} (ds : List α) : List Nat → Option (List α)
  | [] => some []
  | i :: is => (ds[i]?).bind fun d => (permD ds is).map (d :: ·)

/-- the table of the program: own functions, constants -/
abbrev Fs := Nat → List D → AH → R D
structure Gl where
  consts : List D

def sortK (f : Fs) (key : SKey) (rev : Bool) (xs : List D) (h : AH) : R D :=
  let le := if rev then leDown else leUp
  match key with
  | .non => if okSort xs then .ok (.lst (sortBy le xs)) h else .bad
  | .len => (keyEach (fun x h => R.opt h (builtin .len [x])) xs h).bind fun ps h => if ps.length ≤ line then .ok (.lst ((sortKey le ps).map (·.2))) h else .bad
  | .fn k => (keyEach (fun x h => f k [x] h) xs h).bind fun ps h => if okSort (ps.map (·.1)) then .ok (.lst ((sortKey le ps).map (·.2))) h else .bad
def isInt0 : D → Bool
  | .int _ => true
  | _ => false
/-- what a set is made of: tuples, or ints -/
def okSet (xs : List D) : Bool := decide (xs.length ≤ line) && ((xs.all isT && xs.all okK && decide ((dedup xs).length < 1199)) || (xs.all isInt0 && decide (xs.length < 4000)))
def srtsetD (d : D) : Option D := (seqs d).bind fun xs => if okSet xs && okSort (dedup xs) then some (.lst (sortBy leUp (dedup xs))) else none
def lensetD (d : D) : Option D := (seqs d).bind fun xs => if okSet xs then some (.int (dedup xs).length) else none
/-- a pair whose key is a tuple -/
def keyT : D → Bool
  | .tup [.tup _, _] => true
  | _ => false
def castD : Cast → D → Option D
  | .tuple, .tup xs => some (.tup xs)
  | .tuple, d => (seqs d).map .tup
  | .list, d => (seqs d).map .lst
  | .dict, .lst xs | .dict, .tup xs => if xs.all keyT && decide (xs.length ≤ line) then (dictOf xs [] []).map fun p => .dic p.1 p.2 else none
  | .dict, _ => none

section
variable (F : Fs) (G : Gl)
mutual
def ev : E → Slots → AH → R D
  | .var i, sl, h => R.opt h (getS sl i)
  | .con d, _, h => .ok d h
  | .glob k, _, h => R.opt h (G.consts[k]?)
  | .fnv k, _, h => .ok (.fn k) h
  | .bs i, sl, h => R.opt h ((getO sl i).map Own.d)
  | .bsl i, sl, h => R.opt h (getOL sl i)
  | .bx e, sl, h => (ev e sl h).bind fun d h => R.opt h ((getB h d).map Own.d)
  | .bin o a b, sl, h => (ev a sl h).bind fun x h => (ev b sl h).bind fun y h => R.opt h (binop o x y)
  | .neg a, sl, h => (ev a sl h).bind fun x h => match x with
    | .int i => .ok (.int (-i)) h
    | _ => .bad
  | .cmp o a b, sl, h => (ev a sl h).bind fun x h => (ev b sl h).bind fun y h => R.opt h ((cmpop o x y).map .bl)
  | .chain o p a b c, sl, h => (ev a sl h).bind fun x h => (ev b sl h).bind fun y h => (R.opt h (cmpop o x y)).bind fun t h =>
      if t then (ev c sl h).bind fun z h => R.opt h ((cmpop p y z).map .bl) else .ok (.bl false) h
  | .and es, sl, h => evAnd es sl h
  | .or es, sl, h => evOr es sl h
  | .not a, sl, h => (ev a sl h).bind fun x h => R.opt h ((truth x).map fun b => .bl (!b))
  | .ite c a b, sl, h => (ev c sl h).bind fun x h => (R.opt h (truth x)).bind fun t h => if t then ev a sl h else ev b sl h
  | .tup es, sl, h => (evs es sl h).bind fun xs h => .ok (.tup xs) h
  | .lst es, sl, h => (evs es sl h).bind fun xs h => .ok (.lst xs) h
  | .dic es, sl, h => evDic es sl h [] []
  | .sub a b, sl, h => (ev a sl h).bind fun x h => (ev b sl h).bind fun y h => R.opt h (subD x y)
  | .cut a lo hi, sl, h => (ev a sl h).bind fun x h => (evOpt lo sl h).bind fun l h => (evOpt hi sl h).bind fun u h =>
      R.opt h ((optI l).bind fun i => (optI u).bind fun j => cutD x i j)
  | .back a, sl, h => (ev a sl h).bind fun x h => R.opt h (backD x)
  | .bi b es, sl, h => (evs es sl h).bind fun xs h => R.opt h (builtin b xs)
  | .cast c a, sl, h => (ev a sl h).bind fun x h => R.opt h (castD c x)
  | .srt a key rev, sl, h => (ev a sl h).bind fun x h => (R.opt h (lstOf x)).bind fun xs h => sortK F key (rev.getD false) xs h
  | .srtset a, sl, h => (ev a sl h).bind fun x h => R.opt h (srtsetD x)
  | .lenset a, sl, h => (ev a sl h).bind fun x h => R.opt h (lensetD x)
  | .isi a t, sl, h => (ev a sl h).bind fun x h => R.opt h ((isI t x).map .bl)
  | .call f es perm, sl, h => (evs es sl h).bind fun xs h => match perm with
    | [] => F f xs h
    | _ => (R.opt h (permD xs perm)).bind fun ys h => F f ys h
  | .box e, sl, h => (ev e sl h).bind fun x h => match x.own? with
    | some o => .ok (.ref h.length) (h ++ [.box o])
    | none => .bad
  | .range es, sl, h => (evs es sl h).bind fun xs h => R.opt h (rngD xs)
  | .enum a, sl, h => (ev a sl h).bind fun x h => R.opt h ((enumD x).map .lst)
  | .zip a b, sl, h => (ev a sl h).bind fun x h => (ev b sl h).bind fun y h => R.opt h ((zipD x y).map .lst)
  | .lc b, sl, h => (evB b sl [] h).bind fun ds h => .ok (.lst ds) h
  | .dc b, sl, h => (evB b sl [] h).bind fun ds h => R.opt h ((dictOf ds [] []).map fun p => .dic p.1 p.2)
  | .cl .., _, _ | .yl _, _, _ | .yp .., _, _ => .bad
def evs : List E → Slots → AH → R (List D)
  | [], _, h => .ok [] h
  | e :: es, sl, h => (ev e sl h).bind fun x h => (evs es sl h).bind fun xs h => .ok (x :: xs) h
def evOpt : Option E → Slots → AH → R (Option D)
  | none, _, h => .ok none h
  | some e, sl, h => (ev e sl h).bind fun x h => .ok (some x) h
def evDic : List E → Slots → AH → List D → List D → R D
  | [], _, h, ds, es => .ok (.dic ds es) h
  | [_], _, _, _, _ => .bad
  | k :: v :: r, sl, h, ds, es => (ev k sl h).bind fun x h => (ev v sl h).bind fun y h => if fitK x ds && decide (ds.length < line) then evDic r sl h (putK ds es x y).1 (putK ds es x y).2 else .bad
def evAnd : List E → Slots → AH → R D
  | [], _, _ => .bad
  | [e], sl, h => ev e sl h
  | e :: es, sl, h => (ev e sl h).bind fun x h => (R.opt h (truth x)).bind fun t h => if t then evAnd es sl h else .ok x h
def evOr : List E → Slots → AH → R D
  | [], _, _ => .bad
  | [e], sl, h => ev e sl h
  | e :: es, sl, h => (ev e sl h).bind fun x h => (R.opt h (truth x)).bind fun t h => if t then .ok x h else evOr es sl h
/-- all tests -/
def evIfs : List E → Slots → AH → R Bool
  | [], _, h => .ok true h
  | e :: es, sl, h => (ev e sl h).bind fun x h => (R.opt h (truth x)).bind fun t h => if t then evIfs es sl h else .ok false h
/-- a comprehension's body: what has been told so far, with what is told -/
def evB : E → Slots → List D → AH → R (List D)
  | .cl t it ifs b, sl, acc, h => (ev it sl h).bind fun x h => (R.opt h (items x)).bind fun ds h =>
      walkR (fun d acc h => (R.opt h (setTg (wipeS sl (tgs t ++ owns b)) t d)).bind fun sl h => (evIfs ifs sl h).bind fun t h => if t then evB b sl acc h else .ok acc h) ds acc h
  | .yl e, sl, acc, h => (ev e sl h).bind fun x h => if acc.length < line then .ok (acc ++ [x]) h else .bad
  | .yp k v, sl, acc, h => (ev k sl h).bind fun x h => (ev v sl h).bind fun y h => .ok (acc ++ [.tup [x, y]]) h
  | _, _, _, _ => .bad
end

/-! ### statements -/
/-- where a container of one's own stands -/
inductive Pl where
  | sl (i : Nat) | bx (e : E)

inductive S where
  | ex (e : E)
  | set (i : Nat) (e : E) | own (i : Nat) (e : E)
  | tset (is : List Nat) (e : E)
  | pset (is : List (Nat × Bool)) (es : List E)
  | seti (p : Pl) (k e : E) | augi (p : Pl) (k : E) (o : Bop) (e : E) | aug (i : Nat) (o : Bop) (e : E)
  | app (p : Pl) (e : E) | ext (p : Pl) (e : E)
  | popt (i : Nat) (p : Pl) (a : Option E) | apppop (p q : Pl) (a : E)
  | ret (e : E) | raise (c : Nat)
  | ite (c : E) (a b : List S) | wh (c : E) (b : List S) | for (t : Tg) (it : E) (b : List S)
  | brk | cont | pass
  | frz (i : Nat)

/-- how a statement ends -/
inductive Fl where
  | nx (sl : Slots) | brk (sl : Slots) | cont (sl : Slots) | ret (d : D)

def putP (sl : Slots) (h : AH) : Pl → D → Own → Option (Slots × AH)
  | .sl i, _, o => some (sl.set i (some (.own o)), h)
  | .bx _, .ref n, o => some (sl, h.set n (.box o))
  | _, _, _ => none
def setOwn : Own → D → D → Option Own
  | .lst xs, .int i, v => (ixOf xs.length i).map fun j => .lst (xs.set j v)
  | .dic ks vs, k, v => if fitK k ks && decide (ks.length < line) then some (.dic (putK ks vs k v).1 (putK ks vs k v).2) else none
  | _, _, _ => none
def popOwn : Own → Option D → Option (D × Own)
  | .lst xs, none => (xs[xs.length - 1]?).map fun d => (d, .lst xs.dropLast)
  | .lst xs, some (.int i) => if xs.length ≤ line then (ixOf xs.length i).bind fun j => (xs[j]?).map fun d => (d, .lst (xs.eraseIdx j)) else none
  | _, _ => none
def appOwn : Own → D → Option Own
  | .lst xs, d => if xs.length < line then some (.lst (xs ++ [d])) else none
  | _, _ => none
def extOwn : Own → D → Option Own
  | .lst xs, .lst ys => if xs.length + ys.length ≤ line then some (.lst (xs ++ ys)) else none
  | _, _ => none

def forR (f : D → Slots → AH → R Fl) : List D → Slots → AH → R Fl
  | [], sl, h => .ok (.nx sl) h
  | d :: ds, sl, h => (f d sl h).bind fun x h => match x with
    | .nx sl => forR f ds sl h
    | .cont sl => forR f ds sl h
    | .brk sl => .ok (.nx sl) h
    | .ret d => .ok (.ret d) h
def whR (c : Slots → AH → R Bool) (b : Slots → AH → R Fl) : Nat → Slots → AH → R Fl
  | 0, _, _ => .bad
  | n + 1, sl, h => (c sl h).bind fun t h => if t then (b sl h).bind fun x h => match x with
      | .nx sl => whR c b n sl h
      | .cont sl => whR c b n sl h
      | .brk sl => .ok (.nx sl) h
      | .ret d => .ok (.ret d) h
    else .ok (.nx sl) h
/-- turns of a while at most -/
def laps : Nat := 1000000

/-- the container's own reference (a box), the container -/
def atP (F : Fs) (G : Gl) (sl : Slots) (h : AH) : Pl → R (D × Own)
  | .sl i => R.opt h ((getO sl i).map fun o => (.non, o))
  | .bx e => (ev F G e sl h).bind fun d h => R.opt h ((getB h d).map fun o => (d, o))
def putAll : Slots → List (Nat × Bool) → List D → Option Slots
  | sl, [], [] => some sl
  | sl, (i, false) :: is, d :: ds => putAll (setS sl i d) is ds
  | sl, (i, true) :: is, d :: ds => (d.own?).bind fun o => putAll (sl.set i (some (.own o))) is ds
  | _, _, _ => none

mutual
def xc : S → Slots → AH → R Fl
  | .ex e, sl, h => (ev F G e sl h).bind fun _ h => .ok (.nx sl) h
  | .set i e, sl, h => (ev F G e sl h).bind fun d h => .ok (.nx (setS sl i d)) h
  | .own i e, sl, h => (ev F G e sl h).bind fun d h => R.opt h ((d.own?).map fun o => .nx (sl.set i (some (.own o))))
  | .tset is e, sl, h => (ev F G e sl h).bind fun d h => R.opt h ((setTg sl (.tp is) d).map .nx)
  | .pset is es, sl, h => (evs F G es sl h).bind fun ds h => R.opt h ((putAll sl is ds).map .nx)
  | .seti p k e, sl, h => (ev F G e sl h).bind fun v h => (ev F G k sl h).bind fun k h => (atP F G sl h p).bind fun q h =>
      R.opt h ((setOwn q.2 k v).bind fun o => putP sl h p q.1 o) |>.bind fun r _ => .ok (.nx r.1) r.2
  | .augi p k o e, sl, h => (ev F G k sl h).bind fun k h => (atP F G sl h p).bind fun q h => (R.opt h (subD q.2.d k)).bind fun x h =>
      (ev F G e sl h).bind fun y h => R.opt h ((binop o x y).bind fun z => (setOwn q.2 k z).bind fun w => putP sl h p q.1 w) |>.bind fun r _ => .ok (.nx r.1) r.2
  | .aug i o e, sl, h => (R.opt h (getS sl i)).bind fun x h => (ev F G e sl h).bind fun y h => R.opt h ((binop o x y).map fun z => .nx (setS sl i z))
  | .app p e, sl, h => (ev F G e sl h).bind fun v h => (atP F G sl h p).bind fun q h =>
      R.opt h ((appOwn q.2 v).bind fun o => putP sl h p q.1 o) |>.bind fun r _ => .ok (.nx r.1) r.2
  | .ext p e, sl, h => (ev F G e sl h).bind fun v h => (atP F G sl h p).bind fun q h =>
      R.opt h ((extOwn q.2 v).bind fun o => putP sl h p q.1 o) |>.bind fun r _ => .ok (.nx r.1) r.2
  | .popt i p a, sl, h => (evOpt F G a sl h).bind fun v h => (atP F G sl h p).bind fun q h =>
      R.opt h ((popOwn q.2 v).bind fun o => (putP sl h p q.1 o.2).map fun r => (o.1, r)) |>.bind fun r _ => .ok (.nx (setS r.2.1 i r.1)) r.2.2
  | .apppop p q a, sl, h => (ev F G a sl h).bind fun v h => (atP F G sl h q).bind fun z h =>
      R.opt h ((popOwn z.2 (some v)).bind fun o => (putP sl h q z.1 o.2).map fun r => (o.1, r)) |>.bind fun r _ =>
        (atP F G r.2.1 r.2.2 p).bind fun z h => R.opt h ((appOwn z.2 r.1).bind fun o => putP r.2.1 h p z.1 o) |>.bind fun r _ => .ok (.nx r.1) r.2
  | .ret e, sl, h => (ev F G e sl h).bind fun d h => .ok (.ret d) h
  | .raise c, _, h => .ex c h
  | .ite c a b, sl, h => (ev F G c sl h).bind fun x h => (R.opt h (truth x)).bind fun t h => if t then xcs a sl h else xcs b sl h
  | .wh c b, sl, h => whR (fun sl h => (ev F G c sl h).bind fun x h => R.opt h (truth x)) (fun sl h => xcs b sl h) laps sl h
  | .for t it b, sl, h => (ev F G it sl h).bind fun x h => (R.opt h (items x)).bind fun ds h =>
      forR (fun d sl h => (R.opt h (setTg sl t d)).bind fun sl h => xcs b sl h) ds sl h
  | .brk, sl, h => .ok (.brk sl) h
  | .cont, sl, h => .ok (.cont sl) h
  | .pass, sl, h => .ok (.nx sl) h
  | .frz i, sl, h => R.opt h ((getO sl i).map fun o => .nx (setS sl i o.d))
def xcs : List S → Slots → AH → R Fl
  | [], sl, h => .ok (.nx sl) h
  | s :: ss, sl, h => (xc s sl h).bind fun x h => match x with
    | .nx sl => xcs ss sl h
    | x => .ok x h
end
end

/-- a function of the program: parameters, slots, body -/
structure Fn where
  np : Nat
  ns : Nat
  body : List S
def run1 (F : Fs) (G : Gl) (f : Fn) (ds : List D) (h : AH) : R D :=
  if ds.length = f.np then
    (xcs F G f.body (ds.map (fun d => some (.val d)) ++ List.replicate (f.ns - f.np) none) h).bind fun x h => match x with
      | .ret d => .ok d h
      | .nx _ => .ok .non h
      | _ => .bad
  else .bad
/-- calls within one another at most n deep -/
def runN (G : Gl) (T : List Fn) : Nat → Fs
  | 0 => fun _ _ _ => .bad
  | n + 1 => fun f ds h => match T[f]? with
    | some fn => run1 (runN G T n) G fn ds h
    | none => .bad
end Ev

end
section
set_option Elab.async false
set_option linter.all false
set_option maxRecDepth 100000
set_option maxHeartbeats 1000000
/-! Sd0: new tuples, known to the object (it has no dict). -/
namespace Sd
open PySem PySem.Spec L2
open PyProof.Rows hiding St
/-- a tuple without a dict stands at a -/
def TupN (K : PySem.W.Frag) (H : Hp) (a : Addr) (vs : List V) : Prop :=
  (∃ o, H a = some (.frz o (.tup vs)) ∧ o.dict = none) ∨ ∃ (o : Obj) (its : Array Value) (n : Nat), K.lookup a = some o ∧ o.cls = .type "tuple" ∧ o.dict = none ∧ o.data = .seq its n ∧ its.size ≤ sizeLine ∧ Vals vs its.toList
theorem TupN.sq {K : PySem.W.Frag} {H : Hp} {a : Addr} {vs : List V} (h : TupN K H a vs) : SqT K H a vs := by
  rcases h with ⟨o, h, _⟩ | ⟨o, its, n, h1, h2, _, h3, h4, h5⟩
  · exact .inl (.inr ⟨o, h⟩)
  · exact .inr ⟨o, its, n, h1, h2, h3, h4, h5⟩
section
variable {X : Cx} {pins : List (Addr × Obj)} {σ : L2.St} {H : Hp} {s : Shared} {Q : VK} {pos : Pos} {es : List Expr} {t : TA}
/-- a new tuple's end -/
def NewT (H : Hp) (Q : VK) (vs : List V) : Prop := ∀ p o, H p = none → o.dict = none → Q (.ref p) (upd H p (.frz o (.tup vs)))
theorem Inv.newT {its : List Value} {vs : List V} {tk : Nat} (I : Inv X pins σ H s) (r : Vals vs its) (hz : vs.length ≤ sizeLine) (q : NewT H Q vs) : EP X pins σ Q (.ref s.heap.objs.size) { s with heap := s.heap.push { cls := .type "tuple", data := .seq its.toArray }, toks := tk } :=
  ⟨.ref s.heap.objs.size, _, I.laid (o := .frz { cls := .type "tuple", data := .seq its.toArray } (.tup vs)) (fun b ob e => Heap.get?_push_of_some _ e) (Nat.le_refl _) ⟨Heap.get?_push_size _ rfl, hz, its, r, IsTup.new _ _⟩, rfl, q _ _ (I.hok.fresh (Nat.le_refl _)) rfl⟩
theorem pe_tupN {x1} (h : PA X es t) : PE X (.Tuple es x1 pos) (fun σ H Q => t σ H fun xs H1 => xs.length ≤ sizeLine ∧ NewT H1 Q xs) := by
  refine ⟨fun pins s σ H Q I hq => ?_⟩
  exact wpAny_Tuple_spliced (thn (h.run pos pins s σ H _ I hq) fun us s1 ⟨xs, H1, I1, r, z, q⟩ => ⟨by rw [← r.length]; exact z, Inv.newT (tk := s1.toks) I1 r z q⟩)
theorem op_catN : OpR X (binaryOp .Add) (fun x y H Q => ∃ a b xs ys, x = .ref a ∧ y = .ref b ∧ SqT X.K H a xs ∧ SqT X.K H b ys ∧ xs.length + ys.length ≤ sizeLine ∧
    (xs = [] → Q (.ref b) H) ∧ (xs ≠ [] → ys = [] → Q (.ref a) H) ∧ (xs ≠ [] → ys ≠ [] → NewT H Q (xs ++ ys))) := by
  intro pins s σ H x y v u Q I rx ry ⟨a, b, xs, ys, ex, ey, ha, hb, hz, q0, q1, q2⟩
  subst ex ey
  cases rx
  cases ry
  obtain ⟨its, r1, p1, _⟩ := I.tuple ha
  obtain ⟨its2, r2, p2, _⟩ := I.tuple hb
  by_cases hx : xs = []
  · subst hx
    cases r1
    exact L2.cat_tup0 p1 p2 ⟨.ref b, H, I, rfl, q0 rfl⟩
  · refine HT.cat_tup p1 p2 (fun z => hx (r1.nil_iff.mp z)) (fun z => ⟨.ref a, H, I, rfl, q1 hx (r2.nil_iff.mp z)⟩) (fun z => ?_) (by rw [← r1.length, ← r2.length]; exact hz)
    exact Inv.newT (tk := s.toks) I (r1.append r2) (by rw [List.length_append]; exact hz) (q2 hx fun w => z (r2.nil_iff.mpr w))
theorem sl_tupN : SlR X (fun x lo hi H Q => ∃ a xs, x = .ref a ∧ SqT X.K H a xs ∧
    (HT.sIx xs.length 0 lo = 0 ∧ HT.sIx xs.length xs.length hi = xs.length → Q (.ref a) H) ∧ (¬ (HT.sIx xs.length 0 lo = 0 ∧ HT.sIx xs.length xs.length hi = xs.length) → NewT H Q (cutV xs lo hi))) := by
  intro pins s σ H x v vl vu lo hi sl Q I rx hs pl pu ⟨a, xs, ex, hx, q1, q2⟩
  subst ex
  cases rx
  obtain ⟨its, r, ht, hz⟩ := I.tuple hx
  have hlen : its.toArray.size = xs.length := by rw [List.size_toArray]; exact r.length.symm
  refine ⟨"tuple", _, PyProof.Rows.slot_tuple_getitem.lookup, ht.typeIs, ?_⟩
  by_cases hw : HT.sIx xs.length 0 lo = 0 ∧ HT.sIx xs.length xs.length hi = xs.length
  · exact L2.getItem_tuple_whole ht hs pl pu (by rw [hlen]; exact hw) ⟨.ref a, H, I, rfl, q1 hw⟩
  · refine HT.getItem_tuple_cut ht hs pl pu (by rw [hlen]; exact hw) ?_ (by rw [hlen]; exact hz)
    rw [hlen]
    exact Inv.newT (tk := s.toks) I ((r.drop _).take _) (Nat.le_trans (cutV_length xs lo hi) hz) (q2 hw)
theorem call_tupleN : CallR X (.type "tuple") (fun xs H Q => ∃ p ys, xs = [.ref p] ∧ ((SqL X.K H p ys ∧ NewT H Q ys) ∨ (SqT X.K H p ys ∧ Q (.ref p) H))) := by
  intro pins s σ H xs us Q I r ⟨p, ys, ex, h⟩
  subst ex
  obtain ⟨u, rfl, rx⟩ := vals1 r
  cases rx
  rcases h with ⟨hq, q⟩ | ⟨hq, q⟩
  · obtain ⟨its, r', pl, hz⟩ := I.list hq
    have hlen := r'.length
    refine call_tuple_list pl.isList (fun h' kp => ?_) (by simp only [List.size_toArray] <;> omega)
    exact Inv.newT (tk := s.toks) (I.kept (t' := s.toks) kp) r' hz fun p o n d => q p o n d
  · exact call_tupleT pins s σ H _ _ Q I r ⟨p, ys, rfl, hq, q⟩
theorem pe_tupRgN {e : Expr} {te : L2.St → Hp → (Int → Int → Hp → Prop) → Prop} {p pos : Pos} (hc : X.calm = true) (hg : L2.Gl X "tuple") (hm : X.mg "tuple" = none) (he : PRg X e te) (na : starEach [e] X.env = (false, eval e X.env) :: starEach [] X.env) :
    PE X (.Call (.Name "tuple" p) [e] [] pos) (fun σ H Q => te σ H fun a b H1 => RgOk a b ∧ NewT H1 Q (rgV a b)) := by
  refine ⟨fun pins s σ H Q I h => ?_⟩
  refine Call_ (ld_blt I hg hm boot_tuple (PyProof.Rows.callWith_type1 (args_cons (thn (he pins s σ H _ I h) fun x s1 ⟨r, a, b, t, u, v, H1, ex, hr, I1, ok, q⟩ => args_nil ?_) na) na))
  subst ex
  obtain ⟨b1, b2, b3, b4, b5⟩ := ok
  refine call_tuple_range (n := (b - a).toNat) (I1.ok.hd hc) hr (small_one b1 b2 b3 b4) (rangeSize_nat a b) b5 fun h' tk acc hk hi => ?_
  have fin := Inv.newT (tk := tk) (s := { s1 with heap := h', toks := tk }) (its := acc.toList) (I1.kept hk) (vals_rg hi) (by rw [rgV_length, sizeLine_eq]; omega) q
  rw [Array.toArray_toList] at fin
  exact fin
theorem op_repN : OpR X (binaryOp .Mult) (fun x y H Q => ∃ l k xs, x = .ref l ∧ y = .int k ∧ SqT X.K H l xs ∧ xs ≠ [] ∧ 2 ≤ k ∧ k ≤ 1000 ∧ xs.length ≤ 1000 ∧ NewT H Q (List.replicate k.toNat xs).flatten) := by
  intro pins s σ H x y v u Q I rx ry ⟨l, k, xs, ex, ey, hT, hne, h1, h2, hz, q⟩
  subst ex ey
  cases rx
  obtain ⟨t, rfl⟩ := ry
  obtain ⟨its, r, ⟨⟨cls, dd, data, sl⟩, ho, hc, n, hd⟩, hs⟩ := I.tuple hT
  simp only at hc hd
  subst hc hd
  have hle : its.length = xs.length := r.length.symm
  have hi : its.toArray.isEmpty = false := by
    cases its with
    | nil =>
      cases xs with
      | nil => exact absurd rfl hne
      | cons _ _ => simp at hle
    | cons a b => rfl
  have hsz0 : its.toArray.size = xs.length := by rw [List.size_toArray, hle]
  have b0 : ((its.toArray.size : Nat) : Int) * k ≤ 1000000 := by
    have a1 : ((xs.length : Nat) : Int) * k ≤ 1000 * k := Int.mul_le_mul_of_nonneg_right (by omega) (by omega)
    rw [hsz0]
    omega
  have a2 : k.toNat * xs.length ≤ 1000 * 1000 := Nat.mul_le_mul (by omega) hz
  have k0 : (decide (k < -(2 ^ 63)) || decide (k ≥ 2 ^ 63)) = false := by
    rw [Bool.or_eq_false_iff]
    exact ⟨decide_eq_false (by omega), decide_eq_false (by omega)⟩
  have k1 : (its.toArray.isEmpty || k == 1) = false := by
    rw [hi, Bool.false_or]
    exact beq_eq_false_iff_ne.mpr (by omega)
  have k2 : (decide (k ≤ 0) || its.toArray.isEmpty) = false := by
    rw [Bool.or_eq_false_iff]
    exact ⟨decide_eq_false (by omega), hi⟩
  have k4 : Builtin.Tuple.tupleTooMany (((its.toArray.size : Nat) : Int) * k) = false := by
    unfold Builtin.Tuple.tupleTooMany
    rw [sizeLine_eq]
    exact decide_eq_false (by omega)
  have fz : (List.replicate k.toNat xs).flatten.length ≤ sizeLine := by
    rw [PyProof.Rows.lm_len_rep_flat, sizeLine_eq]
    omega
  have fl : (List.replicate k.toNat its).flatten.length ≤ sizeLine := by
    rw [PyProof.Rows.lm_len_rep_flat, hle, sizeLine_eq]
    omega
  refine wpAny_binaryOp_repeat_ref (T := "tuple") (U := "int") (by decide) ⟨_, ho, rfl⟩ (fun s' => typeIs_int s' k t) noFill_tuple_mul PySem.F.fills_int_mul PySem.F.slot_int_rmul repeat_tuple PySem.F.slot_int_index.lookup
    (call_meets PySem.F.slot_int_rmul (typeIs_int s k t) PySem.F.entry_int_rmul (PySem.F.args_int_rmul_2 _ _) (int_rmul_tuple k t l its.toArray n dd sl)
      ⟨ho, rfl, ⟨_, ho, rfl⟩, call_meets PySem.F.slot_tuple_mul ⟨_, ho, rfl⟩ PySem.F.entry_tuple_mul (PySem.F.args_tuple_mul_2 _ _) (tuple_mulW l its.toArray n dd sl k t k0 k1 k2 (by omega) k4 (by rw [size_rep, List.size_toArray]; exact fl)) ⟨ho, ?_⟩⟩)
  rw [size_rep]
  exact Inv.newT (tk := s.toks) I (r.rep k.toNat) fz q
end
end Sd

end
section
set_option Elab.async false
set_option linter.all false
set_option maxRecDepth 100000
set_option maxHeartbeats 1000000
/-! Sd1: what a datum stands for in the heap. -/
namespace Sd
open PySem PySem.Spec L2 Ev
open PyProof.Rows hiding St

/-- the program's constants: its text, the world, the written part, where its functions stand -/
structure Cn where
  P : Program
  w : World
  K : PySem.W.Frag
  fa : Nat → Option Addr

/-- a datum as a key -/
def nk : D → NestedKey
  | .bl b => .num (if b then 1 else 0)
  | .int i => .num i
  | .str x => .text x
  | .tup xs => .tup (nkL xs)
  | _ => .none
where
  nkL : List D → List NestedKey
    | [] => []
    | x :: xs => nk x :: nkL xs

abbrev Ent := NestedKey × Addr × Value
/-- a dict's own object: its keys are tuples -/
def RawD (P : Program) (w : World) (h : Heap) (a : Addr) (es : List Ent) : Prop :=
  es.length ≤ sizeLine ∧ (a == sysModules) = false ∧ ∃ o xs ep, h.get? a = some o ∧ o.ExactDict ∧ o.data = .dict xs ep ∧ xs.toList = es.map (entryOfKey (nestedKind P w)) ∧ (es.map (·.1)).Nodup
def dicO (C : Cn) (a : Addr) (es : List Ent) : HO := .ext fun h => RawD C.P C.w h a es

mutual
/-- d stands at v -/
inductive Rp (C : Cn) (ρ : List Addr) (H : Hp) : D → V → Prop
  | non : Rp C ρ H .non .non
  | bl (b : Bool) : Rp C ρ H (.bl b) (.bl b)
  | int (i : Int) : Rp C ρ H (.int i) (.int i)
  | str (x : Str) : Rp C ρ H (.str x) (.str x)
  | tup {a : Addr} {vs : List V} {xs : List D} : TupN C.K H a vs → RpL C ρ H xs vs → Rp C ρ H (.tup xs) (.ref a)
  | lst {a : Addr} {vs : List V} {xs : List D} : Rd H a (.lst vs) → RpL C ρ H xs vs → Rp C ρ H (.lst xs) (.ref a)
  | dicK {a : Addr} {o : Obj} {kvs : List (Key × V)} {ks vs : List D} : H a = some (.frz o (.dK kvs)) → RpK C ρ H ks vs kvs → Rp C ρ H (.dic ks vs) (.ref a)
  | dicT {a : Addr} {o : Obj} {es : List Ent} {ks vs : List D} : H a = some (.frz o (dicO C a es)) → RpE C ρ H ks vs es → Rp C ρ H (.dic ks vs) (.ref a)
  | ref {n : Nat} {a : Addr} : ρ[n]? = some a → Rp C ρ H (.ref n) (.ref a)
  | fn {k : Nat} {a : Addr} : C.fa k = some a → Rp C ρ H (.fn k) (.ref a)
  | scr {a : Addr} {vs : List V} {xs : List D} : SqL C.K H a vs → RpL C ρ H xs vs → Rp C ρ H (.scr xs) (.ref a)
inductive RpL (C : Cn) (ρ : List Addr) (H : Hp) : List D → List V → Prop
  | nil : RpL C ρ H [] []
  | cons {d : D} {v : V} {ds : List D} {vs : List V} : Rp C ρ H d v → RpL C ρ H ds vs → RpL C ρ H (d :: ds) (v :: vs)
inductive RpK (C : Cn) (ρ : List Addr) (H : Hp) : List D → List D → List (Key × V) → Prop
  | nil : RpK C ρ H [] [] []
  | int {i : Int} {d : D} {v : V} {ks ds : List D} {kvs : List (Key × V)} : Rp C ρ H d v → RpK C ρ H ks ds kvs → RpK C ρ H (.int i :: ks) (d :: ds) ((Sum.inl i, v) :: kvs)
  | str {x : Str} {d : D} {v : V} {ks ds : List D} {kvs : List (Key × V)} : Rp C ρ H d v → RpK C ρ H ks ds kvs → RpK C ρ H (.str x :: ks) (d :: ds) ((Sum.inr x, v) :: kvs)
inductive RpE (C : Cn) (ρ : List Addr) (H : Hp) : List D → List D → List Ent → Prop
  | nil : RpE C ρ H [] [] []
  | cons {xs : List D} {a : Addr} {d : D} {v : V} {u : Value} {ks ds : List D} {es : List Ent} : Rp C ρ H (.tup xs) (.ref a) → okK (.tup xs) = true → Rp C ρ H d v → RelV v u → RpE C ρ H ks ds es → RpE C ρ H (.tup xs :: ks) (d :: ds) ((nk (.tup xs), a, u) :: es)
end

/-- H lies in H' -/
def Sub (H H' : Hp) : Prop := ∀ a o, H a = some o → H' a = some o
def Pre (ρ ρ' : List Addr) : Prop := ∀ (n : Nat) (a : Addr), ρ[n]? = some a → ρ'[n]? = some a
theorem Sub.refl {H : Hp} : Sub H H := fun _ _ e => e
theorem Sub.trans {H H1 H2 : Hp} (a : Sub H H1) (b : Sub H1 H2) : Sub H H2 := fun x o e => b x o (a x o e)
theorem Pre.refl {ρ : List Addr} : Pre ρ ρ := fun _ _ e => e
theorem Pre.trans {ρ ρ1 ρ2 : List Addr} (a : Pre ρ ρ1) (b : Pre ρ1 ρ2) : Pre ρ ρ2 := fun n x e => b n x (a n x e)
theorem Sub.upd {H : Hp} {a : Addr} {o : HO} (n : H a = none) : Sub H (upd H a o) := fun b u e => by rw [upd_ne (ne_of_none e n)]; exact e
theorem Pre.app {ρ : List Addr} (l : List Addr) : Pre ρ (ρ ++ l) := fun n a e => by
  rw [List.getElem?_append_left (List.getElem?_eq_some_iff.mp e).1]; exact e
theorem Rd.sub {H H' : Hp} {a : Addr} {u : HO} (s : Sub H H') (r : Rd H a u) : Rd H' a u := by
  rcases r with r | ⟨o, r⟩
  · exact .inl (s _ _ r)
  · exact .inr ⟨o, s _ _ r⟩
theorem SqT.sub {K : PySem.W.Frag} {H H' : Hp} {a : Addr} {vs : List V} (s : Sub H H') (h : SqT K H a vs) : SqT K H' a vs := h.imp (Rd.sub s) id
theorem TupN.sub {K : PySem.W.Frag} {H H' : Hp} {a : Addr} {vs : List V} (s : Sub H H') (h : TupN K H a vs) : TupN K H' a vs := h.imp (fun ⟨o, e, d⟩ => ⟨o, s _ _ e, d⟩) id
theorem SqL.sub {K : PySem.W.Frag} {H H' : Hp} {a : Addr} {vs : List V} (s : Sub H H') (h : SqL K H a vs) : SqL K H' a vs := h.imp (Rd.sub s) id

section
variable {C : Cn} {ρ ρ' : List Addr} {H H' : Hp}
mutual
theorem Rp.mono (s : Sub H H') (p : Pre ρ ρ') : ∀ {d : D} {v : V}, Rp C ρ H d v → Rp C ρ' H' d v
  | _, _, .non => .non
  | _, _, .bl b => .bl b
  | _, _, .int i => .int i
  | _, _, .str x => .str x
  | _, _, .tup h1 h2 => .tup (TupN.sub s h1) (RpL.mono s p h2)
  | _, _, .lst h1 h2 => .lst (Rd.sub s h1) (RpL.mono s p h2)
  | _, _, .dicK h1 h2 => .dicK (s _ _ h1) (RpK.mono s p h2)
  | _, _, .dicT h1 h2 => .dicT (s _ _ h1) (RpE.mono s p h2)
  | _, _, .ref h => .ref (p _ _ h)
  | _, _, .fn h => .fn h
  | _, _, .scr h1 h2 => .scr (SqL.sub s h1) (RpL.mono s p h2)
theorem RpL.mono (s : Sub H H') (p : Pre ρ ρ') : ∀ {d : List D} {v : List V}, RpL C ρ H d v → RpL C ρ' H' d v
  | _, _, .nil => .nil
  | _, _, .cons h1 h2 => .cons (Rp.mono s p h1) (RpL.mono s p h2)
theorem RpK.mono (s : Sub H H') (p : Pre ρ ρ') : ∀ {d e : List D} {v : List (Key × V)}, RpK C ρ H d e v → RpK C ρ' H' d e v
  | _, _, _, .nil => .nil
  | _, _, _, .int h1 h2 => .int (Rp.mono s p h1) (RpK.mono s p h2)
  | _, _, _, .str h1 h2 => .str (Rp.mono s p h1) (RpK.mono s p h2)
theorem RpE.mono (s : Sub H H') (p : Pre ρ ρ') : ∀ {d e : List D} {v : List Ent}, RpE C ρ H d e v → RpE C ρ' H' d e v
  | _, _, _, .nil => .nil
  | _, _, _, .cons h1 h2 h3 h4 h5 => .cons (Rp.mono s p h1) h2 (Rp.mono s p h3) h4 (RpE.mono s p h5)
end
theorem RpL.length : ∀ {d : List D} {v : List V}, RpL C ρ H d v → d.length = v.length
  | _, _, .nil => rfl
  | _, _, .cons _ h2 => by simp [RpL.length h2]
theorem RpL.get : ∀ {ds : List D} {vs : List V} {i : Nat} {d : D}, RpL C ρ H ds vs → ds[i]? = some d → ∃ v, vs[i]? = some v ∧ Rp C ρ H d v
  | _, _, 0, _, .cons h _, e => by
    have e : _ = _ := Option.some.inj e
    subst e
    exact ⟨_, rfl, h⟩
  | _, _, i + 1, _, .cons _ t, e => by
    obtain ⟨v, e1, h⟩ := RpL.get (i := i) t (by simpa using e)
    exact ⟨v, by simpa using e1, h⟩
  | _, _, 0, _, .nil, e => by cases e
  | _, _, _ + 1, _, .nil, e => by cases e
theorem RpL.getV : ∀ {ds : List D} {vs : List V} {i : Nat} {v : V}, RpL C ρ H ds vs → vs[i]? = some v → ∃ d, ds[i]? = some d ∧ Rp C ρ H d v
  | _, _, 0, _, .cons h _, e => by
    have e : _ = _ := Option.some.inj e
    subst e
    exact ⟨_, rfl, h⟩
  | _, _, i + 1, _, .cons _ t, e => by
    obtain ⟨v, e1, h⟩ := RpL.getV (i := i) t (by simpa using e)
    exact ⟨v, by simpa using e1, h⟩
  | _, _, 0, _, .nil, e => by cases e
  | _, _, _ + 1, _, .nil, e => by cases e
theorem RpL.append : ∀ {d1 d2 : List D} {v1 v2 : List V}, RpL C ρ H d1 v1 → RpL C ρ H d2 v2 → RpL C ρ H (d1 ++ d2) (v1 ++ v2)
  | _, _, _, _, .nil, h => h
  | _, _, _, _, .cons h t, k => .cons h (RpL.append t k)
theorem RpL.take : ∀ {d : List D} {v : List V} (n : Nat), RpL C ρ H d v → RpL C ρ H (d.take n) (v.take n)
  | _, _, 0, _ => .nil
  | _, _, _ + 1, .nil => .nil
  | _, _, n + 1, .cons h t => .cons h (RpL.take n t)
theorem RpL.drop : ∀ {d : List D} {v : List V} (n : Nat), RpL C ρ H d v → RpL C ρ H (d.drop n) (v.drop n)
  | _, _, 0, h => h
  | _, _, _ + 1, .nil => .nil
  | _, _, n + 1, .cons _ t => RpL.drop n t
theorem RpL.set {x : D} {y : V} (r : Rp C ρ H x y) : ∀ {d : List D} {v : List V} (n : Nat), RpL C ρ H d v → RpL C ρ H (d.set n x) (v.set n y)
  | _, _, _, .nil => .nil
  | _, _, 0, .cons _ t => .cons r t
  | _, _, n + 1, .cons h t => .cons h (RpL.set r n t)
theorem RpL.eraseIdx : ∀ {d : List D} {v : List V} (n : Nat), RpL C ρ H d v → RpL C ρ H (d.eraseIdx n) (v.eraseIdx n)
  | _, _, _, .nil => .nil
  | _, _, 0, .cons _ t => t
  | _, _, n + 1, .cons h t => .cons h (RpL.eraseIdx n t)
theorem RpL.dropLast : ∀ {d : List D} {v : List V}, RpL C ρ H d v → RpL C ρ H d.dropLast v.dropLast
  | _, _, .nil => .nil
  | _, _, .cons _ .nil => .nil
  | _, _, .cons h (.cons h' t) => .cons h (RpL.dropLast (.cons h' t))
theorem RpL.rev : ∀ {d : List D} {v : List V}, RpL C ρ H d v → RpL C ρ H d.reverse v.reverse
  | _, _, .nil => .nil
  | _, _, .cons h t => by
    rw [List.reverse_cons, List.reverse_cons]
    exact (RpL.rev t).append (.cons h .nil)
theorem RpL.rep {d : List D} {v : List V} (h : RpL C ρ H d v) : ∀ n : Nat, RpL C ρ H (List.replicate n d).flatten (List.replicate n v).flatten
  | 0 => .nil
  | n + 1 => by
    rw [List.replicate_succ, List.replicate_succ, List.flatten_cons, List.flatten_cons]
    exact h.append (RpL.rep h n)
theorem RpE.length : ∀ {ks ds : List D} {es : List Ent}, RpE C ρ H ks ds es → ks.length = es.length ∧ ds.length = es.length
  | _, _, _, .nil => ⟨rfl, rfl⟩
  | _, _, _, .cons _ _ _ _ t => by
    obtain ⟨h1, h2⟩ := RpE.length t
    exact ⟨by simp [h1], by simp [h2]⟩
theorem RpK.length : ∀ {ks ds : List D} {kvs : List (Key × V)}, RpK C ρ H ks ds kvs → ks.length = kvs.length ∧ ds.length = kvs.length
  | _, _, _, .nil => ⟨rfl, rfl⟩
  | _, _, _, .int _ t => by
    obtain ⟨h1, h2⟩ := RpK.length t
    exact ⟨by simp [h1], by simp [h2]⟩
  | _, _, _, .str _ t => by
    obtain ⟨h1, h2⟩ := RpK.length t
    exact ⟨by simp [h1], by simp [h2]⟩
end

/-! ### plain data as the library's data -/
def py : D → PyData
  | .bl b => .bool b
  | .int i => .int i
  | .str x => .str x
  | .tup xs => .tuple (pyL xs)
  | .lst xs => .list (pyL xs)
  | _ => .none
where
  pyL : List D → List PyData
    | [] => []
    | x :: xs => py x :: pyL xs
theorem pyL_map : ∀ xs : List D, py.pyL xs = xs.map py
  | [] => rfl
  | x :: xs => by rw [py.pyL, pyL_map xs]; rfl
mutual
theorem eqv_py : ∀ (n m : Nat) (x y : D), okD n x = true → okD m y = true → PyData.eqv (py x) (py y) = eqv x y
  | n, m, x, y, hx, hy => by
    cases x <;> cases y <;> first
      | rfl
      | (simp [py, eqv, PyData.eqv]; done)
      | (cases n <;> simp [okD] at hx; done)
      | (cases m <;> simp [okD] at hy; done)
      | skip
    all_goals
      cases n with
      | zero => simp [okD] at hx
      | succ n =>
        cases m with
        | zero => simp [okD] at hy
        | succ m =>
          simp only [okD] at hx hy
          simp only [py, eqv, PyData.eqv]
          exact eqvL_py n m _ _ hx hy
theorem eqvL_py : ∀ (n m : Nat) (xs ys : List D), okL n xs = true → okL m ys = true → PyData.eqvAll (py.pyL xs) (py.pyL ys) = eqvL xs ys
  | _, _, [], [], _, _ => by simp [py.pyL, eqvL, PyData.eqvAll]
  | _, _, [], _ :: _, _, _ => by simp [py.pyL, eqvL, PyData.eqvAll]
  | _, _, _ :: _, [], _, _ => by simp [py.pyL, eqvL, PyData.eqvAll]
  | n, m, x :: xs, y :: ys, hx, hy => by
    simp only [okL, Bool.and_eq_true] at hx hy
    simp only [py.pyL, eqvL, PyData.eqvAll]
    rw [eqv_py n m x y hx.1 hy.1, eqvL_py n m xs ys hx.2 hy.2]
end
mutual
theorem ok_lay : ∀ (n : Nat) (x : D), okD n x = true → (py x).canLay0 = true ∧ (py x).depth ≤ n
  | n, x, h => by
    cases x with
    | non => simp [py, PyData.canLay0, PyData.depth]
    | bl b => simp [py, PyData.canLay0, PyData.depth]
    | int i => simp [py, PyData.canLay0, PyData.depth]
    | str z =>
      simp only [okD] at h
      refine ⟨?_, by simp [py, PyData.depth]⟩
      simp only [py, PyData.canLay0, PyData.strOk]
      rw [Array.all_eq_true] at h ⊢
      intro i hi
      have := of_decide_eq_true (h i hi)
      exact decide_eq_true (by omega)
    | tup xs =>
      cases n with
      | zero => simp [okD] at h
      | succ n =>
        simp only [okD] at h
        obtain ⟨h1, h2⟩ := okL_lay n xs h
        exact ⟨by simpa [py, PyData.canLay0] using h1, by simp only [py, PyData.depth]; omega⟩
    | lst xs =>
      cases n with
      | zero => simp [okD] at h
      | succ n =>
        simp only [okD] at h
        obtain ⟨h1, h2⟩ := okL_lay n xs h
        exact ⟨by simpa [py, PyData.canLay0] using h1, by simp only [py, PyData.depth]; omega⟩
    | dic _ _ => cases n <;> simp [okD] at h
    | ref _ => cases n <;> simp [okD] at h
    | fn _ => cases n <;> simp [okD] at h
    | exc _ => cases n <;> simp [okD] at h
    | scr _ => cases n <;> simp [okD] at h
theorem okL_lay : ∀ (n : Nat) (xs : List D), okL n xs = true → PyData.canLayAll0 (py.pyL xs) = true ∧ PyData.depthAll (py.pyL xs) ≤ n
  | _, [], _ => by simp [py.pyL, PyData.canLayAll0, PyData.depthAll]
  | n, x :: xs, h => by
    simp only [okL, Bool.and_eq_true] at h
    obtain ⟨a1, a2⟩ := ok_lay n x h.1
    obtain ⟨b1, b2⟩ := okL_lay n xs h.2
    simp only [py.pyL, PyData.canLayAll0, PyData.depthAll, a1, b1, Bool.and_self, true_and]
    omega
end
section
variable {C : Cn} {ρ : List Addr} {H : Hp}
mutual
theorem Rp.dp : ∀ (n : Nat) (d : D) (v : V), okD n d = true → Rp C ρ H d v → Dp C.K H v (py d)
  | _, _, _, _, .non => .non
  | _, _, _, _, .bl b => .bl b
  | _, _, _, _, .int i => .int i
  | _, _, _, _, .str x => .str x
  | n, .tup xs, _, ok, .tup h1 h2 => by
    cases n with
    | zero => simp [okD] at ok
    | succ n =>
      simp only [okD] at ok
      exact .tup h1.sq (RpL.dp n xs _ ok h2)
  | n, .lst xs, _, ok, .lst h1 h2 => by
    cases n with
    | zero => simp [okD] at ok
    | succ n =>
      simp only [okD] at ok
      exact .lst (.inl h1) (RpL.dp n xs _ ok h2)
  | n, .dic _ _, _, ok, _ => by cases n <;> simp [okD] at ok
  | n, .ref _, _, ok, _ => by cases n <;> simp [okD] at ok
  | n, .fn _, _, ok, _ => by cases n <;> simp [okD] at ok
  | n, .scr _, _, ok, _ => by cases n <;> simp [okD] at ok
theorem RpL.dp : ∀ (n : Nat) (ds : List D) (vs : List V), okL n ds = true → RpL C ρ H ds vs → DpAll C.K H vs (py.pyL ds)
  | _, _, _, _, .nil => .nil
  | n, d :: ds, _, ok, .cons h1 h2 => by
    simp only [okL, Bool.and_eq_true] at ok
    exact .cons (Rp.dp n d _ ok.1 h1) (RpL.dp n ds _ ok.2 h2)
end
theorem shaped_of {d : D} (ok : okD deep d = true) : SeqAt.shaped (py d) = true := by
  obtain ⟨h1, h2⟩ := ok_lay deep d ok
  show ((py d).canLay0 && decide ((py d).depth ≤ 64)) = true
  rw [h1, Bool.true_and]
  exact decide_eq_true (Nat.le_trans h2 (by decide))
end
end Sd

end
section
set_option Elab.async false
set_option linter.all false
set_option maxRecDepth 100000
set_option maxHeartbeats 1000000
/-! Sd2: the state that the evaluator tells of, and the state of the machine; readings of expressions. -/
namespace Sd
open PySem PySem.Spec L2 Ev
open PyProof.Rows hiding St

theorem PE.imp {X : Cx} {e : Expr} {t t' : TE} (h : PE X e t) (w : ∀ σ H Q, t' σ H Q → t σ H Q) : PE X e t' := ⟨fun pins s σ H Q I q => h.run pins s σ H Q I (w σ H Q q)⟩
theorem PT.imp {X : Cx} {e : Expr} {t t' : TT} (h : PT X e t) (w : ∀ σ H Q, t' σ H Q → t σ H Q) : PT X e t' := ⟨fun pins s σ H Q I q => h.run pins s σ H Q I (w σ H Q q)⟩
theorem PA.imp {X : Cx} {e : List Expr} {t t' : TA} (h : PA X e t) (w : ∀ σ H Q, t' σ H Q → t σ H Q) : PA X e t' := ⟨fun pos pins s σ H Q I q => h.run pos pins s σ H Q I (w σ H Q q)⟩
theorem PS.imp {X : Cx} {e : Stmt} {t t' : TS} (h : PS X e t) (w : ∀ D σ H, t' D σ H → t D σ H) : PS X e t' := ⟨fun pins s σ H D I q => h.run pins s σ H D I (w D σ H q)⟩
theorem PSs.imp {X : Cx} {e : List Stmt} {t t' : TS} (h : PSs X e t) (w : ∀ D σ H, t' D σ H → t D σ H) : PSs X e t' := ⟨fun pins s σ H D I q => h.run pins s σ H D I (w D σ H q)⟩

/-- a container stands at a -/
def OwnAt (C : Cn) (ρ : List Addr) (FR H : Hp) : Own → Addr → Prop
  | .lst xs, a => ∃ vs, H a = some (.lst vs) ∧ RpL C ρ FR xs vs
  | .dic ks ds, a => (∃ kvs, H a = some (.dK kvs) ∧ RpK C ρ FR ks ds kvs) ∨ ∃ es, H a = some (dicO C a es) ∧ RpE C ρ FR ks ds es
structure RelH (C : Cn) (ρ : List Addr) (FR : Hp) (ah : AH) (H : Hp) : Prop where
  sub : Sub FR H
  len : ρ.length = ah.length
  nd : ρ.Nodup
  live : ∀ a, a ∈ ρ → FR a = none ∧ ∃ o, H a = some o
  box : ∀ (n : Nat) o, ah[n]? = some (.box o) → ∃ a, ρ[n]? = some a ∧ OwnAt C ρ FR H o a
structure Rel (C : Cn) (ρ : List Addr) (FR : Hp) (sl : Slots) (ah : AH) (σ : St) (H : Hp) : Prop extends RelH C ρ FR ah H where
  slen : sl.length = σ.length
  val : ∀ (i : Nat) d, sl[i]? = some (some (.val d)) → ∃ v, σ[i]? = some (some v) ∧ Rp C ρ FR d v
  own : ∀ (i : Nat) o, sl[i]? = some (some (.own o)) → ∃ a, σ[i]? = some (some (.ref a)) ∧ OwnAt C ρ FR H o a ∧ FR a = none ∧ a ∉ ρ
  dist : ∀ (i j : Nat) o o' a, i ≠ j → sl[i]? = some (some (.own o)) → sl[j]? = some (some (.own o')) → σ[i]? = some (some (.ref a)) → σ[j]? ≠ some (some (.ref a))
/-- from one state to a later one: boxes may have changed, the rest stands -/
structure Ext (ρ : List Addr) (FR H : Hp) (ρ' : List Addr) (FR' H' : Hp) : Prop where
  pre : Pre ρ ρ'
  fr : Sub FR FR'
  keep : ∀ a o, H a = some o → a ∉ ρ → H' a = some o
  there : ∀ a o, H a = some o → ∃ o', H' a = some o'
  nρ : ∀ a, a ∈ ρ' → a ∈ ρ ∨ H a = none
  nF : ∀ a o, FR' a = some o → FR a = some o ∨ H a = none

section
variable {C : Cn} {ρ ρ1 ρ2 : List Addr} {FR FR1 FR2 H H1 H2 : Hp} {ah ah1 : AH} {sl : Slots} {σ : St}
theorem Ext.refl : Ext ρ FR H ρ FR H := ⟨Pre.refl, Sub.refl, fun _ _ e _ => e, fun _ o e => ⟨o, e⟩, fun _ h => .inl h, fun _ _ e => .inl e⟩
theorem none_of {H H' : Hp} (t : ∀ a o, H a = some o → ∃ o', H' a = some o') {a : Addr} (n : H' a = none) : H a = none := by
  cases e : H a with
  | none => rfl
  | some o =>
    obtain ⟨o', e'⟩ := t a o e
    rw [n] at e'; cases e'
theorem Ext.trans (x : Ext ρ FR H ρ1 FR1 H1) (y : Ext ρ1 FR1 H1 ρ2 FR2 H2) : Ext ρ FR H ρ2 FR2 H2 where
  pre := x.pre.trans y.pre
  fr := x.fr.trans y.fr
  keep := fun a o e n => y.keep a o (x.keep a o e n) fun m => by
    rcases x.nρ a m with z | z
    · exact n z
    · rw [z] at e; cases e
  there := fun a o e => by
    obtain ⟨o1, e1⟩ := x.there a o e
    exact y.there a o1 e1
  nρ := fun a m => by
    rcases y.nρ a m with z | z
    · exact x.nρ a z
    · exact .inr (none_of x.there z)
  nF := fun a o e => by
    rcases y.nF a o e with z | z
    · exact x.nF a o z
    · exact .inr (none_of x.there z)
theorem RpL.monoF (x : Ext ρ FR H ρ1 FR1 H1) {xs : List D} {vs : List V} (h : RpL C ρ FR xs vs) : RpL C ρ1 FR1 xs vs := RpL.mono x.fr x.pre h
/-- a container that has not changed -/
theorem OwnAt.stay {o : Own} {a : Addr} (h : OwnAt C ρ FR H o a) (p : Pre ρ ρ1) (f : Sub FR FR1) (k : ∀ u, H a = some u → H1 a = some u) : OwnAt C ρ1 FR1 H1 o a := by
  cases o with
  | lst xs =>
    obtain ⟨vs, e, r⟩ := h
    exact ⟨vs, k _ e, RpL.mono f p r⟩
  | dic ks ds =>
    rcases h with ⟨kvs, e, r⟩ | ⟨es, e, r⟩
    · exact .inl ⟨kvs, k _ e, RpK.mono f p r⟩
    · exact .inr ⟨es, k _ e, RpE.mono f p r⟩
theorem OwnAt.there {o : Own} {a : Addr} (h : OwnAt C ρ FR H o a) : ∃ u, H a = some u := by
  cases o with
  | lst xs =>
    obtain ⟨vs, e, _⟩ := h
    exact ⟨_, e⟩
  | dic ks ds =>
    rcases h with ⟨kvs, e, _⟩ | ⟨es, e, _⟩
    · exact ⟨_, e⟩
    · exact ⟨_, e⟩
/-- behind an expression: the slots stand -/
theorem Rel.ext (r : Rel C ρ FR sl ah σ H) (x : Ext ρ FR H ρ1 FR1 H1) (h : RelH C ρ1 FR1 ah1 H1) : Rel C ρ1 FR1 sl ah1 σ H1 where
  toRelH := h
  slen := r.slen
  val := fun i d e => by
    obtain ⟨v, e1, q⟩ := r.val i d e
    exact ⟨v, e1, Rp.mono x.fr x.pre q⟩
  own := fun i o e => by
    obtain ⟨a, e1, q, n, m⟩ := r.own i o e
    obtain ⟨u, hu⟩ := q.there
    refine ⟨a, e1, q.stay x.pre x.fr fun u hu => x.keep a u hu m, ?_, fun z => ?_⟩
    · cases e2 : FR1 a with
      | none => rfl
      | some u' =>
        rcases x.nF a u' e2 with z | z
        · rw [n] at z; cases z
        · rw [hu] at z; cases z
    · rcases x.nρ a z with z | z
      · exact m z
      · rw [hu] at z; cases z
  dist := r.dist

/-! ### what is wanted behind an expression -/
abbrev Ph := List Addr → Hp → Hp → D → V → Prop
/-- behind an evaluation: φ of where the datum stands -/
def Pst (C : Cn) (ρ : List Addr) (FR H : Hp) (φ : AH → Ph) (Q : VK) : R D → Prop
  | .ok d ah' => ∀ ρ' FR' H' v, Ext ρ FR H ρ' FR' H' → RelH C ρ' FR' ah' H' → φ ah' ρ' FR' H' d v → Q v H'
  | _ => False
/-- frozen: for good -/
def fz (C : Cn) : AH → Ph := fun _ ρ FR _ d v => Rp C ρ FR d v
/-- seen: for good, or a container as it stands now -/
def seen (C : Cn) (ρ : List Addr) (FR H : Hp) (d : D) (v : V) : Prop := Rp C ρ FR d v ∨ ∃ o a, d = o.d ∧ v = .ref a ∧ OwnAt C ρ FR H o a
/-- new: a container that nobody else holds; else for good -/
def Rn (C : Cn) (H : Hp) : AH → Ph := fun _ ρ' FR' H' d v => match d.own? with
  | some o => ∃ a, v = .ref a ∧ H a = none ∧ FR' a = none ∧ a ∉ ρ' ∧ OwnAt C ρ' FR' H' o a
  | none => Rp C ρ' FR' d v
/-- of a slot -/
def lookS (C : Cn) (sl : Slots) (σ : St) : AH → Ph := fun _ ρ' FR' _ d v => Rp C ρ' FR' d v ∨ ∃ (i : Nat) (o : Own), sl[i]? = some (some (.own o)) ∧ d = o.d ∧ σ[i]? = some (some v)
/-- of a slot or a box -/
def lookB (C : Cn) (sl : Slots) (σ : St) : AH → Ph := fun ah' ρ' FR' H' d v => lookS C sl σ ah' ρ' FR' H' d v ∨ ∃ (n : Nat) (o : Own) (a : Addr), ah'[n]? = some (.box o) ∧ ρ'[n]? = some a ∧ d = o.d ∧ v = .ref a
def Tx (C : Cn) (φ : Hp → Slots → St → AH → Ph) (r : Slots → AH → R D) : TE := fun σ H Q => ∃ ρ FR sl ah, Rel C ρ FR sl ah σ H ∧ Pst C ρ FR H (φ H sl σ) Q (r sl ah)
abbrev TF (C : Cn) := Tx C fun _ _ _ => fz C
abbrev TN (C : Cn) := Tx C fun H _ _ => Rn C H
abbrev TL (C : Cn) := Tx C fun _ sl σ => lookS C sl σ
abbrev TB (C : Cn) := Tx C fun _ sl σ => lookB C sl σ

theorem Pst.imp {φ ψ : AH → Ph} {Q : VK} {r : R D} (h : Pst C ρ FR H φ Q r) (w : ∀ ah' ρ' FR' H' d v, ψ ah' ρ' FR' H' d v → φ ah' ρ' FR' H' d v) : Pst C ρ FR H ψ Q r := by
  cases r with
  | ok d ah' => exact fun ρ' FR' H' v x rh q => h ρ' FR' H' v x rh (w _ _ _ _ _ _ q)
  | ex _ _ => exact h
  | bad => exact h
theorem own_d : ∀ {d : D} {o : Own}, d.own? = some o → d = o.d
  | .lst _, _, h => by cases h; rfl
  | .dic _ _, _, h => by cases h; rfl
  | .non, _, h => by cases h
  | .bl _, _, h => by cases h
  | .int _, _, h => by cases h
  | .str _, _, h => by cases h
  | .tup _, _, h => by cases h
  | .ref _, _, h => by cases h
  | .fn _, _, h => by cases h
  | .exc _, _, h => by cases h
  | .scr _, _, h => by cases h
theorem d_own (o : Own) : o.d.own? = some o := by cases o <;> rfl
/-- a new container is frozen -/
theorem freeze {X : Cx} {pins : List (Addr × Obj)} {s : Shared} {o : Own} {a : Addr} (I : Inv X pins σ H1 s) (rh : RelH C ρ1 FR1 ah H1) (n : FR1 a = none) (m : a ∉ ρ1) (w : OwnAt C ρ1 FR1 H1 o a) :
    ∃ FR2 H2, Inv X pins σ H2 s ∧ Sub FR1 FR2 ∧ (∀ b u, FR2 b = some u → FR1 b = some u ∨ b = a) ∧ RelH C ρ1 FR2 ah H2 ∧ Rp C ρ1 FR2 o.d (.ref a) ∧ (∀ b, b ≠ a → H2 b = H1 b) ∧ ∃ u, H2 a = some u := by
  have go : ∀ (u : HO) (H2 : Hp), Inv X pins σ H2 s → H2 a = some u → (∀ b, b ≠ a → H2 b = H1 b) → (∀ FR2, Sub FR1 FR2 → FR2 a = some u → Rp C ρ1 FR2 o.d (.ref a)) →
      ∃ FR2 H2, Inv X pins σ H2 s ∧ Sub FR1 FR2 ∧ (∀ b u, FR2 b = some u → FR1 b = some u ∨ b = a) ∧ RelH C ρ1 FR2 ah H2 ∧ Rp C ρ1 FR2 o.d (.ref a) ∧ (∀ b, b ≠ a → H2 b = H1 b) ∧ ∃ u, H2 a = some u := by
    intro u H2 I2 hu hne hrp
    have sb : Sub FR1 (upd FR1 a u) := Sub.upd n
    refine ⟨upd FR1 a u, H2, I2, sb, fun b z e => ?_, ⟨fun b z e => ?_, rh.len, rh.nd, fun b hb => ?_, fun k q e => ?_⟩, hrp _ sb upd_same, hne, u, hu⟩
    · by_cases hb : b = a
      · exact .inr hb
      · rw [upd_ne hb] at e; exact .inl e
    · by_cases hb : b = a
      · subst hb; rw [upd_same] at e; cases e; exact hu
      · rw [upd_ne hb] at e
        rw [hne b hb]
        exact rh.sub b z e
    · have hba : b ≠ a := fun z => m (z ▸ hb)
      rw [upd_ne hba, hne b hba]
      exact rh.live b hb
    · obtain ⟨b, e1, e2⟩ := rh.box k q e
      have hba : b ≠ a := fun z => m (z ▸ List.mem_of_getElem? e1)
      exact ⟨b, e1, e2.stay Pre.refl sb fun v z => by rw [hne b hba]; exact z⟩
  cases o with
  | lst xs =>
    obtain ⟨vs, e, r⟩ := w
    exact go _ H1 I e (fun _ _ => rfl) fun FR2 s e2 => .lst (Rd.of e2) (RpL.mono s Pre.refl r)
  | dic ks ds =>
    rcases w with ⟨kvs, e, r⟩ | ⟨es, e, r⟩
    · obtain ⟨od, I2⟩ := I.lock e trivial
      exact go _ _ I2 upd_same (fun b hb => upd_ne hb) fun FR2 s e2 => .dicK e2 (RpK.mono s Pre.refl r)
    · obtain ⟨od, I2⟩ := I.lock e trivial
      exact go _ _ I2 upd_same (fun b hb => upd_ne hb) fun FR2 s e2 => .dicT e2 (RpE.mono s Pre.refl r)
theorem PE.ofNew {X : Cx} {e : Expr} {r : Slots → AH → R D} (h : PE X e (TN C r)) : PE X e (TF C r) := by
  refine ⟨fun pins s σ H Q I q => ?_⟩
  obtain ⟨ρ, FR, sl, ah, rel, q⟩ := q
  cases hr : r sl ah with
  | ok d ah' =>
    rw [hr] at q
    refine thn (h.run pins s σ H (fun v H' => ∃ ρ' FR', Ext ρ FR H ρ' FR' H' ∧ RelH C ρ' FR' ah' H' ∧ Rn C H ah' ρ' FR' H' d v) I ⟨ρ, FR, sl, ah, rel, by rw [hr]; exact fun ρ' FR' H' v x rh w => ⟨ρ', FR', x, rh, w⟩⟩) fun u s1 ⟨v, H', I1, r1, ρ', FR', x, rh, w⟩ => ?_
    unfold Rn at w
    cases ho : d.own? with
    | none =>
      rw [ho] at w
      exact ⟨v, H', I1, r1, q ρ' FR' H' v x rh w⟩
    | some o =>
      rw [ho] at w
      obtain ⟨a, rfl, n, nf, m, w⟩ := w
      obtain ⟨FR2, H2, I2, sb, nn, rh2, p, hne, hu⟩ := freeze I1 rh nf m w
      have na : ∀ b u, H b = some u → b ≠ a := fun b u e z => by rw [z, n] at e; cases e
      refine ⟨.ref a, H2, I2, r1, q ρ' FR2 H2 (.ref a) ⟨x.pre, x.fr.trans sb, fun b u e nb => ?_, fun b u e => ?_, x.nρ, fun b u e => ?_⟩ rh2 (by rw [own_d ho]; exact p)⟩
      · rw [hne b (na b u e)]; exact x.keep b u e nb
      · rw [hne b (na b u e)]; exact x.there b u e
      · rcases nn b u e with z | z
        · exact x.nF b u z
        · exact .inr (z ▸ n)
  | ex _ _ => rw [hr] at q; exact q.elim
  | bad => rw [hr] at q; exact q.elim
theorem PE.look {X : Cx} {e : Expr} {r : Slots → AH → R D} (h : PE X e (TF C r)) : PE X e (TL C r) :=
  PE.imp h fun σ H Q ⟨ρ, FR, sl, ah, rel, q⟩ => ⟨ρ, FR, sl, ah, rel, q.imp fun _ _ _ _ _ _ z => .inl z⟩
theorem PE.lookB {X : Cx} {e : Expr} {r : Slots → AH → R D} (h : PE X e (TL C r)) : PE X e (TB C r) :=
  PE.imp h fun σ H Q ⟨ρ, FR, sl, ah, rel, q⟩ => ⟨ρ, FR, sl, ah, rel, q.imp fun _ _ _ _ _ _ z => .inl z⟩
/-- what was looked at is seen later -/
theorem lookS.later {d : D} {v : V} (w : lookS C sl σ ah1 ρ1 FR1 H1 d v) (x : Ext ρ1 FR1 H1 ρ2 FR2 H2) (r : Rel C ρ2 FR2 sl ah σ H2) : seen C ρ2 FR2 H2 d v := by
  rcases w with w | ⟨i, o, e1, rfl, e2⟩
  · exact .inl (Rp.mono x.fr x.pre w)
  · obtain ⟨a, e3, q, _, _⟩ := r.own i o e1
    rw [e2] at e3
    have e4 : v = .ref a := Option.some.inj (Option.some.inj e3)
    exact .inr ⟨o, a, rfl, e4, q⟩
theorem lookB.later {d : D} {v : V} (w : lookB C sl σ ah1 ρ1 FR1 H1 d v) (x : Ext ρ1 FR1 H1 ρ2 FR2 H2) (r : Rel C ρ2 FR2 sl ah1 σ H2) : seen C ρ2 FR2 H2 d v := by
  rcases w with w | ⟨n, o, a, e1, e2, rfl, rfl⟩
  · exact w.later x r
  · obtain ⟨b, e3, q⟩ := r.box n o e1
    rw [x.pre n a e2] at e3
    cases e3
    exact .inr ⟨o, a, rfl, rfl, q⟩
/-- a seen datum (no dict) stands in the heap as it is -/
theorem seen.rp (s : Sub FR H) {d : D} {v : V} (nd : ∀ ks vs, d ≠ .dic ks vs) (w : seen C ρ FR H d v) : Rp C ρ H d v := by
  rcases w with w | ⟨o, a, rfl, rfl, q⟩
  · exact Rp.mono s Pre.refl w
  · cases o with
    | lst xs =>
      obtain ⟨vs, e, r⟩ := q
      exact .lst (Rd.of e) (RpL.mono s Pre.refl r)
    | dic ks ds => exact absurd rfl (nd ks ds)
theorem seen.lst (s : Sub FR H) {xs : List D} {v : V} (w : seen C ρ FR H (.lst xs) v) : ∃ a vs, v = .ref a ∧ Rd H a (.lst vs) ∧ RpL C ρ FR xs vs := by
  rcases w with w | ⟨o, a, e, rfl, q⟩
  · cases w with
    | lst h1 h2 => exact ⟨_, _, rfl, Rd.sub s h1, h2⟩
  · cases o with
    | lst ys =>
      cases e
      obtain ⟨vs, e, r⟩ := q
      exact ⟨a, vs, rfl, Rd.of e, r⟩
    | dic _ _ => cases e
theorem seen.scr (s : Sub FR H) {xs : List D} {v : V} (w : seen C ρ FR H (.scr xs) v) : ∃ a vs, v = .ref a ∧ SqL C.K H a vs ∧ RpL C ρ FR xs vs := by
  rcases w with w | ⟨o, a, e, rfl, q⟩
  · cases w with
    | scr h1 h2 => exact ⟨_, _, rfl, SqL.sub s h1, h2⟩
  · cases o <;> cases e
theorem seen.tup (s : Sub FR H) {xs : List D} {v : V} (w : seen C ρ FR H (.tup xs) v) : ∃ a vs, v = .ref a ∧ SqT C.K H a vs ∧ RpL C ρ FR xs vs := by
  rcases w with w | ⟨o, a, e, rfl, q⟩
  · cases w with
    | tup h1 h2 => exact ⟨_, _, rfl, SqT.sub s h1.sq, h2⟩
  · cases o <;> cases e
theorem seen.dic (s : Sub FR H) {ks ds : List D} {v : V} (w : seen C ρ FR H (.dic ks ds) v) : ∃ a, v = .ref a ∧ ((∃ kvs, Rd H a (.dK kvs) ∧ RpK C ρ FR ks ds kvs) ∨ ∃ es, Rd H a (dicO C a es) ∧ RpE C ρ FR ks ds es) := by
  rcases w with w | ⟨o, a, e, rfl, q⟩
  · cases w with
    | dicK h1 h2 => exact ⟨_, rfl, .inl ⟨_, .inr ⟨_, s _ _ h1⟩, h2⟩⟩
    | dicT h1 h2 => exact ⟨_, rfl, .inr ⟨_, .inr ⟨_, s _ _ h1⟩, h2⟩⟩
  · cases o with
    | lst _ => cases e
    | dic _ _ =>
      cases e
      refine ⟨a, rfl, ?_⟩
      rcases q with ⟨kvs, e, r⟩ | ⟨es, e, r⟩
      · exact .inl ⟨kvs, .inl e, r⟩
      · exact .inr ⟨es, .inl e, r⟩
end
end Sd

end
section
set_option Elab.async false
set_option linter.all false
set_option maxRecDepth 100000
set_option maxHeartbeats 1000000
/-! Sd3: operators. -/
namespace Sd
open PySem PySem.Spec L2 Ev
open PyProof.Rows hiding St

structure Fit (C : Cn) (X : Cx) : Prop where
  K : X.K = C.K
  P : X.prog = C.P
  w : X.w = C.w
  calm : X.calm = true
  un : X.A.units + 200 < cLine

section
variable {C : Cn} {ρ : List Addr} {FR H : Hp} {ah : AH} {X : Cx} {Q : VK} {p : Addr}
theorem none_fr (rh : RelH C ρ FR ah H) (n : H p = none) : FR p = none := by
  cases e : FR p with
  | none => rfl
  | some o => rw [rh.sub p o e] at n; cases n
theorem none_ρ (rh : RelH C ρ FR ah H) (n : H p = none) : p ∉ ρ := fun m => by
  obtain ⟨_, o, e⟩ := rh.live p m
  rw [e] at n; cases n
theorem relH_new (rh : RelH C ρ FR ah H) (n : H p = none) (o : HO) : RelH C ρ FR ah (upd H p o) where
  sub := rh.sub.trans (Sub.upd n)
  len := rh.len
  nd := rh.nd
  live := fun a m => by
    obtain ⟨h1, u, e⟩ := rh.live a m
    exact ⟨h1, u, Sub.upd n a u e⟩
  box := fun k q e => by
    obtain ⟨a, e1, e2⟩ := rh.box k q e
    exact ⟨a, e1, e2.stay Pre.refl Sub.refl fun u z => Sub.upd n a u z⟩
theorem ext_new (n : H p = none) (o : HO) : Ext ρ FR H ρ FR (upd H p o) :=
  ⟨Pre.refl, Sub.refl, fun a u e _ => Sub.upd n a u e, fun a u e => ⟨u, Sub.upd n a u e⟩, fun _ h => .inl h, fun _ _ e => .inl e⟩
/-- a frozen thing more -/
theorem relH_fz (rh : RelH C ρ FR ah H) (n : H p = none) (o : HO) : RelH C ρ (upd FR p o) ah (upd H p o) where
  sub := fun a u e => by
    by_cases h : a = p
    · subst h; rw [upd_same] at e ⊢; exact e
    · rw [upd_ne h] at e ⊢; exact rh.sub a u e
  len := rh.len
  nd := rh.nd
  live := fun a m => by
    obtain ⟨h1, u, e⟩ := rh.live a m
    have h : a ≠ p := fun z => none_ρ rh n (z ▸ m)
    exact ⟨by rw [upd_ne h]; exact h1, u, Sub.upd n a u e⟩
  box := fun k q e => by
    obtain ⟨a, e1, e2⟩ := rh.box k q e
    exact ⟨a, e1, e2.stay Pre.refl (Sub.upd (none_fr rh n)) fun u z => Sub.upd n a u z⟩
theorem ext_fz (rh : RelH C ρ FR ah H) (n : H p = none) (o : HO) : Ext ρ FR H ρ (upd FR p o) (upd H p o) :=
  ⟨Pre.refl, Sub.upd (none_fr rh n), fun a u e _ => Sub.upd n a u e, fun a u e => ⟨u, Sub.upd n a u e⟩, fun _ h => .inl h, fun a u e => by
    by_cases h : a = p
    · exact .inr (h ▸ n)
    · rw [upd_ne h] at e; exact .inl e⟩
abbrev PstN (C : Cn) (ρ : List Addr) (FR H : Hp) (Q : VK) (d : D) (ah : AH) : Prop := Pst C ρ FR H (Rn C H) Q (.ok d ah)
theorem PstN.same {d : D} {v : V} (q : PstN C ρ FR H Q d ah) (rh : RelH C ρ FR ah H) (h : d.own? = none) (r : Rp C ρ FR d v) : Q v H :=
  q ρ FR H v Ext.refl rh (by unfold Rn; rw [h]; exact r)
theorem PstN.lst {xs : List D} {vs : List V} (q : PstN C ρ FR H Q (.lst xs) ah) (rh : RelH C ρ FR ah H) (n : H p = none) (r : RpL C ρ FR xs vs) : Q (.ref p) (upd H p (.lst vs)) :=
  q ρ FR _ _ (ext_new n _) (relH_new rh n _) ⟨p, rfl, n, none_fr rh n, none_ρ rh n, vs, upd_same, r⟩
theorem PstN.tup {xs : List D} {vs : List V} (q : PstN C ρ FR H Q (.tup xs) ah) (rh : RelH C ρ FR ah H) (r : RpL C ρ FR xs vs) : NewT H Q vs := fun p o n d =>
  q ρ _ _ _ (ext_fz rh n (.frz o (.tup vs))) (relH_fz rh n _) (Rp.tup (.inl ⟨o, upd_same, d⟩) (RpL.mono (Sub.upd (none_fr rh n)) Pre.refl r))

/-- a two-place operation by data -/
def r2 (C : Cn) (g : D → D → Option D) : R2 := fun x y H Q => ∃ ρ FR ah d1 d2 d, RelH C ρ FR ah H ∧ seen C ρ FR H d1 x ∧ seen C ρ FR H d2 y ∧ g d1 d2 = some d ∧ PstN C ρ FR H Q d ah
theorem seen.int {v : V} {i : Int} (h : seen C ρ FR H (.int i) v) : v = .int i := by
  rcases h with h | ⟨o, a, e, _⟩
  · cases h; rfl
  · cases o <;> cases e
theorem seen.bl {v : V} {i : Bool} (h : seen C ρ FR H (.bl i) v) : v = .bl i := by
  rcases h with h | ⟨o, a, e, _⟩
  · cases h; rfl
  · cases o <;> cases e
theorem seen.str {v : V} {i : Str} (h : seen C ρ FR H (.str i) v) : v = .str i := by
  rcases h with h | ⟨o, a, e, _⟩
  · cases h; rfl
  · cases o <;> cases e
theorem seen.non {v : V} (h : seen C ρ FR H .non v) : v = .non := by
  rcases h with h | ⟨o, a, e, _⟩
  · cases h; rfl
  · cases o <;> cases e
theorem rd_lst {pins : List (Addr × Obj)} {σ : L2.St} {s : Shared} {a : Addr} {vs : List V} (I : Inv X pins σ H s) (h : Rd H a (.lst vs)) :
    vs.length ≤ sizeLine ∧ ∃ (its : List Value) (n : Nat), Vals vs its ∧ vs.length = its.length ∧ s.heap.get? a = some { cls := .type "list", data := .seq its.toArray n } := by
  obtain ⟨z, its, n, r, e⟩ := h.ok I.hok
  exact ⟨z, its, n, r, r.length, e⟩
theorem line_eq : line = sizeLine := by rw [sizeLine_eq]; rfl

theorem opr_add (F : Fit C X) : OpR X (PySem.binaryOp .Add) (r2 C (binop .add)) := by
  intro pins s σ H x y v u Q I rx ry ⟨ρ, FR, ah, d1, d2, d, rh, s1, s2, hg, q⟩
  cases d1 <;> cases d2 <;> simp only [binop, reduceCtorEq] at hg <;> try (cases hg; done)
  case int.int i j =>
    cases hg
    cases s1.int; cases s2.int
    exact op_add pins s σ H _ _ v u Q I rx ry ⟨i, j, rfl, rfl, q.same rh rfl (.int _)⟩
  case tup.tup xs ys =>
    split at hg
    · rename_i hl
      cases hg
      obtain ⟨a, vs, rfl, t1, l1⟩ := s1.tup rh.sub
      obtain ⟨b, ws, rfl, t2, l2⟩ := s2.tup rh.sub
      have e1 := l1.length
      have e2 := l2.length
      refine op_catN pins s σ H _ _ v u Q I rx ry ⟨a, b, vs, ws, rfl, rfl, F.K ▸ t1, F.K ▸ t2, by rw [← e1, ← e2, ← line_eq]; exact hl, fun z => ?_, fun _ z => ?_, fun _ _ => ?_⟩
      · subst z
        cases l1
        rcases s2 with s2 | ⟨o, _, e, _⟩
        · exact q.same rh rfl (by simpa using s2)
        · cases o <;> cases e
      · subst z
        cases l2
        rcases s1 with s1 | ⟨o, _, e, _⟩
        · exact q.same rh rfl (by simpa using s1)
        · cases o <;> cases e
      · exact q.tup rh (l1.append l2)
    · cases hg
  case lst.lst xs ys =>
    split at hg
    · rename_i hl
      cases hg
      obtain ⟨a, vs, rfl, t1, l1⟩ := s1.lst rh.sub
      obtain ⟨b, ws, rfl, t2, l2⟩ := s2.lst rh.sub
      have q1 := l1.length
      have q2 := l2.length
      cases rx
      cases ry
      obtain ⟨z, its, n, r, hl1, e⟩ := rd_lst I t1
      obtain ⟨z2, its2, n2, r2, hl2, e2⟩ := rd_lst I t2
      have hs : xs.length + ys.length ≤ sizeLine := by rw [← line_eq]; exact hl
      refine PySem.P.add_list e e2 ?_ (by rw [List.size_toArray, List.size_toArray]; omega)
      have ea : its.toArray ++ its2.toArray = (its ++ its2).toArray := by simp
      rw [ea]
      exact ⟨.ref _, _, I.lnew (t' := s.toks) (r.append r2) (by rw [List.length_append]; omega), rfl, q.lst rh I.fresh (l1.append l2)⟩
    · cases hg
theorem opr_sub (F : Fit C X) : OpR X (PySem.binaryOp .Sub) (r2 C (binop .sub)) := by
  intro pins s σ H x y v u Q I rx ry ⟨ρ, FR, ah, d1, d2, d, rh, s1, s2, hg, q⟩
  cases d1 <;> cases d2 <;> simp only [binop, reduceCtorEq] at hg <;> try (cases hg; done)
  case int.int i j =>
    cases hg
    cases s1.int; cases s2.int
    exact op_sub pins s σ H _ _ v u Q I rx ry ⟨i, j, rfl, rfl, q.same rh rfl (.int _)⟩
theorem small_spec {i : Int} (h : small i = true) : -(2 ^ 64) < i ∧ i < 2 ^ 64 := by
  have := of_decide_eq_true h
  omega
theorem rep_raw {P : Program} {w : World} {A : Around} {E : Value → Shared → Prop} {s : Shared} {a : Addr} {its : List Value} {n : Nat} {k : Int} {t : Tok} {Q : Value → Shared → Prop} (e : s.heap.get? a = some { cls := .type "list", data := .seq its.toArray n })
    (h1 : 0 ≤ k) (h2 : k < 16777216) (hz : its.toArray.size * k.toNat ≤ sizeLine) (q : Q (.ref s.heap.objs.size) { s with heap := s.heap.push { cls := .type "list", data := .seq (List.replicate k.toNat its).flatten.toArray }, toks := s.toks }) :
    wpAny (model P w) A (PySem.binaryOp .Mult (.ref a) (.int k t)) Q E s := by
  have fit : ¬ (!Builtin.List.listFitsIndex k) = true := by
    rw [fitsIndex_both (by omega) (by omega)]
    exact Bool.false_ne_true
  have cap : ¬ its.toArray.size * k.toNat > (2 ^ 63 - 1) / 8 := by
    have : (sizeLine : Nat) ≤ (2 ^ 63 - 1) / 8 := by decide
    omega
  have long : ¬ Builtin.List.listTooLong (its.toArray.size * k.toNat) = true := by
    rw [notLongL hz]
    exact Bool.false_ne_true
  have new : List.foldl (fun x1 x2 => x1 ++ x2) #[] (List.replicate (if its.toArray.isEmpty = true then 0 else k.toNat) its.toArray) = (List.replicate k.toNat its).flatten.toArray := by
    have f0 : ∀ m : Nat, List.foldl (fun x1 x2 => x1 ++ x2) #[] (List.replicate m its.toArray) = (List.replicate m its).flatten.toArray := fun m => by
      have z := foldl_rep its m []
      rw [List.nil_append] at z
      exact z
    rw [f0]
    cases its with
    | nil => simp
    | cons a r' => rw [if_neg (by simp)]
  refine wpAny_binaryOp_repeat_ref (T := "list") (U := "int") (by decide) ⟨_, e, rfl⟩ (fun s' => typeIs_int s' k t) noFill_list_mul PySem.F.fills_int_mul PySem.F.slot_int_rmul repeat_list PySem.F.slot_int_index.lookup
    (call_meets PySem.F.slot_int_rmul (typeIs_int s k t) PySem.F.entry_int_rmul (PySem.F.args_int_rmul_2 _ _) (int___rmul___int_list k t a its.toArray n)
      ⟨e, rfl, ⟨_, e, rfl⟩, call_meets PySem.F.slot_list_mul ⟨_, e, rfl⟩ PySem.F.entry_list_mul (PySem.F.args_list_mul_2 _ _) (AutoListH.list___mul___list_int_3 a its.toArray n k t fit cap long) ⟨e, ?_⟩⟩)
  rw [new]
  exact q
theorem opr_mul (F : Fit C X) : OpR X (PySem.binaryOp .Mult) (r2 C (binop .mul)) := by
  intro pins s σ H x y v u Q I rx ry ⟨ρ, FR, ah, d1, d2, d, rh, s1, s2, hg, q⟩
  cases d1 <;> cases d2 <;> simp only [binop, reduceCtorEq] at hg <;> try (cases hg; done)
  case int.int i j =>
    split at hg
    · rename_i hc
      cases hg
      cases s1.int; cases s2.int
      refine op_mul pins s σ H _ _ v u Q I rx ry ⟨i, j, rfl, rfl, ?_, q.same rh rfl (.int _)⟩
      rcases Bool.or_eq_true_iff.mp hc with h | h
      · exact .inl (small_spec h)
      · exact .inr (small_spec h)
    · cases hg
  case tup.int xs k =>
    cases xs with
    | nil => cases hg
    | cons z zs =>
      simp only at hg
      split at hg
      · rename_i hc
        cases hg
        cases s2.int
        obtain ⟨a, vs, rfl, t1, l1⟩ := s1.tup rh.sub
        have e1 := l1.length
        rw [List.length_cons] at e1
        exact op_repN pins s σ H _ _ v u Q I rx ry ⟨a, k, vs, rfl, rfl, F.K ▸ t1, fun e => (by rw [e] at e1; cases e1), hc.1, hc.2.1, by omega, q.tup rh (l1.rep _)⟩
      · cases hg
  case lst.int xs k =>
    split at hg
    · rename_i hc
      cases hg
      cases s2.int
      obtain ⟨a, vs, rfl, t1, l1⟩ := s1.lst rh.sub
      cases rx
      obtain ⟨t, rfl⟩ := ry
      obtain ⟨z, its, n, r, hl, e⟩ := rd_lst I t1
      have e1 := l1.length
      have hlen : its.toArray.size * k.toNat ≤ sizeLine := by rw [List.size_toArray, ← hl, ← e1, ← line_eq]; exact hc.2.2
      exact rep_raw e hc.1 hc.2.1 hlen ⟨.ref _, _, I.lnew (t' := s.toks) (r.rep k.toNat) (by rw [PyProof.Rows.lm_len_rep_flat, Nat.mul_comm, hl]; rw [List.size_toArray] at hlen; exact hlen), rfl, q.lst rh I.fresh (l1.rep k.toNat)⟩
    · cases hg
theorem opr_fdiv (F : Fit C X) : OpR X (PySem.binaryOp .FloorDiv) (r2 C (binop .fdiv)) := by
  intro pins s σ H x y v u Q I rx ry ⟨ρ, FR, ah, d1, d2, d, rh, s1, s2, hg, q⟩
  cases d1 <;> cases d2 <;> simp only [binop, reduceCtorEq] at hg <;> try (cases hg; done)
  case int.int i j =>
    split at hg
    · rename_i hc
      cases hg
      cases s1.int; cases s2.int
      exact op_fdiv pins s σ H _ _ v u Q I rx ry ⟨i, j, rfl, rfl, hc, q.same rh rfl (.int _)⟩
    · cases hg
theorem opr_mod (F : Fit C X) : OpR X (PySem.binaryOp .Mod) (r2 C (binop .mod)) := by
  intro pins s σ H x y v u Q I rx ry ⟨ρ, FR, ah, d1, d2, d, rh, s1, s2, hg, q⟩
  cases d1 <;> cases d2 <;> simp only [binop, reduceCtorEq] at hg <;> try (cases hg; done)
  case int.int i j =>
    split at hg
    · rename_i hc
      cases hg
      cases s1.int; cases s2.int
      exact op_mod pins s σ H _ _ v u Q I rx ry ⟨i, j, rfl, rfl, hc, q.same rh rfl (.int _)⟩
    · cases hg
theorem small_abs {i : Int} (h : small i = true) : i.natAbs < 2 ^ 64 := by
  have := small_spec h
  omega
theorem opr_pow (F : Fit C X) : OpR X (PySem.binaryOp .Pow) (r2 C (binop .pow)) := by
  intro pins s σ H x y v u Q I rx ry ⟨ρ, FR, ah, d1, d2, d, rh, s1, s2, hg, q⟩
  cases d1 <;> cases d2 <;> simp only [binop, reduceCtorEq] at hg <;> try (cases hg; done)
  case int.int i j =>
    split at hg
    · rename_i hc
      cases hg
      cases s1.int; cases s2.int
      exact op_pow pins s σ H _ _ v u Q I rx ry ⟨i, j, rfl, rfl, ⟨hc.1, by omega, small_abs hc.2.2⟩, q.same rh rfl (.int _)⟩
    · cases hg
theorem opr_shl (F : Fit C X) : OpR X (PySem.binaryOp .LShift) (r2 C (binop .shl)) := by
  intro pins s σ H x y v u Q I rx ry ⟨ρ, FR, ah, d1, d2, d, rh, s1, s2, hg, q⟩
  cases d1 <;> cases d2 <;> simp only [binop, reduceCtorEq] at hg <;> try (cases hg; done)
  case int.int i j =>
    split at hg
    · rename_i hc
      cases hg
      cases s1.int; cases s2.int
      exact op_shl pins s σ H _ _ v u Q I rx ry ⟨i, j, rfl, rfl, ⟨hc.1, by omega, small_abs hc.2.2⟩, q.same rh rfl (.int _)⟩
    · cases hg
end
end Sd

end
section
set_option Elab.async false
set_option linter.all false
set_option maxRecDepth 100000
set_option maxHeartbeats 1000000
/-! Sd4: comparisons. -/
namespace Sd
open PySem PySem.Spec L2 Ev
open PyProof.Rows hiding St

mutual
theorem alike_py : ∀ x y : D, alike x y = true → PySem.W.alike (py x) (py y) = true
  | x, y, h => by
    cases x <;> cases y <;> first
      | (simp [alike] at h; done)
      | (simp [py, PySem.W.alike]; done)
      | skip
    all_goals
      simp only [alike] at h
      simp only [py, PySem.W.alike]
      exact alikeL_py _ _ h
theorem alikeL_py : ∀ xs ys : List D, alikeL xs ys = true → PySem.W.alikeAll (py.pyL xs) (py.pyL ys) = true
  | [], _, _ => by simp [py.pyL, PySem.W.alikeAll]
  | _ :: _, [], _ => by simp [py.pyL, PySem.W.alikeAll]
  | x :: xs, y :: ys, h => by
    simp only [alikeL, Bool.and_eq_true] at h
    simp only [py.pyL, PySem.W.alikeAll, Bool.and_eq_true]
    exact ⟨alike_py x y h.1, alikeL_py xs ys h.2⟩
end
theorem lex_nil : PyProof.Rows.lexLt itemOrd (PySem.W.keyToksAll []) (PySem.W.keyToksAll []) = false := lex_irrefl _
mutual
theorem ltv_py : ∀ (n m : Nat) (x y : D), okD n x = true → okD m y = true → alike x y = true → PySem.W.dataLt (py x) (py y) = ltv x y
  | n, m, x, y, hx, hy, h => by
    cases x <;> cases y <;> first
      | (simp [alike] at h; done)
      | skip
    case non.non => exact lex_irrefl _
    case bl.bl a b =>
      simp only [py, ltv]
      refine (PySem.W.dataLt_bool a b).trans ?_
      cases a <;> cases b <;> rfl
    case int.int a b => exact PySem.W.dataLt_int a b
    case str.str a b => exact PySem.W.dataLt_str a b
    all_goals
      cases n with
      | zero => simp [okD] at hx
      | succ n =>
        cases m with
        | zero => simp [okD] at hy
        | succ m =>
          simp only [okD] at hx hy
          simp only [alike] at h
          simp only [py, ltv]
          first | rw [PySem.W.dataLt_tuple] | rw [PySem.W.dataLt_list]
          exact ltvL_py n m _ _ hx hy h
theorem ltvL_py : ∀ (n m : Nat) (xs ys : List D), okL n xs = true → okL m ys = true → alikeL xs ys = true → PyProof.Rows.lexLt itemOrd (PySem.W.keyToksAll (py.pyL xs)) (PySem.W.keyToksAll (py.pyL ys)) = ltvL xs ys
  | _, _, [], [], _, _, _ => lex_nil
  | _, _, [], y :: ys, _, _, _ => by
    simp only [py.pyL, ltvL]
    rw [PySem.W.toks_all_cons]
    simp only [PySem.W.keyToksAll]
    rw [PySem.W.lex_atom (by intro q; cases q)]
    rfl
  | _, _, x :: xs, [], _, _, _ => by
    simp only [py.pyL, ltvL]
    rw [PySem.W.toks_all_cons]
    simp only [PySem.W.keyToksAll]
    rw [PySem.W.lex_atom (by intro q; cases q)]
    rfl
  | n, m, x :: xs, y :: ys, hx, hy, h => by
    simp only [okL, Bool.and_eq_true] at hx hy
    simp only [alikeL, Bool.and_eq_true] at h
    simp only [py.pyL, ltvL]
    rw [PySem.W.dataLt_cons (alike_py x y h.1), eqv_py n m x y hx.1 hy.1, ltvL_py n m xs ys hx.2 hy.2 h.2, ltv_py n m x y hx.1 hy.1 h.1]
end

section
variable {C : Cn} {ρ : List Addr} {FR H : Hp} {ah : AH} {X : Cx} {Q : VK} {p : Addr}
theorem seen.dp {d : D} {v : V} (s : Sub FR H) (w : seen C ρ FR H d v) (ok : okD deep d = true) : Dp C.K H v (py d) := Rp.dp deep d v ok (w.rp s fun ks vs e => by rw [e] at ok; simp [okD, deep] at ok)
theorem py_ne {d : D} (ok : okD deep d = true) (h : notNon d = true) : py d ≠ .none := by
  cases d <;> first
    | (simp [notNon] at h; done)
    | (simp [py]; done)
    | (simp [okD, deep] at ok; done)
theorem depth_ok {F : Fit C X} {d e : D} (o1 : okD deep d = true) (o2 : okD deep e = true) : X.A.units + min (py d).depth (py e).depth < cLine := by
  have h := (ok_lay deep d o1).2
  have u := F.un
  have : deep = 60 := rfl
  omega
def rc (C : Cn) (g : D → D → Option Bool) : R2 := r2 C fun x y => (g x y).map .bl

theorem opr_eq (F : Fit C X) : OpR X (PySem.compareOp .Eq) (rc C dEq) := by
  intro pins s σ H x y v u Q I rx ry ⟨ρ, FR, ah, d1, d2, d, rh, s1, s2, hg, q⟩
  simp only [dEq] at hg
  split at hg
  · rename_i hc
    obtain ⟨o1, o2⟩ := Bool.and_eq_true_iff.mp hc
    cases hg
    refine op_eqD (by have := F.un; omega) pins s σ H x y v u Q I rx ry ⟨_, _, F.K ▸ s1.dp rh.sub o1, F.K ▸ s2.dp rh.sub o2, shaped_of o1, shaped_of o2, ?_⟩
    rw [eqv_py deep deep _ _ o1 o2]
    exact q.same rh rfl (.bl _)
  · cases hg
theorem opr_ne (F : Fit C X) : OpR X (PySem.compareOp .NotEq) (rc C fun x y => (dEq x y).map (!·)) := by
  intro pins s σ H x y v u Q I rx ry ⟨ρ, FR, ah, d1, d2, d, rh, s1, s2, hg, q⟩
  simp only [dEq] at hg
  split at hg
  · rename_i hc
    obtain ⟨o1, o2⟩ := Bool.and_eq_true_iff.mp hc
    cases hg
    refine op_neD (by have := F.un; omega) pins s σ H x y v u Q I rx ry ⟨_, _, F.K ▸ s1.dp rh.sub o1, F.K ▸ s2.dp rh.sub o2, shaped_of o1, shaped_of o2, ?_⟩
    rw [eqv_py deep deep _ _ o1 o2]
    exact q.same rh rfl (.bl _)
  · cases hg
theorem dLt_some {x y : D} {b : Bool} (h : dLt x y = some b) : okD deep x = true ∧ okD deep y = true ∧ alike x y = true ∧ notNon x = true ∧ b = ltv x y := by
  unfold dLt at h
  split at h
  · rename_i hc
    simp only [Bool.and_eq_true] at hc
    cases h
    exact ⟨hc.1.1.1, hc.1.1.2, hc.1.2, hc.2, rfl⟩
  · cases h
theorem alike_nn {x y : D} (h : alike x y = true) (n : notNon x = true) : notNon y = true := by
  cases x <;> cases y <;> simp_all [alike, notNon]
theorem opr_lt (F : Fit C X) : OpR X (PySem.compareOp .Lt) (rc C dLt) := by
  intro pins s σ H x y v u Q I rx ry ⟨ρ, FR, ah, d1, d2, d, rh, s1, s2, hg, q⟩
  obtain ⟨b, hb, rfl⟩ := Option.map_eq_some_iff.mp hg
  obtain ⟨o1, o2, al, nn, rfl⟩ := dLt_some hb
  obtain ⟨as, r1⟩ := Dp.reads I _ _ v (F.K ▸ s1.dp rh.sub o1) rx
  obtain ⟨bs, r2⟩ := Dp.reads I _ _ u (F.K ▸ s2.dp rh.sub o2) ry
  refine PySem.W.lt_data r1 r2 (alike_py _ _ al) (py_ne o1 nn) (depth_ok (F := F) o1 o2) ⟨.bl _, H, I, rfl, ?_⟩
  rw [ltv_py deep deep _ _ o1 o2 al]
  exact q.same rh rfl (.bl _)
theorem opr_ge (F : Fit C X) : OpR X (PySem.compareOp .GtE) (rc C fun x y => (dLt x y).map (!·)) := by
  intro pins s σ H x y v u Q I rx ry ⟨ρ, FR, ah, d1, d2, d, rh, s1, s2, hg, q⟩
  obtain ⟨b', hb', rfl⟩ := Option.map_eq_some_iff.mp hg
  obtain ⟨b, hb, rfl⟩ := Option.map_eq_some_iff.mp hb'
  obtain ⟨o1, o2, al, nn, rfl⟩ := dLt_some hb
  obtain ⟨as, r1⟩ := Dp.reads I _ _ v (F.K ▸ s1.dp rh.sub o1) rx
  obtain ⟨bs, r2⟩ := Dp.reads I _ _ u (F.K ▸ s2.dp rh.sub o2) ry
  refine PySem.W.ge_data r1 r2 (alike_py _ _ al) (py_ne o1 nn) (depth_ok (F := F) o1 o2) ⟨.bl _, H, I, rfl, ?_⟩
  rw [ltv_py deep deep _ _ o1 o2 al]
  exact q.same rh rfl (.bl _)
theorem alike_swap {x y : D} (h : alike x y = true) : PySem.W.alike (py y) (py x) = true := by
  rw [PySem.W.alike_comm]; exact alike_py x y h
theorem opr_gt (F : Fit C X) : OpR X (PySem.compareOp .Gt) (rc C fun x y => dLt y x) := by
  intro pins s σ H x y v u Q I rx ry ⟨ρ, FR, ah, d1, d2, d, rh, s1, s2, hg, q⟩
  obtain ⟨b, hb, rfl⟩ := Option.map_eq_some_iff.mp hg
  obtain ⟨o1, o2, al, nn, rfl⟩ := dLt_some hb
  obtain ⟨as, r1⟩ := Dp.reads I _ _ v (F.K ▸ s1.dp rh.sub o2) rx
  obtain ⟨bs, r2⟩ := Dp.reads I _ _ u (F.K ▸ s2.dp rh.sub o1) ry
  refine PySem.W.gt_data r1 r2 (alike_swap al) (py_ne o2 (alike_nn al nn)) (depth_ok (F := F) o2 o1) ⟨.bl _, H, I, rfl, ?_⟩
  rw [ltv_py deep deep _ _ o1 o2 al]
  exact q.same rh rfl (.bl _)
theorem opr_le (F : Fit C X) : OpR X (PySem.compareOp .LtE) (rc C fun x y => (dLt y x).map (!·)) := by
  intro pins s σ H x y v u Q I rx ry ⟨ρ, FR, ah, d1, d2, d, rh, s1, s2, hg, q⟩
  obtain ⟨b', hb', rfl⟩ := Option.map_eq_some_iff.mp hg
  obtain ⟨b, hb, rfl⟩ := Option.map_eq_some_iff.mp hb'
  obtain ⟨o1, o2, al, nn, rfl⟩ := dLt_some hb
  obtain ⟨as, r1⟩ := Dp.reads I _ _ v (F.K ▸ s1.dp rh.sub o2) rx
  obtain ⟨bs, r2⟩ := Dp.reads I _ _ u (F.K ▸ s2.dp rh.sub o1) ry
  refine PySem.W.le_data r1 r2 (alike_swap al) (py_ne o2 (alike_nn al nn)) (depth_ok (F := F) o2 o1) ⟨.bl _, H, I, rfl, ?_⟩
  rw [ltv_py deep deep _ _ o1 o2 al]
  exact q.same rh rfl (.bl _)
end
end Sd

end
section
set_option Elab.async false
set_option linter.all false
set_option maxRecDepth 100000
set_option maxHeartbeats 1000000
/-! Sd5: keys, dicts that are read; members; subscripts. -/
namespace Sd
open PySem PySem.Spec L2 Ev
open PyProof.Rows hiding St

mutual
theorem nk_eqv : ∀ (n m : Nat) (x y : D), okD n x = true → okD m y = true → noLst x = true → noLst y = true → NestedKey.beq (nk x) (nk y) = eqv x y
  | n, m, x, y, hx, hy, lx, ly => by
    cases x <;> cases y <;> first
      | (cases n <;> simp [okD] at hx; done)
      | (cases m <;> simp [okD] at hy; done)
      | (simp [noLst] at lx; done)
      | (simp [noLst] at ly; done)
      | skip
    case tup.tup xs ys =>
      cases n with
      | zero => simp [okD] at hx
      | succ n =>
        cases m with
        | zero => simp [okD] at hy
        | succ m =>
          simp only [okD] at hx hy
          simp only [noLst] at lx ly
          simp only [nk, NestedKey.beq, eqv]
          exact nkL_eqv n m xs ys hx hy lx ly
    case bl.bl a b => cases a <;> cases b <;> simp [nk, NestedKey.beq, eqv]
    case str.str a b =>
      simp only [nk, NestedKey.beq, eqv]
      by_cases h : a = b
      · subst h; simp
      · rw [decide_eq_false h, beq_eq_false_iff_ne.mpr h]
    all_goals first
      | (simp [nk, NestedKey.beq, eqv, Bool.beq_eq_decide_eq]; done)
      | (simp [nk, NestedKey.beq, eqv, Bool.beq_eq_decide_eq]; rfl)
theorem nkL_eqv : ∀ (n m : Nat) (xs ys : List D), okL n xs = true → okL m ys = true → noLstL xs = true → noLstL ys = true → NestedKey.beqAll (nk.nkL xs) (nk.nkL ys) = eqvL xs ys
  | _, _, [], [], _, _, _, _ => by simp [nk.nkL, NestedKey.beqAll, eqvL]
  | _, _, [], _ :: _, _, _, _, _ => by simp [nk.nkL, NestedKey.beqAll, eqvL]
  | _, _, _ :: _, [], _, _, _, _ => by simp [nk.nkL, NestedKey.beqAll, eqvL]
  | n, m, x :: xs, y :: ys, hx, hy, lx, ly => by
    simp only [okL, Bool.and_eq_true] at hx hy
    simp only [noLstL, Bool.and_eq_true] at lx ly
    simp only [nk.nkL, NestedKey.beqAll, eqvL]
    rw [nk_eqv n m x y hx.1 hy.1 lx.1 ly.1, nkL_eqv n m xs ys hx.2 hy.2 lx.2 ly.2]
end
mutual
theorem nk_depth : ∀ (n : Nat) (x : D), okD n x = true → (nk x).depth ≤ n
  | n, x, h => by
    cases x <;> first
      | (simp [nk, NestedKey.depth]; done)
      | skip
    cases n with
    | zero => simp [okD] at h
    | succ n =>
      simp only [okD] at h
      simp only [nk, NestedKey.depth]
      have := nkL_depth n _ h
      omega
theorem nkL_depth : ∀ (n : Nat) (xs : List D), okL n xs = true → NestedKey.depthAll (nk.nkL xs) ≤ n
  | _, [], _ => by simp [nk.nkL, NestedKey.depthAll]
  | n, x :: xs, h => by
    simp only [okL, Bool.and_eq_true] at h
    simp only [nk.nkL, NestedKey.depthAll]
    have a := nk_depth n x h.1
    have b := nkL_depth n xs h.2
    omega
end
section
variable {C : Cn} {ρ : List Addr} {FR H : Hp} {ah : AH} {X : Cx} {Q : VK} {p : Addr} {pins : List (Addr × Obj)} {σ : L2.St} {s : Shared}
mutual
theorem nk_is (F : Fit C X) (I : Inv X pins σ H s) : ∀ (n : Nat) (d : D) (v : V) (u : Value), okD n d = true → noLst d = true → Rp C ρ H d v → RelV v u → NestedIs s.heap (nk d) u
  | _, _, _, u, _, _, .non, r => by cases r; exact .none
  | _, _, _, u, _, _, .bl b, r => by cases r; exact .bool rfl
  | _, _, _, u, _, _, .int i, r => by obtain ⟨t, rfl⟩ := r; exact .int i t
  | _, _, _, u, _, _, .str x, r => by obtain ⟨t, rfl⟩ := r; exact .text x t
  | n, .tup xs, _, u, ok, nl, .tup h1 h2, r => by
    cases r
    cases n with
    | zero => simp [okD] at ok
    | succ n =>
      simp only [okD] at ok
      simp only [noLst] at nl
      obtain ⟨its, rv, ⟨o, ho, hc, m, hd⟩, _⟩ := I.tuple (F.K ▸ h1.sq)
      exact .tup ho hc hd (nkL_is F I n xs _ _ ok nl h2 (by simpa using rv))
  | _, .lst _, _, _, _, nl, _, _ => by simp [noLst] at nl
  | n, .dic _ _, _, _, ok, _, _, _ => by cases n <;> simp [okD] at ok
  | n, .ref _, _, _, ok, _, _, _ => by cases n <;> simp [okD] at ok
  | n, .fn _, _, _, ok, _, _, _ => by cases n <;> simp [okD] at ok
  | n, .scr _, _, _, ok, _, _, _ => by cases n <;> simp [okD] at ok
theorem nkL_is (F : Fit C X) (I : Inv X pins σ H s) : ∀ (n : Nat) (ds : List D) (vs : List V) (us : List Value), okL n ds = true → noLstL ds = true → RpL C ρ H ds vs → Vals vs us → NestedAll s.heap (nk.nkL ds) us
  | _, _, _, _, _, _, .nil, r => by cases r; exact .nil
  | n, d :: ds, _, _, ok, nl, .cons h1 h2, r => by
    cases r with
    | cons r1 r2 =>
      simp only [okL, Bool.and_eq_true] at ok
      simp only [noLstL, Bool.and_eq_true] at nl
      exact .cons (nk_is F I n d _ _ ok.1 nl.1 h1 r1) (nkL_is F I n ds _ _ ok.2 nl.2 h2 r2)
end
theorem okK_tup {xs : List D} (h : okK (.tup xs) = true) : okD 8 (.tup xs) = true ∧ noLst (.tup xs) = true := by
  simp only [okK, Bool.and_eq_true] at h
  exact ⟨h.1, by simpa [noLst] using h.2⟩
theorem key_is (F : Fit C X) (I : Inv X pins σ H s) {xs : List D} {a : Addr} (h : okK (.tup xs) = true) (r : Rp C ρ H (.tup xs) (.ref a)) : (nestedKind X.prog X.w).is s.heap (nk (.tup xs)) a := by
  obtain ⟨h1, h2⟩ := okK_tup h
  exact ⟨nk_is F I 8 _ _ _ h1 h2 r rfl, nk_depth 8 _ h1⟩
theorem nk_dec {xs ys : List D} (h1 : okK (.tup xs) = true) (h2 : okK (.tup ys) = true) : decide (nk (.tup xs) = nk (.tup ys)) = eqv (.tup xs) (.tup ys) := by
  obtain ⟨a1, a2⟩ := okK_tup h1
  obtain ⟨b1, b2⟩ := okK_tup h2
  rw [NestedKey.decide_eq, nk_eqv 8 8 _ _ a1 b1 a2 b2]

/-- the dict's own entries, told as the library tells them -/
theorem RpE.is (F : Fit C X) (I : Inv X pins σ H s) : ∀ {ks ds : List D} {es : List Ent}, RpE C ρ H ks ds es → ∀ x ∈ es, (nestedKind X.prog X.w).is s.heap x.1 x.2.1
  | _, _, _, .nil, x, hx => by cases hx
  | _, _, _, .cons h1 h2 _ _ h5, x, hx => by
    rcases List.mem_cons.mp hx with rfl | hx
    · exact key_is F I h2 h1
    · exact RpE.is F I h5 x hx
theorem raw_ok (F : Fit C X) (I : Inv X pins σ H s) {a : Addr} {es : List Ent} (h : Rd H a (dicO C a es)) : RawD X.prog X.w s.heap a es := by
  obtain ⟨q, _, _⟩ := h.ok I.hok
  rw [F.P, F.w]
  exact q
theorem RpE.ofH (F : Fit C X) (I : Inv X pins σ H s) (s' : Sub FR H) {a : Addr} {ks ds : List D} {es : List Ent} (h : Rd H a (dicO C a es)) (r : RpE C ρ FR ks ds es) : s.heap.DictOfH (nestedKind X.prog X.w) a es := by
  obtain ⟨_, _, o, xs, ep, h1, h2, h3, h4, h5⟩ := raw_ok F I h
  exact ⟨o, xs, ep, h1, h2, h3, h4, RpE.is F I (RpE.mono s' Pre.refl r), h5⟩
theorem RpE.find {k : D} : ∀ {ks ds : List D} {es : List Ent} {zs : List D}, RpE C ρ H ks ds es → k = .tup zs → okK k = true →
    ((findK k ks).isSome = (atKey es (nk k)).isSome) ∧ ∀ j d, findK k ks = some j → ds[j]? = some d → ∃ (b : Addr) (v : V) (u : Value), atKey es (nk k) = some (b, u) ∧ RelV v u ∧ Rp C ρ H d v
  | _, _, _, _, .nil, _, _ => ⟨by simp [findK, atKey], fun j d e => by simp [findK] at e⟩
  | _, _, _, zs, .cons (xs := xs) (a := a) (d := d) (v := v) (u := u) (ks := ks) (es := es) h1 h2 h3 h4 h5, e, hk => by
    subst e
    have hd := nk_dec h2 hk
    obtain ⟨i1, i2⟩ := RpE.find h5 rfl hk
    by_cases he : nk (.tup xs) = nk (.tup zs)
    · have e1 : eqv (.tup xs) (.tup zs) = true := by rw [← hd]; exact decide_eq_true he
      have e2 : atKey ((nk (.tup xs), a, u) :: es) (nk (.tup zs)) = some (a, u) := by simp [atKey, List.find?_cons, he]
      refine ⟨by simp [findK, e1, e2], fun j d' q1 q2 => ?_⟩
      simp only [findK, e1, if_true] at q1
      cases q1
      have q3 : d = d' := Option.some.inj q2
      subst q3
      exact ⟨a, v, u, e2, h4, h3⟩
    · have e1 : eqv (.tup xs) (.tup zs) = false := by rw [← hd]; exact decide_eq_false he
      have e2 : atKey ((nk (.tup xs), a, u) :: es) (nk (.tup zs)) = atKey es (nk (.tup zs)) := by simp [atKey, List.find?_cons, he]
      refine ⟨by simp [findK, e1, e2, i1], fun j d' q1 q2 => ?_⟩
      simp only [findK, e1, Bool.false_eq_true, if_false] at q1
      obtain ⟨j', q3, rfl⟩ := Option.map_eq_some_iff.mp q1
      rw [e2]
      exact i2 j' d' q3 (by simpa using q2)
/-- a scalar key -/
def sk : D → Option Key
  | .int i => some (.inl i)
  | .str x => some (.inr x)
  | _ => none
theorem sk_kV {k : D} {z : Key} (h : sk k = some z) {v : V} (w : seen C ρ FR H k v) : v = kV z := by
  cases k <;> simp only [sk, reduceCtorEq, Option.some.injEq] at h
  · subst h; exact w.int
  · subst h; exact w.str
theorem sk_eqv {x k : D} {a b : Key} (h1 : sk x = some a) (h2 : sk k = some b) : decide (a = b) = eqv x k := by
  cases x <;> simp only [sk, reduceCtorEq, Option.some.injEq] at h1 <;> cases k <;> simp only [sk, reduceCtorEq, Option.some.injEq] at h2 <;> subst h1 <;> subst h2
  · rw [key_ll]; simp [eqv]
  · rw [key_lr]; simp [eqv]
  · rw [key_rl]; simp [eqv]
  · rw [key_rr]; simp only [eqv]
    rename_i x y
    by_cases h : x = y
    · subst h; simp
    · rw [decide_eq_false h, beq_eq_false_iff_ne.mpr h]
theorem RpK.find {k : D} {z : Key} : ∀ {ks ds : List D} {es : List (Key × V)}, RpK C ρ H ks ds es → sk k = some z →
    ((findK k ks).isSome = (valV es z).isSome) ∧ ∀ j d, findK k ks = some j → ds[j]? = some d → ∃ v : V, valV es z = some v ∧ Rp C ρ H d v
  | _, _, _, .nil, _ => ⟨by simp [findK, valV], fun j d e => by simp [findK] at e⟩
  | _, _, _, .int (i := i) (d := d) (v := v) (ks := ks) (kvs := es) h3 h5, hk => by
    have hd := sk_eqv (x := .int i) rfl hk
    obtain ⟨i1, i2⟩ := RpK.find h5 hk
    by_cases he : (Sum.inl i : Key) = z
    · have e1 : eqv (.int i) k = true := by rw [← hd]; exact decide_eq_true he
      have e2 : valV ((Sum.inl i, v) :: es) z = some v := valV_pos (p := (Sum.inl i, v)) (r := es) he
      refine ⟨by simp [findK, e1, e2], fun j d' q1 q2 => ?_⟩
      simp only [findK, e1, if_true] at q1
      cases q1
      have q3 : d = d' := Option.some.inj q2
      subst q3
      exact ⟨v, e2, h3⟩
    · have e1 : eqv (.int i) k = false := by rw [← hd]; exact decide_eq_false he
      rw [valV_neg he]
      refine ⟨by simp [findK, e1, i1], fun j d' q1 q2 => ?_⟩
      simp only [findK, e1, Bool.false_eq_true, if_false] at q1
      obtain ⟨j', q3, rfl⟩ := Option.map_eq_some_iff.mp q1
      exact i2 j' d' q3 (by simpa using q2)
  | _, _, _, .str (x := i) (d := d) (v := v) (ks := ks) (kvs := es) h3 h5, hk => by
    have hd := sk_eqv (x := .str i) rfl hk
    obtain ⟨i1, i2⟩ := RpK.find h5 hk
    by_cases he : (Sum.inr i : Key) = z
    · have e1 : eqv (.str i) k = true := by rw [← hd]; exact decide_eq_true he
      have e2 : valV ((Sum.inr i, v) :: es) z = some v := valV_pos (p := (Sum.inr i, v)) (r := es) he
      refine ⟨by simp [findK, e1, e2], fun j d' q1 q2 => ?_⟩
      simp only [findK, e1, if_true] at q1
      cases q1
      have q3 : d = d' := Option.some.inj q2
      subst q3
      exact ⟨v, e2, h3⟩
    · have e1 : eqv (.str i) k = false := by rw [← hd]; exact decide_eq_false he
      rw [valV_neg he]
      refine ⟨by simp [findK, e1, i1], fun j d' q1 q2 => ?_⟩
      simp only [findK, e1, Bool.false_eq_true, if_false] at q1
      obtain ⟨j', q3, rfl⟩ := Option.map_eq_some_iff.mp q1
      exact i2 j' d' q3 (by simpa using q2)

/-- a dict that is read with a key: the library's two ways -/
inductive DicW (C : Cn) (ρ : List Addr) (FR : Hp) (X : Cx) (H : Hp) (s : Shared) (ks ds : List D) (a : Addr) (k : D) (v : V) : Prop
  | k {kvs : List (Key × V)} {z : Key} : Rd H a (.dK kvs) → RpK C ρ FR ks ds kvs → sk k = some z → v = kV z → DicW C ρ FR X H s ks ds a k v
  | t {es : List Ent} {zs : List D} {b : Addr} : s.heap.DictOfH (nestedKind X.prog X.w) a es → (a == sysModules) = false → RpE C ρ FR ks ds es → k = .tup zs → okK k = true → v = .ref b → (nestedKind X.prog X.w).is s.heap (nk k) b → DicW C ρ FR X H s ks ds a k v
  | no {z : Key} : ks = [] → Rd H a (dicO C a []) → sk k = some z → v = kV z → DicW C ρ FR X H s ks ds a k v
theorem rd_dk (I : Inv X pins σ H s) {a : Addr} {kvs : List (Key × V)} (e : Rd H a (.dK kvs)) : kvs.length ≤ sizeLine ∧ (a == sysModules) = false ∧ ∃ vs, KV kvs vs ∧ s.heap.DictOf (mixKind X.prog X.w) a vs := e.ok I.hok
theorem okK_cases {k : D} (h : okK k = true) : (∃ z, sk k = some z) ∨ ∃ zs, k = .tup zs := by
  cases k <;> first
    | (simp [okK] at h; done)
    | exact .inl ⟨_, rfl⟩
    | exact .inr ⟨_, rfl⟩
theorem sk_tup {k : D} {z : Key} {zs : List D} (h : sk k = some z) (e : k = .tup zs) : False := by subst e; simp [sk] at h
theorem dicW (F : Fit C X) (I : Inv X pins σ H s) (rh : RelH C ρ FR ah H) {ks ds : List D} {k : D} {x v : V} (w1 : seen C ρ FR H (.dic ks ds) x) (w2 : seen C ρ FR H k v) (hf : fitK k ks = true) : ∃ a, x = .ref a ∧ DicW C ρ FR X H s ks ds a k v := by
  obtain ⟨a, rfl, q⟩ := w1.dic rh.sub
  refine ⟨a, rfl, ?_⟩
  unfold fitK at hf
  rw [Bool.and_eq_true] at hf
  obtain ⟨h1, h2⟩ := hf
  rcases okK_cases h1 with ⟨z, hz⟩ | ⟨zs, hz⟩
  · have ev := sk_kV hz w2
    rcases q with ⟨kvs, e, r⟩ | ⟨es, e, r⟩
    · exact .k e r hz ev
    · cases r with
      | nil => exact .no rfl e hz ev
      | cons _ _ _ _ _ =>
        simp only at h2
        cases k <;> first
          | (simp [isT] at h2; done)
          | (simp [sk] at hz; done)
  · obtain ⟨b, rfl⟩ : ∃ b, v = .ref b := by
      subst hz
      have := w2.rp rh.sub fun ks vs e => by cases e
      cases this
      exact ⟨_, rfl⟩
    have hi : (nestedKind X.prog X.w).is s.heap (nk k) b := by
      subst hz
      exact key_is F I h1 (w2.rp rh.sub fun ks vs e => by cases e)
    rcases q with ⟨kvs, e, r⟩ | ⟨es, e, r⟩
    · cases r with
      | nil =>
        obtain ⟨_, h3, vs, kv, o, xs, ep, p1, p2, p3, p4, p5, p6⟩ := rd_dk I e
        cases kv
        have e0 : xs.toList = [] := by
          cases hx : xs.toList with
          | nil => rfl
          | cons y ys => rw [hx] at p5; cases p5
        exact .t (es := []) ⟨o, xs, ep, p1, p2, p3, e0, fun _ z => absurd z List.not_mem_nil, List.nodup_nil⟩ h3 .nil hz h1 rfl hi
      | int _ _ =>
        subst hz
        simp [isT] at h2
      | str _ _ =>
        subst hz
        simp [isT] at h2
    · exact .t (RpE.ofH F I rh.sub e r) (raw_ok F I e).2.1 r hz h1 rfl hi

theorem room8 (F : Fit C X) : (nestedKind X.prog X.w).room X.A.in1 := by
  have := F.un
  show X.A.units + 1 + 8 < cLine
  omega
theorem RpE.nil_of {ds : List D} {es : List Ent} (r : RpE C ρ H [] ds es) : ds = [] ∧ es = [] := by cases r; exact ⟨rfl, rfl⟩
theorem shapedL {xs : List D} (h : okL deep xs = true) : PyData.canLayAll0 (py.pyL xs) = true ∧ PyData.depthAll (py.pyL xs) ≤ 60 := okL_lay deep xs h
theorem any_py {xs : List D} {d : D} (h : okL deep xs = true) (hd : okD deep d = true) : ((py.pyL xs).any fun y => PyData.eqv y (py d)) = xs.any fun y => eqv y d := by
  induction xs with
  | nil => rfl
  | cons x xs ih =>
    simp only [okL, Bool.and_eq_true] at h
    simp only [py.pyL, List.any_cons]
    rw [ih h.2, eqv_py deep deep x d h.1 hd]
theorem seen.reads (F : Fit C X) (I : Inv X pins σ H s) (sb : Sub FR H) {d : D} {v : V} {u : Value} (n : Nat) (ok : okD n d = true) (w : seen C ρ FR H d v) (r : RelV v u) : ∃ as, Reads s.heap u (py d) as :=
  Dp.reads I _ _ u (F.K ▸ Rp.dp n d v ok (w.rp sb fun ks vs e => by rw [e] at ok; cases n <;> simp [okD] at ok)) r
theorem dic_none (F : Fit C X) (I : Inv X pins σ H s) {a : Addr} (e : Rd H a (dicO C a [])) : (a == sysModules) = false ∧ s.heap.DictOf (mixKind X.prog X.w) a [] := by
  obtain ⟨_, h3, o, xs, ep, p1, p2, p3, p4, p5⟩ := raw_ok F I e
  have e1 : xs.toList = [] := by simpa using p4
  refine ⟨h3, o, xs, ep, p1, p2, p3, fun y hy => ?_, by rw [e1]; exact .nil, List.nodup_nil⟩
  have : y ∈ xs.toList := by simpa using hy
  rw [e1] at this
  exact absurd this List.not_mem_nil
/-- members, told by one rule for in and not in -/
theorem mem_ok (F : Fit C X) (I : Inv X pins σ H s) (rh : RelH C ρ FR ah H) {d c : D} {x y : V} {u w : Value} {b : Bool} (s1 : seen C ρ FR H d x) (s2 : seen C ρ FR H c y) (r1 : RelV x u) (r2 : RelV y w) (h : inD d c = some b) {Q : Value → Shared → Prop} {E : Value → Shared → Prop} :
    ((∀ s', Inv X pins σ H s' → Q (.bool b) s') → wpAny (model X.prog X.w) X.A (compareOp .In u w) Q E s) ∧ ((∀ s', Inv X pins σ H s' → Q (.bool (!b)) s') → wpAny (model X.prog X.w) X.A (compareOp .NotIn u w) Q E s) := by
  have un := F.un
  cases c <;> simp only [inD, reduceCtorEq] at h
  case tup ys =>
    split at h
    · rename_i hc
      obtain ⟨o1, o2⟩ := Bool.and_eq_true_iff.mp hc
      cases h
      obtain ⟨as, q1⟩ := s1.reads F I rh.sub deep o1 r1
      obtain ⟨bs, q2⟩ := s2.reads F I rh.sub (deep + 1) (by simp only [okD]; exact o2) r2
      simp only [py] at q2
      obtain ⟨l1, l2⟩ := shapedL o2
      obtain ⟨l3, l4⟩ := ok_lay deep d o1
      rw [← any_py o2 o1]
      exact ⟨fun k => SeqAt.in_tuple_reads q2 q1 l1 l3 (by omega) (k s I), fun k => SeqAt.notIn_tuple_reads q2 q1 l1 l3 (by omega) (k s I)⟩
    · cases h
  case lst ys =>
    split at h
    · rename_i hc
      obtain ⟨o1, o2⟩ := Bool.and_eq_true_iff.mp hc
      cases h
      obtain ⟨as, q1⟩ := s1.reads F I rh.sub deep o1 r1
      obtain ⟨bs, q2⟩ := s2.reads F I rh.sub (deep + 1) (by simp only [okD]; exact o2) r2
      simp only [py] at q2
      obtain ⟨l1, l2⟩ := shapedL o2
      obtain ⟨l3, l4⟩ := ok_lay deep d o1
      rw [← any_py o2 o1]
      exact ⟨fun k => SeqAt.in_list_reads q2 q1 l1 l3 (by omega) (k s I), fun k => SeqAt.notIn_list_reads q2 q1 l1 l3 (by omega) (k s I)⟩
    · cases h
  case dic ks ds =>
    split at h
    · rename_i hc
      cases h
      obtain ⟨a, rfl, W⟩ := dicW F I rh s2 s1 hc
      cases r2
      cases W with
      | k e r hz ev =>
        subst ev
        obtain ⟨hs, _⟩ := RpK.find r hz
        obtain ⟨_, lo, vs, rel, dd⟩ := rd_dk I e
        rw [hs, (rel.val _).isSome_eq]
        exact ⟨fun k => wpAny_in_of (kV_is r1) lo dd.mapOf (k _ (I.tok _)), fun k => wpAny_notIn_of (kV_is r1) lo dd.mapOf (k _ (I.tok _))⟩
      | t hm hd r hz hk ev hi =>
        subst ev
        cases r1
        obtain ⟨hs, _⟩ := RpE.find r hz hk
        rw [hs]
        exact ⟨fun k => wpAny_in_heap (room8 F) hi hd hm (k _ (I.tok _)), fun k => wpAny_notIn_heap (room8 F) hi hd hm (k _ (I.tok _))⟩
      | no e0 e hz ev =>
        subst e0
        subst ev
        obtain ⟨h3, hm⟩ := dic_none F I e
        refine ⟨fun k => wpAny_in_of (kV_is r1) h3 hm.mapOf ?_, fun k => wpAny_notIn_of (kV_is r1) h3 hm.mapOf ?_⟩
        · exact k _ (I.tok _)
        · exact k _ (I.tok _)
    · cases h
theorem opr_in (F : Fit C X) : OpR X (PySem.compareOp .In) (rc C inD) := by
  intro pins s σ H x y v u Q I rx ry ⟨ρ, FR, ah, d1, d2, d, rh, s1, s2, hg, q⟩
  obtain ⟨b, hb, rfl⟩ := Option.map_eq_some_iff.mp hg
  exact (mem_ok F I rh s1 s2 rx ry hb).1 fun s' I' => ⟨.bl _, H, I', rfl, q.same rh rfl (.bl _)⟩
theorem opr_notin (F : Fit C X) : OpR X (PySem.compareOp .NotIn) (rc C fun x y => (inD x y).map (!·)) := by
  intro pins s σ H x y v u Q I rx ry ⟨ρ, FR, ah, d1, d2, d, rh, s1, s2, hg, q⟩
  obtain ⟨b', hb', rfl⟩ := Option.map_eq_some_iff.mp hg
  obtain ⟨b, hb, rfl⟩ := Option.map_eq_some_iff.mp hb'
  exact (mem_ok F I rh s1 s2 rx ry hb).2 fun s' I' => ⟨.bl _, H, I', rfl, q.same rh rfl (.bl _)⟩
theorem isNon_dec {d : D} {v : V} (s1 : seen C ρ FR H d v) : isNon d = decide (v = .non) := by
  rcases s1 with h | ⟨o, a, rfl, rfl, _⟩
  · cases h <;> simp [Ev.isNon]
  · cases o <;> simp [Ev.isNon, Own.d]
theorem opr_is (F : Fit C X) : OpR X (PySem.compareOp .Is) (rc C (cmpop .is_)) := by
  intro pins s σ H x y v u Q I rx ry ⟨ρ, FR, ah, d1, d2, d, rh, s1, s2, hg, q⟩
  obtain ⟨b, hb, rfl⟩ := Option.map_eq_some_iff.mp hg
  cases d2 <;> simp only [cmpop, reduceCtorEq, Option.some.injEq] at hb
  subst hb
  cases s2.non
  exact op_isN pins s σ H x _ v u Q I rx ry ⟨rfl, by rw [← isNon_dec s1]; exact q.same rh rfl (.bl _)⟩
theorem opr_isnot (F : Fit C X) : OpR X (PySem.compareOp .IsNot) (rc C (cmpop .isnot)) := by
  intro pins s σ H x y v u Q I rx ry ⟨ρ, FR, ah, d1, d2, d, rh, s1, s2, hg, q⟩
  obtain ⟨b, hb, rfl⟩ := Option.map_eq_some_iff.mp hg
  cases d2 <;> simp only [cmpop, reduceCtorEq, Option.some.injEq] at hb
  subst hb
  cases s2.non
  exact op_notN pins s σ H x _ v u Q I rx ry ⟨rfl, by rw [← isNon_dec s1]; exact q.same rh rfl (.bl _)⟩
/-- the comparison's sign -/
def copOf : Cop → CmpOp
  | .eq => .Eq | .ne => .NotEq | .lt => .Lt | .le => .LtE | .gt => .Gt | .ge => .GtE | .isin => .In | .notin => .NotIn | .is_ => .Is | .isnot => .IsNot
def bopOf : Bop → Operator
  | .add => .Add | .sub => .Sub | .mul => .Mult | .fdiv => .FloorDiv | .mod => .Mod | .pow => .Pow | .shl => .LShift
theorem opr_cmp (F : Fit C X) : ∀ o : Cop, OpR X (PySem.compareOp (copOf o)) (rc C (cmpop o))
  | .eq => opr_eq F
  | .ne => opr_ne F
  | .lt => opr_lt F
  | .le => opr_le F
  | .gt => opr_gt F
  | .ge => opr_ge F
  | .isin => opr_in F
  | .notin => opr_notin F
  | .is_ => opr_is F
  | .isnot => opr_isnot F
theorem opr_bin (F : Fit C X) : ∀ o : Bop, OpR X (PySem.binaryOp (bopOf o)) (r2 C (Ev.binop o))
  | .add => opr_add F
  | .sub => opr_sub F
  | .mul => opr_mul F
  | .fdiv => opr_fdiv F
  | .mod => opr_mod F
  | .pow => opr_pow F
  | .shl => opr_shl F
/-- o[i] -/
def PstF (C : Cn) (ρ : List Addr) (FR H : Hp) (Q : VK) (d : D) (ah : AH) : Prop := Pst C ρ FR H (fz C) Q (.ok d ah)
def r2f (C : Cn) (g : D → D → Option D) : R2 := fun x y H Q => ∃ ρ FR ah d1 d2 d, RelH C ρ FR ah H ∧ seen C ρ FR H d1 x ∧ seen C ρ FR H d2 y ∧ g d1 d2 = some d ∧ PstF C ρ FR H Q d ah
theorem PstF.same {d : D} {v : V} (q : PstF C ρ FR H Q d ah) (rh : RelH C ρ FR ah H) (r : Rp C ρ FR d v) : Q v H := q ρ FR H v Ext.refl rh r
theorem atI_rp {xs : List D} {vs : List V} {i : Int} {d : D} (l : RpL C ρ FR xs vs) (h : Ev.atI xs i = some d) : ∃ v, L2.atI vs i = some v ∧ Rp C ρ FR d v := by
  unfold Ev.atI at h
  obtain ⟨j, hj, hd⟩ := Option.bind_eq_some_iff.mp h
  obtain ⟨v, hv, r⟩ := l.get hd
  refine ⟨v, ?_, r⟩
  unfold L2.atI
  have e : ixN vs.length i = ixOf xs.length i := by rw [l.length]; rfl
  rw [e, hj]
  exact hv
theorem ixr_sub (F : Fit C X) : IxR X (r2f C subD) := by
  intro value slice pins s σ H x y v u Q I rx ry ⟨ρ, FR, ah, d1, d2, d, rh, s1, s2, hg, q⟩ hs
  have un := F.un
  cases d1 <;> simp only [subD, reduceCtorEq] at hg
  case tup xs =>
    cases d2 <;> simp only [reduceCtorEq] at hg
    cases s2.int
    obtain ⟨a, vs, rfl, t1, l1⟩ := s1.tup rh.sub
    obtain ⟨w, hw, r⟩ := atI_rp l1 hg
    exact ix_tup value slice pins s σ H _ _ v u Q I rx ry ⟨a, vs, _, w, rfl, rfl, F.K ▸ t1, hw, q.same rh r⟩ hs
  case lst xs =>
    cases d2 <;> simp only [reduceCtorEq] at hg
    cases s2.int
    obtain ⟨a, vs, rfl, t1, l1⟩ := s1.lst rh.sub
    obtain ⟨w, hw, r⟩ := atI_rp l1 hg
    exact ix_list value slice pins s σ H _ _ v u Q I rx ry ⟨a, vs, _, w, rfl, rfl, .inl t1, hw, q.same rh r⟩ hs
  case scr xs =>
    cases d2 <;> simp only [reduceCtorEq] at hg
    cases s2.int
    obtain ⟨a, vs, rfl, t1, l1⟩ := s1.scr rh.sub
    obtain ⟨w, hw, r⟩ := atI_rp l1 hg
    exact ix_list value slice pins s σ H _ _ v u Q I rx ry ⟨a, vs, _, w, rfl, rfl, F.K ▸ t1, hw, q.same rh r⟩ hs
  case dic ks ds =>
    split at hg
    · rename_i hc
      obtain ⟨j, hj, hd⟩ := Option.bind_eq_some_iff.mp hg
      obtain ⟨a, rfl, W⟩ := dicW F I rh s1 s2 hc
      cases rx
      cases W with
      | k e r hz ev =>
        subst ev
        obtain ⟨w, hw, rw'⟩ := (RpK.find r hz).2 j d hj hd
        obtain ⟨_, lo, vs, rel, dd⟩ := rd_dk I e
        obtain ⟨w', hw', ru⟩ := RelO.some_of (v := w) (by rw [← hw]; exact rel.val _)
        exact tail_any dd.typeIs slot_dict_getitem.lookup (wpAny_getItem_of (kV_is ry) dd.mapOf hw' ⟨w, H, I.tok _, ru, q.same rh rw'⟩) hs
      | t hm hd' r hz hk ev hi =>
        subst ev
        cases ry
        obtain ⟨b, w, u, hw, ru, rw'⟩ := (RpE.find r hz hk).2 j d hj hd
        exact tail_any hm.typeIs slot_dict_getitem.lookup (wpAny_getItem_heap (room8 F) hi hm hw ⟨w, H, I.tok _, ru, q.same rh rw'⟩) hs
      | no e0 e hz ev =>
        subst e0
        simp [findK] at hj
    · cases hg
end
end Sd

end
section
set_option Elab.async false
set_option linter.all false
set_option maxRecDepth 100000
set_option maxHeartbeats 1000000
/-! Sd6: expressions by their parts: operands, truth. -/
namespace Sd
open PySem PySem.Spec L2 Ev
open PyProof.Rows hiding St

abbrev Rs := Slots → AH → R D
/-- grades: new, frozen, of a slot, of a box -/
def TG (C : Cn) : Nat → Rs → TE
  | 0 => TN C
  | 1 => TF C
  | 2 => TL C
  | _ => TB C
section
variable {C : Cn} {ρ ρ1 ρ2 : List Addr} {FR FR1 FR2 H H1 H2 : Hp} {ah ah1 ah2 : AH} {sl : Slots} {σ : St} {X : Cx} {Q : VK} {e : Expr}
theorem PE.up {r : Rs} : ∀ {g g' : Nat}, g ≤ g' → PE X e (TG C g r) → PE X e (TG C g' r)
  | 0, 0, _, h => h
  | 0, 1, _, h => PE.ofNew h
  | 0, 2, _, h => PE.look (PE.ofNew h)
  | 0, _ + 3, _, h => PE.lookB (PE.look (PE.ofNew h))
  | 1, 1, _, h => h
  | 1, 2, _, h => PE.look h
  | 1, _ + 3, _, h => PE.lookB (PE.look h)
  | 2, 2, _, h => h
  | 2, _ + 3, _, h => PE.lookB h
  | _ + 3, _ + 3, _, h => h
  | 1, 0, z, _ => absurd z (by omega)
  | 2, 0, z, _ => absurd z (by omega)
  | 2, 1, z, _ => absurd z (by omega)
  | _ + 3, 0, z, _ => absurd z (by omega)
  | _ + 3, 1, z, _ => absurd z (by omega)
  | _ + 3, 2, z, _ => absurd z (by omega)
theorem bind_ok {α β : Type} {r : R α} {f : α → AH → R β} {b : β} {h : AH} (e : r.bind f = .ok b h) : ∃ a h1, r = .ok a h1 ∧ f a h1 = .ok b h := by
  cases r with
  | ok a h1 => exact ⟨a, h1, rfl, e⟩
  | ex _ _ => cases e
  | bad => cases e
theorem opt_ok {α : Type} {o : Option α} {a : α} {h h' : AH} (e : R.opt h o = .ok a h') : o = some a ∧ h' = h := by
  cases o with
  | some b =>
    have : R.ok b h = R.ok a h' := e
    cases this
    exact ⟨rfl, rfl⟩
  | none => cases e
theorem Pst.inv {φ : AH → Ph} {r : R D} (h : Pst C ρ FR H φ Q r) : ∃ d ah', r = .ok d ah' ∧ ∀ ρ' FR' H' v, Ext ρ FR H ρ' FR' H' → RelH C ρ' FR' ah' H' → φ ah' ρ' FR' H' d v → Q v H' := by
  cases r with
  | ok d ah' => exact ⟨d, ah', rfl, h⟩
  | ex _ _ => exact h.elim
  | bad => exact h.elim
/-- nothing is changed -/
def Quiet (r : Rs) : Prop := ∀ sl h d h', r sl h = .ok d h' → h' = h
/-- first a, then b -/
def Sq (C : Cn) (ra rb : Rs) (R : AH → D → D → List Addr → Hp → Hp → V → V → Prop) (σ : St) (H : Hp) : Prop :=
  ∃ ρ FR sl ah, Rel C ρ FR sl ah σ H ∧ ∃ d1 ah1 d2 ah2, ra sl ah = .ok d1 ah1 ∧ rb sl ah1 = .ok d2 ah2 ∧
    ∀ ρ2 FR2 H2 v1 v2, Ext ρ FR H ρ2 FR2 H2 → RelH C ρ2 FR2 ah2 H2 → seen C ρ2 FR2 H2 d1 v1 → seen C ρ2 FR2 H2 d2 v2 → R ah2 d1 d2 ρ2 FR2 H2 v1 v2
theorem Sq.L {ra rb : Rs} {R : V → V → Hp → Prop} (h : Sq C ra rb (fun _ _ _ _ _ H2 v1 v2 => R v1 v2 H2) σ H) : TL C ra σ H fun x H1 => TB C rb σ H1 fun y H2 => R x y H2 := by
  obtain ⟨ρ, FR, sl, ah, rel, d1, ah1, d2, ah2, e1, e2, h⟩ := h
  refine ⟨ρ, FR, sl, ah, rel, ?_⟩
  rw [e1]
  intro ρ1 FR1 H1 v1 x1 rh1 w1
  have rel1 := rel.ext x1 rh1
  refine ⟨ρ1, FR1, sl, ah1, rel1, ?_⟩
  rw [e2]
  intro ρ2 FR2 H2 v2 x2 rh2 w2
  have rel2 := rel1.ext x2 rh2
  exact h ρ2 FR2 H2 v1 v2 (x1.trans x2) rh2 (w1.later x2 rel2) (w2.later Ext.refl rel2)
theorem Sq.B {ra rb : Rs} (hq : Quiet rb) {R : V → V → Hp → Prop} (h : Sq C ra rb (fun _ _ _ _ _ H2 v1 v2 => R v1 v2 H2) σ H) : TB C ra σ H fun x H1 => TB C rb σ H1 fun y H2 => R x y H2 := by
  obtain ⟨ρ, FR, sl, ah, rel, d1, ah1, d2, ah2, e1, e2, h⟩ := h
  refine ⟨ρ, FR, sl, ah, rel, ?_⟩
  rw [e1]
  intro ρ1 FR1 H1 v1 x1 rh1 w1
  have rel1 := rel.ext x1 rh1
  refine ⟨ρ1, FR1, sl, ah1, rel1, ?_⟩
  rw [e2]
  intro ρ2 FR2 H2 v2 x2 rh2 w2
  have rel2 := rel1.ext x2 rh2
  have e3 := hq _ _ _ _ e2
  subst e3
  exact h ρ2 FR2 H2 v1 v2 (x1.trans x2) rh2 (w1.later x2 rel2) (w2.later Ext.refl rel2)
theorem Rn.back {d : D} {v : V} (t : ∀ a o, H a = some o → ∃ o', H1 a = some o') (w : Rn C H1 ah ρ FR H2 d v) : Rn C H ah ρ FR H2 d v := by
  unfold Rn at w ⊢
  cases ho : d.own? with
  | none => rw [ho] at w; exact w
  | some o =>
    rw [ho] at w
    obtain ⟨a, e, n, z⟩ := w
    exact ⟨a, e, none_of t n, z⟩
/-- a two-place operation -/
def bin2 (ra rb : Rs) (g : D → D → Option D) : Rs := fun sl h => (ra sl h).bind fun x h => (rb sl h).bind fun y h => R.opt h (g x y)
theorem bin2_ok {ra rb : Rs} {g : D → D → Option D} {h h' : AH} {d : D} (e : bin2 ra rb g sl h = .ok d h') : ∃ d1 h1 d2, ra sl h = .ok d1 h1 ∧ rb sl h1 = .ok d2 h' ∧ g d1 d2 = some d := by
  obtain ⟨d1, h1, e1, e⟩ := bind_ok e
  obtain ⟨d2, h2, e2, e⟩ := bind_ok e
  obtain ⟨e3, e4⟩ := opt_ok e
  subst e4
  exact ⟨d1, h1, d2, e1, e2, e3⟩
theorem sq_r2 {ra rb : Rs} {g : D → D → Option D} (q : TN C (bin2 ra rb g) σ H Q) : Sq C ra rb (fun _ _ _ _ _ H2 v1 v2 => r2 C g v1 v2 H2 Q) σ H := by
  obtain ⟨ρ, FR, sl, ah, rel, q0⟩ := q
  obtain ⟨d, ah', e, q⟩ := q0.inv
  obtain ⟨d1, h1, d2, e1, e2, e3⟩ := bin2_ok e
  refine ⟨ρ, FR, sl, ah, rel, d1, h1, d2, ah', e1, e2, fun ρ2 FR2 H2 v1 v2 x rh s1 s2 => ⟨ρ2, FR2, ah', d1, d2, d, rh, s1, s2, e3, fun ρ' FR' H' v x' rh' w => ?_⟩⟩
  exact q ρ' FR' H' v (x.trans x') rh' (Rn.back x.there w)
theorem sq_r2f {ra rb : Rs} {g : D → D → Option D} (q : TF C (bin2 ra rb g) σ H Q) : Sq C ra rb (fun _ _ _ _ _ H2 v1 v2 => r2f C g v1 v2 H2 Q) σ H := by
  obtain ⟨ρ, FR, sl, ah, rel, q0⟩ := q
  obtain ⟨d, ah', e, q⟩ := q0.inv
  obtain ⟨d1, h1, d2, e1, e2, e3⟩ := bin2_ok e
  refine ⟨ρ, FR, sl, ah, rel, d1, h1, d2, ah', e1, e2, fun ρ2 FR2 H2 v1 v2 x rh s1 s2 => ⟨ρ2, FR2, ah', d1, d2, d, rh, s1, s2, e3, fun ρ' FR' H' v x' rh' w => ?_⟩⟩
  exact q ρ' FR' H' v (x.trans x') rh' w
variable {a b c : Expr} {ra rb rc' : Rs} {g : Nat} {pos : Pos}
/-- the first operand: of a slot, or of a box where the rest is quiet -/
def Op1 (C : Cn) (X : Cx) (a : Expr) (ra rb : Rs) : Prop := PE X a (TL C ra) ∨ (PE X a (TB C ra) ∧ Quiet rb)
theorem op1 (h : PE X a (TG C g ra)) (hg : g ≤ 2 ∨ (g ≤ 3 ∧ Quiet rb)) : Op1 C X a ra rb := by
  rcases hg with z | ⟨z, z2⟩
  · exact .inl (PE.up z h)
  · exact .inr ⟨PE.up (g' := 3) z h, z2⟩
theorem s_bin (F : Fit C X) (o : Bop) (ha : Op1 C X a ra rb) (hb : PE X b (TB C rb)) : PE X (.BinOp a (bopOf o) b pos) (TN C (bin2 ra rb (Ev.binop o))) := by
  rcases ha with ha | ⟨ha, hq⟩
  · exact PE.imp (pe_op (opr_bin F o) ha hb) fun σ H Q q => (sq_r2 q).L
  · exact PE.imp (pe_op (opr_bin F o) ha hb) fun σ H Q q => (sq_r2 q).B hq
theorem s_cmp (F : Fit C X) (o : Cop) (ha : Op1 C X a ra rb) (hb : PE X b (TB C rb)) (hm : behindInMarks (copOf o) b = false) : PE X (.Compare a [copOf o] [b] pos) (TN C (bin2 ra rb fun x y => (cmpop o x y).map .bl)) := by
  rcases ha with ha | ⟨ha, hq⟩
  · exact PE.imp (pe_cmpR (opr_cmp F o) ha hb hm) fun σ H Q q => (sq_r2 q).L
  · exact PE.imp (pe_cmpR (opr_cmp F o) ha hb hm) fun σ H Q q => (sq_r2 q).B hq
theorem s_sub (F : Fit C X) (ha : Op1 C X a ra rb) (hb : PE X b (TB C rb)) (hs : PlainIx b) : PE X (.Subscript a b pos) (TF C (bin2 ra rb subD)) := by
  rcases ha with ha | ⟨ha, hq⟩
  · exact PE.imp (pe_ix (ixr_sub F) ha hb hs) fun σ H Q q => (sq_r2f q).L
  · exact PE.imp (pe_ix (ixr_sub F) ha hb hs) fun σ H Q q => (sq_r2f q).B hq

/-! ### names -/
theorem s_var {i : Nat} {x : Str} (hN : X.N[i]? = some x) (hv : Vis X.env.scope x) (hd : (x == ("__debug__" : Str)) = false) (hcd : (x == ("__classdict__" : Str)) = false) : PE X (.Name x pos) (TF C fun sl h => R.opt h (getS sl i)) := by
  refine PE.imp (pe_var hN hv hd hcd) fun σ H Q ⟨ρ, FR, sl, ah, rel, q0⟩ => ?_
  obtain ⟨d, ah', e, q⟩ := q0.inv
  obtain ⟨e1, rfl⟩ := opt_ok e
  unfold getS at e1
  split at e1
  · rename_i d' hd'
    cases e1
    obtain ⟨v, ev, r⟩ := rel.val i d hd'
    exact ⟨v, ev, q ρ FR H v Ext.refl rel.toRelH r⟩
  · cases e1
theorem s_bs {i : Nat} {x : Str} (hN : X.N[i]? = some x) (hv : Vis X.env.scope x) (hd : (x == ("__debug__" : Str)) = false) (hcd : (x == ("__classdict__" : Str)) = false) : PE X (.Name x pos) (TL C fun sl h => R.opt h ((getO sl i).map Own.d)) := by
  refine PE.imp (pe_var hN hv hd hcd) fun σ H Q ⟨ρ, FR, sl, ah, rel, q0⟩ => ?_
  obtain ⟨d, ah', e, q⟩ := q0.inv
  obtain ⟨e1, rfl⟩ := opt_ok e
  obtain ⟨o, eo, rfl⟩ := Option.map_eq_some_iff.mp e1
  unfold getO at eo
  split at eo
  · rename_i o' ho'
    cases eo
    obtain ⟨a, ev, r⟩ := rel.own i o ho'
    exact ⟨_, ev, q ρ FR H _ Ext.refl rel.toRelH (.inr ⟨i, o, ho', rfl, ev⟩)⟩
  · cases eo
theorem s_bx {r : Rs} (h : PE X e (TF C r)) : PE X e (TB C fun sl h => (r sl h).bind fun d h => R.opt h ((getB h d).map Own.d)) := by
  refine PE.imp h fun σ H Q ⟨ρ, FR, sl, ah, rel, q0⟩ => ⟨ρ, FR, sl, ah, rel, ?_⟩
  obtain ⟨d, ah', e, q⟩ := q0.inv
  obtain ⟨d1, h1, e1, e⟩ := bind_ok e
  obtain ⟨e2, rfl⟩ := opt_ok e
  obtain ⟨o, eo, rfl⟩ := Option.map_eq_some_iff.mp e2
  rw [e1]
  intro ρ' FR' H' v x rh w
  unfold getB at eo
  split at eo
  · rename_i n
    split at eo
    · rename_i o' ho
      cases eo
      cases w with
      | ref hn => exact q ρ' FR' H' _ x rh (.inr ⟨n, o, _, ho, hn, rfl, rfl⟩)
    · cases eo
  · cases eo
/-- a constant -/
theorem tf_c {d : D} {v : V} {σ : St} {H : Hp} {Q : VK} (hr : ∀ ρ FR, Rp C ρ FR d v) (q : TF C (fun _ h => .ok d h) σ H Q) : tC v σ H Q := by
  obtain ⟨ρ, FR, sl, ah, rel, q0⟩ := q
  exact q0 ρ FR H v Ext.refl rel.toRelH (hr ρ FR)
theorem s_int {i : Int} {j} : PE X (.Constant (.int i) j pos) (TF C fun _ h => .ok (.int i) h) := PE.imp pe_int fun _ _ _ q => tf_c (fun _ _ => .int i) q
theorem s_bl {i : Bool} {j} : PE X (.Constant (.bool i) j pos) (TF C fun _ h => .ok (.bl i) h) := PE.imp pe_bl fun _ _ _ q => tf_c (fun _ _ => .bl i) q
theorem s_str {i : Str} {j} : PE X (.Constant (.str i) j pos) (TF C fun _ h => .ok (.str i) h) := PE.imp pe_str fun _ _ _ q => tf_c (fun _ _ => .str i) q
theorem s_non {j} : PE X (.Constant .none j pos) (TF C fun _ h => .ok .non h) := PE.imp pe_non fun _ _ _ q => tf_c (fun _ _ => .non) q
theorem s_glob {x : Str} {d : D} {v : V} {u : Value} (hr : ∀ ρ FR, Rp C ρ FR d v) (hg : L2.Gl X x) (hm : X.mg x = some u) (r : RelV v u) (hd : (x == ("__debug__" : Str)) = false) : PE X (.Name x pos) (TF C fun _ h => .ok d h) :=
  PE.imp (pe_glob hg hm r hd) fun _ _ _ q => tf_c hr q

/-! ### truth -/
theorem seen.tru (F : Fit C X) (s : Sub FR H) {d : D} {v : V} {k : Bool} (w : seen C ρ FR H d v) (h : truth d = some k) : TruV X.K v H k := by
  cases d <;> simp only [truth, reduceCtorEq, Option.some.injEq] at h
  case non => cases w.non; exact h.symm
  case bl => cases w.bl; exact h.symm
  case int => cases w.int; exact h.symm
  case str =>
    cases w.str
    split at h
    · rename_i hl
      cases h
      exact ⟨line_eq ▸ hl, rfl⟩
    · cases h
  case tup xs =>
    obtain ⟨a, vs, rfl, t, l⟩ := w.tup s
    subst h
    refine .inr (.inl ⟨vs, F.K ▸ t, ?_⟩)
    cases l <;> rfl
  case lst xs =>
    obtain ⟨a, vs, rfl, t, l⟩ := w.lst s
    subst h
    refine .inl ⟨vs, .inl t, ?_⟩
    cases l <;> rfl
  case scr xs =>
    obtain ⟨a, vs, rfl, t, l⟩ := w.scr s
    subst h
    refine .inl ⟨vs, F.K ▸ t, ?_⟩
    cases l <;> rfl
/-- behind a test -/
def Pt (ρ : List Addr) (C : Cn) (FR H : Hp) (Q : Bool → Hp → Prop) : R Bool → Prop
  | .ok b ah' => ∀ ρ' FR' H', Ext ρ FR H ρ' FR' H' → RelH C ρ' FR' ah' H' → Q b H'
  | _ => False
def Tt (C : Cn) (r : Slots → AH → R Bool) : TT := fun σ H Q => ∃ ρ FR sl ah, Rel C ρ FR sl ah σ H ∧ Pt ρ C FR H Q (r sl ah)
theorem Pt.inv {Q : Bool → Hp → Prop} {r : R Bool} (h : Pt ρ C FR H Q r) : ∃ d ah', r = .ok d ah' ∧ ∀ ρ' FR' H', Ext ρ FR H ρ' FR' H' → RelH C ρ' FR' ah' H' → Q d H' := by
  cases r with
  | ok d ah' => exact ⟨d, ah', rfl, h⟩
  | ex _ _ => exact h.elim
  | bad => exact h.elim
def tru (r : Rs) : Slots → AH → R Bool := fun sl h => (r sl h).bind fun x h => R.opt h (truth x)
theorem tru_ok' {r : Rs} {h h' : AH} {k : Bool} (e : tru r sl h = .ok k h') : ∃ d, r sl h = .ok d h' ∧ truth d = some k := by
  obtain ⟨d1, h1, e1, e⟩ := bind_ok e
  obtain ⟨e3, e4⟩ := opt_ok e
  subst e4
  exact ⟨d1, e1, e3⟩
theorem tb_tru (F : Fit C X) {r : Rs} {σ : St} {H : Hp} {Q : Bool → Hp → Prop} (q : Tt C (tru r) σ H Q) : TB C r σ H fun x H' => ∃ k, TruV X.K x H' k ∧ Q k H' := by
  obtain ⟨ρ, FR, sl, ah, rel, q0⟩ := q
  obtain ⟨k, ah', e, q⟩ := q0.inv
  obtain ⟨d, e1, e2⟩ := tru_ok' e
  refine ⟨ρ, FR, sl, ah, rel, ?_⟩
  rw [e1]
  intro ρ' FR' H' v x rh w
  exact ⟨k, (w.later Ext.refl (rel.ext x rh)).tru F rh.sub e2, q ρ' FR' H' x rh⟩
theorem t_plain (F : Fit C X) {r : Rs} (h : PE X e (TB C r)) (he : ∀ whole, isTrue e X.env whole = (do let v ← whole; standAt e.pos; holding [v] (truthy v))) : PT X e (Tt C (tru r)) :=
  PT.imp (pt_truth h he) fun _ _ _ q => tb_tru F q
theorem s_not (F : Fit C X) {r : Rs} (h : PE X e (TB C r)) : PE X (.UnaryOp .Not e pos) (TF C fun sl h => (r sl h).bind fun x h => R.opt h ((truth x).map fun b => .bl (!b))) := by
  refine PE.imp (pe_notT h) fun σ H Q ⟨ρ, FR, sl, ah, rel, q0⟩ => ⟨ρ, FR, sl, ah, rel, ?_⟩
  obtain ⟨d, ah', e, q⟩ := q0.inv
  obtain ⟨d1, h1, e1, e⟩ := bind_ok e
  obtain ⟨e2, rfl⟩ := opt_ok e
  obtain ⟨k, ek, rfl⟩ := Option.map_eq_some_iff.mp e2
  rw [e1]
  intro ρ' FR' H' v x rh w
  exact ⟨k, (w.later Ext.refl (rel.ext x rh)).tru F rh.sub ek, q ρ' FR' H' _ x rh (.bl _)⟩
/-- a test's end is a value's -/
theorem t_not (F : Fit C X) {r : Rs} (h : PT X e (Tt C (tru r))) : PT X (.UnaryOp .Not e pos) (Tt C (tru fun sl h => (r sl h).bind fun x h => R.opt h ((truth x).map fun b => .bl (!b)))) := by
  refine PT.imp (pt_not h) fun σ H Q ⟨ρ, FR, sl, ah, rel, q0⟩ => ⟨ρ, FR, sl, ah, rel, ?_⟩
  obtain ⟨k, ah', e, q⟩ := q0.inv
  obtain ⟨d, e1, e2⟩ := tru_ok' e
  obtain ⟨d1, h1, e3, e⟩ := bind_ok e1
  obtain ⟨e4, rfl⟩ := opt_ok e
  obtain ⟨k', ek, rfl⟩ := Option.map_eq_some_iff.mp e4
  cases e2
  show Pt ρ C FR H _ ((r sl ah).bind _)
  rw [e3]
  show Pt ρ C FR H _ (R.opt ah' (truth d1))
  rw [ek]
  exact q
/-- a comparison as a test -/
theorem tt_test {r : Rs} {σ : St} {H : Hp} {Q : Bool → Hp → Prop} (hb : ∀ sl h d h', r sl h = .ok d h' → ∃ k, d = .bl k) (q : Tt C (tru r) σ H Q) : TN C r σ H fun x H' => ∃ k, x = .bl k ∧ Q k H' := by
  obtain ⟨ρ, FR, sl, ah, rel, q0⟩ := q
  obtain ⟨k, ah', e, q⟩ := q0.inv
  obtain ⟨d, e1, e2⟩ := tru_ok' e
  obtain ⟨k', rfl⟩ := hb _ _ _ _ e1
  refine ⟨ρ, FR, sl, ah, rel, ?_⟩
  rw [e1]
  intro ρ' FR' H' v x rh w
  cases e2
  cases w
  exact ⟨_, rfl, q ρ' FR' H' x rh⟩
theorem cmp_bl {o : Cop} {sl : Slots} {h h' : AH} {d : D} (e : bin2 ra rb (fun x y => (cmpop o x y).map .bl) sl h = .ok d h') : ∃ k, d = .bl k := by
  obtain ⟨_, _, _, _, _, e⟩ := bin2_ok e
  obtain ⟨k, _, rfl⟩ := Option.map_eq_some_iff.mp e
  exact ⟨k, rfl⟩
theorem t_cmp (F : Fit C X) (o : Cop) (ha : Op1 C X a ra rb) (hb : PE X b (TB C rb)) (hm : behindInMarks (copOf o) b = false) : PT X (.Compare a [copOf o] [b] pos) (Tt C (tru (bin2 ra rb fun x y => (cmpop o x y).map .bl))) := by
  rcases ha with ha | ⟨ha, hq⟩
  · exact PT.imp (pt_cmpR (opr_cmp F o) ha hb hm) fun σ H Q q => (sq_r2 (tt_test (fun _ _ _ _ => cmp_bl) q)).L
  · exact PT.imp (pt_cmpR (opr_cmp F o) ha hb hm) fun σ H Q q => (sq_r2 (tt_test (fun _ _ _ _ => cmp_bl) q)).B hq
end
end Sd

end
section
set_option Elab.async false
set_option linter.all false
set_option maxRecDepth 100000
set_option maxHeartbeats 1000000
/-! Sd7: argument lists, displays, and, or, chains, conditionals. -/
namespace Sd
open PySem PySem.Spec L2 Ev
open PyProof.Rows hiding St

section
variable {C : Cn} {ρ ρ1 ρ2 : List Addr} {FR FR1 FR2 H H1 H2 : Hp} {ah ah1 ah2 : AH} {sl : Slots} {σ : St} {X : Cx} {Q : VK} {e : Expr} {es : List Expr}
theorem PA.imp' {e : List Expr} {t t' : TA} (h : PA X e t) (w : ∀ σ H Q, t' σ H Q → t σ H Q) : PA X e t' := PA.imp h w
abbrev Rls := Slots → AH → R (List D)
/-- behind an argument list -/
def Pl (C : Cn) (ρ : List Addr) (FR H : Hp) (Q : List V → Hp → Prop) : R (List D) → Prop
  | .ok ds ah' => ∀ ρ' FR' H' vs, Ext ρ FR H ρ' FR' H' → RelH C ρ' FR' ah' H' → RpL C ρ' FR' ds vs → Q vs H'
  | _ => False
theorem Pl.inv {Q : List V → Hp → Prop} {r : R (List D)} (h : Pl C ρ FR H Q r) : ∃ d ah', r = .ok d ah' ∧ ∀ ρ' FR' H' vs, Ext ρ FR H ρ' FR' H' → RelH C ρ' FR' ah' H' → RpL C ρ' FR' d vs → Q vs H' := by
  cases r with
  | ok d ah' => exact ⟨d, ah', rfl, h⟩
  | ex _ _ => exact h.elim
  | bad => exact h.elim
def Ta (C : Cn) (r : Rls) : TA := fun σ H Q => ∃ ρ FR sl ah, Rel C ρ FR sl ah σ H ∧ Pl C ρ FR H Q (r sl ah)
def noStar : Expr → Bool
  | .Starred .. => false
  | _ => true
theorem star_cons {env : Env} (h : noStar e = true) : starEach (e :: es) env = (false, eval e env) :: starEach es env := by
  cases e <;> first
    | rfl
    | cases h
theorem star_any {env : Env} {pos : Pos} : ∀ {es : List Expr}, es.all noStar = true → (backTo pos (starEach es env)).any (·.1) = false
  | [], _ => rfl
  | e :: es, h => by
    rw [List.all_cons, Bool.and_eq_true] at h
    rw [star_cons h.1]
    show (false || (backTo pos (starEach es env)).any (·.1)) = false
    rw [star_any h.2]
    rfl
theorem a_nil : PA X [] (Ta C fun _ h => .ok [] h) := PA.imp pa_nil fun σ H Q ⟨ρ, FR, sl, ah, rel, q⟩ => q ρ FR H [] Ext.refl rel.toRelH .nil
def consR (r : Rs) (rs : Rls) : Rls := fun sl h => (r sl h).bind fun x h => (rs sl h).bind fun xs h => .ok (x :: xs) h
theorem consR_ok {r : Rs} {rs : Rls} {h h' : AH} {ds : List D} (e : consR r rs sl h = .ok ds h') : ∃ d h1 xs, r sl h = .ok d h1 ∧ rs sl h1 = .ok xs h' ∧ ds = d :: xs := by
  obtain ⟨d1, h1, e1, e⟩ := bind_ok e
  obtain ⟨d2, h2, e2, e⟩ := bind_ok e
  cases e
  exact ⟨d1, h1, d2, e1, e2, rfl⟩
theorem a_cons {r : Rs} {rs : Rls} (hs : noStar e = true) (h : PE X e (TF C r)) (t : PA X es (Ta C rs)) : PA X (e :: es) (Ta C (consR r rs)) := by
  refine PA.imp (pa_cons h t (star_cons hs)) fun σ H Q ⟨ρ, FR, sl, ah, rel, q⟩ => ⟨ρ, FR, sl, ah, rel, ?_⟩
  obtain ⟨ds, ah', e, q⟩ := q.inv
  obtain ⟨d, h1, xs, e1, e2, rfl⟩ := consR_ok e
  rw [e1]
  intro ρ1 FR1 H1 v x1 rh1 w1
  refine ⟨ρ1, FR1, sl, h1, rel.ext x1 rh1, ?_⟩
  rw [e2]
  intro ρ2 FR2 H2 vs x2 rh2 w2
  exact q ρ2 FR2 H2 (v :: vs) (x1.trans x2) rh2 (.cons (Rp.mono x2.fr x2.pre w1) w2)
/-- looked at only: one argument -/
def Tk (C : Cn) (r : Rs) : TA := fun σ H Q => TB C r σ H fun v H' => Q [v] H'
theorem a_look {r : Rs} (hs : noStar e = true) (h : PE X e (TB C r)) : PA X [e] (Tk C r) :=
  PA.imp (pa_cons h pa_nil (star_cons hs)) fun σ H Q q => q

/-! ### displays -/
variable {pos : Pos}
theorem s_tup {k} {rs : Rls} (hz : es.length ≤ line) (hl : ∀ sl h ds h', rs sl h = .ok ds h' → ds.length = es.length) (h : PA X es (Ta C rs)) : PE X (.Tuple es k pos) (TN C fun sl h => (rs sl h).bind fun xs h => .ok (.tup xs) h) := by
  refine PE.imp (pe_tupN h) fun σ H Q ⟨ρ, FR, sl, ah, rel, q⟩ => ⟨ρ, FR, sl, ah, rel, ?_⟩
  obtain ⟨d, ah', e, q⟩ := q.inv
  obtain ⟨ds, h1, e1, e⟩ := bind_ok e
  cases e
  rw [e1]
  intro ρ' FR' H' vs x rh w
  have q' : PstN C ρ' FR' H' Q (.tup ds) ah' := fun ρ2 FR2 H2 v x2 rh2 w2 => q ρ2 FR2 H2 v (x.trans x2) rh2 (Rn.back x.there w2)
  refine ⟨by rw [← w.length, hl _ _ _ _ e1, ← line_eq]; exact hz, q'.tup rh w⟩
theorem s_lst {k} {rs : Rls} (hz : es.length ≤ line) (hl : ∀ sl h ds h', rs sl h = .ok ds h' → ds.length = es.length) (h : PA X es (Ta C rs)) : PE X (.List es k) (TN C fun sl h => (rs sl h).bind fun xs h => .ok (.lst xs) h) := by
  refine PE.imp (pe_lst h) fun σ H Q ⟨ρ, FR, sl, ah, rel, q⟩ => ⟨ρ, FR, sl, ah, rel, ?_⟩
  obtain ⟨d, ah', e, q⟩ := q.inv
  obtain ⟨ds, h1, e1, e⟩ := bind_ok e
  cases e
  rw [e1]
  intro ρ' FR' H' vs x rh w
  have q' : PstN C ρ' FR' H' Q (.lst ds) ah' := fun ρ2 FR2 H2 v x2 rh2 w2 => q ρ2 FR2 H2 v (x.trans x2) rh2 (Rn.back x.there w2)
  refine ⟨by rw [← w.length, hl _ _ _ _ e1, ← line_eq]; exact hz, fun p n => q'.lst rh n w⟩

/-! ### and, or, conditionals -/
/-- what holds of a grade -/
structure Gr (C : Cn) (φ : Hp → Slots → St → AH → Ph) : Prop where
  see : ∀ {H : Hp} {sl : Slots} {σ : St} {ah1 : AH} {ρ1 : List Addr} {FR1 H1 : Hp} {d : D} {v : V}, Rel C ρ1 FR1 sl ah1 σ H1 → φ H sl σ ah1 ρ1 FR1 H1 d v → seen C ρ1 FR1 H1 d v
  back : ∀ {H H1 : Hp} {sl : Slots} {σ : St} {ah2 : AH} {ρ2 : List Addr} {FR2 H2 : Hp} {d : D} {v : V}, (∀ a o, H a = some o → ∃ o', H1 a = some o') → φ H1 sl σ ah2 ρ2 FR2 H2 d v → φ H sl σ ah2 ρ2 FR2 H2 d v
theorem gr_N : Gr C fun H _ _ => Rn C H where
  see := fun {H sl σ ah1 ρ1 FR1 H1 d v} rel w => by
    unfold Rn at w
    cases ho : d.own? with
    | none => rw [ho] at w; exact .inl w
    | some o =>
      rw [ho] at w
      obtain ⟨a, e, n, nf, m, w⟩ := w
      exact .inr ⟨o, a, own_d ho, e, w⟩
  back := fun t w => Rn.back t w
theorem gr_F : Gr C fun _ _ _ => fz C where
  see := fun _ w => .inl w
  back := fun _ w => w
theorem gr_L : Gr C fun _ sl σ => lookS C sl σ where
  see := fun rel w => w.later Ext.refl rel
  back := fun _ w => w
theorem gr_B : Gr C fun _ sl σ => lookB C sl σ where
  see := fun rel w => w.later Ext.refl rel
  back := fun _ w => w
def iteR (rt : Slots → AH → R Bool) (ra rb : Rs) : Rs := fun sl h => (rt sl h).bind fun t h => if t then ra sl h else rb sl h
variable {φ : Hp → Slots → St → AH → Ph} {a b c : Expr} {ra rb : Rs} {rt : Slots → AH → R Bool}
/-- a later evaluation's end is the whole's -/
theorem Pst.after {r : R D} (g : Gr C φ) (x : Ext ρ FR H ρ1 FR1 H1) (h : Pst C ρ FR H (φ H sl σ) Q r) : Pst C ρ1 FR1 H1 (φ H1 sl σ) Q r := by
  obtain ⟨d, ah', rfl, q⟩ := h.inv
  exact fun ρ2 FR2 H2 v x2 rh2 w => q ρ2 FR2 H2 v (x.trans x2) rh2 (g.back x.there w)
theorem s_ite (g : Gr C φ) (hc : PT X c (Tt C rt)) (ha : PE X a (Tx C φ ra)) (hb : PE X b (Tx C φ rb)) : PE X (.IfExp c a b pos) (Tx C φ (iteR rt ra rb)) := by
  refine PE.imp (pe_ifExp hc ha hb) fun σ H Q ⟨ρ, FR, sl, ah, rel, q⟩ => ⟨ρ, FR, sl, ah, rel, ?_⟩
  obtain ⟨d, ah', e, _⟩ := q.inv
  obtain ⟨t, h1, e1, e⟩ := bind_ok e
  have q : Pst C ρ FR H (φ H sl σ) Q ((rt sl ah).bind fun t h => if t then ra sl h else rb sl h) := q
  rw [e1] at q ⊢
  intro ρ1 FR1 H1 x rh
  have q : Pst C ρ FR H (φ H sl σ) Q (if t then ra sl h1 else rb sl h1) := q
  cases t with
  | true => exact ⟨ρ1, FR1, sl, h1, rel.ext x rh, q.after g x⟩
  | false => exact ⟨ρ1, FR1, sl, h1, rel.ext x rh, q.after g x⟩
def andR (ra rb : Rs) : Rs := fun sl h => (ra sl h).bind fun x h => (R.opt h (truth x)).bind fun t h => if t then rb sl h else .ok x h
def orR (ra rb : Rs) : Rs := fun sl h => (ra sl h).bind fun x h => (R.opt h (truth x)).bind fun t h => if t then .ok x h else rb sl h
variable {rest : List Expr}
theorem s_and (F : Fit C X) (g : Gr C φ) (ha : PE X a (Tx C φ ra)) (hb : PE X (.BoolOp .And (b :: rest) pos) (Tx C φ rb)) : PE X (.BoolOp .And (a :: b :: rest) pos) (Tx C φ (andR ra rb)) := by
  refine PE.imp (pe_andT ha hb) fun σ H Q ⟨ρ, FR, sl, ah, rel, q⟩ => ⟨ρ, FR, sl, ah, rel, ?_⟩
  obtain ⟨d, ah', e, _⟩ := q.inv
  obtain ⟨d1, h1, e1, e⟩ := bind_ok e
  obtain ⟨t, h2, e2, e⟩ := bind_ok e
  obtain ⟨e3, rfl⟩ := opt_ok e2
  have q : Pst C ρ FR H (φ H sl σ) Q ((ra sl ah).bind fun x h => (R.opt h (truth x)).bind fun t h => if t then rb sl h else .ok x h) := q
  rw [e1] at q ⊢
  have q : Pst C ρ FR H (φ H sl σ) Q ((R.opt h2 (truth d1)).bind fun t h => if t then rb sl h else .ok d1 h) := q
  rw [e3] at q
  intro ρ1 FR1 H1 v x rh w
  refine ⟨t, (g.see (rel.ext x rh) w).tru F rh.sub e3, ?_⟩
  cases t with
  | true => exact ⟨ρ1, FR1, sl, h2, rel.ext x rh, Pst.after g x q⟩
  | false => exact q ρ1 FR1 H1 v x rh w
theorem s_or (F : Fit C X) (g : Gr C φ) (ha : PE X a (Tx C φ ra)) (hb : PE X (.BoolOp .Or (b :: rest) pos) (Tx C φ rb)) : PE X (.BoolOp .Or (a :: b :: rest) pos) (Tx C φ (orR ra rb)) := by
  refine PE.imp (pe_orT ha hb) fun σ H Q ⟨ρ, FR, sl, ah, rel, q⟩ => ⟨ρ, FR, sl, ah, rel, ?_⟩
  obtain ⟨d, ah', e, _⟩ := q.inv
  obtain ⟨d1, h1, e1, e⟩ := bind_ok e
  obtain ⟨t, h2, e2, e⟩ := bind_ok e
  obtain ⟨e3, rfl⟩ := opt_ok e2
  have q : Pst C ρ FR H (φ H sl σ) Q ((ra sl ah).bind fun x h => (R.opt h (truth x)).bind fun t h => if t then .ok x h else rb sl h) := q
  rw [e1] at q ⊢
  have q : Pst C ρ FR H (φ H sl σ) Q ((R.opt h2 (truth d1)).bind fun t h => if t then .ok d1 h else rb sl h) := q
  rw [e3] at q
  intro ρ1 FR1 H1 v x rh w
  refine ⟨t, (g.see (rel.ext x rh) w).tru F rh.sub e3, ?_⟩
  cases t with
  | true => exact q ρ1 FR1 H1 v x rh w
  | false => exact ⟨ρ1, FR1, sl, h2, rel.ext x rh, Pst.after g x q⟩
/-! .. as tests -/
theorem Pt.after {r : R Bool} {Q : Bool → Hp → Prop} (x : Ext ρ FR H ρ1 FR1 H1) (h : Pt ρ C FR H Q r) : Pt ρ1 C FR1 H1 Q r := by
  obtain ⟨d, ah', rfl, q⟩ := h.inv
  exact fun ρ2 FR2 H2 x2 rh2 => q ρ2 FR2 H2 (x.trans x2) rh2
theorem tw_and1 {t : TT} (h : PT X a t) : PW X (.BoolOp .And [a] pos) t := pw_and1 h
theorem tw_or1 {t : TT} (h : PT X a t) : PW X (.BoolOp .Or [a] pos) t := pw_or1 h
theorem tw_and (ha : PT X a (Tt C (tru ra))) (hb : PW X (.BoolOp .And (b :: rest) pos) (Tt C (tru rb))) : PW X (.BoolOp .And (a :: b :: rest) pos) (Tt C (tru (andR ra rb))) := by
  have h := pw_and ha hb
  refine ⟨fun whole pins s σ H Q I q => h.run whole pins s σ H Q I ?_⟩
  obtain ⟨ρ, FR, sl, ah, rel, q⟩ := q
  refine ⟨ρ, FR, sl, ah, rel, ?_⟩
  obtain ⟨k, ah', e, _⟩ := q.inv
  obtain ⟨d, e0, e00⟩ := tru_ok' e
  obtain ⟨d1, h1, e1, e⟩ := bind_ok e0
  obtain ⟨t, h2, e2, e⟩ := bind_ok e
  obtain ⟨e3, rfl⟩ := opt_ok e2
  have q : Pt ρ C FR H Q (((ra sl ah).bind fun x h => (R.opt h (truth x)).bind fun t h => if t then rb sl h else .ok x h).bind fun x h => R.opt h (truth x)) := q
  show Pt ρ C FR H _ ((ra sl ah).bind fun x h => R.opt h (truth x))
  rw [e1] at q ⊢
  have q : Pt ρ C FR H Q (((R.opt h2 (truth d1)).bind fun t h => if t then rb sl h else .ok d1 h).bind fun x h => R.opt h (truth x)) := q
  show Pt ρ C FR H _ (R.opt h2 (truth d1))
  rw [e3] at q ⊢
  intro ρ1 FR1 H1 x rh
  cases t with
  | true => exact ⟨ρ1, FR1, sl, h2, rel.ext x rh, Pt.after x q⟩
  | false =>
    have q : Pt ρ C FR H Q (R.opt h2 (truth d1)) := q
    rw [e3] at q
    exact q ρ1 FR1 H1 x rh
theorem tw_or (ha : PT X a (Tt C (tru ra))) (hb : PW X (.BoolOp .Or (b :: rest) pos) (Tt C (tru rb))) : PW X (.BoolOp .Or (a :: b :: rest) pos) (Tt C (tru (orR ra rb))) := by
  have h := pw_or ha hb
  refine ⟨fun whole pins s σ H Q I q => h.run whole pins s σ H Q I ?_⟩
  obtain ⟨ρ, FR, sl, ah, rel, q⟩ := q
  refine ⟨ρ, FR, sl, ah, rel, ?_⟩
  obtain ⟨k, ah', e, _⟩ := q.inv
  obtain ⟨d, e0, e00⟩ := tru_ok' e
  obtain ⟨d1, h1, e1, e⟩ := bind_ok e0
  obtain ⟨t, h2, e2, e⟩ := bind_ok e
  obtain ⟨e3, rfl⟩ := opt_ok e2
  have q : Pt ρ C FR H Q (((ra sl ah).bind fun x h => (R.opt h (truth x)).bind fun t h => if t then .ok x h else rb sl h).bind fun x h => R.opt h (truth x)) := q
  show Pt ρ C FR H _ ((ra sl ah).bind fun x h => R.opt h (truth x))
  rw [e1] at q ⊢
  have q : Pt ρ C FR H Q (((R.opt h2 (truth d1)).bind fun t h => if t then .ok d1 h else rb sl h).bind fun x h => R.opt h (truth x)) := q
  show Pt ρ C FR H _ (R.opt h2 (truth d1))
  rw [e3] at q ⊢
  intro ρ1 FR1 H1 x rh
  cases t with
  | false => exact ⟨ρ1, FR1, sl, h2, rel.ext x rh, Pt.after x q⟩
  | true =>
    have q : Pt ρ C FR H Q (R.opt h2 (truth d1)) := q
    rw [e3] at q
    exact q ρ1 FR1 H1 x rh

/-! ### chains, minus -/
def chainR (o p : Cop) (ra rb rc : Rs) : Rs := fun sl h => (ra sl h).bind fun x h => (rb sl h).bind fun y h => (R.opt h (cmpop o x y)).bind fun t h =>
  if t then (rc sl h).bind fun z h => R.opt h ((cmpop p y z).map .bl) else .ok (.bl false) h
variable {rcc : Rs}
theorem chain_bl {o p : Cop} {h h' : AH} {d : D} (e : chainR o p ra rb rcc sl h = .ok d h') : ∃ k, d = .bl k := by
  obtain ⟨d1, h1, e1, e⟩ := bind_ok e
  obtain ⟨d2, h2, e2, e⟩ := bind_ok e
  obtain ⟨t, h3, e3, e⟩ := bind_ok e
  cases t with
  | true =>
    obtain ⟨d3, h4, e4, e⟩ := bind_ok e
    obtain ⟨e5, _⟩ := opt_ok e
    obtain ⟨k, _, rfl⟩ := Option.map_eq_some_iff.mp e5
    exact ⟨k, rfl⟩
  | false => cases e; exact ⟨_, rfl⟩
theorem chain_q {o p : Cop} (q : TN C (chainR o p ra rb rcc) σ H Q) : tChain (rc C (cmpop o)) (rc C (cmpop p)) (TL C ra) (TL C rb) (TB C rcc) σ H Q := by
  obtain ⟨ρ, FR, sl, ah, rel, q⟩ := q
  obtain ⟨d, ah', e, q⟩ := q.inv
  obtain ⟨d1, h1, e1, e⟩ := bind_ok e
  obtain ⟨d2, h2, e2, e⟩ := bind_ok e
  obtain ⟨t, h3, e3, e⟩ := bind_ok e
  obtain ⟨e4, rfl⟩ := opt_ok e3
  refine ⟨ρ, FR, sl, ah, rel, ?_⟩
  rw [e1]
  intro ρ1 FR1 H1 v1 x1 rh1 w1
  have rel1 := rel.ext x1 rh1
  refine ⟨ρ1, FR1, sl, h1, rel1, ?_⟩
  rw [e2]
  intro ρ2 FR2 H2 v2 x2 rh2 w2
  have rel2 := rel1.ext x2 rh2
  refine ⟨ρ2, FR2, h3, d1, d2, .bl t, rh2, w1.later x2 rel2, w2.later Ext.refl rel2, by show (cmpop o d1 d2).map D.bl = _; rw [e4]; rfl, ?_⟩
  intro ρ3 FR3 H3 v3 x3 rh3 w3
  have w3 : Rp C ρ3 FR3 (.bl t) v3 := w3
  cases w3
  refine ⟨t, rfl, ?_⟩
  have rel3 := rel2.ext x3 rh3
  have x03 := (x1.trans x2).trans x3
  cases t with
  | true =>
    obtain ⟨d3, h4, e5, e⟩ := bind_ok e
    obtain ⟨e6, rfl⟩ := opt_ok e
    refine ⟨ρ3, FR3, sl, h3, rel3, ?_⟩
    rw [e5]
    intro ρ4 FR4 H4 v4 x4 rh4 w4
    have rel4 := rel3.ext x4 rh4
    refine ⟨ρ4, FR4, ah', d2, d3, d, rh4, w2.later (x3.trans x4) rel4, w4.later Ext.refl rel4, e6, ?_⟩
    intro ρ5 FR5 H5 v5 x5 rh5 w5
    exact q ρ5 FR5 H5 v5 ((x03.trans x4).trans x5) rh5 (Rn.back (x03.trans x4).there w5)
  | false =>
    cases e
    exact q ρ3 FR3 H3 (.bl false) x03 rh3 (.bl false)
theorem s_chain (F : Fit C X) (o p : Cop) (ha : PE X a (TL C ra)) (hb : PE X b (TL C rb)) (hc : PE X c (TB C rcc)) (hm : behindInMarks (copOf p) c = false) : PE X (.Compare a [copOf o, copOf p] [b, c] pos) (TN C (chainR o p ra rb rcc)) :=
  PE.imp (pe_chain (opr_cmp F o) (opr_cmp F p) ha hb hc hm) fun _ _ _ q => chain_q q
theorem t_chain (F : Fit C X) (o p : Cop) (ha : PE X a (TL C ra)) (hb : PE X b (TL C rb)) (hc : PE X c (TB C rcc)) (hm : behindInMarks (copOf p) c = false) : PT X (.Compare a [copOf o, copOf p] [b, c] pos) (Tt C (tru (chainR o p ra rb rcc))) :=
  PT.imp (pt_chain (opr_cmp F o) (opr_cmp F p) ha hb hc hm) fun _ _ _ q => chain_q (tt_test (fun _ _ _ _ => chain_bl) q)
def negD : D → Option D
  | .int i => some (.int (-i))
  | _ => none
theorem s_neg (h : PE X e (TF C ra)) : PE X (.UnaryOp .USub e pos) (TF C fun sl h => (ra sl h).bind fun x h => R.opt h (negD x)) := by
  refine PE.imp (pe_un un_neg h) fun σ H Q ⟨ρ, FR, sl, ah, rel, q⟩ => ⟨ρ, FR, sl, ah, rel, ?_⟩
  obtain ⟨d, ah', e, q⟩ := q.inv
  obtain ⟨d1, h1, e1, e⟩ := bind_ok e
  obtain ⟨e2, rfl⟩ := opt_ok e
  rw [e1]
  intro ρ' FR' H' v x rh w
  cases d1 <;> simp only [negD, reduceCtorEq, Option.some.injEq] at e2
  subst e2
  have w : Rp C ρ' FR' (.int _) v := w
  cases w
  exact ⟨_, rfl, q ρ' FR' H' _ x rh (.int _)⟩
end
end Sd

end
section
set_option Elab.async false
set_option linter.all false
set_option maxRecDepth 100000
set_option maxHeartbeats 1000000
/-! Sd8: slices, built-in functions, casts, isinstance. -/
namespace HT
open PySem PySem.Spec PyProof.Rows
section
variable {prog : Program} {w : World} {A : Around} {E : Value → Shared → Prop} {s : Shared}
theorem bk_places (n : Nat) : Builtin.Slice.sliceAdjust none none (-1) (n : Int) = ((n : Int) - 1, -1) ∧ Builtin.Slice.slicePlaces ((n : Int) - 1) (-1) (-1) = n := by
  refine ⟨?_, ?_⟩
  · unfold Builtin.Slice.sliceAdjust
    have h1 : ((-1 : Int) < 0) := by omega
    simp only [h1, if_true]
  · unfold Builtin.Slice.slicePlaces
    have h1 : ¬ ((-1 : Int) > 0) := by omega
    simp only [h1, if_false, Int.neg_neg, Int.ediv_one]
    split <;> omega
theorem bk_pick (items : Array Value) : ((List.range items.size).filterMap fun (m : Nat) => items[(((items.size : Int) - 1) + (m : Int) * (-1)).toNat]?).toArray = items.toList.reverse.toArray := by
  congr 1
  have e : ((List.range items.size).filterMap fun (m : Nat) => items[(((items.size : Int) - 1) + (m : Int) * (-1)).toNat]?) = ((List.range items.size).map fun k => items.size - 1 - k).filterMap (items[·]?) := by
    rw [List.filterMap_map]
    have e : (fun (m : Nat) => items[(((items.size : Int) - 1) + (m : Int) * (-1)).toNat]?) = fun m => items[items.size - 1 - m]? := by
      funext m
      have : (((items.size : Int) - 1) + (m : Int) * (-1)).toNat = items.size - 1 - m := by omega
      rw [this]
    rw [e]; rfl
  rw [e, PySem.W.krv_range, List.filterMap_reverse, PySem.W.krv_all]
theorem sliceApplied_bk {sl : Addr} {vl vu vs : Value} {n : Nat} {Q : Int × Int × Nat → Shared → Prop} (hs : s.heap.IsSliceOf sl vl vu vs) (pl : IsPart vl none) (pu : IsPart vu none) (ps : IsPart vs (some (-1)))
    (h : Q ((n : Int) - 1, -1, n) s) : wpAny (model prog w) A (Builtin.Slice.sliceApplied (.ref sl) (pure (n : Int))) Q E s := by
  obtain ⟨os, hos, hcs, hds⟩ := id hs
  unfold Builtin.Slice.sliceApplied Builtin.Slice.sliceFields
  refine wpAny_bind (wpAny_bind (wpAny_field hos hds (x := vl) rfl (wpAny_bind (wpAny_field hos hds (x := vu) rfl (wpAny_bind (wpAny_field hos hds (x := vs) rfl (wpAny_pure ?_)))))))
  refine wpAny_bind (slicePart_ ps ?_)
  show wpAny _ _ (if ((-1 : Int) == 0) = true then _ else _) _ _ s
  rw [if_neg (by decide)]
  refine wpAny_bind (slicePart_ pl (wpAny_bind (slicePart_ pu (wpAny_bind (wpAny_pure ?_)))))
  show wpAny _ _ (match Builtin.Slice.sliceAdjust none none (-1) (n : Int) with | (lo, hi) => pure (lo, (-1 : Int), Builtin.Slice.slicePlaces lo hi (-1))) _ _ s
  rw [(bk_places n).1]
  show wpAny _ _ (pure ((n : Int) - 1, (-1 : Int), Builtin.Slice.slicePlaces ((n : Int) - 1) (-1) (-1))) _ _ s
  rw [(bk_places n).2]
  exact wpAny_pure h
theorem getItem_tuple_bk {t sl : Addr} {items : Array Value} {vl vu vs : Value} {Q : Value → Shared → Prop} (ht : IsTup s.heap t items) (hs : s.heap.IsSliceOf sl vl vu vs) (pl : IsPart vl none) (pu : IsPart vu none) (ps : IsPart vs (some (-1)))
    (h : Q (.ref s.heap.objs.size) { s with heap := s.heap.push { cls := .type "tuple", data := .seq items.toList.reverse.toArray } })
    (hsz : items.size ≤ sizeLine) : wpAny (model prog w) A (getItem (.ref t) (.ref sl)) Q E s := by
  have htake : sizeOk (.seq items.toList.reverse.toArray) := by
    show items.toList.reverse.toArray.size ≤ sizeLine
    rw [List.size_toArray, List.length_reverse, Array.length_toList]
    omega
  obtain ⟨os, hos, hcs, hds⟩ := id hs
  have hTs : s.TypeIs (.ref sl) "slice" := ⟨os, hos, hcs⟩
  unfold getItem
  try with_reducible refine wpAny_holding ?_
  first | refine wpAny_bind (wpAny_pure ?_) | skip
  refine wpAny_bind (wpAny_sequenceKey ht.typeIs (by decide) ?_)
  refine wpAny_bind (wpAny_callSpecial?_slot (name := Str.ofString "__getitem__") ht.typeIs PyProof.Rows.slot_tuple_getitem
    (wpAny_call_entry PyProof.Rows.slot_tuple_getitem ht.typeIs entry_tuple_getitem ?_ (args_tuple_getitem _ _)))
  show wpAny _ _ (Builtin.Tuple.tupleItemsOf (.ref t) >>= _) _ _ s
  refine wpAny_bind (tupleItemsOf_ ht ?_)
  refine wpAny_bind (wpAny_typeOf hTs ?_)
  rw [if_pos (by decide)]
  refine wpAny_bind (sliceApplied_bk hs pl pu ps ?_)
  have hno : ¬ ((((items.size : Int) - 1) == 0 && (-1 : Int) == 1 && items.size == items.size) = true) := by
    intro q
    rw [Bool.and_eq_true, Bool.and_eq_true] at q
    exact absurd q.1.2 (by decide)
  show wpAny _ _ (if (((items.size : Int) - 1) == 0 && (-1 : Int) == 1 && items.size == items.size) = true then _ else _) _ _ s
  rw [if_neg hno, bk_pick]
  first
    | exact wpAny_bind (m := Builtin.Tuple.tupleExact _) (wpAny_newObj_type (wpAny_pure ⟨_, rfl, wpAny_pure h⟩) htake)
    | exact wpAny_bind (m := Builtin.Tuple.tupleExact _) (wpAny_newObj_type (wpAny_bind (wpAny_pure (wpAny_pure ⟨_, rfl, wpAny_pure h⟩))) htake)
    | exact wpAny_bind (wpAny_bind (m := Builtin.Tuple.tupleExact _) (wpAny_newObj_type (wpAny_pure (wpAny_pure ⟨_, rfl, wpAny_pure h⟩)) htake))
    | exact wpAny_bind (wpAny_bind (m := Builtin.Tuple.tupleExact _) (wpAny_newObj_type (wpAny_pure ⟨_, rfl, wpAny_pure h⟩) htake))
end
end HT
namespace Sd
open PySem PySem.Spec L2 Ev
open PyProof.Rows hiding St

section
variable {C : Cn} {ρ ρ1 ρ2 : List Addr} {FR FR1 FR2 H H1 H2 : Hp} {ah ah1 ah2 : AH} {sl : Slots} {σ : St} {X : Cx} {Q : VK} {e : Expr} {es : List Expr} {pos : Pos}
/-- a one-place operation -/
def un1 (ra : Rs) (g : D → Option D) : Rs := fun sl h => (ra sl h).bind fun x h => R.opt h (g x)
theorem un1_ok {ra : Rs} {g : D → Option D} {h h' : AH} {d : D} (e : un1 ra g sl h = .ok d h') : ∃ d1, ra sl h = .ok d1 h' ∧ g d1 = some d := by
  obtain ⟨d1, h1, e1, e⟩ := bind_ok e
  obtain ⟨e3, e4⟩ := opt_ok e
  subst e4
  exact ⟨d1, e1, e3⟩
/-- .. by a value that is seen -/
def l1 (C : Cn) (g : D → Option D) : V → Hp → VK → Prop := fun x H Q => ∃ ρ FR ah d1 d, RelH C ρ FR ah H ∧ seen C ρ FR H d1 x ∧ g d1 = some d ∧ PstN C ρ FR H Q d ah
theorem un1_l1 {ra : Rs} {g : D → Option D} (q : TN C (un1 ra g) σ H Q) : TB C ra σ H fun x H1 => l1 C g x H1 Q := by
  obtain ⟨ρ, FR, sl, ah, rel, q⟩ := q
  obtain ⟨d, ah', e, q⟩ := q.inv
  obtain ⟨d1, e1, e2⟩ := un1_ok e
  refine ⟨ρ, FR, sl, ah, rel, ?_⟩
  rw [e1]
  intro ρ1 FR1 H1 v x rh w
  exact ⟨ρ1, FR1, ah', d1, d, rh, w.later Ext.refl (rel.ext x rh), e2, fun ρ2 FR2 H2 v2 x2 rh2 w2 => q ρ2 FR2 H2 v2 (x.trans x2) rh2 (Rn.back x.there w2)⟩

/-! ### slices -/
def To (C : Cn) (r : Slots → AH → R (Option D)) : TO := fun σ H Q => ∃ ρ FR sl ah, Rel C ρ FR sl ah σ H ∧ ∃ o i ah', r sl ah = .ok o ah' ∧ optI o = some i ∧ ∀ ρ' FR' H', Ext ρ FR H ρ' FR' H' → RelH C ρ' FR' ah' H' → Q i H'
theorem PO.imp {e : Option Expr} {t t' : TO} (h : PO X e t) (w : ∀ σ H Q, t' σ H Q → t σ H Q) : PO X e t' := ⟨fun pins s σ H Q I q => h.run pins s σ H Q I (w σ H Q q)⟩
theorem o_none : PO X none (To C fun _ h => .ok none h) := by
  refine PO.imp po_none fun σ H Q ⟨ρ, FR, sl, ah, rel, o, i, ah', e, e2, q⟩ => ?_
  cases e
  cases e2
  exact q ρ FR H Ext.refl rel.toRelH
theorem o_some {r : Rs} (h : PE X e (TF C r)) : PO X (some e) (To C fun sl h => (r sl h).bind fun x h => .ok (some x) h) := by
  refine PO.imp (po_some h) fun σ H Q ⟨ρ, FR, sl, ah, rel, o, i, ah', e, e2, q⟩ => ⟨ρ, FR, sl, ah, rel, ?_⟩
  obtain ⟨d, h1, e1, e⟩ := bind_ok e
  cases e
  rw [e1]
  intro ρ' FR' H' v x rh w
  have w : Rp C ρ' FR' d v := w
  cases d <;> simp only [optI, reduceCtorEq, Option.some.injEq] at e2
  cases w
  exact ⟨_, rfl, by rw [e2]; exact q ρ' FR' H' x rh⟩
theorem RpL.cut {xs : List D} {vs : List V} (l : RpL C ρ FR xs vs) (lo hi : Option Int) : RpL C ρ FR (cutL xs lo hi) (cutV vs lo hi) := by
  have e : ∀ (n d : Nat) (o : Option Int), clipI n d o = HT.sIx n d o := fun n d o => by cases o <;> rfl
  unfold cutL cutV
  rw [e, e, l.length]
  exact (l.drop _).take _
def rSl (C : Cn) : V → Option Int → Option Int → Hp → VK → Prop := fun x lo hi H Q => l1 C (fun d => Ev.cutD d lo hi) x H Q
theorem slr_cut (F : Fit C X) : SlR X (rSl C) := by
  intro pins s σ H x v vl vu lo hi sl Q I rx hs pl pu ⟨ρ, FR, ah, d1, d, rh, s1, hg, q⟩
  cases d1 <;> simp only [Ev.cutD, reduceCtorEq, Option.some.injEq] at hg
  case tup xs =>
    subst hg
    obtain ⟨a, vs, rfl, t1, l1⟩ := s1.tup rh.sub
    refine sl_tupN pins s σ H _ v vl vu lo hi sl Q I rx hs pl pu ⟨a, vs, rfl, F.K ▸ t1, fun hw => ?_, fun hw => q.tup rh (l1.cut lo hi)⟩
    have e : ∀ (n d : Nat) (o : Option Int), clipI n d o = HT.sIx n d o := fun n d o => by cases o <;> rfl
    have ec : cutL xs lo hi = xs := by
      unfold cutL
      rw [e, e, l1.length, hw.1, hw.2, ← l1.length]
      simp
    rw [ec] at q
    refine q.same rh rfl ?_
    rcases s1 with s1 | ⟨o, b, e1, e2, _⟩
    · exact s1
    · cases o <;> cases e1
  case lst xs =>
    subst hg
    obtain ⟨a, vs, rfl, t1, l1⟩ := s1.lst rh.sub
    exact sl_list pins s σ H _ v vl vu lo hi sl Q I rx hs pl pu ⟨a, vs, rfl, .inl t1, fun p n => q.lst rh n (l1.cut lo hi)⟩
  case scr xs =>
    subst hg
    obtain ⟨a, vs, rfl, t1, l1⟩ := s1.scr rh.sub
    exact sl_list pins s σ H _ v vl vu lo hi sl Q I rx hs pl pu ⟨a, vs, rfl, F.K ▸ t1, fun p n => q.lst rh n (l1.cut lo hi)⟩
variable {a : Expr} {ra : Rs} {rl ru : Slots → AH → R (Option D)} {lo hi : Option Expr}
def cutR (ra : Rs) (rl ru : Slots → AH → R (Option D)) : Rs := fun sl h => (ra sl h).bind fun x h => (rl sl h).bind fun l h => (ru sl h).bind fun u h => R.opt h ((optI l).bind fun i => (optI u).bind fun j => Ev.cutD x i j)
def QuietO (r : Slots → AH → R (Option D)) : Prop := ∀ sl h d h', r sl h = .ok d h' → h' = h
theorem cut_core {p2 : Pos} (F : Fit C X) {φ : Hp → Slots → St → AH → Ph} (ha : PE X a (Tx C φ ra))
    (lt : ∀ {H : Hp} {sl : Slots} {σ : St} {ah1 ah2 ah3 : AH} {ρ1 ρ2 : List Addr} {FR1 FR2 H1 H2 : Hp} {d : D} {v : V} {l u : Option D}, rl sl ah1 = .ok l ah2 → ru sl ah2 = .ok u ah3 → φ H sl σ ah1 ρ1 FR1 H1 d v → Ext ρ1 FR1 H1 ρ2 FR2 H2 → Rel C ρ2 FR2 sl ah3 σ H2 → seen C ρ2 FR2 H2 d v)
    (hl : PO X lo (To C rl)) (hu : PO X hi (To C ru)) : PE X (.Subscript a (.Slice lo hi none p2) pos) (TN C (cutR ra rl ru)) := by
  refine PE.imp (pe_slice (slr_cut F) ha hl hu) fun σ H Q ⟨ρ, FR, sl, ah, rel, q⟩ => ⟨ρ, FR, sl, ah, rel, ?_⟩
  obtain ⟨d, ah', e, q⟩ := q.inv
  obtain ⟨d1, h1, e1, e⟩ := bind_ok e
  obtain ⟨l, h2, e2, e⟩ := bind_ok e
  obtain ⟨u, h3, e3, e⟩ := bind_ok e
  obtain ⟨e4, rfl⟩ := opt_ok e
  obtain ⟨i, e5, e6⟩ := Option.bind_eq_some_iff.mp e4
  obtain ⟨j, e7, e8⟩ := Option.bind_eq_some_iff.mp e6
  rw [e1]
  intro ρ1 FR1 H1 v1 x1 rh1 w1
  have rel1 := rel.ext x1 rh1
  refine ⟨ρ1, FR1, sl, h1, rel1, l, i, h2, e2, e5, fun ρ2 FR2 H2 x2 rh2 => ?_⟩
  have rel2 := rel1.ext x2 rh2
  refine ⟨ρ2, FR2, sl, h2, rel2, u, j, ah', e3, e7, fun ρ3 FR3 H3 x3 rh3 => ?_⟩
  have rel3 := rel2.ext x3 rh3
  refine ⟨ρ3, FR3, ah', d1, d, rh3, lt e2 e3 w1 (x2.trans x3) rel3, e8, fun ρ4 FR4 H4 v4 x4 rh4 w4 => ?_⟩
  exact q ρ4 FR4 H4 v4 (((x1.trans x2).trans x3).trans x4) rh4 (Rn.back ((x1.trans x2).trans x3).there w4)
theorem s_cut {p2 : Pos} (F : Fit C X) (ha : PE X a (TL C ra) ∨ (PE X a (TB C ra) ∧ QuietO rl ∧ QuietO ru)) (hl : PO X lo (To C rl)) (hu : PO X hi (To C ru)) : PE X (.Subscript a (.Slice lo hi none p2) pos) (TN C (cutR ra rl ru)) := by
  rcases ha with ha | ⟨ha, q1, q2⟩
  · exact cut_core F ha (fun _ _ w x r => w.later x r) hl hu
  · refine cut_core F ha (fun e1 e2 w x r => ?_) hl hu
    have z1 := q1 _ _ _ _ e1
    have z2 := q2 _ _ _ _ e2
    subst z1
    subst z2
    exact w.later x r
theorem s_back (F : Fit C X) {k : Nat} {p1 p2 p3 : Pos} (he : PE X e (TB C ra)) : PE X (.Subscript e (.Slice none none (some (.UnaryOp .USub (.Constant (.int 1) k p1) p2)) p3) pos) (TN C (un1 ra backD)) := by
  refine ⟨fun pins s σ H Q I h => ?_⟩
  refine Subscript_ (thn (he.run pins s σ H _ I (un1_l1 h)) fun v s1 ⟨x, H1, I1, r1, q1⟩ => ?_)
  obtain ⟨ρ, FR, ah, d1, d, rh, s1', hg, q⟩ := q1
  have hst : PO X (some (.UnaryOp .USub (.Constant (.int 1) k p1) p2)) (tPart (tUn (rU fun i => .int (-i)) (tC (.int 1)))) := po_some (pe_un un_neg pe_int)
  refine wpAny_Slice (thn (po_none.run pins s1 σ H1 (fun o H2 => o = none ∧ H2 = H1) I1 ⟨rfl, rfl⟩) fun vl s2 ⟨l, H2, I2, pl, el, e2⟩ => ?_)
  subst el e2
  refine thn (po_none.run pins s2 σ H2 (fun o H3 => o = none ∧ H3 = H2) I2 ⟨rfl, rfl⟩) fun vu s3 ⟨u, H3, I3, pu, eu, e3⟩ => ?_
  subst eu e3
  refine thn (hst.run pins s3 σ H3 (fun o H4 => o = some (-1) ∧ H4 = H3) I3 ⟨1, rfl, -1, rfl, rfl, rfl⟩) fun vs s4 ⟨o, H4, I4, ps, eo, e4⟩ => ?_
  subst eo e4
  have I5 : Inv X pins σ H4 { s4 with heap := s4.heap.push { cls := .type "slice", data := .fields #[vl, vu, vs] } } := I4.kept (t' := s4.toks) fun b ob q => Heap.get?_push_of_some _ q
  cases d1 <;> simp only [backD, reduceCtorEq, Option.some.injEq] at hg
  case lst xs =>
    subst hg
    obtain ⟨a, vs', rfl, t1, l1⟩ := s1'.lst rh.sub
    cases r1
    obtain ⟨its, r, ht, hz⟩ := I5.list (.inl t1)
    have hlen := r.length
    show wpAny (model X.prog X.w) X.A (subscriptTail e (.Slice none none (some (.UnaryOp .USub (.Constant (.int 1) k p1) p2)) p3) (.ref a) (.ref s4.heap.objs.size)) (EP X pins σ Q) X.xe { s4 with heap := s4.heap.push { cls := .type "slice", data := .fields #[vl, vu, vs] } }
    refine tail_any (ops := [.ref a, .ref s4.heap.objs.size]) ht.isList.typeIs (PySem.slot_list_getitem.lookup) ?_ (by with_unfolding_all rfl)
    refine wpAny_getItem_list_slice ht.isList (Heap.IsSliceOf.new _ vl vu vs) pl pu ps (by decide) ?_ (by rw [List.size_toArray]; omega)
    rw [PySem.W.krv_pick]
    refine ⟨.ref _, _, I5.laid (t' := s4.toks) (o := .lst vs'.reverse) (fun b ob q => Heap.get?_push_of_some _ q) (Nat.le_refl _) ?_, rfl, q.lst rh (I5.hok.fresh (Nat.le_refl _)) l1.rev⟩
    exact ⟨by rw [List.length_reverse]; exact hz, _, 0, r.reverse, Heap.get?_push_size _ rfl⟩
  case tup xs =>
    subst hg
    obtain ⟨a, vs', rfl, t1, l1⟩ := s1'.tup rh.sub
    cases r1
    obtain ⟨its, r, ht, hz⟩ := I5.tuple (F.K ▸ t1)
    have hlen := r.length
    show wpAny (model X.prog X.w) X.A (subscriptTail e (.Slice none none (some (.UnaryOp .USub (.Constant (.int 1) k p1) p2)) p3) (.ref a) (.ref s4.heap.objs.size)) (EP X pins σ Q) X.xe { s4 with heap := s4.heap.push { cls := .type "slice", data := .fields #[vl, vu, vs] } }
    refine tail_any (ops := [.ref a, .ref s4.heap.objs.size]) ht.typeIs PyProof.Rows.slot_tuple_getitem.lookup ?_ (by with_unfolding_all rfl)
    refine HT.getItem_tuple_bk ht (Heap.IsSliceOf.new _ vl vu vs) pl pu ps ?_ (by rw [List.size_toArray]; omega)
    exact Inv.newT (tk := s4.toks) I5 r.reverse (by rw [List.length_reverse]; exact hz) (q.tup rh l1.rev)

/-! ### built-in functions -/
/-- a rule for one argument that is looked at -/
def CallL (C : Cn) (X : Cx) (f : Value) (g : D → Option D) : Prop := CallR X f fun vs H Q => ∃ x, vs = [x] ∧ l1 C g x H Q
/-- .. two that are frozen -/
def l2 (C : Cn) (g : D → D → Option D) : List V → Hp → VK → Prop := fun vs H Q => ∃ ρ FR ah d1 d2 x y d, vs = [x, y] ∧ RelH C ρ FR ah H ∧ Rp C ρ FR d1 x ∧ Rp C ρ FR d2 y ∧ g d1 d2 = some d ∧ PstN C ρ FR H Q d ah
theorem ints_rp : ∀ {xs : List D} {vs : List V} {is : List Int}, intsOf xs = some is → RpL C ρ FR xs vs → vs = is.map V.int
  | [], _, _, h, .nil => by cases h; rfl
  | .int i :: xs, _, _, h, .cons h1 h2 => by
    obtain ⟨is, e, rfl⟩ := Option.map_eq_some_iff.mp h
    cases h1
    rw [ints_rp e h2]; rfl
  | .non :: _, _, _, h, _ => by cases h
  | .bl _ :: _, _, _, h, _ => by cases h
  | .str _ :: _, _, _, h, _ => by cases h
  | .tup _ :: _, _, _, h, _ => by cases h
  | .lst _ :: _, _, _, h, _ => by cases h
  | .dic _ _ :: _, _, _, h, _ => by cases h
  | .ref _ :: _, _, _, h, _ => by cases h
  | .fn _ :: _, _, _, h, _ => by cases h
  | .exc _ :: _, _, _, h, _ => by cases h
  | .scr _ :: _, _, _, h, _ => by cases h
theorem bools_rp : ∀ {xs : List D} {vs : List V} {is : List Bool}, bools xs = some is → RpL C ρ FR xs vs → vs = is.map V.bl
  | [], _, _, h, .nil => by cases h; rfl
  | .bl i :: xs, _, _, h, .cons h1 h2 => by
    obtain ⟨is, e, rfl⟩ := Option.map_eq_some_iff.mp h
    cases h1
    rw [bools_rp e h2]; rfl
  | .non :: _, _, _, h, _ => by cases h
  | .int _ :: _, _, _, h, _ => by cases h
  | .str _ :: _, _, _, h, _ => by cases h
  | .tup _ :: _, _, _, h, _ => by cases h
  | .lst _ :: _, _, _, h, _ => by cases h
  | .dic _ _ :: _, _, _, h, _ => by cases h
  | .ref _ :: _, _, _, h, _ => by cases h
  | .fn _ :: _, _, _, h, _ => by cases h
  | .exc _ :: _, _, _, h, _ => by cases h
  | .scr _ :: _, _, _, h, _ => by cases h
theorem foldl_max_le : ∀ (is : List Int) (i : Int), i ≤ is.foldl max i ∧ (∀ y ∈ is, y ≤ is.foldl max i) ∧ (is.foldl max i = i ∨ is.foldl max i ∈ is)
  | [], i => ⟨Int.le_refl _, fun _ h => absurd h List.not_mem_nil, .inl rfl⟩
  | j :: is, i => by
    obtain ⟨h1, h2, h3⟩ := foldl_max_le is (max i j)
    rw [List.foldl_cons]
    refine ⟨by omega, fun y hy => ?_, ?_⟩
    · rcases List.mem_cons.mp hy with rfl | hy
      · omega
      · exact h2 y hy
    · rcases h3 with h3 | h3
      · by_cases h : i ≤ j
        · exact .inr (List.mem_cons.mpr (.inl (by omega)))
        · exact .inl (by omega)
      · exact .inr (List.mem_cons_of_mem _ h3)
theorem foldl_min_le : ∀ (is : List Int) (i : Int), is.foldl min i ≤ i ∧ (∀ y ∈ is, is.foldl min i ≤ y) ∧ (is.foldl min i = i ∨ is.foldl min i ∈ is)
  | [], i => ⟨Int.le_refl _, fun _ h => absurd h List.not_mem_nil, .inl rfl⟩
  | j :: is, i => by
    obtain ⟨h1, h2, h3⟩ := foldl_min_le is (min i j)
    rw [List.foldl_cons]
    refine ⟨by omega, fun y hy => ?_, ?_⟩
    · rcases List.mem_cons.mp hy with rfl | hy
      · omega
      · exact h2 y hy
    · rcases h3 with h3 | h3
      · by_cases h : j ≤ i
        · exact .inr (List.mem_cons.mpr (.inl (by omega)))
        · exact .inl (by omega)
      · exact .inr (List.mem_cons_of_mem _ h3)
def bi1 (b : Bi) : D → Option D := fun x => builtin b [x]
theorem cl_len (F : Fit C X) : CallL C X (.builtin "len") (bi1 .len) := by
  intro pins s σ H vs us Q I r ⟨x, ex, ρ, FR, ah, d1, d, rh, s1, hg, q⟩
  subst ex
  cases d1 <;> simp only [bi1, builtin, reduceCtorEq, Option.some.injEq] at hg
  case tup xs =>
    subst hg
    obtain ⟨a, vs, rfl, t1, l1⟩ := s1.tup rh.sub
    exact call_len pins s σ H _ us Q I r ⟨_, _, rfl, .inr ⟨vs, F.K ▸ t1, rfl⟩, by rw [← l1.length]; exact q.same rh rfl (.int _)⟩
  case lst xs =>
    subst hg
    obtain ⟨a, vs, rfl, t1, l1⟩ := s1.lst rh.sub
    exact call_len pins s σ H _ us Q I r ⟨_, _, rfl, .inl ⟨vs, .inl t1, rfl⟩, by rw [← l1.length]; exact q.same rh rfl (.int _)⟩
  case scr xs =>
    subst hg
    obtain ⟨a, vs, rfl, t1, l1⟩ := s1.scr rh.sub
    exact call_len pins s σ H _ us Q I r ⟨_, _, rfl, .inl ⟨vs, F.K ▸ t1, rfl⟩, by rw [← l1.length]; exact q.same rh rfl (.int _)⟩
theorem cl_abs (F : Fit C X) : CallL C X (.builtin "abs") (bi1 .abs) := by
  intro pins s σ H vs us Q I r ⟨x, ex, ρ, FR, ah, d1, d, rh, s1, hg, q⟩
  subst ex
  cases d1 <;> simp only [bi1, builtin, reduceCtorEq, Option.some.injEq] at hg
  subst hg
  cases s1.int
  exact call_abs pins s σ H _ us Q I r ⟨_, rfl, q.same rh rfl (.int _)⟩
theorem cl_int (F : Fit C X) : CallL C X (.type "int") (bi1 .int) := by
  intro pins s σ H vs us Q I r ⟨x, ex, ρ, FR, ah, d1, d, rh, s1, hg, q⟩
  subst ex
  cases d1 <;> simp only [bi1, builtin, reduceCtorEq, Option.some.injEq] at hg
  case int =>
    subst hg
    cases s1.int
    exact call_int1 pins s σ H _ us Q I r (.inl ⟨_, rfl, q.same rh rfl (.int _)⟩)
  case bl =>
    subst hg
    cases s1.bl
    exact call_int1 pins s σ H _ us Q I r (.inr ⟨_, rfl, q.same rh rfl (.int _)⟩)
theorem cl_sum (F : Fit C X) : CallL C X (.builtin "sum") (bi1 .sum) := by
  intro pins s σ H vs us Q I r ⟨x, ex, ρ, FR, ah, d1, d, rh, s1, hg, q⟩
  subst ex
  cases d1 <;> simp only [bi1, builtin, reduceCtorEq, Option.some.injEq] at hg
  obtain ⟨is, hi, rfl⟩ := Option.map_eq_some_iff.mp hg
  obtain ⟨a, vs, rfl, t1, l1⟩ := s1.lst rh.sub
  have := ints_rp hi l1
  subst this
  exact cr_sum F.calm pins s σ H _ us Q I r ⟨a, is, rfl, .inl t1, q.same rh rfl (.int _)⟩
theorem cl_all (F : Fit C X) : CallL C X (.builtin "all") (bi1 .all) := by
  intro pins s σ H vs us Q I r ⟨x, ex, ρ, FR, ah, d1, d, rh, s1, hg, q⟩
  subst ex
  cases d1 <;> simp only [bi1, builtin, reduceCtorEq, Option.some.injEq] at hg
  obtain ⟨is, hi, rfl⟩ := Option.map_eq_some_iff.mp hg
  obtain ⟨a, vs, rfl, t1, l1⟩ := s1.lst rh.sub
  have := bools_rp hi l1
  subst this
  exact cr_all F.calm pins s σ H _ us Q I r ⟨a, is, rfl, .inl t1, q.same rh rfl (.bl _)⟩
theorem cl_any (F : Fit C X) : CallL C X (.builtin "any") (bi1 .any) := by
  intro pins s σ H vs us Q I r ⟨x, ex, ρ, FR, ah, d1, d, rh, s1, hg, q⟩
  subst ex
  cases d1 <;> simp only [bi1, builtin, reduceCtorEq, Option.some.injEq] at hg
  obtain ⟨is, hi, rfl⟩ := Option.map_eq_some_iff.mp hg
  obtain ⟨a, vs, rfl, t1, l1⟩ := s1.lst rh.sub
  have := bools_rp hi l1
  subst this
  exact cr_any F.calm pins s σ H _ us Q I r ⟨a, is, rfl, .inl t1, q.same rh rfl (.bl _)⟩
theorem cl_max (F : Fit C X) : CallL C X (.builtin "max") (bi1 .max) := by
  intro pins s σ H vs us Q I r ⟨x, ex, ρ, FR, ah, d1, d, rh, s1, hg, q⟩
  subst ex
  cases d1 <;> simp only [bi1, builtin, reduceCtorEq, Option.some.injEq] at hg
  obtain ⟨is, hi, hg⟩ := Option.bind_eq_some_iff.mp hg
  obtain ⟨a, vs, rfl, t1, l1⟩ := s1.lst rh.sub
  have := ints_rp hi l1
  subst this
  cases is with
  | nil => cases hg
  | cons i is =>
    cases hg
    refine cr_max F.calm pins s σ H _ us Q I r ⟨a, i :: is, rfl, .inl t1, by simp, fun m h1 h2 => ?_⟩
    obtain ⟨z1, z2, z3⟩ := foldl_max_le is i
    have e : m = is.foldl max i := by
      have u1 : is.foldl max i ≤ m := by
        rcases z3 with z3 | z3
        · rw [z3]; exact h2 i List.mem_cons_self
        · exact h2 _ (List.mem_cons_of_mem _ z3)
      rcases List.mem_cons.mp h1 with h1 | h1
      · omega
      · have := z2 m h1; omega
    subst e
    exact q.same rh rfl (.int _)
theorem cl_min (F : Fit C X) : CallL C X (.builtin "min") (bi1 .min) := by
  intro pins s σ H vs us Q I r ⟨x, ex, ρ, FR, ah, d1, d, rh, s1, hg, q⟩
  subst ex
  cases d1 <;> simp only [bi1, builtin, reduceCtorEq, Option.some.injEq] at hg
  obtain ⟨is, hi, hg⟩ := Option.bind_eq_some_iff.mp hg
  obtain ⟨a, vs, rfl, t1, l1⟩ := s1.lst rh.sub
  have := ints_rp hi l1
  subst this
  cases is with
  | nil => cases hg
  | cons i is =>
    cases hg
    refine cr_min F.calm pins s σ H _ us Q I r ⟨a, i :: is, rfl, .inl t1, by simp, fun m h1 h2 => ?_⟩
    obtain ⟨z1, z2, z3⟩ := foldl_min_le is i
    have e : m = is.foldl min i := by
      have u1 : m ≤ is.foldl min i := by
        rcases z3 with z3 | z3
        · rw [z3]; exact h2 i List.mem_cons_self
        · exact h2 _ (List.mem_cons_of_mem _ z3)
      rcases List.mem_cons.mp h1 with h1 | h1
      · omega
      · have := z2 m h1; omega
    subst e
    exact q.same rh rfl (.int _)
theorem cl_max2 (F : Fit C X) : CallR X (.builtin "max") (l2 C fun x y => builtin .max2 [x, y]) := by
  intro pins s σ H vs us Q I r ⟨ρ, FR, ah, d1, d2, x, y, d, ex, rh, r1, r2, hg, q⟩
  subst ex
  cases d1 <;> cases d2 <;> simp only [builtin, reduceCtorEq, Option.some.injEq] at hg
  subst hg
  cases r1
  cases r2
  exact call_max2 F.calm pins s σ H _ us Q I r ⟨_, _, rfl, q.same rh rfl (.int _)⟩
theorem cl_min2 (F : Fit C X) : CallR X (.builtin "min") (l2 C fun x y => builtin .min2 [x, y]) := by
  intro pins s σ H vs us Q I r ⟨ρ, FR, ah, d1, d2, x, y, d, ex, rh, r1, r2, hg, q⟩
  subst ex
  cases d1 <;> cases d2 <;> simp only [builtin, reduceCtorEq, Option.some.injEq] at hg
  subst hg
  cases r1
  cases r2
  exact call_min2 F.calm pins s σ H _ us Q I r ⟨_, _, rfl, q.same rh rfl (.int _)⟩
/-- list(x), tuple(x) of a list or a tuple -/
theorem cl_list (F : Fit C X) : CallL C X (.type "list") (fun d => match d with | .lst xs | .tup xs | .scr xs => some (.lst xs) | _ => none) := by
  intro pins s σ H vs us Q I r ⟨x, ex, ρ, FR, ah, d1, d, rh, s1, hg, q⟩
  subst ex
  cases d1 <;> simp only [reduceCtorEq, Option.some.injEq] at hg
  case tup xs =>
    subst hg
    obtain ⟨a, vs, rfl, t1, l1⟩ := s1.tup rh.sub
    exact call_list_of pins s σ H _ us Q I r ⟨a, vs, rfl, .inr (F.K ▸ t1), fun l n => q.lst rh n l1⟩
  case lst xs =>
    subst hg
    obtain ⟨a, vs, rfl, t1, l1⟩ := s1.lst rh.sub
    exact call_list_of pins s σ H _ us Q I r ⟨a, vs, rfl, .inl (.inl t1), fun l n => q.lst rh n l1⟩
  case scr xs =>
    subst hg
    obtain ⟨a, vs, rfl, t1, l1⟩ := s1.scr rh.sub
    exact call_list_of pins s σ H _ us Q I r ⟨a, vs, rfl, .inl (F.K ▸ t1), fun l n => q.lst rh n l1⟩
theorem cl_tuple (F : Fit C X) : CallL C X (.type "tuple") (fun d => match d with | .lst xs | .tup xs | .scr xs => some (.tup xs) | _ => none) := by
  intro pins s σ H vs us Q I r ⟨x, ex, ρ, FR, ah, d1, d, rh, s1, hg, q⟩
  subst ex
  cases d1 <;> simp only [reduceCtorEq, Option.some.injEq] at hg
  case tup xs =>
    subst hg
    obtain ⟨a, vs, rfl, t1, l1⟩ := s1.tup rh.sub
    refine call_tupleN pins s σ H _ us Q I r ⟨a, vs, rfl, .inr ⟨F.K ▸ t1, ?_⟩⟩
    refine q.same rh rfl ?_
    rcases s1 with s1 | ⟨o, b, e1, e2, _⟩
    · exact s1
    · cases o <;> cases e1
  case lst xs =>
    subst hg
    obtain ⟨a, vs, rfl, t1, l1⟩ := s1.lst rh.sub
    exact call_tupleN pins s σ H _ us Q I r ⟨a, vs, rfl, .inl ⟨.inl t1, q.tup rh l1⟩⟩
  case scr xs =>
    subst hg
    obtain ⟨a, vs, rfl, t1, l1⟩ := s1.scr rh.sub
    exact call_tupleN pins s σ H _ us Q I r ⟨a, vs, rfl, .inl ⟨F.K ▸ t1, q.tup rh l1⟩⟩
end
end Sd

end
section
set_option Elab.async false
set_option linter.all false
set_option maxRecDepth 100000
set_option maxHeartbeats 1000000
/-! Sd9: sorting. -/
namespace Sd
open PySem PySem.Spec L2 Ev
open PyProof.Rows hiding St

/-! ### the insertion sort is the library's sort -/
section
variable {α : Type} {le : α → α → Bool}
def insA (le : α → α → Bool) (x : α) : List α → List α
  | [] => [x]
  | y :: ys => if le x y then x :: y :: ys else y :: insA le x ys
def sortA (le : α → α → Bool) : List α → List α
  | [] => []
  | x :: xs => insA le x (sortA le xs)
theorem insA_mem {x z : α} : ∀ {l : List α}, z ∈ insA le x l → z = x ∨ z ∈ l
  | [], h => .inl (by simpa [insA] using h)
  | y :: ys, h => by
    unfold insA at h
    split at h
    · rcases List.mem_cons.mp h with h | h
      · exact .inl h
      · exact .inr h
    · rcases List.mem_cons.mp h with h | h
      · exact .inr (h ▸ List.mem_cons_self)
      · rcases insA_mem h with h | h
        · exact .inl h
        · exact .inr (List.mem_cons_of_mem _ h)
theorem sortA_mem {z : α} : ∀ {l : List α}, z ∈ sortA le l → z ∈ l
  | [], h => h
  | x :: xs, h => by
    rcases insA_mem h with h | h
    · exact h ▸ List.mem_cons_self
    · exact List.mem_cons_of_mem _ (sortA_mem h)
theorem insA_pw (T : PySem.W.TotalLe le) {x : α} : ∀ {l : List α}, l.Pairwise (fun a b => le a b = true) → (insA le x l).Pairwise (fun a b => le a b = true)
  | [], _ => by simp [insA]
  | y :: ys, h => by
    unfold insA
    obtain ⟨h1, h2⟩ := List.pairwise_cons.mp h
    split
    · rename_i hc
      refine List.pairwise_cons.mpr ⟨fun z hz => ?_, h⟩
      rcases List.mem_cons.mp hz with rfl | hz
      · exact hc
      · exact T.trans _ _ _ hc (h1 z hz)
    · rename_i hc
      refine List.pairwise_cons.mpr ⟨fun z hz => ?_, insA_pw T h2⟩
      rcases insA_mem hz with rfl | hz
      · exact (T.total y z).elim id fun q => absurd q hc
      · exact h1 z hz
theorem sortA_pw (T : PySem.W.TotalLe le) : ∀ l : List α, (sortA le l).Pairwise (fun a b => le a b = true)
  | [] => .nil
  | x :: xs => insA_pw T (sortA_pw T xs)
theorem insA_filter (T : PySem.W.TotalLe le) (c x : α) : ∀ l : List α, (insA le x l).filter (PySem.W.sameRank le c) = (x :: l).filter (PySem.W.sameRank le c)
  | [] => rfl
  | y :: ys => by
    unfold insA
    split
    · rfl
    · rename_i hc
      rw [List.filter_cons, insA_filter T c x ys]
      by_cases h1 : PySem.W.sameRank le c x = true
      · by_cases h2 : PySem.W.sameRank le c y = true
        · exfalso
          unfold PySem.W.sameRank at h1 h2
          rw [Bool.and_eq_true] at h1 h2
          exact hc (T.trans _ _ _ h1.2 h2.1)
        · simp only [List.filter_cons, h1, h2, if_true, if_false, Bool.false_eq_true]
      · simp only [List.filter_cons, h1, if_false, Bool.false_eq_true]
theorem sortA_filter (T : PySem.W.TotalLe le) (c : α) : ∀ l : List α, (sortA le l).filter (PySem.W.sameRank le c) = l.filter (PySem.W.sameRank le c)
  | [] => rfl
  | x :: xs => by
    rw [sortA, insA_filter T, List.filter_cons, List.filter_cons, sortA_filter T c xs]
theorem sortA_eq (T : PySem.W.TotalLe le) (l : List α) : sortA le l = l.mergeSort le := PySem.W.sort_unique T (sortA_pw T l) fun c => sortA_filter T c l
theorem insA_congr {le le' : α → α → Bool} {x : α} : ∀ {l : List α}, (∀ y ∈ l, le x y = le' x y) → insA le x l = insA le' x l
  | [], _ => rfl
  | y :: ys, h => by
    unfold insA
    rw [h y List.mem_cons_self, insA_congr fun z hz => h z (List.mem_cons_of_mem _ hz)]
theorem sortA_congr {le le' : α → α → Bool} : ∀ {l : List α}, (∀ x ∈ l, ∀ y ∈ l, le x y = le' x y) → sortA le l = sortA le' l
  | [], _ => rfl
  | x :: xs, h => by
    rw [sortA, sortA, sortA_congr fun a ha b hb => h a (List.mem_cons_of_mem _ ha) b (List.mem_cons_of_mem _ hb)]
    exact insA_congr fun y hy => h x List.mem_cons_self y (List.mem_cons_of_mem _ (sortA_mem hy))
theorem sortBy_A (le : D → D → Bool) : ∀ l : List D, sortBy le l = sortA le l
  | [] => rfl
  | x :: xs => by
    have e : ∀ l : List D, insBy le x l = insA le x l := by
      intro l
      induction l with
      | nil => rfl
      | cons y ys ih => unfold insBy insA; rw [ih]
    rw [sortBy, sortA, sortBy_A le xs, e]
theorem sortKey_A (le : D → D → Bool) : ∀ l : List (D × D), sortKey le l = sortA (fun p q => le p.1 q.1) l
  | [] => rfl
  | x :: xs => by
    have e : ∀ l : List (D × D), insKey le x l = insA (fun p q => le p.1 q.1) x l := by
      intro l
      induction l with
      | nil => rfl
      | cons y ys ih => unfold insKey insA; rw [ih]
    rw [sortKey, sortA, sortKey_A le xs, e]
end
theorem pairs_mem {p : D → D → Bool} : ∀ {xs : List D}, allPairs p xs = true → ∀ i j (hi : i < xs.length) (hj : j < xs.length), i ≤ j → p xs[i] xs[j] = true
  | [], _, i, _, hi, _, _ => absurd hi (by simp)
  | x :: xs, h, i, j, hi, hj, hij => by
    simp only [allPairs, Bool.and_eq_true] at h
    obtain ⟨⟨h1, h2⟩, h3⟩ := h
    cases i with
    | zero =>
      cases j with
      | zero => exact h1
      | succ j => exact List.all_eq_true.mp h2 _ (List.getElem_mem _)
    | succ i =>
      cases j with
      | zero => omega
      | succ j => exact pairs_mem h3 i j (by simpa using hi) (by simpa using hj) (by omega)
mutual
theorem alike_comm' : ∀ x y : D, alike x y = alike y x
  | x, y => by
    cases x <;> cases y <;> first
      | rfl
      | (simp only [alike]; exact alikeL_comm' _ _)
theorem alikeL_comm' : ∀ xs ys : List D, alikeL xs ys = alikeL ys xs
  | [], [] => rfl
  | [], _ :: _ => rfl
  | _ :: _, [] => rfl
  | x :: xs, y :: ys => by simp only [alikeL]; rw [alike_comm' x y, alikeL_comm' xs ys]
end
theorem pairs_all {xs : List D} (h : allPairs alike xs = true) : ∀ x ∈ xs, ∀ y ∈ xs, alike x y = true := by
  intro x hx y hy
  obtain ⟨i, hi, rfl⟩ := List.getElem_of_mem hx
  obtain ⟨j, hj, rfl⟩ := List.getElem_of_mem hy
  rcases Nat.le_total i j with h' | h'
  · exact pairs_mem h i j hi hj h'
  · rw [alike_comm']; exact pairs_mem h j i hj hi h'
theorem okL_mem {n : Nat} : ∀ {xs : List D}, okL n xs = true → ∀ x ∈ xs, okD n x = true
  | [], _, x, h => by cases h
  | y :: ys, h, x, hx => by
    simp only [okL, Bool.and_eq_true] at h
    rcases List.mem_cons.mp hx with rfl | hx
    · exact h.1
    · exact okL_mem h.2 x hx
theorem okSort_parts {xs : List D} (h : okSort xs = true) : okL deep xs = true ∧ (∀ x ∈ xs, ∀ y ∈ xs, alike x y = true) ∧ (xs.all tupNe = true ∨ xs.all notTupNon = true) ∧ xs.length ≤ line := by
  unfold okSort at h
  simp only [Bool.and_eq_true, Bool.or_eq_true, decide_eq_true_eq] at h
  exact ⟨h.1.1.1, pairs_all h.1.1.2, h.1.2, h.2⟩
theorem allAlike_of {xs : List D} (h : ∀ x ∈ xs, ∀ y ∈ xs, alike x y = true) : PySem.W.AllAlike (xs.map py) := by
  intro d hd d' hd'
  obtain ⟨b, hb, rfl⟩ := List.mem_map.mp hd
  obtain ⟨b', hb', rfl⟩ := List.mem_map.mp hd'
  exact alike_py _ _ (h b hb b' hb')
theorem sortable_of {xs : List D} (ok : okL deep xs = true) (h : xs.all tupNe = true ∨ xs.all notTupNon = true) : PySem.W.Sortable (xs.map py) := by
  rcases h with h | h
  · refine .inl fun d hd => ?_
    obtain ⟨b, hb, rfl⟩ := List.mem_map.mp hd
    have hb := List.all_eq_true.mp h b hb
    cases b with
    | tup ys =>
      cases ys with
      | nil => cases hb
      | cons y ys => exact ⟨py y, py.pyL ys, by simp only [py, py.pyL]⟩
    | _ => cases hb
  · refine .inr fun d hd => ?_
    obtain ⟨b, hb, rfl⟩ := List.mem_map.mp hd
    have hk := okL_mem ok b hb
    have hb := List.all_eq_true.mp h b hb
    cases b <;> first
      | (cases hb; done)
      | (simp [okD, deep] at hk; done)
      | exact ⟨fun z => by simp [py] at z, fun ys z => by simp [py] at z⟩
/-- the order of the library on these -/
theorem le_py {xs : List D} (ok : okL deep xs = true) (al : ∀ x ∈ xs, ∀ y ∈ xs, alike x y = true) (rev : Bool) {x y : D} (hx : x ∈ xs) (hy : y ∈ xs) : PySem.W.dataLe rev py x y = (if rev then leDown else leUp) x y := by
  have ox := okL_mem ok x hx
  have oy := okL_mem ok y hy
  rw [PySem.W.dataLe_eq]
  cases rev
  · show (!PySem.W.dataLt (py y) (py x)) = (!ltv y x)
    rw [ltv_py deep deep y x oy ox (al y hy x hx)]
  · show (!PySem.W.dataLt (py x) (py y)) = (!ltv x y)
    rw [ltv_py deep deep x y ox oy (al x hx y hy)]
theorem dataLe_total {β : Type} (rev : Bool) (k : β → PyData) : PySem.W.TotalLe (PySem.W.dataLe rev k) := PySem.W.sortLe_total _ rev _
theorem merge_by {xs : List D} (h : okSort xs = true) (rev : Bool) : xs.mergeSort (PySem.W.dataLe rev py) = sortBy (if rev then leDown else leUp) xs := by
  obtain ⟨ok, al, _, _⟩ := okSort_parts h
  rw [← sortA_eq (dataLe_total rev py), sortBy_A]
  exact sortA_congr fun x hx y hy => le_py ok al rev hx hy

section
variable {C : Cn} {ρ ρ1 ρ2 : List Addr} {FR FR1 FR2 H H1 H2 : Hp} {ah ah1 ah2 : AH} {sl : Slots} {σ : St} {X : Cx} {Q : VK} {e : Expr} {es : List Expr} {pos : Pos} {pins : List (Addr × Obj)} {s : Shared}
/-- the items with what they stand for -/
def RZ (C : Cn) (ρ : List Addr) (FR : Hp) (u : Value) (p : D × V) : Prop := RelV p.2 u ∧ Rp C ρ FR p.1 p.2
theorem each_RZ : ∀ {ds : List D} {vs : List V} {us : List Value}, RpL C ρ FR ds vs → Vals vs us → PySem.W.EachIs (RZ C ρ FR) us (ds.zip vs)
  | _, _, _, .nil, .nil => .nil
  | _, _, _, .cons h1 h2, .cons r1 r2 => .cons ⟨r1, h1⟩ (each_RZ h2 r2)
theorem RZ_each : ∀ {zs : List (D × V)} {us : List Value}, PySem.W.EachIs (RZ C ρ FR) us zs → RpL C ρ FR (zs.map (·.1)) (zs.map (·.2)) ∧ Vals (zs.map (·.2)) us
  | _, _, .nil => ⟨.nil, .nil⟩
  | _, _, .cons h t => by
    obtain ⟨a, b⟩ := RZ_each t
    exact ⟨.cons h.2 a, .cons h.1 b⟩
theorem zip_fst : ∀ {ds : List D} {vs : List V}, RpL C ρ FR ds vs → (ds.zip vs).map (·.1) = ds
  | _, _, .nil => rfl
  | _, _, .cons _ h2 => by
    rw [List.zip_cons_cons, List.map_cons, zip_fst h2]
theorem each_reads (I : Inv X pins σ H s) (F : Fit C X) (sb : Sub FR H) {xs : List D} (ok : okL deep xs = true) : ∀ {zs : List (D × V)} {us : List Value}, (∀ p ∈ zs, p.1 ∈ xs) → PySem.W.EachIs (RZ C ρ FR) us zs → PySem.W.EachIs (fun v (b : D × V) => ∃ as, Reads s.heap v (py b.1) as) us zs
  | _, _, _, .nil => .nil
  | _, _, hm, .cons h t => by
    refine .cons ?_ (each_reads I F sb ok (fun p hp => hm p (List.mem_cons_of_mem _ hp)) t)
    exact Dp.reads I _ _ _ (F.K ▸ Rp.dp deep _ _ (okL_mem ok _ (hm _ List.mem_cons_self)) (Rp.mono sb Pre.refl h.2)) h.1
theorem merge_zip {zs : List (D × V)} {xs : List D} (hz : zs.map (·.1) = xs) (h : okSort xs = true) (rev : Bool) :
    (zs.mergeSort (PySem.W.dataLe rev fun p => py p.1)).map (·.1) = sortBy (if rev then leDown else leUp) xs := by
  rw [← merge_by h rev, ← hz]
  exact PySem.W.sort_maps (fun p : D × V => p.1) fun a _ b _ => rfl
def srtD (rev : Bool) : D → Option D
  | .lst xs => if okSort xs then some (.lst (sortBy (if rev then leDown else leUp) xs)) else none
  | _ => none
theorem py_depth {d : D} (ok : okD deep d = true) (F : Fit C X) : X.A.units + 2 + (py d).depth < cLine := by
  have h := (ok_lay deep d ok).2
  have u := F.un
  have : deep = 60 := rfl
  omega
/-- the sorted list stands -/
theorem srt_end {ρ : List Addr} {FR : Hp} {xs : List D} {vs : List V} {its : List Value} {rev : Bool} (F : Fit C X) (I : Inv X pins σ H s) (rh : RelH C ρ FR ah H) (ok : okSort xs = true) (l : RpL C ρ FR xs vs) (r : Vals vs its) (q : PstN C ρ FR H Q (.lst (sortBy (if rev then leDown else leUp) xs)) ah)
    {out : List Value} (hl : out.length = (xs.zip vs).length) (e : PySem.W.EachIs (RZ C ρ FR) out ((xs.zip vs).mergeSort (PySem.W.dataLe rev fun p => py p.1))) :
    EP X pins σ Q (.ref (s.heap.objs.size + 1)) { s with heap := PyProof.Rows.sortedAll s.heap its (List.toArray out) } := by
  obtain ⟨ep, he'⟩ := PyProof.Rows.sortedAll_at s.heap its (List.toArray out)
  obtain ⟨a, b⟩ := RZ_each e
  rw [merge_zip (zip_fst l) ok rev] at a
  have hz : ((xs.zip vs).mergeSort (PySem.W.dataLe rev fun p => py p.1)).length ≤ sizeLine := by
    rw [(List.mergeSort_perm _ _).length_eq, List.length_zip, ← l.length, Nat.min_self, ← line_eq]
    exact (okSort_parts ok).2.2.2
  exact ⟨.ref _, _, I.laid (t' := s.toks) (o := .lst _) (fun _ _ => PyProof.Rows.sortedAll_old) (Nat.le_succ _) ⟨by rw [List.length_map]; exact hz, out, ep, b, he'⟩, rfl, q.lst rh (I.hok.fresh (Nat.le_succ _)) a⟩
theorem zip_mem {xs : List D} {vs : List V} : ∀ p ∈ xs.zip vs, p.1 ∈ xs := fun ⟨a, b⟩ hp => (List.of_mem_zip hp).1
theorem cl_sorted (F : Fit C X) : CallL C X (.builtin "sorted") (srtD false) := by
  intro pins s σ H vs us Q I r ⟨x, ex, ρ, FR, ah, d1, d, rh, s1, hg, q⟩
  subst ex
  cases d1 <;> simp only [srtD, reduceCtorEq] at hg
  rename_i xs
  split at hg
  · rename_i ok
    cases hg
    obtain ⟨a, vs, rfl, t1, l1⟩ := s1.lst rh.sub
    obtain ⟨its, rv, hl, _⟩ := I.list (.inl t1)
    rw [Vals.ref1 r]
    obtain ⟨ok1, al, hs, hz⟩ := okSort_parts ok
    have hlen : (xs.zip vs).length = xs.length := by rw [List.length_zip, ← l1.length, Nat.min_self]
    have hmap : (xs.zip vs).map (fun p => py p.1) = xs.map py := by rw [← zip_fst l1, List.map_map]; rw [zip_fst l1]; rfl
    refine PySem.W.sorted_data (enc := fun p : D × V => py p.1) (bs := xs.zip vs) (R := RZ C ρ FR) hl.isList (each_RZ l1 rv) (each_reads I F rh.sub ok1 zip_mem (each_RZ l1 rv)) (by rw [hmap]; exact allAlike_of al) (by rw [hmap]; exact sortable_of ok1 hs) (by rw [hlen, ← line_eq]; exact hz)
      (fun p hp => py_depth (okL_mem ok1 _ (zip_mem p hp)) F) fun out hl e => ?_
    exact srt_end (rev := false) F I rh ok l1 rv q hl e
  · cases hg
/-! ### sorted(xs, key=len) -/
theorem sortKey_merge {ps : List (D × D)} (ok : okL deep (ps.map (·.1)) = true) (al : ∀ x ∈ ps.map (·.1), ∀ y ∈ ps.map (·.1), alike x y = true) (rev : Bool) :
    sortKey (if rev then leDown else leUp) ps = ps.mergeSort (PySem.W.dataLe rev fun p => py p.1) := by
  rw [← sortA_eq (dataLe_total rev fun p : D × D => py p.1), sortKey_A]
  exact sortA_congr fun x hx y hy => (le_py ok al rev (List.mem_map_of_mem hx) (List.mem_map_of_mem hy)).symm
def lenI : D → Option Int
  | .tup xs => some xs.length
  | .lst xs => some xs.length
  | .scr xs => some xs.length
  | _ => none
/-- the items with their lengths -/
def lens : List D → Option (List (D × D))
  | [] => some []
  | x :: xs => (lenI x).bind fun n => (lens xs).map fun ps => (.int n, x) :: ps
theorem lens_each : ∀ (xs : List D) (h : AH), keyEach (fun x h => R.opt h (builtin .len [x])) xs h = R.opt h (lens xs)
  | [], _ => rfl
  | x :: xs, h => by
    have e : builtin .len [x] = (lenI x).map D.int := by cases x <;> rfl
    unfold keyEach lens
    rw [e]
    cases lenI x with
    | none => rfl
    | some n =>
      show (keyEach (fun x h => R.opt h (builtin .len [x])) xs h).bind (fun ps h => .ok ((D.int n, x) :: ps) h) = _
      rw [lens_each xs h]
      show _ = R.opt h ((lens xs).map fun ps => (.int n, x) :: ps)
      cases lens xs <;> rfl
theorem lens_spec : ∀ {xs : List D} {ps : List (D × D)}, lens xs = some ps → ps.map (·.2) = xs ∧ ∀ p ∈ ps, ∃ n, p.1 = .int n ∧ lenI p.2 = some n
  | [], _, h => by cases h; exact ⟨rfl, fun _ z => absurd z List.not_mem_nil⟩
  | x :: xs, _, h => by
    unfold lens at h
    obtain ⟨n, hn, h⟩ := Option.bind_eq_some_iff.mp h
    obtain ⟨ps, hp, rfl⟩ := Option.map_eq_some_iff.mp h
    obtain ⟨e1, e2⟩ := lens_spec hp
    refine ⟨by rw [List.map_cons, e1], fun p hp => ?_⟩
    rcases List.mem_cons.mp hp with rfl | hp
    · exact ⟨n, rfl, hn⟩
    · exact e2 p hp
theorem ints_ok : ∀ {ds : List D}, (∀ d ∈ ds, ∃ n, d = .int n) → okL deep ds = true
  | [], _ => rfl
  | d :: ds, h => by
    obtain ⟨n, rfl⟩ := h d List.mem_cons_self
    simp only [okL, okD, Bool.true_and]
    exact ints_ok fun x hx => h x (List.mem_cons_of_mem _ hx)
def RZ2 (C : Cn) (ρ : List Addr) (FR : Hp) (u : Value) (p : (D × D) × V) : Prop := RelV p.2 u ∧ Rp C ρ FR p.1.2 p.2
theorem each_RZ2 : ∀ {ps : List (D × D)} {vs : List V} {us : List Value}, RpL C ρ FR (ps.map (·.2)) vs → Vals vs us → PySem.W.EachIs (RZ2 C ρ FR) us (ps.zip vs)
  | [], _, _, h, r => by
    cases h
    cases r
    exact .nil
  | p :: ps, _, _, h, r => by
    cases h with
    | cons h1 h2 =>
      cases r with
      | cons r1 r2 => exact .cons ⟨r1, h1⟩ (each_RZ2 h2 r2)
theorem RZ2_each : ∀ {zs : List ((D × D) × V)} {us : List Value}, PySem.W.EachIs (RZ2 C ρ FR) us zs → RpL C ρ FR (zs.map (·.1.2)) (zs.map (·.2)) ∧ Vals (zs.map (·.2)) us
  | _, _, .nil => ⟨.nil, .nil⟩
  | _, _, .cons h t => by
    obtain ⟨a, b⟩ := RZ2_each t
    exact ⟨.cons h.2 a, .cons h.1 b⟩
theorem zip2_fst : ∀ {ps : List (D × D)} {vs : List V}, ps.length = vs.length → (ps.zip vs).map (·.1) = ps
  | [], _, _ => rfl
  | p :: ps, [], h => by simp at h
  | p :: ps, v :: vs, h => by
    rw [List.zip_cons_cons, List.map_cons, zip2_fst (by simpa using h)]
def srtLenD (rev : Bool) : D → Option D
  | .lst xs => (lens xs).bind fun ps => if ps.length ≤ line then some (.lst ((sortKey (if rev then leDown else leUp) ps).map (·.2))) else none
  | _ => none
theorem sorted_len {rev : Bool} {kw : List (Str × Value)} (ha1 : ∀ a, argsOk "sorted" ⟨[.ref a], kw⟩) (ha2 : ∀ a, argsOk "list.sort" ⟨[.ref a], kw⟩) (ht : ∀ a, Builtin.«list.sort» ⟨[.ref a], kw⟩ = PyProof.Rows.ksk_tree a (.builtin "len") rev)
    (F : Fit C X) (I : Inv X pins σ H s) {x : V} {u : Value} (rx : RelV x u) (h : l1 C (srtLenD rev) x H Q) : wpAny (model X.prog X.w) X.A (call (.builtin "sorted") [u] kw) (EP X pins σ Q) X.xe s := by
  obtain ⟨ρ, FR, ah, d1, d, rh, s1, hg, q⟩ := h
  cases d1 <;> simp only [srtLenD, reduceCtorEq] at hg
  rename_i xs
  obtain ⟨ps, hp, hg⟩ := Option.bind_eq_some_iff.mp hg
  split at hg
  · rename_i hz
    cases hg
    obtain ⟨a, vs, rfl, t1, l1⟩ := s1.lst rh.sub
    cases rx
    obtain ⟨its, rv, hl, _⟩ := I.list (.inl t1)
    obtain ⟨e1, e2⟩ := lens_spec hp
    have e3 : ∀ d ∈ ps.map (·.1), ∃ n, d = D.int n := fun d hd => by
      obtain ⟨p, hp, rfl⟩ := List.mem_map.mp hd
      obtain ⟨n, e, _⟩ := e2 p hp
      exact ⟨n, e⟩
    have ok := ints_ok e3
    have al : ∀ x ∈ ps.map (·.1), ∀ y ∈ ps.map (·.1), alike x y = true := fun x hx y hy => by
      obtain ⟨n, rfl⟩ := e3 x hx
      obtain ⟨m, rfl⟩ := e3 y hy
      rfl
    have l2 : RpL C ρ FR (ps.map (·.2)) vs := by rw [e1]; exact l1
    have hpv : ps.length = vs.length := by rw [← l2.length, List.length_map]
    have hlen : (ps.zip vs).length = ps.length := by rw [List.length_zip, ← hpv, Nat.min_self]
    have hmap : (ps.zip vs).map (fun p => py p.1.1) = (ps.map (·.1)).map py := by
      have z : (ps.zip vs).map (fun p => py p.1.1) = ((ps.zip vs).map (·.1)).map fun p => py p.1 := by rw [List.map_map]; rfl
      rw [z, zip2_fst hpv, List.map_map]; rfl
    have um := F.un
    refine PySem.W.sorted_key_data (b := rev) (bs := ps.zip vs) (R := RZ2 C ρ FR) (fun p => py p.1.1) hl.isList (each_RZ2 l2 rv) (by rw [hmap]; exact allAlike_of al) (by
        rw [hmap]
        refine sortable_of ok (.inr (List.all_eq_true.mpr fun d hd => ?_))
        obtain ⟨n, rfl⟩ := e3 d hd
        rfl) (by rw [hlen, ← line_eq]; exact hz) (fun p hp => ?_) (ha1 _) ha2 ht (fun v p hR hp h tk hk => ?_) fun out c h' tk hk _ hS hl e => ?_
    · obtain ⟨n, en, _⟩ := e2 p.1 (List.of_mem_zip (a := p.1) (b := p.2) hp).1
      rw [en]
      show X.A.units + 2 + 0 < cLine
      omega
    · obtain ⟨n, en, hn⟩ := e2 p.1 (List.of_mem_zip (a := p.1) (b := p.2) hp).1
      obtain ⟨r1, r2⟩ := hR
      obtain ⟨⟨kp, it⟩, vv⟩ := p
      simp only at r1 r2 hn en
      subst en
      have l63 := line63
      cases it <;> simp only [lenI, reduceCtorEq, Option.some.injEq] at hn
      case tup ys =>
        subst hn
        cases r2 with
        | tup t2 l3 =>
          cases r1
          obtain ⟨its2, rv2, ⟨o, ho, hc, m, hd⟩, hz2⟩ := I.tuple (SqT.sub rh.sub (F.K ▸ t2.sq))
          have e4 : ys.length = its2.length := l3.length.trans rv2.length
          refine len_tuple (items := its2.toArray) ⟨o, hk _ _ ho, hc, m, hd⟩ (by rw [List.size_toArray, ← rv2.length]; omega) ⟨h, tk + 1 + 1, rfl, fun _ _ z => z, ?_⟩
          show Reads h (.int its2.toArray.size _) (.int (ys.length : Int)) []
          rw [List.size_toArray, ← e4]
          exact .int _ _
      case lst ys =>
        subst hn
        cases r2 with
        | lst t2 l3 =>
          cases r1
          obtain ⟨its2, rv2, ⟨o, m, ho, hc, hd, hs⟩, hz2⟩ := I.list (.inl (Rd.sub rh.sub t2))
          have e4 : ys.length = its2.length := l3.length.trans rv2.length
          refine Calls.call_len_list (items := its2.toArray) ⟨o, hk _ _ ho, hc, m, hs⟩ (by rw [List.size_toArray, ← rv2.length]; omega) ⟨h, tk + 1 + 1, rfl, fun _ _ z => z, ?_⟩
          show Reads h (.int its2.toArray.size _) (.int (ys.length : Int)) []
          rw [List.size_toArray, ← e4]
          exact .int _ _
      case scr ys =>
        subst hn
        cases r2 with
        | scr t2 l3 =>
          cases r1
          obtain ⟨its2, rv2, ⟨o, m, ho, hc, hd, hs⟩, hz2⟩ := I.list (SqL.sub rh.sub (F.K ▸ t2))
          have e4 : ys.length = its2.length := l3.length.trans rv2.length
          refine Calls.call_len_list (items := its2.toArray) ⟨o, hk _ _ ho, hc, m, hs⟩ (by rw [List.size_toArray, ← rv2.length]; omega) ⟨h, tk + 1 + 1, rfl, fun _ _ z => z, ?_⟩
          show Reads h (.int its2.toArray.size _) (.int (ys.length : Int)) []
          rw [List.size_toArray, ← e4]
          exact .int _ _
    · obtain ⟨a1, b1⟩ := RZ2_each e
      have em : ((ps.zip vs).mergeSort (PySem.W.dataLe rev fun p => py p.1.1)).map (·.1.2) = (sortKey (if rev then leDown else leUp) ps).map (·.2) := by
        have z : ((ps.zip vs).mergeSort (PySem.W.dataLe rev fun p => py p.1.1)).map (·.1) = sortKey (if rev then leDown else leUp) ps := by
          rw [sortKey_merge ok al rev]
          conv => rhs; rw [← zip2_fst hpv]
          exact PySem.W.sort_maps (fun p : (D × D) × V => p.1) fun a _ b _ => rfl
        rw [← z, List.map_map]; rfl
      rw [em] at a1
      refine ⟨.ref _, _, I.laid (t' := tk) (o := .lst _) hk (Nat.le_succ _) ⟨?_, out, c, b1, hS⟩, rfl, q.lst rh (I.hok.fresh (Nat.le_succ _)) a1⟩
      rw [b1.length, hl, hlen, ← line_eq]; exact hz
  · cases hg
theorem tk_l1 {ra : Rs} {P : V → Hp → Prop} (q : TB C ra σ H P) : Tk C ra σ H fun vs H1 => ∃ x, vs = [x] ∧ P x H1 := by
  obtain ⟨ρ, FR, sl, ah, rel, q⟩ := q
  obtain ⟨d, ah', e, q⟩ := q.inv
  refine ⟨ρ, FR, sl, ah, rel, ?_⟩
  rw [e]
  exact fun ρ' FR' H' v x rh w => ⟨v, rfl, q ρ' FR' H' v x rh w⟩
theorem s_srtlen (F : Fit C X) {ra : Rs} {x y : Str} {p p2 kp : Pos} (hx : x = "sorted") (hg : L2.Gl X x) (hm : X.mg x = none) (hy : y = "len") (hg2 : L2.Gl X y) (hm2 : X.mg y = none) (ha : PE X e (TB C ra)) (hs : noStar e = true) :
    PE X (.Call (.Name x p) [e] [⟨some (Str.ofString "key"), .Name y p2, kp⟩] pos) (TN C (un1 ra (srtLenD false))) := by
  refine ⟨fun pins s σ H Q I h => ?_⟩
  subst hx
  subst hy
  refine wpAny_Call_Name_kw (ld_blt I hg hm (u := .builtin "sorted") rfl ?_)
  refine PyProof.Rows.callWith_kw (e := e) (rest := []) (thn ((a_look hs ha).run pos pins s σ H (fun vs H1 => ∃ x, vs = [x] ∧ l1 C (srtLenD false) x H1 Q) I (tk_l1 (un1_l1 h))) fun us s1 ⟨vs, H1, I1, r1, v0, ev, q1⟩ => ?_) (by rw [star_cons hs]; rfl) (by rw [star_cons hs]; rfl) rfl rfl
  show wpAny _ _ (evalAll [do let v ← eval (.Name "len" p2) X.env; standAt pos; pure v]) _ _ s1
  refine wpAny_evalAll_cons (wpAny_bind (ld_blt I1 hg2 hm2 (u := .builtin "len") rfl (wpAny_bind (wpAny_standAt (wpAny_pure (wpAny_evalAll_nil ?_))))))
  subst ev
  cases r1 with
  | cons ra rb =>
    cases rb
    exact sorted_len (rev := false) (fun _ => PyProof.Rows.ksk_s1 _ _) (fun _ => PyProof.Rows.ksk_l1 _ _) (fun _ => PyProof.Rows.ksk_t4 _ _) F I1 ra q1
/-- sorted(xs, key=len, reverse=b) -/
theorem s_srtlenR (F : Fit C X) {ra : Rs} {x y : Str} {b : Bool} {j : Nat} {p p2 p3 kp kp2 : Pos} (hx : x = "sorted") (hg : L2.Gl X x) (hm : X.mg x = none) (hy : y = "len") (hg2 : L2.Gl X y) (hm2 : X.mg y = none) (ha : PE X e (TB C ra)) (hs : noStar e = true) :
    PE X (.Call (.Name x p) [e] [⟨some (Str.ofString "key"), .Name y p2, kp⟩, ⟨some (Str.ofString "reverse"), .Constant (.bool b) j p3, kp2⟩] pos) (TN C (un1 ra (srtLenD b))) := by
  refine ⟨fun pins s σ H Q I h => ?_⟩
  subst hx
  subst hy
  refine wpAny_Call_Name_kw (ld_blt I hg hm (u := .builtin "sorted") rfl ?_)
  refine PyProof.Rows.callWith_kw (e := e) (rest := []) (thn ((a_look hs ha).run pos pins s σ H (fun vs H1 => ∃ x, vs = [x] ∧ l1 C (srtLenD b) x H1 Q) I (tk_l1 (un1_l1 h))) fun us s1 ⟨vs, H1, I1, r1, v0, ev, q1⟩ => ?_) (by rw [star_cons hs]; rfl) (by rw [star_cons hs]; rfl) rfl rfl
  show wpAny _ _ (evalAll [do let v ← eval (.Name "len" p2) X.env; standAt pos; pure v, do let v ← eval (.Constant (.bool b) j p3) X.env; standAt pos; pure v]) _ _ s1
  refine wpAny_evalAll_cons (wpAny_bind (ld_blt I1 hg2 hm2 (u := .builtin "len") rfl (wpAny_bind (wpAny_standAt (wpAny_pure (wpAny_evalAll_cons (wpAny_bind (wpAny_Constant_bool (wpAny_bind (wpAny_standAt (wpAny_pure (wpAny_evalAll_nil ?_))))))))))))
  subst ev
  cases r1 with
  | cons ra rb =>
    cases rb
    exact sorted_len (rev := b) (fun _ => PyProof.Rows.ksk_s2 _ _ _) (fun _ => PyProof.Rows.ksk_l2 _ _ _) (fun _ => PyProof.Rows.ksk_t5 _ _ _) F I1 ra q1
end
end Sd

end
section
set_option Elab.async false
set_option linter.all false
set_option maxRecDepth 100000
set_option maxHeartbeats 1000000
/-! Sd10: calls of own functions, of built-in ones; isinstance; casts; {}. -/
namespace Sd
open PySem PySem.Spec L2 Ev
open PyProof.Rows hiding St

/-- no exception is told of -/
def cx0 : CXT := fun _ _ _ _ _ _ => False
/-- the names of a text: own functions with their parameters; constants -/
structure Sx where
  fns : List (Str × List Str)
  gls : List Str
  /-- calls by keywords: the function, the names as they are written, the parameters' places among them -/
  kws : List (Nat × List Str × List Nat) := []
/-- how a call by keywords binds -/
def KP (K : PySem.W.Frag) (fd : FuncData) (ps ks : List Str) (perm : List Nat) : Prop := ∀ (s : Shared) (ws : List Value), K.In s.heap → ws.length = ks.length → ∃ zs, permD ws perm = some zs ∧ zs.length = ps.length ∧ BindsTo s fd ⟨[], ks.zip ws⟩ (ps.zip zs)
/-- what a function promises: what the evaluator tells -/
def spK (C : Cn) (F : Fs) (k n : Nat) : Sp := fun vs H Q _ => vs.length = n ∧ ∃ ρ FR ah ds, RelH C ρ FR ah H ∧ RpL C ρ FR ds vs ∧ Pst C ρ FR H (fz C) Q (F k ds ah)
def bnames : List Str := ["len", "abs", "int", "max", "min", "sum", "all", "any", "tuple", "list", "dict", "sorted", "set", "isinstance", "bool", "str", "range", "enumerate", "zip"]
structure Fx (C : Cn) (X : Cx) (S : Sx) (G : Ev.Gl) (F : Fs) (n : Nat) : Prop extends Fit C X where
  room : Room n X.A
  bl : ∀ x ∈ bnames, X.mg x = none
  gl : ∀ (k : Nat) (x : Str) (d : D), S.gls[k]? = some x → G.consts[k]? = some d → ∃ u v, X.mg x = some u ∧ RelV v u ∧ ∀ ρ FR, Rp C ρ FR d v
  fn : ∀ (k : Nat) (x : Str) (ps : List Str), S.fns[k]? = some (x, ps) → ∃ a fd, X.mg x = some (.ref a) ∧ C.fa k = some a ∧ PySem.W.keepIn X.K (.ref a) = true ∧ Binds X.K fd ps [] ∧ FnOk X.prog X.w X.K X.mg X.base cx0 n a fd ps (spK C F k ps.length) ∧ ∀ q ∈ S.kws, q.1 = k → KP X.K fd ps q.2.1 q.2.2

section
variable {C : Cn} {ρ ρ1 ρ2 : List Addr} {FR FR1 FR2 H H1 H2 : Hp} {ah ah1 ah2 : AH} {sl : Slots} {σ : St} {X : Cx} {Q : VK} {e : Expr} {es : List Expr} {pos : Pos} {pins : List (Addr × Obj)} {s : Shared} {S : Sx} {G : Ev.Gl} {F : Fs} {n : Nat}
theorem call_tf {k m : Nat} {rs : Rls} (hl : ∀ sl h ds h', rs sl h = .ok ds h' → ds.length = m) (q : TF C (fun sl h => (rs sl h).bind fun xs h => F k xs h) σ H Q) : tCall (spK C F k m) [] (fun _ _ _ => False) (Ta C rs) σ H Q := by
  obtain ⟨ρ, FR, sl, ah, rel, q⟩ := q
  obtain ⟨d, ah', e, _⟩ := q.inv
  obtain ⟨ds, h1, e1, e⟩ := bind_ok e
  have q : Pst C ρ FR H (fz C) Q ((rs sl ah).bind fun xs h => F k xs h) := q
  refine ⟨ρ, FR, sl, ah, rel, ?_⟩
  rw [e1] at q ⊢
  intro ρ' FR' H' vs x rh w
  rw [List.append_nil]
  refine ⟨by rw [← w.length]; exact hl _ _ _ _ e1, ρ', FR', h1, ds, rh, w, ?_⟩
  have q : Pst C ρ FR H (fz C) Q (F k ds h1) := q
  exact Pst.after (φ := fun _ _ _ => fz C) (sl := sl) (σ := σ) gr_F x q
theorem s_call (W : Fx C X S G F n) {k : Nat} {x : Str} {ps : List Str} {p : Pos} {rs : Rls} (hS : S.fns[k]? = some (x, ps)) (hg : L2.Gl X x) (hdb : (x == ("__debug__" : Str)) = false) (hst : (e :: es).all noStar = true) (hn : (e :: es).length = ps.length)
    (hl : ∀ sl h ds h', rs sl h = .ok ds h' → ds.length = (e :: es).length) (ha : PA X (e :: es) (Ta C rs)) : PE X (.Call (.Name x p) (e :: es) [] pos) (TF C fun sl h => (rs sl h).bind fun xs h => F k xs h) := by
  obtain ⟨a, fd, hm, _, hk, hb, ok, _⟩ := W.fn k x ps hS
  rw [List.all_cons, Bool.and_eq_true] at hst
  refine PE.imp (pe_call ok W.room hg hm hk hb .nil (E := fun _ _ _ => False) (fun _ _ _ _ _ _ _ z => z.elim) ha hdb (star_cons hst.1) (star_any hst.2)) fun σ H Q q => ?_
  exact call_tf (fun sl h ds h' e => (hl sl h ds h' e).trans hn) q
theorem s_call0 (W : Fx C X S G F n) {k : Nat} {x : Str} {p : Pos} (hS : S.fns[k]? = some (x, [])) (hg : L2.Gl X x) (hdb : (x == ("__debug__" : Str)) = false) : PE X (.Call (.Name x p) [] [] pos) (TF C fun _ h => F k [] h) := by
  obtain ⟨a, fd, hm, _, hk, hb, ok, _⟩ := W.fn k x [] hS
  refine PE.imp (pe_call0 ok W.room hg hm hk hb .nil (E := fun _ _ _ => False) (fun _ _ _ _ _ _ _ z => z.elim) hdb) fun σ H Q ⟨ρ, FR, sl, ah, rel, q⟩ => ?_
  exact ⟨rfl, ρ, FR, ah, [], rel.toRelH, .nil, q⟩
/-! ### calls by keywords -/
theorem PK.imp {X : Cx} {e : List Keyword} {t t' : TA} (h : PK X e t) (w : ∀ σ H Q, t' σ H Q → t σ H Q) : PK X e t' := ⟨fun pos pins s σ H Q I q => h.run pos pins s σ H Q I (w σ H Q q)⟩
theorem k_nil : PK X [] (Ta C fun _ h => .ok [] h) := PK.imp pk_nil fun σ H Q ⟨ρ, FR, sl, ah, rel, q⟩ => q ρ FR H [] Ext.refl rel.toRelH .nil
theorem k_cons {r : Rs} {rs : Rls} {nm : Option Str} {kpos : Pos} {kws : List Keyword} (h : PE X e (TF C r)) (t : PK X kws (Ta C rs)) : PK X (⟨nm, e, kpos⟩ :: kws) (Ta C (consR r rs)) := by
  refine PK.imp (pk_cons h t) fun σ H Q ⟨ρ, FR, sl, ah, rel, q⟩ => ⟨ρ, FR, sl, ah, rel, ?_⟩
  obtain ⟨ds, ah', e, q⟩ := q.inv
  obtain ⟨d, h1, xs, e1, e2, rfl⟩ := consR_ok e
  rw [e1]
  intro ρ1 FR1 H1 v x1 rh1 w1
  refine ⟨ρ1, FR1, sl, h1, rel.ext x1 rh1, ?_⟩
  rw [e2]
  intro ρ2 FR2 H2 vs x2 rh2 w2
  exact q ρ2 FR2 H2 (v :: vs) (x1.trans x2) rh2 (.cons (Rp.mono x2.fr x2.pre w1) w2)
theorem vals_get : ∀ {vs : List V} {us : List Value} {i : Nat} {v : V} {u : Value}, Vals vs us → vs[i]? = some v → us[i]? = some u → RelV v u
  | _, _, _, _, _, .nil, h, _ => by simp at h
  | _, _, 0, _, _, .cons a _, h1, h2 => by
    cases h1
    cases h2
    exact a
  | _, _, i + 1, _, _, .cons _ b, h1, h2 => vals_get (i := i) b (by simpa using h1) (by simpa using h2)
theorem perm_rp : ∀ {perm : List Nat} {ds ys : List Ev.D} {vs : List V} {us zs : List Value}, RpL C ρ FR ds vs → Vals vs us → permD ds perm = some ys → permD us perm = some zs → ∃ ws, RpL C ρ FR ys ws ∧ Vals ws zs
  | [], _, _, _, _, _, _, _, h1, h2 => by
    cases h1
    cases h2
    exact ⟨[], .nil, .nil⟩
  | i :: is, ds, _, vs, us, _, l, r, h1, h2 => by
    obtain ⟨d, d1, h1⟩ := Option.bind_eq_some_iff.mp h1
    obtain ⟨u, u1, h2⟩ := Option.bind_eq_some_iff.mp h2
    obtain ⟨ys, y1, rfl⟩ := Option.map_eq_some_iff.mp h1
    obtain ⟨zs, z1, rfl⟩ := Option.map_eq_some_iff.mp h2
    obtain ⟨v, v1, rv⟩ := l.get d1
    obtain ⟨ws, w1, w2⟩ := perm_rp l r y1 z1
    have ru : RelV v u := vals_get r v1 u1
    exact ⟨v :: ws, .cons rv w1, .cons ru w2⟩
theorem kw_names {env : Env} {pos : Pos} : ∀ {kws : List Keyword} {ks : List Str}, kws.map (·.arg) = ks.map some → (backToKw pos (keywordEach kws env)).all (·.1.isSome) = true ∧ (backToKw pos (keywordEach kws env)).filterMap (·.1) = ks ∧ (backToKw pos (keywordEach kws env)).any (·.1.isNone) = false
  | [], [], _ => ⟨rfl, rfl, rfl⟩
  | [], _ :: _, h => by simp at h
  | _ :: _, [], h => by simp at h
  | ⟨nm, e, p⟩ :: kws, k :: ks, h => by
    simp only [List.map_cons, List.cons.injEq] at h
    obtain ⟨rfl, h⟩ := h
    obtain ⟨a, b, c⟩ := kw_names (env := env) (pos := pos) h
    refine ⟨?_, ?_, ?_⟩
    · show (true && (backToKw pos (keywordEach kws env)).all (·.1.isSome)) = true
      rw [a]; rfl
    · show k :: (backToKw pos (keywordEach kws env)).filterMap (·.1) = _
      rw [b]
    · show (false || (backToKw pos (keywordEach kws env)).any (·.1.isNone)) = false
      rw [c]; rfl
theorem s_callK (W : Fx C X S G F n) {k : Nat} {x : Str} {ps ks : List Str} {perm : List Nat} {p : Pos} {kws : List Keyword} {rs : Rls} (hS : S.fns[k]? = some (x, ps)) (hq : (k, ks, perm) ∈ S.kws) (hg : L2.Gl X x) (hdb : (x == ("__debug__" : Str)) = false) (hn : kws.map (·.arg) = ks.map some)
    (hl : ∀ sl h ds h', rs sl h = .ok ds h' → ds.length = kws.length) (ha : PK X kws (Ta C rs)) : PE X (.Call (.Name x p) [] kws pos) (TF C fun sl h => (rs sl h).bind fun xs h => (R.opt h (permD xs perm)).bind fun ys h => F k ys h) := by
  obtain ⟨a, fd, hm, _, hk, hb, ok, kp⟩ := W.fn k x ps hS
  have kp := kp _ hq rfl
  obtain ⟨n1, n2, n3⟩ := kw_names (env := X.env) (pos := pos) hn
  refine ⟨fun pins s σ H Q I h => ?_⟩
  obtain ⟨ρ, FR, sl, ah, rel, q⟩ := h
  refine wpAny_Call_Name_kw (ld_glob I hg hm ?_ hdb)
  refine PySem.W.callWith_KW0 (h₀ := X.base) I.ok.mod.kin hk n1 ?_ (by rw [n3]; rfl)
  obtain ⟨d, ah', e, _⟩ := q.inv
  obtain ⟨ds, h1, e1, e⟩ := bind_ok e
  obtain ⟨ys, h2, e2, e⟩ := bind_ok e
  obtain ⟨e2, e3⟩ := opt_ok e2
  have q : Pst C ρ FR H (fz C) Q ((rs sl ah).bind fun xs h => (R.opt h (permD xs perm)).bind fun ys h => F k ys h) := q
  rw [e1] at q
  have q : Pst C ρ FR H (fz C) Q ((R.opt h1 (permD ds perm)).bind fun ys h => F k ys h) := q
  rw [e2] at q
  have q : Pst C ρ FR H (fz C) Q (F k ys h1) := q
  refine thn (ha.run pos pins s σ H (fun vs H1 => ∃ ρ1 FR1, Ext ρ FR H ρ1 FR1 H1 ∧ RelH C ρ1 FR1 h1 H1 ∧ RpL C ρ1 FR1 ds vs) I ⟨ρ, FR, sl, ah, rel, by rw [e1]; exact fun ρ' FR' H' vs x rh w => ⟨ρ', FR', x, rh, w⟩⟩) fun ws s2 ⟨vs, H1, I1, r, ρ1, FR1, ext, rh, l⟩ => ⟨I1.kIn, ?_⟩
  rw [n2]
  have lw : ws.length = ks.length := by
    have z := congrArg List.length hn
    rw [List.length_map, List.length_map] at z
    rw [← r.length, ← l.length, ← z]
    exact hl _ _ _ _ e1
  obtain ⟨zs, z1, z2, z3⟩ := kp s2 ws I1.kIn lw
  obtain ⟨vs2, v1, v2⟩ := perm_rp l r e2 z1
  refine wpAny_call (codeAny_mono (ok.run X.A X.stack s2 H1 ⟨[], ks.zip ws⟩ zs vs2 Q (fun _ _ _ => False) W.room I1.env0 z3 v2 ⟨by rw [v2.length, z2], ρ1, FR1, h1, ys, rh, v1, ?_⟩) fun r s' hq => ?_)
  · exact Pst.after (φ := fun _ _ _ => fz C) (sl := sl) (σ := σ) gr_F ext q
  · cases r with
    | error e => exact hq.elim
    | ok fl =>
      cases fl with
      | ret u => exact I1.after hq
      | next => exact False.elim hq
      | brk => exact False.elim hq
      | cont => exact False.elim hq
/-- a function as a value -/
theorem s_fnv (W : Fx C X S G F n) {k : Nat} {x : Str} {ps : List Str} (hS : S.fns[k]? = some (x, ps)) (hg : L2.Gl X x) (hd : (x == ("__debug__" : Str)) = false) : PE X (.Name x pos) (TF C fun _ h => .ok (.fn k) h) := by
  obtain ⟨a, fd, hm, hf, _⟩ := W.fn k x ps hS
  exact s_glob (fun _ _ => .fn hf) hg hm rfl hd
theorem s_gl (W : Fx C X S G F n) {k : Nat} {x : Str} {d : D} (hS : S.gls[k]? = some x) (hG : G.consts[k]? = some d) (hg : L2.Gl X x) (hd : (x == ("__debug__" : Str)) = false) : PE X (.Name x pos) (TF C fun _ h => .ok d h) := by
  obtain ⟨u, v, hm, r, hr⟩ := W.gl k x d hS hG
  exact s_glob hr hg hm r hd

/-! ### built-in functions by name -/
theorem Pst.imp' {φ : AH → Ph} {Q' : VK} {r : R D} (h : Pst C ρ FR H φ Q r) (w : ∀ v H', Q v H' → Q' v H') : Pst C ρ FR H φ Q' r := by
  obtain ⟨d, ah', rfl, q⟩ := h.inv
  exact fun ρ' FR' H' v x rh z => w _ _ (q ρ' FR' H' v x rh z)
theorem tcb_l1 {ra : Rs} {g : D → Option D} (q : TN C (un1 ra g) σ H Q) : tCB (fun vs H Q => ∃ x, vs = [x] ∧ l1 C g x H Q) (Tk C ra) σ H Q := tk_l1 (P := fun x H1 => l1 C g x H1 Q) (un1_l1 q)
theorem s_b1 {x : Str} {id : String} {g : D → Option D} {ra : Rs} {p : Pos} (hc : CallL C X (.builtin id) g) (hg : L2.Gl X x) (hm : X.mg x = none) (hv : bootBuiltins x = some (.builtin id)) (ha : PE X e (TB C ra)) (hs : noStar e = true) (hn : x ≠ "__name__") (hdb : (x == ("__debug__" : Str)) = false) :
    PE X (.Call (.Name x p) [e] [] pos) (TN C (un1 ra g)) :=
  PE.imp (pe_callB hc hg hm hv (a_look hs ha) hn hdb (star_cons hs) (star_any (by simp [hs]))) fun σ H Q q => tcb_l1 q
theorem s_t1 {x : Str} {id : String} {g : D → Option D} {ra : Rs} {p : Pos} (hc : CallL C X (.type id) g) (hg : L2.Gl X x) (hm : X.mg x = none) (hv : bootBuiltins x = some (.type id)) (ha : PE X e (TB C ra)) (hs : noStar e = true) (hn : x ≠ "__name__") (hdb : (x == ("__debug__" : Str)) = false) :
    PE X (.Call (.Name x p) [e] [] pos) (TN C (un1 ra g)) :=
  PE.imp (pe_callTy hc hg hm hv (a_look hs ha) hn hdb (star_cons hs) (star_any (by simp [hs]))) fun σ H Q q => tcb_l1 q
theorem s_b2 {x : Str} {id : String} {g : D → D → Option D} {ra rb : Rs} {p : Pos} {e2 : Expr} (hc : CallR X (.builtin id) (l2 C g)) (hg : L2.Gl X x) (hm : X.mg x = none) (hv : bootBuiltins x = some (.builtin id)) (ha : PE X e (TF C ra)) (hb : PE X e2 (TF C rb)) (hs : noStar e = true) (hs2 : noStar e2 = true) (hn : x ≠ "__name__") (hdb : (x == ("__debug__" : Str)) = false) :
    PE X (.Call (.Name x p) [e, e2] [] pos) (TN C (bin2 ra rb g)) := by
  refine PE.imp (pe_callB hc hg hm hv (a_cons hs ha (a_cons hs2 hb a_nil)) hn hdb (star_cons hs) (star_any (by simp [hs, hs2]))) fun σ H Q ⟨ρ, FR, sl, ah, rel, q⟩ => ⟨ρ, FR, sl, ah, rel, ?_⟩
  obtain ⟨d, ah', e, q⟩ := q.inv
  obtain ⟨d1, h1, d2, e1, e2, e3⟩ := bin2_ok e
  have ec : consR ra (consR rb fun _ h => .ok [] h) sl ah = .ok [d1, d2] ah' := by
    unfold consR
    rw [e1]
    show ((rb sl h1).bind fun x h => _).bind _ = _
    rw [e2]
    rfl
  rw [ec]
  intro ρ1 FR1 H1 vs x rh w
  cases w with
  | cons w1 w2 =>
    cases w2 with
    | cons w2 w3 =>
      cases w3
      exact ⟨ρ1, FR1, ah', d1, d2, _, _, d, rfl, rh, w1, w2, e3, fun ρ2 FR2 H2 v2 x2 rh2 w2 => q ρ2 FR2 H2 v2 (x.trans x2) rh2 (Rn.back x.there w2)⟩

/-! ### isinstance -/
def tyN : D → Option String
  | .non => some "NoneType"
  | .bl _ => some "bool"
  | .int _ => some "int"
  | .str _ => some "str"
  | .tup _ => some "tuple"
  | .lst _ => some "list"
  | .scr _ => some "list"
  | _ => none
def tyL : Ty → List String
  | .int => ["int"] | .bool => ["bool"] | .str => ["str"] | .tuple => ["tuple"] | .list => ["list"]
  | .listTuple => ["list", "tuple"] | .tupleList => ["tuple", "list"] | .boolStr => ["bool", "str"]
theorem rd_tyx {K : PySem.W.Frag} {a : Addr} {vs : List V} (h : Rd H a (.lst vs)) : TyX K H (.ref a) (.type "list") := by
  rcases h with h | ⟨o, h⟩
  · exact .base (.lst h)
  · exact .base (.frz h)
theorem sqt_tyx {K : PySem.W.Frag} {a : Addr} {vs : List V} (h : SqT K H a vs) : TyX K H (.ref a) (.type "tuple") := by
  rcases h with (h | ⟨o, h⟩) | ⟨o, its, m, h1, h2, _⟩
  · exact .base (.tup h)
  · exact .fTuple h
  · exact .kTuple h1 h2
theorem seen.tyx (F : Fit C X) (sb : Sub FR H) {d : D} {v : V} {t : String} (w : seen C ρ FR H d v) (h : tyN d = some t) : TyX X.K H v (.type t) := by
  cases d <;> simp only [tyN, reduceCtorEq, Option.some.injEq] at h <;> subst h
  case non => cases w.non; exact .base .non
  case bl => cases w.bl; exact .base (.bl _)
  case int => cases w.int; exact .base (.int _)
  case str => cases w.str; exact .base (.str _)
  case tup =>
    obtain ⟨a, vs, rfl, t, _⟩ := w.tup sb
    exact sqt_tyx (F.K ▸ t)
  case lst =>
    obtain ⟨a, vs, rfl, t, _⟩ := w.lst sb
    exact rd_tyx t
  case scr =>
    obtain ⟨a, vs, rfl, t, _⟩ := w.scr sb
    have t : SqL X.K H a vs := F.K ▸ t
    rcases t with t | ⟨o, its, m, h1, h2, _⟩
    · exact rd_tyx t
    · exact .kList h1 h2
theorem isI_kit {t : Ty} {d : D} {b : Bool} (h : isI t d = some b) : ∃ T, tyN d = some T ∧ ∀ K, PySem.W.kitAny K (.type T) ((tyL t).map .type) = some b := by
  cases d <;> cases t <;> simp only [isI, reduceCtorEq, Option.some.injEq] at h <;> subst h <;> refine ⟨_, rfl, fun K => ?_⟩ <;> first
    | exact kitAny_cons (kit_ty (r := true) (by decide +kernel)) (fun z => by cases z) (fun _ => rfl)
    | exact kitAny_cons (kit_ty (r := false) (by decide +kernel)) (fun _ => kitAny_nil) (fun z => by cases z)
    | exact kitAny_cons (kit_ty (r := false) (by decide +kernel)) (fun _ => kitAny_cons (kit_ty (r := true) (by decide +kernel)) (fun z => by cases z) (fun _ => rfl)) (fun z => by cases z)
    | exact kitAny_cons (kit_ty (r := false) (by decide +kernel)) (fun _ => kitAny_cons (kit_ty (r := false) (by decide +kernel)) (fun _ => kitAny_nil) (fun z => by cases z)) (fun z => by cases z)
theorem l1_imp {g g' : D → Option D} {x : V} (h : ∀ d e, g d = some e → g' d = some e) (q : l1 C g x H Q) : l1 C g' x H Q := by
  obtain ⟨ρ, FR, ah, d1, d, rh, s1, hg, q⟩ := q
  exact ⟨ρ, FR, ah, d1, d, rh, s1, h _ _ hg, q⟩
def isiD (t : Ty) : D → Option D := fun x => (isI t x).map .bl
/-- the names that stand for types -/
def typs : List (Str × String) := [("int", "int"), ("bool", "bool"), ("str", "str"), ("tuple", "tuple"), ("list", "list")]
theorem typs_ok : ∀ p ∈ typs, p.1 ∈ bnames ∧ bootBuiltins p.1 = some (.type p.2) ∧ p.1 ≠ "__name__" ∧ (p.1 == ("__debug__" : Str)) = false := by
  intro p hp
  simp only [typs, List.mem_cons, List.not_mem_nil, or_false] at hp
  rcases hp with rfl | rfl | rfl | rfl | rfl <;> exact ⟨by decide +kernel, by rfl, by decide +kernel, by decide +kernel⟩
theorem s_ty (W : Fx C X S G F n) {x : Str} {T : String} (h : (x, T) ∈ typs) (hg : L2.Gl X x) : PE X (.Name x pos) (tC (.ty T)) := by
  obtain ⟨h1, h2, h3, h4⟩ := typs_ok _ h
  exact pe_bltn hg (W.bl _ h1) h2 rfl h3 h4
theorem in_b {x : Str} (h : x ∈ bnames := by decide +kernel) : x ∈ bnames := h
theorem s_isi1 (W : Fx C X S G F n) {t : Ty} {x T : Str} {Tn : String} {ra : Rs} {p p2 : Pos} (hx : x = "isinstance") (ht : tyL t = [Tn]) (hT : (T, Tn) ∈ typs) (hg : L2.Gl X x) (hg2 : L2.Gl X T) (ha : PE X e (TB C ra)) (hs : noStar e = true) :
    PE X (.Call (.Name x p) [e, .Name T p2] [] pos) (TN C (un1 ra (isiD t))) := by
  subst hx
  refine PE.imp (pe_callB (id := "isinstance") call_isi hg (W.bl _ in_b) rfl (pa_cons ha (pa_cons (s_ty W hT hg2) pa_nil) (star_cons hs)) (by decide +kernel) (by decide +kernel) (star_cons hs) rfl) fun σ H Q q => ?_
  have q' := un1_l1 q
  obtain ⟨ρ, FR, sl, ah, rel, q'⟩ := q'
  refine ⟨ρ, FR, sl, ah, rel, q'.imp' fun v H' h => ?_⟩
  obtain ⟨ρ1, FR1, ah1, d1, d, rh, s1, hd, q1⟩ := h
  obtain ⟨b, hb, rfl⟩ := Option.map_eq_some_iff.mp hd
  obtain ⟨Tm, e1, e2⟩ := isI_kit hb
  refine ⟨v, .ty Tn, .type Tm, .type Tn, b, rfl, .ty Tn, s1.tyx W.toFit rh.sub e1, ?_, q1.same rh rfl (.bl b)⟩
  have e3 := e2 X.K
  rw [ht] at e3
  unfold PySem.W.kitAny at e3
  show PySem.W.kitOne X.K (.type Tm) (.type Tn) = some b
  simp only [List.map_cons, List.map_nil] at e3
  cases hk : PySem.W.kitOne X.K (.type Tm) (.type Tn) with
  | none => rw [hk] at e3; cases e3
  | some c =>
    rw [hk] at e3
    cases c with
    | true => cases e3; rfl
    | false => cases e3; rfl
theorem s_isi2 (W : Fx C X S G F n) {t : Ty} {x T T' : Str} {Tn Tn' : String} {ra : Rs} {k : Nat} {p p2 p3 p4 : Pos} (hx : x = "isinstance") (ht : tyL t = [Tn, Tn']) (hT : (T, Tn) ∈ typs) (hT' : (T', Tn') ∈ typs) (hg : L2.Gl X x) (hg2 : L2.Gl X T) (hg3 : L2.Gl X T') (ha : PE X e (TB C ra)) (hs : noStar e = true) :
    PE X (.Call (.Name x p) [e, .Tuple [.Name T p2, .Name T' p3] k p4] [] pos) (TN C (un1 ra (isiD t))) := by
  subst hx
  refine PE.imp (pe_callB (id := "isinstance") call_isiT hg (W.bl _ in_b) rfl (pa_cons ha (pa_cons (pe_tup (pa_cons (s_ty W hT hg2) (pa_cons (s_ty W hT' hg3) pa_nil))) pa_nil) (star_cons hs)) (by decide +kernel) (by decide +kernel) (star_cons hs) rfl) fun σ H Q q => ?_
  have q' := un1_l1 q
  obtain ⟨ρ, FR, sl, ah, rel, q'⟩ := q'
  refine ⟨ρ, FR, sl, ah, rel, q'.imp' fun v H' h => ?_⟩
  obtain ⟨ρ1, FR1, ah1, d1, d, rh, s1, hd, q1⟩ := h
  obtain ⟨b, hb, rfl⟩ := Option.map_eq_some_iff.mp hd
  obtain ⟨Tm, e1, e2⟩ := isI_kit hb
  refine ⟨by show 2 ≤ sizeLine; decide, fun p n => ?_⟩
  have e3 := e2 X.K
  rw [ht] at e3
  have s2 : seen C ρ1 FR1 (upd H' p (.tup [.ty Tn, .ty Tn'])) d1 v := by
    rcases s1 with s1 | ⟨o, a, h1, h2, w⟩
    · exact .inl s1
    · exact .inr ⟨o, a, h1, h2, w.stay Pre.refl Sub.refl fun u hu => Sub.upd n a u hu⟩
  exact ⟨v, p, [.ty Tn, .ty Tn'], .type Tm, [.type Tn, .type Tn'], b, rfl, upd_same, .cons (.ty Tn) (.cons (.ty Tn') .nil), s2.tyx W.toFit (rh.sub.trans (Sub.upd n)) e1, e3, q1 _ _ _ _ (ext_new n _) (relH_new rh n _) (.bl b)⟩

/-! ### ranges as arguments -/
theorem rg_rp : ∀ (m : Nat) (a : Int), RpL C ρ FR (rangeL a m) ((List.range m).map fun i => V.int (a + (i : Nat)))
  | 0, _ => .nil
  | m + 1, a => by
    rw [List.range_succ_eq_map, List.map_cons, List.map_map]
    have h := rg_rp m (a + 1)
    have e : (List.range m).map ((fun i => V.int (a + (i : Nat))) ∘ Nat.succ) = (List.range m).map fun i => V.int (a + 1 + (i : Nat)) := by
      refine List.map_congr_left fun i _ => ?_
      show V.int (a + ((i + 1 : Nat) : Int)) = _
      congr 1
      omega
    rw [e]
    have e0 : V.int (a + ((0 : Nat) : Int)) = V.int a := by congr 1; omega
    rw [e0]
    exact .cons (.int a) h
theorem rng_ok {m n : Int} (h : rngOk m n = true) : RgOk m n := by
  have h := of_decide_eq_true h
  exact ⟨by omega, by omega, by omega, by omega, by omega⟩
theorem rgB_ok {ds : List D} {p : Int × Int} (h : rgB ds = some p) : RgOk p.1 p.2 := by
  unfold rgB at h
  split at h
  · split at h
    · rename_i hi
      cases h
      exact rng_ok hi
    · cases h
  · split at h
    · rename_i hi
      cases h
      exact rng_ok hi
    · cases h
  · cases h
/-- a range that comes: its bounds -/
def Trg (C : Cn) (rs : Rls) : St → Hp → (Int → Int → Hp → Prop) → Prop := fun σ H Q => ∃ ρ FR sl ah, Rel C ρ FR sl ah σ H ∧ ∃ ds p ah', rs sl ah = .ok ds ah' ∧ rgB ds = some p ∧
  ∀ ρ' FR' H', Ext ρ FR H ρ' FR' H' → RelH C ρ' FR' ah' H' → Q p.1 p.2 H'
theorem PRg.imp {t t' : St → Hp → (Int → Int → Hp → Prop) → Prop} (h : PRg X e t) (w : ∀ σ H Q, t' σ H Q → t σ H Q) : PRg X e t' := fun pins s σ H Q I q => h pins s σ H Q I (w σ H Q q)
def rng (rs : Rls) : Rs := fun sl h => (rs sl h).bind fun xs h => R.opt h (rngD xs)
def nilR : Rls := fun _ h => .ok [] h
variable {ra rb : Rs} {e2 : Expr} {p : Pos}
theorem one_ok {h h' : AH} {ds : List D} (e : consR ra nilR sl h = .ok ds h') : ∃ d, ra sl h = .ok d h' ∧ ds = [d] := by
  obtain ⟨d, h1, xs, e1, e2, rfl⟩ := consR_ok e
  cases e2
  exact ⟨d, e1, rfl⟩
theorem two_ok {h h' : AH} {ds : List D} (e : consR ra (consR rb nilR) sl h = .ok ds h') : ∃ d h1 d2, ra sl h = .ok d h1 ∧ rb sl h1 = .ok d2 h' ∧ ds = [d, d2] := by
  obtain ⟨d, h1, xs, e1, e2, rfl⟩ := consR_ok e
  obtain ⟨d2, e3, rfl⟩ := one_ok e2
  exact ⟨d, h1, d2, e1, e3, rfl⟩
theorem rg_one {x : D} {p : Int × Int} (h : rgB [x] = some p) : x = .int p.2 ∧ p.1 = 0 := by
  cases x <;> simp only [rgB, reduceCtorEq] at h
  split at h
  · cases h; exact ⟨rfl, rfl⟩
  · cases h
theorem rg_two {x y : D} {p : Int × Int} (h : rgB [x, y] = some p) : x = .int p.1 ∧ y = .int p.2 := by
  cases x <;> cases y <;> simp only [rgB, reduceCtorEq] at h
  split at h
  · cases h; exact ⟨rfl, rfl⟩
  · cases h
theorem g_rng1 (W : Fx C X S G F n) {x : Str} (hx : x = "range") (hg : L2.Gl X x) (ha : PE X e (TF C ra)) (hs : noStar e = true) : PRg X (.Call (.Name x p) [e] [] pos) (Trg C (consR ra nilR)) := by
  subst hx
  refine PRg.imp (prg_1 hg (W.bl _ in_b) ha (star_cons hs)) fun σ H Q ⟨ρ, FR, sl, ah, rel, ds, b, ah', e, hb, q⟩ => ⟨ρ, FR, sl, ah, rel, ?_⟩
  obtain ⟨d, e1, rfl⟩ := one_ok e
  obtain ⟨rfl, e2⟩ := rg_one hb
  rw [e1]
  intro ρ1 FR1 H1 v x rh w
  have w : Rp C ρ1 FR1 (.int b.2) v := w
  cases w
  exact ⟨b.2, rfl, e2 ▸ q ρ1 FR1 H1 x rh⟩
theorem g_rng2 (W : Fx C X S G F n) {x : Str} (hx : x = "range") (hg : L2.Gl X x) (ha : PE X e (TF C ra)) (hb : PE X e2 (TF C rb)) (hs : noStar e = true) (hs2 : noStar e2 = true) : PRg X (.Call (.Name x p) [e, e2] [] pos) (Trg C (consR ra (consR rb nilR))) := by
  subst hx
  refine PRg.imp (prg_2 hg (W.bl _ in_b) ha hb (star_cons hs) (star_cons hs2) (star_any (by simp [hs2]))) fun σ H Q ⟨ρ, FR, sl, ah, rel, ds, b, ah', e, hb, q⟩ => ⟨ρ, FR, sl, ah, rel, ?_⟩
  obtain ⟨d, h1, d2, e1, e2, rfl⟩ := two_ok e
  obtain ⟨rfl, rfl⟩ := rg_two hb
  rw [e1]
  intro ρ1 FR1 H1 v x rh w
  have w : Rp C ρ1 FR1 (.int b.1) v := w
  refine ⟨ρ1, FR1, sl, h1, rel.ext x rh, ?_⟩
  rw [e2]
  intro ρ2 FR2 H2 v2 x2 rh2 w2
  have w2 : Rp C ρ2 FR2 (.int b.2) v2 := w2
  cases w
  cases w2
  exact ⟨b.1, b.2, rfl, rfl, q ρ2 FR2 H2 (x.trans x2) rh2⟩
theorem rng_bind {rs : Rls} {g : D → Option D} {h h' : AH} {d : D} (e : un1 (rng rs) g sl h = .ok d h') : ∃ ds p, rs sl h = .ok ds h' ∧ rgB ds = some p ∧ g (.lst (rangeL p.1 (p.2 - p.1).toNat)) = some d := by
  obtain ⟨d1, e1, e2⟩ := un1_ok e
  obtain ⟨ds, h1, e3, e⟩ := bind_ok e1
  obtain ⟨e4, rfl⟩ := opt_ok e
  obtain ⟨p, hp, rfl⟩ := Option.map_eq_some_iff.mp e4
  exact ⟨ds, p, e3, hp, e2⟩
theorem s_listRg (W : Fx C X S G F n) {x : Str} {rs : Rls} (hx : x = "list") (hg : L2.Gl X x) (he : PRg X e (Trg C rs)) (hs : noStar e = true) : PE X (.Call (.Name x p) [e] [] pos) (TN C (un1 (rng rs) (castD .list))) := by
  subst hx
  refine PE.imp (pe_listRg W.calm hg (W.bl _ in_b) he (star_cons hs)) fun σ H Q ⟨ρ, FR, sl, ah, rel, q⟩ => ⟨ρ, FR, sl, ah, rel, ?_⟩
  obtain ⟨d, ah', e, q⟩ := q.inv
  obtain ⟨ds, p, e1, e2, e3⟩ := rng_bind e
  cases e3
  refine ⟨ds, p, ah', e1, e2, fun ρ1 FR1 H1 x rh => ⟨rgB_ok e2, fun l hn => ?_⟩⟩
  exact PstN.lst (fun ρ2 FR2 H2 v2 x2 rh2 w2 => q ρ2 FR2 H2 v2 (x.trans x2) rh2 (Rn.back x.there w2)) rh hn (rg_rp _ _)
theorem s_tupRg (W : Fx C X S G F n) {x : Str} {rs : Rls} (hx : x = "tuple") (hg : L2.Gl X x) (he : PRg X e (Trg C rs)) (hs : noStar e = true) : PE X (.Call (.Name x p) [e] [] pos) (TN C (un1 (rng rs) (castD .tuple))) := by
  subst hx
  refine PE.imp (pe_tupRgN W.calm hg (W.bl _ in_b) he (star_cons hs)) fun σ H Q ⟨ρ, FR, sl, ah, rel, q⟩ => ⟨ρ, FR, sl, ah, rel, ?_⟩
  obtain ⟨d, ah', e, q⟩ := q.inv
  obtain ⟨ds, p, e1, e2, e3⟩ := rng_bind e
  cases e3
  refine ⟨ds, p, ah', e1, e2, fun ρ1 FR1 H1 x rh => ⟨rgB_ok e2, ?_⟩⟩
  exact PstN.tup (fun ρ2 FR2 H2 v2 x2 rh2 w2 => q ρ2 FR2 H2 v2 (x.trans x2) rh2 (Rn.back x.there w2)) rh (rg_rp _ _)
/-- {} -/
theorem s_dic0 : PE X (.Dict [] [] pos) (TN C fun _ h => .ok (.dic [] []) h) := by
  refine PE.imp pe_dnewK fun σ H Q ⟨ρ, FR, sl, ah, rel, q⟩ p n => ?_
  exact q ρ FR _ _ (ext_new n _) (relH_new rel.toRelH n _) ⟨p, rfl, n, none_fr rel.toRelH n, none_ρ rel.toRelH n, .inl ⟨[], upd_same, .nil⟩⟩
end
end Sd

end
section
set_option Elab.async false
set_option linter.all false
set_option maxRecDepth 100000
set_option maxHeartbeats 1000000
/-! Sd11: what is walked. -/
namespace Sd
open PySem PySem.Spec L2 Ev
open PyProof.Rows hiding St

section
variable {C : Cn} {ρ ρ1 ρ2 : List Addr} {FR FR1 FR2 H H1 H2 : Hp} {ah ah1 ah2 : AH} {sl : Slots} {σ : L2.St} {X : Cx} {Q : VK} {e : Expr} {es : List Expr} {pos : Pos} {pins : List (Addr × Obj)} {s : Shared}
/-- a new pair of a loop: it is only taken apart -/
inductive Rq (C : Cn) (ρ : List Addr) (FR : Hp) : Bool → D → V → Prop
  | rp {b : Bool} {d : D} {x : V} : Rp C ρ FR d x → Rq C ρ FR b d x
  | pr {ds : List D} {vs : List V} {a : Addr} : SqT C.K FR a vs → RpL C ρ FR ds vs → Rq C ρ FR true (.tup ds) (.ref a)
/-- the iterator tells these, from here on -/
def Wk (C : Cn) (b : Bool) (J : It) (ds : List D) (ρ : List Addr) (FR : Hp) : Prop :=
  ∀ ρ1 FR1 ah1 H1, Pre ρ ρ1 → Sub FR FR1 → RelH C ρ1 FR1 ah1 H1 → ∀ i : Nat, (ds.length ≤ i → J.stop i H1) ∧ ∀ d, ds[i]? = some d → J.go i H1 ∧ ∀ x H2, J.yld i H1 x H2 → ∃ FR2, Ext ρ1 FR1 H1 ρ1 FR2 H2 ∧ RelH C ρ1 FR2 ah1 H2 ∧ Rq C ρ1 FR2 b d x
theorem Wk.mono {b : Bool} {J : It} {ds : List D} (w : Wk C b J ds ρ FR) (p : Pre ρ ρ1) (f : Sub FR FR1) : Wk C b J ds ρ1 FR1 := fun ρ2 FR2 ah2 H2 p2 f2 rh => w ρ2 FR2 ah2 H2 (p.trans p2) (f.trans f2) rh
def Ti (C : Cn) (b : Bool) (r : Rls) : TI := fun σ H R => ∃ ρ FR sl ah, Rel C ρ FR sl ah σ H ∧ ∃ ds ah', r sl ah = .ok ds ah' ∧ ∀ ρ' FR' H' J, Ext ρ FR H ρ' FR' H' → RelH C ρ' FR' ah' H' → Wk C b J ds ρ' FR' → R J H'
theorem PI.imp {tg it : Expr} {t t' : TI} (h : PI X tg it t) (w : ∀ σ H Q, t' σ H Q → t σ H Q) : PI X tg it t' := ⟨fun pins s σ H Q I q => h.run pins s σ H Q I (w σ H Q q)⟩
/-- two lists that are held at one place are one -/
theorem rd_inj {a : Addr} {u w : HO} (h : Rd H a u) (h2 : Rd H a w) (nu : ∀ o z, u ≠ .frz o z) (nw : ∀ o z, w ≠ .frz o z) : u = w := by
  rcases h with h | ⟨o, h⟩ <;> rcases h2 with h2 | ⟨o2, h2⟩ <;> rw [h] at h2 <;> cases h2
  · rfl
  · exact absurd rfl (nu _ _)
  · exact absurd rfl (nw _ _)
  · rfl
theorem wk_list {bb : Bool} {a : Addr} {ds : List D} {vs : List V} (h : SqL C.K FR a vs) (l : RpL C ρ FR ds vs) : Wk C bb (Itl C.K a) ds ρ FR := by
  intro ρ1 FR1 ah1 H1 p f rh i
  have hr : SqL C.K H1 a vs := SqL.sub (f.trans rh.sub) h
  refine ⟨fun hi => ⟨vs, hr, by rw [← l.length]; exact hi⟩, fun d hd => ?_⟩
  obtain ⟨v, hv, r⟩ := l.get hd
  refine ⟨⟨vs, v, hr, hv⟩, fun x H2 hy => ?_⟩
  obtain ⟨rfl, hx⟩ := hy
  have := hx vs hr
  rw [hv] at this
  cases this
  exact ⟨FR1, Ext.refl, rh, .rp (Rp.mono f p r)⟩
theorem wk_tup {bb : Bool} {a : Addr} {ds : List D} {vs : List V} (h : SqT C.K FR a vs) (l : RpL C ρ FR ds vs) : Wk C bb (Itt C.K a) ds ρ FR := by
  intro ρ1 FR1 ah1 H1 p f rh i
  have hr : SqT C.K H1 a vs := SqT.sub (f.trans rh.sub) h
  refine ⟨fun hi => ⟨vs, hr, by rw [← l.length]; exact hi⟩, fun d hd => ?_⟩
  obtain ⟨v, hv, r⟩ := l.get hd
  refine ⟨⟨vs, v, hr, hv⟩, fun x H2 hy => ?_⟩
  obtain ⟨rfl, hx⟩ := hy
  have := hx vs hr
  rw [hv] at this
  cases this
  exact ⟨FR1, Ext.refl, rh, .rp (Rp.mono f p r)⟩
theorem rangeL_get : ∀ (n : Nat) (lo : Int) (i : Nat), (rangeL lo n)[i]? = if i < n then some (.int (lo + i)) else none
  | 0, _, i => by simp [rangeL]
  | n + 1, lo, 0 => by simp [rangeL]
  | n + 1, lo, i + 1 => by
    rw [rangeL, List.getElem?_cons_succ, rangeL_get n]
    by_cases h : i < n
    · rw [if_pos h, if_pos (by omega)]
      congr 2
      omega
    · rw [if_neg h, if_neg (by omega)]
theorem rangeL_len : ∀ (n : Nat) (lo : Int), (rangeL lo n).length = n
  | 0, _ => rfl
  | n + 1, lo => by rw [rangeL, List.length_cons, rangeL_len n]
theorem wk_range {bb : Bool} {lo : Int} {n : Nat} : Wk C bb (Itr lo n) (rangeL lo n) ρ FR := by
  intro ρ1 FR1 ah1 H1 p f rh i
  refine ⟨fun hi => by rw [rangeL_len] at hi; exact hi, fun d hd => ?_⟩
  rw [rangeL_get] at hd
  split at hd
  · rename_i hi
    cases hd
    refine ⟨hi, fun x H2 hy => ?_⟩
    obtain ⟨rfl, rfl⟩ := hy
    exact ⟨FR1, Ext.refl, rh, .rp (.int _)⟩
  · cases hd
/-- a new pair -/
theorem wk_pair {T : Addr} {x y : V} {d1 d2 : D} (rh : RelH C ρ FR ah H) (n : H T = none) (r1 : Rp C ρ FR d1 x) (r2 : Rp C ρ FR d2 y) :
    ∃ FR2, Ext ρ FR H ρ FR2 (upd H T (.tup [x, y])) ∧ RelH C ρ FR2 ah (upd H T (.tup [x, y])) ∧ Rq C ρ FR2 true (.tup [d1, d2]) (.ref T) := by
  have sb := Sub.upd (o := .tup [x, y]) (none_fr rh n)
  exact ⟨upd FR T (.tup [x, y]), ext_fz rh n _, relH_fz rh n _, .pr (SqT.of upd_same) (.cons (Rp.mono sb Pre.refl r1) (.cons (Rp.mono sb Pre.refl r2) .nil))⟩
theorem enumL_get : ∀ (ds : List D) (k : Int) (i : Nat), (enumL k ds)[i]? = ds[i]?.map fun d => .tup [.int (k + i), d]
  | [], _, _ => by simp [enumL]
  | d :: ds, k, 0 => by simp [enumL]
  | d :: ds, k, i + 1 => by
    rw [enumL, List.getElem?_cons_succ, List.getElem?_cons_succ, enumL_get ds]
    have e : k + 1 + (i : Int) = k + ((i + 1 : Nat) : Int) := by omega
    rw [e]
theorem enumL_len : ∀ (ds : List D) (k : Int), (enumL k ds).length = ds.length
  | [], _ => rfl
  | d :: ds, k => by rw [enumL, List.length_cons, List.length_cons, enumL_len ds]
theorem zipL_get : ∀ (xs ys : List D) (i : Nat), (zipL xs ys)[i]? = xs[i]?.bind fun x => ys[i]?.map fun y => .tup [x, y]
  | [], _, _ => by simp [zipL]
  | x :: xs, [], i => by cases i <;> simp [zipL]
  | x :: xs, y :: ys, 0 => by simp [zipL]
  | x :: xs, y :: ys, i + 1 => by rw [zipL, List.getElem?_cons_succ, List.getElem?_cons_succ, List.getElem?_cons_succ, zipL_get xs ys]
theorem zipL_len : ∀ (xs ys : List D), (zipL xs ys).length = min xs.length ys.length
  | [], _ => by simp [zipL]
  | x :: xs, [] => by simp [zipL]
  | x :: xs, y :: ys => by rw [zipL, List.length_cons, List.length_cons, List.length_cons, zipL_len xs ys]; omega
theorem wk_enum {a : Addr} {ds : List D} {vs : List V} (h : SqL C.K FR a vs) (l : RpL C ρ FR ds vs) : Wk C true (Ite C.K a) (enumL 0 ds) ρ FR := by
  intro ρ1 FR1 ah1 H1 p f rh i
  have hr : SqL C.K H1 a vs := SqL.sub (f.trans rh.sub) h
  refine ⟨fun hi => ⟨vs, hr, by rw [enumL_len] at hi; rw [← l.length]; exact hi⟩, fun d hd => ?_⟩
  rw [enumL_get] at hd
  obtain ⟨d0, hd0, rfl⟩ := Option.map_eq_some_iff.mp hd
  obtain ⟨v, hv, r⟩ := l.get hd0
  refine ⟨⟨vs, v, hr, hv⟩, fun x H2 hy => ?_⟩
  obtain ⟨T, x', rfl, hT, rfl, hx⟩ := hy
  have := hx vs hr
  rw [hv] at this
  cases this
  have e : (0 : Int) + (i : Int) = (i : Int) := by omega
  rw [e]
  exact wk_pair rh hT (.int _) (Rp.mono f p r)
theorem wk_zipL {a b : Addr} {ds es : List D} {vs ws : List V} (h : Rd FR a (.lst vs)) (l : RpL C ρ FR ds vs) (h2 : Rd FR b (.lst ws)) (l2 : RpL C ρ FR es ws) : Wk C true (Itz C.K a b) (zipL ds es) ρ FR := by
  intro ρ1 FR1 ah1 H1 p f rh i
  have hr : SqL C.K H1 a vs := .inl (Rd.sub (f.trans rh.sub) h)
  have hr2 : SqL C.K H1 b ws := .inl (Rd.sub (f.trans rh.sub) h2)
  refine ⟨fun hi => ⟨vs, ws, hr, hr2, by rw [zipL_len] at hi; rw [← l.length, ← l2.length]; omega⟩, fun d hd => ?_⟩
  rw [zipL_get] at hd
  obtain ⟨d0, hd0, hd⟩ := Option.bind_eq_some_iff.mp hd
  obtain ⟨d1, hd1, rfl⟩ := Option.map_eq_some_iff.mp hd
  obtain ⟨v, hv, r⟩ := l.get hd0
  obtain ⟨w, hw, r2⟩ := l2.get hd1
  refine ⟨⟨vs, ws, v, w, hr, hr2, hv, hw⟩, fun x H2 hy => ?_⟩
  obtain ⟨T, x', y', rfl, hT, rfl, hx, hy⟩ := hy
  have e1 := hx vs hr
  rw [hv] at e1
  cases e1
  have e2 := hy ws hr2
  rw [hw] at e2
  cases e2
  exact wk_pair rh hT (Rp.mono f p r) (Rp.mono f p r2)
theorem wk_zipT {a b : Addr} {ds es : List D} {vs ws : List V} (h : SqT C.K FR a vs) (l : RpL C ρ FR ds vs) (h2 : SqT C.K FR b ws) (l2 : RpL C ρ FR es ws) : Wk C true (RZ.ItzT C.K a b) (zipL ds es) ρ FR := by
  intro ρ1 FR1 ah1 H1 p f rh i
  have hr : SqT C.K H1 a vs := SqT.sub (f.trans rh.sub) h
  have hr2 : SqT C.K H1 b ws := SqT.sub (f.trans rh.sub) h2
  refine ⟨fun hi => ⟨vs, ws, hr, hr2, by rw [zipL_len] at hi; rw [← l.length, ← l2.length]; omega⟩, fun d hd => ?_⟩
  rw [zipL_get] at hd
  obtain ⟨d0, hd0, hd⟩ := Option.bind_eq_some_iff.mp hd
  obtain ⟨d1, hd1, rfl⟩ := Option.map_eq_some_iff.mp hd
  obtain ⟨v, hv, r⟩ := l.get hd0
  obtain ⟨w, hw, r2⟩ := l2.get hd1
  refine ⟨⟨vs, ws, v, w, hr, hr2, hv, hw⟩, fun x H2 hy => ?_⟩
  obtain ⟨T, x', y', rfl, hT, rfl, hx, hy⟩ := hy
  have e1 := hx vs hr
  rw [hv] at e1
  cases e1
  have e2 := hy ws hr2
  rw [hw] at e2
  cases e2
  exact wk_pair rh hT (Rp.mono f p r) (Rp.mono f p r2)

/-! ### the keys of a dict -/
def ItE (d : Addr) (u : HO) (ks : List V) : It :=
  ⟨fun i H => H d = some u ∧ i < ks.length, fun i H x H' => H' = H ∧ ks[i]? = some x, fun i H => H d = some u ∧ ks.length ≤ i⟩
theorem fz_ent (F : Fit C X) (I : Inv X pins σ H s) {d : Addr} {o : Obj} {es : List Ent} (h : H d = some (.frz o (dicO C d es))) :
    (d == sysModules) = false ∧ s.heap.get? d = some o ∧ o.ExactDict ∧ es.length ≤ sizeLine ∧ ∃ (xs : Array DictEntry) (ep : Nat), o.data = .dict xs ep ∧ xs.size = es.length ∧ ∀ (i : Nat) (k : Ent), es[i]? = some k → ∃ en : DictEntry, xs[i]? = some en ∧ en.key = .ref k.2.1 := by
  obtain ⟨hd, ⟨⟨hz, hs, o', xs, ep, p1, p2, p3, p4, p5⟩, _, _⟩⟩ := I.hok d _ h
  rw [hd] at p1
  cases p1
  refine ⟨hs, hd, p2, hz, xs, ep, p3, ?_, fun i k hk => ?_⟩
  · have := congrArg List.length p4
    simpa using this
  · have e : xs.toList[i]? = some (entryOfKey (nestedKind C.P C.w) k) := by rw [p4, List.getElem?_map, hk]; rfl
    exact ⟨_, by rw [← Array.getElem?_toList]; exact e, rfl⟩
theorem turn_E (F : Fit C X) {tg : Expr} {d : Addr} {o : Obj} {es : List Ent} {xs : Array DictEntry} {ep : Nat} (it : Addr) (hod : o.data = .dict xs ep) :
    Turn C.P C.w C.K tg (ItE d (.frz o (dicO C d es)) (es.map fun k => .ref k.2.1)) [it] it (fun i h => h.IsKeyIter it d i es.length ep) where
  mem := by simp
  obj := fun i h st b hb => by
    have e : b = it := by simpa using hb
    subst e
    obtain ⟨oi, e, c, dd⟩ := st
    exact ⟨oi, e, fun v z => by rw [dd] at z; cases z⟩
  keep := fun i h h' st k => st.at fun oi e => k it (by simp) oi e
  item := by
    intro X' hP hw hK hc i pins s σ H E I hf st hg
    obtain ⟨hd, hi⟩ := hg
    rw [List.length_map] at hi
    obtain ⟨f0, f1, f2, f3, f4, f5⟩ := hf it (by simp)
    obtain ⟨hgd, ⟨⟨hz, hs, o', xs', ep', p1, p2, p3, p4, p5⟩, _, _⟩⟩ := I.hok d _ hd
    rw [hgd] at p1
    cases p1
    obtain ⟨rfl, rfl⟩ := dict_ep hod p3
    obtain ⟨k, hk⟩ : ∃ k, es[i]? = some k := ⟨es[i], List.getElem?_eq_getElem hi⟩
    have hen : xs'.toList[i]? = some (entryOfKey (nestedKind C.P C.w) k) := by rw [p4, List.getElem?_map, hk]; rfl
    rw [Array.getElem?_toList] at hen
    have hsz : xs'.size = es.length := by
      have := congrArg List.length p4
      simpa using this
    refine next_key_item st hgd p3 hsz hen fun h' st' sb => ?_
    have I1 : Inv X' pins σ H { s with heap := h' } := I.turned (t' := s.toks) (fun b ob hb e => (sb.2 b hb).trans e) f0 f1 f3 f4 f5
    obtain ⟨oi, e, c, dd⟩ := id st'
    exact ⟨_, rfl, go_of (s := { s with heap := h' }) e c dd (by decide) ⟨.ref k.2.1, H, I1, rfl, ⟨rfl, by rw [List.getElem?_map, hk]; rfl⟩, st', fun b hb => (hf b hb).1⟩⟩
  done := by
    intro X' hP hw hK hc i pins s σ H E I hf st hg
    obtain ⟨hd, hi⟩ := hg
    rw [List.length_map] at hi
    obtain ⟨f0, f1, f2, f3, f4, f5⟩ := hf it (by simp)
    obtain ⟨hgd, ⟨⟨hz, hs, o', xs', ep', p1, p2, p3, p4, p5⟩, _, _⟩⟩ := I.hok d _ hd
    rw [hgd] at p1
    cases p1
    obtain ⟨rfl, rfl⟩ := dict_ep hod p3
    have hsz : xs'.size = es.length := by
      have := congrArg List.length p4
      simpa using this
    exact next_key_end (I.ok.hd hc) st hgd p3 hsz hi fun h' eb => ⟨rfl, I.turned (t' := s.toks) (fun b o hb e => eb b o hb e) f0 f1 f3 f4 f5⟩
  self := fun A i s Q E st h => wpAny_pyIter_keyiter st h
theorem RpE.keys : ∀ {ks ds : List D} {es : List Ent}, RpE C ρ H ks ds es → RpL C ρ H ks (es.map fun k => .ref k.2.1)
  | _, _, _, .nil => .nil
  | _, _, _, .cons h1 _ _ _ t => .cons h1 (RpE.keys t)
theorem RpK.keys : ∀ {ks ds : List D} {es : List (Key × V)}, RpK C ρ H ks ds es → RpL C ρ H ks (es.map fun k => kV k.1)
  | _, _, _, .nil => .nil
  | _, _, _, .int _ t => .cons (.int _) (RpK.keys t)
  | _, _, _, .str _ t => .cons (.str _) (RpK.keys t)
theorem wk_E {bb : Bool} {a : Addr} {u : HO} {ks : List D} {vs : List V} (h : FR a = some u) (l : RpL C ρ FR ks vs) : Wk C bb (ItE a u vs) ks ρ FR := by
  intro ρ1 FR1 ah1 H1 p f rh i
  have hr : H1 a = some u := rh.sub _ _ (f _ _ h)
  refine ⟨fun hi => ⟨hr, by rw [← l.length]; exact hi⟩, fun d hd => ?_⟩
  obtain ⟨v, hv, r⟩ := l.get hd
  refine ⟨⟨hr, (List.getElem?_eq_some_iff.mp hv).1⟩, fun x H2 hy => ?_⟩
  obtain ⟨rfl, hx⟩ := hy
  rw [hv] at hx
  cases hx
  exact ⟨FR1, Ext.refl, rh, .rp (Rp.mono f p r)⟩
theorem wk_K {bb : Bool} {a : Addr} {o : Obj} {ks ds : List D} {kvs : List (Key × V)} (h : FR a = some (.frz o (.dK kvs))) (l : RpK C ρ FR ks ds kvs) : Wk C bb (Itk a o kvs) ks ρ FR := by
  intro ρ1 FR1 ah1 H1 p f rh i
  have hr : H1 a = some (.frz o (.dK kvs)) := rh.sub _ _ (f _ _ h)
  have l' := l.keys
  have e0 : ks.length = kvs.length := l.length.1
  refine ⟨fun hi => ⟨hr, by omega⟩, fun d hd => ?_⟩
  obtain ⟨v, hv, r⟩ := l'.get hd
  rw [List.getElem?_map] at hv
  obtain ⟨kv, hkv, rfl⟩ := Option.map_eq_some_iff.mp hv
  refine ⟨⟨hr, (List.getElem?_eq_some_iff.mp hkv).1⟩, fun x H2 hy => ?_⟩
  obtain ⟨rfl, k, v2, hx, rfl⟩ := hy
  rw [hkv] at hx
  cases hx
  exact ⟨FR1, Ext.refl, rh, .rp (Rp.mono f p r)⟩
variable {S : Sx} {G : Ev.Gl} {F : Fs} {n : Nat} {tg : Expr}
def itR (r : Rs) (f : D → Option (List D)) : Rls := fun sl h => (r sl h).bind fun x h => R.opt h (f x)
theorem itR_ok {r : Rs} {f : D → Option (List D)} {h h' : AH} {ds : List D} (e : itR r f sl h = .ok ds h') : ∃ d, r sl h = .ok d h' ∧ f d = some ds := by
  obtain ⟨d1, h1, e1, e⟩ := bind_ok e
  obtain ⟨e3, e4⟩ := opt_ok e
  subst e4
  exact ⟨d1, e1, e3⟩
/-- a list, a tuple, a dict -/
theorem i_seq {bb : Bool} (F : Fit C X) {r : Rs} (he : PE X e (TF C r)) : PI X tg e (Ti C bb (itR r items)) := by
  refine ⟨fun pins s σ H R I h => ?_⟩
  obtain ⟨ρ, FR, sl, ah, rel, ds, ah', e1, q⟩ := h
  obtain ⟨d, e2, e3⟩ := itR_ok e1
  cases d <;> simp only [items, reduceCtorEq, Option.some.injEq] at e3
  case lst xs =>
    subst e3
    refine (pi_list (tg := tg) he).run pins s σ H R I ⟨ρ, FR, sl, ah, rel, ?_⟩
    rw [e2]
    intro ρ' FR' H' v x rh w
    have w : Rp C ρ' FR' (.lst xs) v := w
    cases w with
    | lst h1 h2 => exact ⟨_, rfl, ⟨_, .inl (Rd.sub rh.sub h1)⟩, F.K ▸ q ρ' FR' H' _ x rh (wk_list (.inl h1) h2)⟩
  case scr xs =>
    subst e3
    refine (pi_list (tg := tg) he).run pins s σ H R I ⟨ρ, FR, sl, ah, rel, ?_⟩
    rw [e2]
    intro ρ' FR' H' v x rh w
    have w : Rp C ρ' FR' (.scr xs) v := w
    cases w with
    | scr h1 h2 => exact ⟨_, rfl, ⟨_, F.K ▸ SqL.sub rh.sub h1⟩, F.K ▸ q ρ' FR' H' _ x rh (wk_list h1 h2)⟩
  case tup xs =>
    subst e3
    refine (pi_tup (tg := tg) he).run pins s σ H R I ⟨ρ, FR, sl, ah, rel, ?_⟩
    rw [e2]
    intro ρ' FR' H' v x rh w
    have w : Rp C ρ' FR' (.tup xs) v := w
    cases w with
    | tup h1 h2 => exact ⟨_, rfl, ⟨_, F.K ▸ SqT.sub rh.sub h1.sq⟩, F.K ▸ q ρ' FR' H' _ x rh (wk_tup h1.sq h2)⟩
  case dic ks vs =>
    subst e3
    refine thn (he.run pins s σ H (fun v H' => ∃ ρ' FR', Ext ρ FR H ρ' FR' H' ∧ RelH C ρ' FR' ah' H' ∧ Rp C ρ' FR' (.dic ks vs) v) I ⟨ρ, FR, sl, ah, rel, by rw [e2]; exact fun ρ' FR' H' v x rh w => ⟨ρ', FR', x, rh, w⟩⟩) fun u s1 ⟨v, H1, I1, r1, ρ', FR', x, rh, w⟩ => ?_
    cases w with
    | @dicK a o kvs _ _ h1 h2 =>
      cases r1
      have hd := rh.sub _ _ h1
      obtain ⟨hs, hgd, hx, es, ep, vs, hdt, hsz, kv, hm⟩ := I1.frzK hd
      refine iter_keys hs hgd hx hdt (pi_one (tk := s1.toks) I1 _ (turn_keys _ hdt) ⟨_, Heap.get?_push_size _ rfl, rfl, ?_⟩ (q ρ' FR' H1 _ x rh (wk_K h1 h2)))
      rw [hsz] <;> rfl
    | @dicT a o es _ _ h1 h2 =>
      cases r1
      have hd := rh.sub _ _ h1
      obtain ⟨hs, hgd, hx, _, xs, ep, hdt, hsz, _⟩ := fz_ent F I1 hd
      have T := turn_E F (tg := tg) (es := es) (d := a) (s1.heap.objs.size) hdt
      rw [← F.P, ← F.w, ← F.K] at T
      refine iter_keys hs hgd hx hdt (pi_one (tk := s1.toks) I1 _ T ⟨_, Heap.get?_push_size _ rfl, rfl, ?_⟩ (q ρ' FR' H1 _ x rh (wk_E h1 h2.keys)))
      rw [hsz] <;> rfl
theorem i_range1 {bb : Bool} (W : Fx C X S G F n) {x : Str} {p : Pos} {ra : Rs} (hx : x = "range") (hg : L2.Gl X x) (ha : PE X e (TF C ra)) (hs : noStar e = true) : PI X tg (.Call (.Name x p) [e] [] pos) (Ti C bb (itR (rng (consR ra nilR)) items)) := by
  subst hx
  refine PI.imp (pi_range1 hg (W.bl _ in_b) (a_cons hs ha a_nil) (by rw [star_cons hs]; rfl)) fun σ H R ⟨ρ, FR, sl, ah, rel, ds, ah', e1, q⟩ => ⟨ρ, FR, sl, ah, rel, ?_⟩
  obtain ⟨d, e2, e3⟩ := itR_ok e1
  obtain ⟨ds', h1, e4, e⟩ := bind_ok e2
  obtain ⟨e5, rfl⟩ := opt_ok e
  obtain ⟨p, hp, rfl⟩ := Option.map_eq_some_iff.mp e5
  obtain ⟨d, _, rfl⟩ := one_ok e4
  obtain ⟨rfl, z⟩ := rg_one hp
  cases e3
  show Pl C ρ FR H _ (consR ra nilR sl ah)
  rw [e4]
  intro ρ1 FR1 H1 vs x rh w
  cases w with
  | cons w1 w2 =>
    cases w2
    cases w1
    have ok := rgB_ok hp
    refine ⟨p.2, rfl, ok.2.2.1, ok.2.2.2.1, ?_⟩
    have := q ρ1 FR1 H1 (Itr p.1 (p.2 - p.1).toNat) x rh wk_range
    rw [z, Int.sub_zero] at this
    exact this
theorem i_range2 {bb : Bool} (W : Fx C X S G F n) {x : Str} {p : Pos} {ra rb : Rs} {e2 : Expr} (hx : x = "range") (hg : L2.Gl X x) (ha : PE X e (TF C ra)) (hb : PE X e2 (TF C rb)) (hs : noStar e = true) (hs2 : noStar e2 = true) : PI X tg (.Call (.Name x p) [e, e2] [] pos) (Ti C bb (itR (rng (consR ra (consR rb nilR))) items)) := by
  subst hx
  refine PI.imp (pi_range2 hg (W.bl _ in_b) (a_cons hs ha (a_cons hs2 hb a_nil)) (by rw [star_cons hs, star_cons hs2]; rfl) (by rw [star_cons hs2]; rfl)) fun σ H R ⟨ρ, FR, sl, ah, rel, ds, ah', e1, q⟩ => ⟨ρ, FR, sl, ah, rel, ?_⟩
  obtain ⟨d, e2, e3⟩ := itR_ok e1
  obtain ⟨ds', h1, e4, e⟩ := bind_ok e2
  obtain ⟨e5, rfl⟩ := opt_ok e
  obtain ⟨p, hp, rfl⟩ := Option.map_eq_some_iff.mp e5
  obtain ⟨d, _, d2, _, _, rfl⟩ := two_ok e4
  obtain ⟨rfl, rfl⟩ := rg_two hp
  cases e3
  show Pl C ρ FR H _ (consR ra (consR rb nilR) sl ah)
  rw [e4]
  intro ρ1 FR1 H1 vs x rh w
  cases w with
  | cons w1 w2 =>
    cases w2 with
    | cons w2 w3 =>
      cases w3
      cases w1
      cases w2
      have ok := rgB_ok hp
      exact ⟨p.1, p.2, rfl, ⟨ok.1, ok.2.1, ok.2.2.1, ok.2.2.2.1⟩, q ρ1 FR1 H1 (Itr p.1 (p.2 - p.1).toNat) x rh wk_range⟩
theorem i_enum (W : Fx C X S G F n) {x : Str} {p tp : Pos} {ts : List Expr} {k : Nat} {ra : Rs} (hx : x = "enumerate") (hg : L2.Gl X x) (ha : PE X e (TF C ra)) (hs : noStar e = true) : PI X (.Tuple ts k tp) (.Call (.Name x p) [e] [] pos) (Ti C true (itR ra enumD)) := by
  subst hx
  refine PI.imp (pi_enum hg (W.bl _ in_b) (a_cons hs ha a_nil) (by rw [star_cons hs]; rfl)) fun σ H R ⟨ρ, FR, sl, ah, rel, ds, ah', e1, q⟩ => ⟨ρ, FR, sl, ah, rel, ?_⟩
  obtain ⟨d, e2, e3⟩ := itR_ok e1
  show Pl C ρ FR H _ (consR ra nilR sl ah)
  have ec : consR ra nilR sl ah = .ok [d] ah' := by unfold consR; rw [e2]; rfl
  rw [ec]
  intro ρ1 FR1 H1 vs x rh w
  cases d <;> simp only [enumD, reduceCtorEq, Option.some.injEq] at e3
  case lst =>
    subst e3
    cases w with
    | cons w1 w2 =>
      cases w2
      cases w1 with
      | lst h1 h2 => exact ⟨_, _, rfl, .inl (Rd.sub rh.sub h1), W.K ▸ q ρ1 FR1 H1 _ x rh (wk_enum (.inl h1) h2)⟩
  case scr =>
    subst e3
    cases w with
    | cons w1 w2 =>
      cases w2
      cases w1 with
      | scr h1 h2 => exact ⟨_, _, rfl, W.K ▸ SqL.sub rh.sub h1, W.K ▸ q ρ1 FR1 H1 _ x rh (wk_enum h1 h2)⟩
theorem i_zip (W : Fx C X S G F n) {x : Str} {p tp : Pos} {ts : List Expr} {k : Nat} {ra rb : Rs} {e2 : Expr} (hx : x = "zip") (hg : L2.Gl X x) (ha : PE X e (TF C ra)) (hb : PE X e2 (TF C rb)) (hs : noStar e = true) (hs2 : noStar e2 = true) :
    PI X (.Tuple ts k tp) (.Call (.Name x p) [e, e2] [] pos) (Ti C true fun sl h => (ra sl h).bind fun x h => (rb sl h).bind fun y h => R.opt h (zipD x y)) := by
  subst hx
  refine PI.imp (RZ.pi_zipA hg (W.bl _ in_b) (a_cons hs ha (a_cons hs2 hb a_nil)) (star_cons hs) (star_any (by simp [hs2]))) fun σ H R ⟨ρ, FR, sl, ah, rel, ds, ah', e1, q⟩ => ⟨ρ, FR, sl, ah, rel, ?_⟩
  obtain ⟨d1, h1, e2, e⟩ := bind_ok e1
  obtain ⟨d2, h2, e3, e⟩ := bind_ok e
  obtain ⟨e4, rfl⟩ := opt_ok e
  show Pl C ρ FR H _ (consR ra (consR rb nilR) sl ah)
  have ec : consR ra (consR rb nilR) sl ah = .ok [d1, d2] ah' := by
    unfold consR
    rw [e2]
    show ((rb sl h1).bind fun x h => _).bind _ = _
    rw [e3]; rfl
  rw [ec]
  intro ρ1 FR1 H1 vs x rh w
  cases w with
  | cons w1 w2 =>
    cases w2 with
    | cons w2 w3 =>
      cases w3
      cases d1 <;> cases d2 <;> simp only [zipD, reduceCtorEq, Option.some.injEq] at e4
      case lst.lst =>
        subst e4
        cases w1 with
        | lst a1 a2 =>
          cases w2 with
          | lst b1 b2 => exact ⟨_, _, _, _, rfl, .inl ⟨.inl (Rd.sub rh.sub a1), .inl (Rd.sub rh.sub b1), W.K ▸ q ρ1 FR1 H1 _ x rh (wk_zipL a1 a2 b1 b2)⟩⟩
      case tup.tup =>
        subst e4
        cases w1 with
        | tup a1 a2 =>
          cases w2 with
          | tup b1 b2 => exact ⟨_, _, _, _, rfl, .inr ⟨W.K ▸ SqT.sub rh.sub a1.sq, W.K ▸ SqT.sub rh.sub b1.sq, W.K ▸ q ρ1 FR1 H1 _ x rh (wk_zipT a1.sq a2 b1.sq b2)⟩⟩
end
end Sd

end
section
set_option Elab.async false
set_option linter.all false
set_option maxRecDepth 100000
set_option maxHeartbeats 1000000
/-! Sd12: targets, comprehensions. -/
namespace Sd
open PySem PySem.Spec L2 Ev
open PyProof.Rows hiding St

section
variable {C : Cn} {ρ ρ1 ρ2 : List Addr} {FR FR1 FR2 H H1 H2 : Hp} {ah ah1 ah2 : AH} {sl sl2 : Slots} {σ : L2.St} {X : Cx} {Q : VK} {e : Expr} {es : List Expr} {pos : Pos} {pins : List (Addr × Obj)} {s : Shared}
theorem Rel.set {i : Nat} {d : D} {v : V} (r : Rel C ρ FR sl ah σ H) (p : Rp C ρ FR d v) : Rel C ρ FR (setS sl i d) ah (σ.set i (some v)) H where
  toRelH := r.toRelH
  slen := by unfold setS; rw [List.length_set, List.length_set, r.slen]
  val := fun j d' e => by
    unfold setS at e
    by_cases h : i = j
    · subst h
      by_cases hl : i < sl.length
      · rw [List.getElem?_set_self hl] at e
        cases e
        exact ⟨v, by rw [List.getElem?_set_self (by rw [← r.slen]; exact hl)], p⟩
      · rw [List.getElem?_eq_none (by rw [List.length_set]; omega)] at e; cases e
    · rw [List.getElem?_set_ne h] at e
      rw [List.getElem?_set_ne h]
      exact r.val j d' e
  own := fun j o e => by
    unfold setS at e
    by_cases h : i = j
    · subst h
      by_cases hl : i < sl.length
      · rw [List.getElem?_set_self hl] at e; cases e
      · rw [List.getElem?_eq_none (by rw [List.length_set]; omega)] at e; cases e
    · rw [List.getElem?_set_ne h] at e
      rw [List.getElem?_set_ne h]
      exact r.own j o e
  dist := fun j k o o' a hjk e1 e2 e3 => by
    unfold setS at e1 e2
    have nj : i ≠ j := fun h => by
      subst h
      by_cases hl : i < sl.length
      · rw [List.getElem?_set_self hl] at e1; cases e1
      · rw [List.getElem?_eq_none (by rw [List.length_set]; omega)] at e1; cases e1
    have nk' : i ≠ k := fun h => by
      subst h
      by_cases hl : i < sl.length
      · rw [List.getElem?_set_self hl] at e2; cases e2
      · rw [List.getElem?_eq_none (by rw [List.length_set]; omega)] at e2; cases e2
    rw [List.getElem?_set_ne nj] at e1
    rw [List.getElem?_set_ne nk'] at e2
    rw [List.getElem?_set_ne nj] at e3
    rw [List.getElem?_set_ne nk']
    exact r.dist j k o o' a hjk e1 e2 e3
/-- a slot is forgotten -/
theorem Rel.unset (i : Nat) (r : Rel C ρ FR sl ah σ H) : Rel C ρ FR (sl.set i none) ah (σ.set i none) H where
  toRelH := r.toRelH
  slen := by rw [List.length_set, List.length_set, r.slen]
  val := fun j d' e => by
    by_cases h : i = j
    · subst h
      by_cases hl : i < sl.length
      · rw [List.getElem?_set_self hl] at e; cases e
      · rw [List.getElem?_eq_none (by rw [List.length_set]; omega)] at e; cases e
    · rw [List.getElem?_set_ne h] at e
      rw [List.getElem?_set_ne h]
      exact r.val j d' e
  own := fun j o e => by
    by_cases h : i = j
    · subst h
      by_cases hl : i < sl.length
      · rw [List.getElem?_set_self hl] at e; cases e
      · rw [List.getElem?_eq_none (by rw [List.length_set]; omega)] at e; cases e
    · rw [List.getElem?_set_ne h] at e
      rw [List.getElem?_set_ne h]
      exact r.own j o e
  dist := fun j k o o' a hjk e1 e2 e3 => by
    have nj : i ≠ j := fun h => by
      subst h
      by_cases hl : i < sl.length
      · rw [List.getElem?_set_self hl] at e1; cases e1
      · rw [List.getElem?_eq_none (by rw [List.length_set]; omega)] at e1; cases e1
    have nk' : i ≠ k := fun h => by
      subst h
      by_cases hl : i < sl.length
      · rw [List.getElem?_set_self hl] at e2; cases e2
      · rw [List.getElem?_eq_none (by rw [List.length_set]; omega)] at e2; cases e2
    rw [List.getElem?_set_ne nj] at e1
    rw [List.getElem?_set_ne nk'] at e2
    rw [List.getElem?_set_ne nj] at e3
    rw [List.getElem?_set_ne nk']
    exact r.dist j k o o' a hjk e1 e2 e3
theorem Rel.wipe (r : Rel C ρ FR sl ah σ H) : ∀ is : List Nat, Rel C ρ FR (wipeS sl is) ah (L2.wipe σ is) H
  | [] => r
  | i :: is => (r.wipe is).unset i
theorem wipe_get (σ : L2.St) (j : Nat) : ∀ vs : List Nat, (L2.wipe σ vs)[j]? = if j ∈ vs ∧ j < σ.length then some none else σ[j]?
  | [] => by simp [L2.wipe]
  | v :: vs => by
    unfold L2.wipe
    by_cases h : v = j
    · subst h
      by_cases hl : v < σ.length
      · rw [List.getElem?_set_self (by rw [wipe_length]; exact hl), if_pos ⟨List.mem_cons_self, hl⟩]
      · rw [List.getElem?_eq_none (by rw [List.length_set, wipe_length]; omega), if_neg (fun z => hl z.2), List.getElem?_eq_none (by omega)]
    · rw [List.getElem?_set_ne h, wipe_get σ j vs]
      by_cases hm : j ∈ vs ∧ j < σ.length
      · rw [if_pos hm, if_pos ⟨List.mem_cons_of_mem _ hm.1, hm.2⟩]
      · rw [if_neg hm, if_neg (fun z => hm ⟨(List.mem_cons.mp z.1).resolve_left (fun q => h q.symm), z.2⟩)]
theorem wipe_set {i : Nat} {x : Option V} {vs : List Nat} (hi : i ∈ vs) : L2.wipe ((L2.wipe σ vs).set i x) vs = L2.wipe σ vs := by
  refine List.ext_getElem? fun j => ?_
  rw [wipe_get, wipe_get, List.length_set, wipe_length]
  by_cases h : j ∈ vs ∧ j < σ.length
  · rw [if_pos h, if_pos h]
  · rw [if_neg h, if_neg h]
    have hij : i ≠ j ∨ ¬ j < σ.length := by
      by_cases q : i = j
      · subst q; exact .inr fun z => h ⟨hi, z⟩
      · exact .inl q
    rcases hij with q | q
    · rw [List.getElem?_set_ne q, wipe_get, if_neg h]
    · rw [List.getElem?_eq_none (by rw [List.length_set, wipe_length]; omega), List.getElem?_eq_none (by omega)]
theorem wipe_set' {i : Nat} {x : Option V} {vs : List Nat} (hi : i ∈ vs) : L2.wipe (σ.set i x) vs = L2.wipe σ vs := by
  refine List.ext_getElem? fun j => ?_
  rw [wipe_get, wipe_get, List.length_set]
  by_cases h : j ∈ vs ∧ j < σ.length
  · rw [if_pos h, if_pos h]
  · rw [if_neg h, if_neg h]
    by_cases q : i = j
    · subst q
      have : ¬ i < σ.length := fun z => h ⟨hi, z⟩
      rw [List.getElem?_eq_none (by rw [List.length_set]; omega), List.getElem?_eq_none (by omega)]
    · rw [List.getElem?_set_ne q]
theorem wipe_wipe {vs ws : List Nat} (h : ∀ i ∈ ws, i ∈ vs) : L2.wipe (L2.wipe σ ws) vs = L2.wipe σ vs := by
  refine List.ext_getElem? fun j => ?_
  rw [wipe_get, wipe_get, wipe_get, wipe_length]
  by_cases q : j ∈ vs ∧ j < σ.length
  · rw [if_pos q, if_pos q]
  · rw [if_neg q, if_neg q, if_neg fun z => q ⟨h _ z.1, z.2⟩]

/-- no slot holds D -/
def NotD (sl : Slots) (σ : L2.St) (D : Addr) : Prop := ∀ (i : Nat) o, sl[i]? = some (some (.own o)) → σ[i]? ≠ some (some (.ref D))
theorem notD_set {D : Addr} {i : Nat} {x : Option V} {c : Option Cell} (h : NotD sl σ D) (hc : ∀ o, c ≠ some (.own o)) (hl : sl.length = σ.length) : NotD (sl.set i c) (σ.set i x) D := by
  intro j o e
  by_cases q : i = j
  · subst q
    by_cases hi : i < sl.length
    · rw [List.getElem?_set_self hi] at e
      exact absurd (Option.some.inj e) (hc o)
    · rw [List.getElem?_eq_none (by rw [List.length_set]; omega)] at e; cases e
  · rw [List.getElem?_set_ne q] at e
    rw [List.getElem?_set_ne q]
    exact h j o e
/-! ### targets -/
def isTp : Tg → Bool
  | .nm _ => false
  | .tp _ => true
/-- what a target's store does -/
structure PGd (C : Cn) (X : Cx) (tg : Expr) (t : Tg) (g : L2.TG) : Prop where
  pg : PG X tg g
  set : ∀ {ρ : List Addr} {FR H : Hp} {ah : AH} {sl sl2 : Slots} {σ : L2.St} {d : D} {x : V} {Q : L2.St → Hp → Prop}, setTg sl t d = some sl2 → Rq C ρ FR (isTp t) d x → Rel C ρ FR sl ah σ H →
    (∀ σ2, Rel C ρ FR sl2 ah σ2 H → (∀ vs, (∀ i ∈ tgs t, i ∈ vs) → L2.wipe σ2 vs = L2.wipe σ vs) → (∀ D, NotD sl σ D → NotD sl2 σ2 D) → Q σ2 H) → g x σ H Q
theorem pgd_name {i : Nat} {x : Str} (hN : X.N.Nodup) (hi : X.N[i]? = some x) (hx : Loc X.env.scope x) (hf : X.fn x = true ∨ X.env.scope.names.lookup x = some .local) : PGd C X (.Name x pos) (.nm i) (gName i) where
  pg := pg_name hN hi hx hf
  set := fun {ρ FR H ah sl sl2 σ d x Q} e r rel q => by
    cases e
    have r : Rq C ρ FR false d x := r
    cases r with
    | rp r => exact q _ (rel.set r) (fun vs h => wipe_set' (h i (by simp [tgs]))) fun D nd => notD_set nd (fun o z => by cases z) rel.slen
/-- several names -/
structure PGds (C : Cn) (X : Cx) (ts : List Expr) (is : List Nat) (g : TGs) : Prop where
  pg : PGs X ts g
  len : ts.length = is.length
  pl : ∀ env, (assignEach ts env).length = ts.length ∧ (assignEach ts env).findIdx? (·.1) = none
  set : ∀ {ρ : List Addr} {FR H : Hp} {ah : AH} {sl sl2 : Slots} {σ : L2.St} {ds : List D} {xs : List V} {Q : L2.St → Hp → Prop}, setAll sl is ds = some sl2 → RpL C ρ FR ds xs → Rel C ρ FR sl ah σ H →
    (∀ σ2, Rel C ρ FR sl2 ah σ2 H → (∀ vs, (∀ i ∈ is, i ∈ vs) → L2.wipe σ2 vs = L2.wipe σ vs) → (∀ D, NotD sl σ D → NotD sl2 σ2 D) → Q σ2 H) → g xs σ H Q
theorem pgds_nil : PGds C X [] [] gNil where
  pg := pgs_nil
  len := rfl
  pl := fun _ => ⟨rfl, rfl⟩
  set := fun {ρ FR H ah sl sl2 σ ds xs Q} e r rel q => by
    cases ds with
    | nil =>
      cases e
      cases r
      exact ⟨rfl, q σ rel (fun _ _ => rfl) fun _ h => h⟩
    | cons _ _ => cases e
theorem pgds_cons {i : Nat} {x : Str} {ts : List Expr} {is : List Nat} {g : TGs} (hN : X.N.Nodup) (hi : X.N[i]? = some x) (hx : Loc X.env.scope x) (hf : X.fn x = true ∨ X.env.scope.names.lookup x = some .local) (h : PGds C X ts is g) :
    PGds C X (.Name x pos :: ts) (i :: is) (gCons (gName i) g) where
  pg := pgs_cons (pg_name hN hi hx hf) h.pg rfl
  len := by simp [h.len]
  pl := fun env => by
    obtain ⟨h1, h2⟩ := h.pl env
    refine ⟨by show (assignEach ts env).length + 1 = _; rw [h1]; rfl, ?_⟩
    show ((false, _) :: assignEach ts env).findIdx? (·.1) = none
    rw [List.findIdx?_cons]
    simp [h2]
  set := fun {ρ FR H ah sl sl2 σ ds xs Q} e r rel q => by
    cases ds with
    | nil => cases e
    | cons d ds =>
      cases r with
      | cons r1 r2 =>
        have e : setAll (setS sl i d) is ds = some sl2 := e
        refine ⟨_, _, rfl, ?_⟩
        exact h.set e r2 (rel.set r1) fun σ2 rel2 hw hn => q σ2 rel2 (fun vs hv => by
          rw [hw vs fun j hj => hv j (List.mem_cons_of_mem _ hj)]
          exact wipe_set' (hv i List.mem_cons_self)) fun D nd => hn D (notD_set nd (fun o z => by cases z) rel.slen)
theorem pgd_tup {ts : List Expr} {is : List Nat} {g : TGs} {k : Nat} (F : Fit C X) (h : PGds C X ts is g) : PGd C X (.Tuple ts k pos) (.tp is) (gTup X.K is.length g) where
  pg := pg_tup F.calm h.pg (by rw [(h.pl X.env).1, h.len]) (h.pl X.env).2
  set := fun {ρ FR H ah sl sl2 σ d x Q} e r rel q => by
    cases d <;> simp only [setTg, reduceCtorEq] at e
    rename_i ds
    have r : Rq C ρ FR true (.tup ds) x := r
    have r : ∃ a vs, x = .ref a ∧ SqT C.K FR a vs ∧ RpL C ρ FR ds vs := by
      cases r with
      | rp r =>
        cases r with
        | tup t1 l1 => exact ⟨_, _, rfl, t1.sq, l1⟩
      | pr t1 l1 => exact ⟨_, _, rfl, t1, l1⟩
    obtain ⟨a, vs, rfl, t1, l1⟩ := r
    · have hl : ∀ (is : List Nat) (ds : List D) (sl : Slots), setAll sl is ds = some sl2 → ds.length = is.length := by
        intro is
        induction is with
        | nil => intro ds sl e; cases ds with
          | nil => rfl
          | cons _ _ => cases e
        | cons i is ih => intro ds sl e; cases ds with
          | nil => cases e
          | cons d ds => simp [ih ds _ e]
      exact ⟨_, _, rfl, F.K ▸ SqT.sub rel.sub t1, by rw [← l1.length]; exact hl _ _ _ e, h.set e l1 rel q⟩
/-! ### comprehensions -/
/-- a later state; the list at D may have changed -/
structure ExtD (D : Addr) (ρ : List Addr) (FR H : Hp) (ρ' : List Addr) (FR' H' : Hp) : Prop where
  pre : Pre ρ ρ'
  fr : Sub FR FR'
  keep : ∀ a o, H a = some o → a ∉ ρ → a ≠ D → H' a = some o
  there : ∀ a o, H a = some o → ∃ o', H' a = some o'
  nρ : ∀ a, a ∈ ρ' → a ∈ ρ ∨ H a = none
  nF : ∀ a o, FR' a = some o → FR a = some o ∨ H a = none
variable {D : Addr}
theorem ExtD.refl : ExtD D ρ FR H ρ FR H := ⟨Pre.refl, Sub.refl, fun _ _ e _ _ => e, fun _ o e => ⟨o, e⟩, fun _ h => .inl h, fun _ _ e => .inl e⟩
theorem Ext.d (x : Ext ρ FR H ρ1 FR1 H1) : ExtD D ρ FR H ρ1 FR1 H1 := ⟨x.pre, x.fr, fun a o e n _ => x.keep a o e n, x.there, x.nρ, x.nF⟩
theorem ExtD.trans (x : ExtD D ρ FR H ρ1 FR1 H1) (y : ExtD D ρ1 FR1 H1 ρ2 FR2 H2) : ExtD D ρ FR H ρ2 FR2 H2 where
  pre := x.pre.trans y.pre
  fr := x.fr.trans y.fr
  keep := fun a o e n nd => y.keep a o (x.keep a o e n nd) (fun m => by
    rcases x.nρ a m with z | z
    · exact n z
    · rw [z] at e; cases e) nd
  there := fun a o e => by
    obtain ⟨o1, e1⟩ := x.there a o e
    exact y.there a o1 e1
  nρ := fun a m => by
    rcases y.nρ a m with z | z
    · exact x.nρ a z
    · exact .inr (none_of x.there z)
  nF := fun a o e => by
    rcases y.nF a o e with z | z
    · exact x.nF a o z
    · exact .inr (none_of x.there z)
/-- from before D was there -/
theorem ExtD.out (x : ExtD D ρ FR H ρ1 FR1 H1) (n : H D = none) : Ext ρ FR H ρ1 FR1 H1 := ⟨x.pre, x.fr, fun a o e m => x.keep a o e m (fun z => by rw [z, n] at e; cases e), x.there, x.nρ, x.nF⟩
theorem Rel.extD (r : Rel C ρ FR sl ah σ H) (nd : NotD sl σ D) (x : ExtD D ρ FR H ρ1 FR1 H1) (h : RelH C ρ1 FR1 ah1 H1) : Rel C ρ1 FR1 sl ah1 σ H1 where
  toRelH := h
  slen := r.slen
  val := fun i d e => by
    obtain ⟨v, e1, q⟩ := r.val i d e
    exact ⟨v, e1, Rp.mono x.fr x.pre q⟩
  own := fun i o e => by
    obtain ⟨a, e1, q, n, m⟩ := r.own i o e
    obtain ⟨u, hu⟩ := q.there
    have ne : a ≠ D := fun z => nd i o e (z ▸ e1)
    refine ⟨a, e1, q.stay x.pre x.fr fun u hu => x.keep a u hu m ne, ?_, fun z => ?_⟩
    · cases e2 : FR1 a with
      | none => rfl
      | some u' =>
        rcases x.nF a u' e2 with z | z
        · rw [n] at z; cases z
        · rw [hu] at z; cases z
    · rcases x.nρ a z with z | z
      · exact m z
      · rw [hu] at z; cases z
  dist := r.dist
/-- what has been told so far lies at D -/
def AccD (C : Cn) (D : Addr) (ρ : List Addr) (FR H : Hp) (acc : List Ev.D) : Prop := ∃ vs, H D = some (.lst vs) ∧ RpL C ρ FR acc vs ∧ FR D = none ∧ D ∉ ρ
theorem AccD.ext {acc : List Ev.D} (h : AccD C D ρ FR H acc) (x : Ext ρ FR H ρ1 FR1 H1) : AccD C D ρ1 FR1 H1 acc := by
  obtain ⟨vs, e, l, n, m⟩ := h
  refine ⟨vs, x.keep D _ e m, RpL.mono x.fr x.pre l, ?_, fun z => ?_⟩
  · cases e2 : FR1 D with
    | none => rfl
    | some u' =>
      rcases x.nF D u' e2 with z | z
      · rw [n] at z; cases z
      · rw [e] at z; cases z
  · rcases x.nρ D z with z | z
    · exact m z
    · rw [e] at z; cases z
theorem relH_own (rh : RelH C ρ FR ah H) (n : FR D = none) (m : D ∉ ρ) (o : HO) : RelH C ρ FR ah (upd H D o) where
  sub := fun a u e => by
    have h : a ≠ D := fun z => by rw [z, n] at e; cases e
    rw [upd_ne h]; exact rh.sub a u e
  len := rh.len
  nd := rh.nd
  live := fun a ma => by
    obtain ⟨h1, u, e⟩ := rh.live a ma
    have h : a ≠ D := fun z => m (z ▸ ma)
    exact ⟨h1, u, by rw [upd_ne h]; exact e⟩
  box := fun k q e => by
    obtain ⟨a, e1, e2⟩ := rh.box k q e
    have h : a ≠ D := fun z => m (z ▸ List.mem_of_getElem? e1)
    exact ⟨a, e1, e2.stay Pre.refl Sub.refl fun u z => by rw [upd_ne h]; exact z⟩
theorem extD_own {o : HO} : ExtD D ρ FR H ρ FR (upd H D o) := ⟨Pre.refl, Sub.refl, fun a u e _ nd => by rw [upd_ne nd]; exact e, fun a u e => by
  by_cases h : a = D
  · subst h; exact ⟨o, upd_same⟩
  · exact ⟨u, by rw [upd_ne h]; exact e⟩, fun _ h => .inl h, fun _ _ e => .inl e⟩
/-- the iterator tells these, from here on, whatever happens at D -/
def WkE (C : Cn) (D : Addr) (b : Bool) (J : It) (ds : List Ev.D) (ρ : List Addr) (FR H : Hp) : Prop :=
  ∀ ρ1 FR1 ah1 H1, ExtD D ρ FR H ρ1 FR1 H1 → RelH C ρ1 FR1 ah1 H1 → ∀ i : Nat, (ds.length ≤ i → J.stop i H1) ∧ ∀ d, ds[i]? = some d → J.go i H1 ∧ ∀ x H2, J.yld i H1 x H2 → ∃ FR2, Ext ρ1 FR1 H1 ρ1 FR2 H2 ∧ RelH C ρ1 FR2 ah1 H2 ∧ Rq C ρ1 FR2 b d x
theorem Wk.toE {b : Bool} {J : It} {ds : List Ev.D} (w : Wk C b J ds ρ FR) : WkE C D b J ds ρ FR H := fun ρ1 FR1 ah1 H1 x rh => w ρ1 FR1 ah1 H1 x.pre x.fr rh
def TiE (C : Cn) (b : Bool) (r : Rls) : TI := fun σ H R => ∃ ρ FR sl ah, Rel C ρ FR sl ah σ H ∧ ∃ ds ah', r sl ah = .ok ds ah' ∧ ∀ ρ' FR' H' J, Ext ρ FR H ρ' FR' H' → RelH C ρ' FR' ah' H' → (∀ D, NotD sl σ D → WkE C D b J ds ρ' FR' H') → R J H'
theorem PI.toE {b : Bool} {tg it : Expr} {r : Rls} (h : PI X tg it (Ti C b r)) : PI X tg it (TiE C b r) :=
  PI.imp h fun σ H R ⟨ρ, FR, sl, ah, rel, ds, ah', e, q⟩ => ⟨ρ, FR, sl, ah, rel, ds, ah', e, fun ρ' FR' H' J x rh wk => q ρ' FR' H' J x rh fun D _ => wk.toE⟩
/-- a list of one's own, walked by a comprehension -/
theorem i_bsl {bb : Bool} {tg : Expr} (F : Fit C X) {r : Rs} (he : PE X e (TL C r)) (hl : ∀ sl h d h', r sl h = .ok d h' → ∃ xs, d = .lst xs) : PI X tg e (TiE C bb (itR r items)) := by
  refine ⟨fun pins s σ H R I h => ?_⟩
  obtain ⟨ρ, FR, sl, ah, rel, ds, ah', e1, q⟩ := h
  obtain ⟨d, e2, e3⟩ := itR_ok e1
  obtain ⟨xs, ed⟩ := hl _ _ _ _ e2
  subst ed
  obtain rfl : xs = ds := Option.some.inj e3
  refine (pi_list (tg := tg) he).run pins s σ H R I ⟨ρ, FR, sl, ah, rel, ?_⟩
  rw [e2]
  intro ρ' FR' H' v x rh w
  rcases w with w | ⟨j, o, e4, e5, e6⟩
  · have w : Rp C ρ' FR' (.lst xs) v := w
    cases w with
    | lst h1 h2 => exact ⟨_, rfl, ⟨_, .inl (Rd.sub rh.sub h1)⟩, F.K ▸ q ρ' FR' H' _ x rh fun D _ => (wk_list (.inl h1) h2).toE⟩
  · cases o with
    | dic _ _ => cases e5
    | lst ys =>
      cases e5
      obtain ⟨a, e7, ⟨vs, e8, l⟩, nf, m⟩ := (rel.ext x rh).own j _ e4
      rw [e6] at e7
      have ev : v = .ref a := Option.some.inj (Option.some.inj e7)
      subst ev
      refine ⟨a, rfl, ⟨vs, .inl (Rd.of e8)⟩, F.K ▸ q ρ' FR' H' _ x rh fun D nd ρ1 FR1 ah1 H1 x1 rh1 i => ?_⟩
      have hr : SqL C.K H1 a vs := .inl (Rd.of (x1.keep a _ e8 m fun z => nd j _ e4 (by rw [e6, z])))
      refine ⟨fun hi => ⟨vs, hr, by rw [← l.length]; exact hi⟩, fun d hd => ?_⟩
      obtain ⟨u, hv, r⟩ := l.get hd
      refine ⟨⟨vs, u, hr, hv⟩, fun y H2 hy => ?_⟩
      obtain ⟨rfl, hx⟩ := hy
      have := hx vs hr
      rw [hv] at this
      cases this
      exact ⟨FR1, Ext.refl, rh1, .rp (Rp.mono x1.fr x1.pre r)⟩
/-- one turn: the store, the tests, what is told then -/
def stepG (sl : Slots) (vs : List Nat) (t : Tg) (rt : Slots → AH → R Bool) (k : Slots → List Ev.D → AH → R (List Ev.D)) : Ev.D → List Ev.D → AH → R (List Ev.D) :=
  fun d acc h => (R.opt h (setTg (wipeS sl vs) t d)).bind fun sl h => (rt sl h).bind fun b h => if b then k sl acc h else .ok acc h
/-- one item more -/
def yldR (re : Rs) : Slots → List Ev.D → AH → R (List Ev.D) := fun sl acc h => (re sl h).bind fun x h => if acc.length < line then .ok (acc ++ [x]) h else .bad
theorem notD_wipe {D : Addr} (h : NotD sl σ D) (hl : sl.length = σ.length) : ∀ vs : List Nat, NotD (wipeS sl vs) (L2.wipe σ vs) D ∧ (wipeS sl vs).length = (L2.wipe σ vs).length
  | [] => ⟨h, hl⟩
  | v :: vs => by
    obtain ⟨h1, h2⟩ := notD_wipe h hl vs
    exact ⟨notD_set h1 (fun o z => by cases z) h2, by unfold wipeS L2.wipe; rw [List.length_set, List.length_set, h2]⟩
/-- what is to be told by a clause's inside -/
def Ins (C : Cn) (D : Addr) (k : Slots → List Ev.D → AH → R (List Ev.D)) (K : (Hp → Prop) → L2.St → Hp → Prop) : Prop :=
  ∀ (Nx : Hp → Prop) ρ FR sl ah σ H acc acc2 ah2, Rel C ρ FR sl ah σ H → NotD sl σ D → AccD C D ρ FR H acc → k sl acc ah = .ok acc2 ah2 →
    (∀ ρ' FR' H', ExtD D ρ FR H ρ' FR' H' → RelH C ρ' FR' ah2 H' → AccD C D ρ' FR' H' acc2 → Nx H') → K Nx σ H
theorem walk_cons {α : Type} {f : Ev.D → α → AH → R α} {ds : List Ev.D} {d : Ev.D} {i : Nat} {acc fin : α} {h hf : AH} (hd : ds[i]? = some d) (e : walkR f (ds.drop i) acc h = .ok fin hf) : ∃ acc2 h2, f d acc h = .ok acc2 h2 ∧ walkR f (ds.drop (i + 1)) acc2 h2 = .ok fin hf := by
  obtain ⟨hi, hd⟩ := List.getElem?_eq_some_iff.mp hd
  rw [List.drop_eq_getElem_cons hi, hd] at e
  exact bind_ok e
theorem loop_in {tg : Expr} {t : Tg} {g : L2.TG} {rt : Slots → AH → R Bool} {k : Slots → List Ev.D → AH → R (List Ev.D)} {K : (Hp → Prop) → L2.St → Hp → Prop} {J : It} {ds acc fin : List Ev.D} {vs : List Nat} {ahf : AH} {Qd : Hp → Prop} (hg : PGd C X tg t g) (hv : ∀ i ∈ tgs t, i ∈ vs)
    (ins : Ins C D k K) (rel : Rel C ρ FR sl ah σ H) (nd : NotD sl σ D) (wk : WkE C D (isTp t) J ds ρ FR H) (ad : AccD C D ρ FR H acc) (we : walkR (stepG sl vs t rt k) ds acc ah = .ok fin ahf)
    (hq : ∀ ρ' FR' H', ExtD D ρ FR H ρ' FR' H' → RelH C ρ' FR' ahf H' → AccD C D ρ' FR' H' fin → Qd H') :
    ∃ W : Nat → Nat → Hp → Prop, (∃ m, W 0 m H) ∧ ∀ i m H, W i m H → (J.stop i H ∧ Qd H) ∨ (J.go i H ∧ ∃ Nx : Hp → Prop, (∀ H', Nx H' → ∃ m', m' < m ∧ W (i + 1) m' H') ∧ ∀ x H', J.yld i H x H' → g x (L2.wipe σ vs) H' fun σ2 H2 => L2.wipe σ2 vs = L2.wipe σ vs ∧ Tt C rt σ2 H2 fun b H3 =>
      if b = true then K Nx σ2 H3 else Nx H3) := by
  refine ⟨fun i m H' => m = ds.length - i ∧ i ≤ ds.length ∧ ∃ ρ' FR' ah' acc', ExtD D ρ FR H ρ' FR' H' ∧ RelH C ρ' FR' ah' H' ∧ AccD C D ρ' FR' H' acc' ∧ walkR (stepG sl vs t rt k) (ds.drop i) acc' ah' = .ok fin ahf,
    ⟨_, rfl, Nat.zero_le _, ρ, FR, ah, acc, ExtD.refl, rel.toRelH, ad, by rw [List.drop_zero]; exact we⟩, ?_⟩
  rintro i m H' ⟨rfl, hi, ρ1, FR1, ah1, acc1, x1, rh1, ad1, we1⟩
  obtain ⟨w1, w2⟩ := wk ρ1 FR1 ah1 H' x1 rh1 i
  by_cases hlt : i < ds.length
  · have hd : ds[i]? = some ds[i] := List.getElem?_eq_getElem hlt
    obtain ⟨go, yld⟩ := w2 _ hd
    obtain ⟨acc2, ah2, es0, we2⟩ := walk_cons hd we1
    refine .inr ⟨go, fun H' => (∃ ρ' FR' ah' acc', ExtD D ρ FR H ρ' FR' H' ∧ RelH C ρ' FR' ah' H' ∧ AccD C D ρ' FR' H' acc' ∧ walkR (stepG sl vs t rt k) (ds.drop (i + 1)) acc' ah' = .ok fin ahf), fun H'' h => ⟨_, by omega, rfl, hlt, h⟩, fun v H2 hy => ?_⟩
    obtain ⟨FR2, x2, rh2, r2⟩ := yld v H2 hy
    obtain ⟨sl2, h3, e30, es1⟩ := bind_ok es0
    obtain ⟨e3, eh⟩ := opt_ok e30
    subst eh
    obtain ⟨b, h4, e4, es⟩ := bind_ok es1
    have x12 := x1.trans x2.d
    have rel2 := (rel.extD nd x12 rh2).wipe vs
    refine hg.set e3 r2 rel2 fun σ2 rel3 hw hn => ⟨?_, ρ1, FR2, sl2, h3, rel3, ?_⟩
    · rw [hw vs hv]
      exact wipe_wipe fun i h => h
    rw [e4]
    intro ρ3 FR3 H3 x3 rh3
    have ad3 := (ad1.ext x2).ext x3
    cases b with
    | false =>
      cases es
      exact ⟨ρ3, FR3, _, acc1, x12.trans x3.d, rh3, ad3, we2⟩
    | true =>
      exact ins _ ρ3 FR3 sl2 h4 σ2 H3 acc1 acc2 ah2 (rel3.ext x3 rh3) (hn D (notD_wipe nd rel.slen vs).1) ad3 es fun ρ4 FR4 H4 x4 rh4 ad4 => ⟨ρ4, FR4, ah2, acc2, (x12.trans x3.d).trans x4, rh4, ad4, we2⟩
  · have e : i = ds.length := by omega
    subst e
    rw [List.drop_length] at we1
    cases we1
    exact .inl ⟨w1 (Nat.le_refl _), hq ρ1 FR1 H' x1 rh1 ad1⟩
theorem ins_yld {re : Rs} : Ins C D (yldR re) fun Nx σ H => TF C re σ H fun y H4 => ∃ acc, H4 D = some (.lst acc) ∧ acc.length < sizeLine ∧ Nx (upd H4 D (.lst (acc ++ [y]))) := by
  intro Nx ρ FR sl ah σ H acc acc2 ah2 rel nd ad e q
  obtain ⟨y, h5, e5, es⟩ := bind_ok e
  refine ⟨ρ, FR, sl, ah, rel, ?_⟩
  rw [e5]
  intro ρ4 FR4 H4 u x4 rh4 r4
  obtain ⟨ws, e6, l, n, m⟩ := ad.ext x4
  split at es
  · rename_i hz
    cases es
    exact ⟨ws, e6, by rw [← l.length, ← line_eq]; exact hz, q ρ4 FR4 _ (x4.d.trans extD_own) (relH_own rh4 n m _) ⟨_, upd_same, l.append (.cons r4 .nil), n, m⟩⟩
  · cases es
/-- a clause -/
def clsR (itr : Rls) (vs : List Nat) (t : Tg) (rt : Slots → AH → R Bool) (k : Slots → List Ev.D → AH → R (List Ev.D)) : Slots → List Ev.D → AH → R (List Ev.D) :=
  fun sl acc h => (itr sl h).bind fun ds h => walkR (stepG sl vs t rt k) ds acc h
theorem ins_cls {tg : Expr} {itr : Rls} {vs : List Nat} {t : Tg} {g : L2.TG} {rt : Slots → AH → R Bool} {k : Slots → List Ev.D → AH → R (List Ev.D)} {K : (Hp → Prop) → L2.St → Hp → Prop} (hg : PGd C X tg t g) (hv : ∀ i ∈ tgs t, i ∈ vs) (ins : Ins C D k K) :
    Ins C D (clsR itr vs t rt k) fun Nx σ H => TiE C (isTp t) itr σ H fun J H => ∃ W : Nat → Nat → Hp → Prop, (∃ m, W 0 m H) ∧ ∀ i m H, W i m H → (J.stop i H ∧ Nx H) ∨ (J.go i H ∧ ∃ Nx1 : Hp → Prop, (∀ H', Nx1 H' → ∃ m', m' < m ∧ W (i + 1) m' H') ∧ ∀ x H', J.yld i H x H' → g x (L2.wipe σ vs) H' fun σ2 H2 => L2.wipe σ2 vs = L2.wipe σ vs ∧ Tt C rt σ2 H2 fun b H3 =>
      if b = true then K Nx1 σ2 H3 else Nx1 H3) := by
  intro Nx ρ FR sl ah σ H acc acc2 ah2 rel nd ad e q
  obtain ⟨ds, h1, e1, e2⟩ := bind_ok e
  refine ⟨ρ, FR, sl, ah, rel, ds, h1, e1, fun ρ1 FR1 H1 J x rh wk => ?_⟩
  exact loop_in hg hv ins (rel.ext x rh) nd (wk D nd) (ad.ext x) e2 fun ρ2 FR2 H2 x2 rh2 ad2 => q ρ2 FR2 H2 (x.d.trans x2) rh2 ad2
def lcR (k : Slots → List Ev.D → AH → R (List Ev.D)) : Rs := fun sl h => (k sl [] h).bind fun ds h => .ok (.lst ds) h
theorem notD_new {D : Addr} (rel : Rel C ρ FR sl ah σ H) (n : H D = none) : NotD sl σ D := fun i o e z => by
  obtain ⟨a, e1, q, _, _⟩ := rel.own i o e
  rw [e1] at z
  cases z
  obtain ⟨u, hu⟩ := q.there
  rw [n] at hu; cases hu
/-- the frame of a comprehension -/
theorem lc_q {tg : Expr} {itr : Rls} {vs : List Nat} {t : Tg} {g : L2.TG} {rt : Slots → AH → R Bool} {k : Slots → List Ev.D → AH → R (List Ev.D)} {K : Addr → (Hp → Prop) → L2.St → Hp → Prop} {X' : Cx} (hg : PGd C X' tg t g) (hv : ∀ i ∈ tgs t, i ∈ vs) (ins : ∀ D, Ins C D k (K D))
    (q : TN C (lcR (clsR itr vs t rt k)) σ H Q) : TiE C (isTp t) itr σ H fun J H1 => ∀ D, H1 D = none → ∃ W : Nat → Nat → Hp → Prop, (∃ m, W 0 m (upd H1 D (.lst []))) ∧ ∀ i m H, W i m H → (J.stop i H ∧ Q (.ref D) H) ∨ (J.go i H ∧ ∃ Nx : Hp → Prop, (∀ H', Nx H' → ∃ m', m' < m ∧ W (i + 1) m' H') ∧ ∀ x H', J.yld i H x H' → g x (L2.wipe σ vs) H' fun σ2 H2 => L2.wipe σ2 vs = L2.wipe σ vs ∧ Tt C rt σ2 H2 fun b H3 =>
      if b = true then K D Nx σ2 H3 else Nx H3) := by
  obtain ⟨ρ, FR, sl, ah, rel, q⟩ := q
  obtain ⟨d, ah', e, q⟩ := q.inv
  obtain ⟨fin, h1, e1, e⟩ := bind_ok e
  cases e
  obtain ⟨ds, h2, e2, e3⟩ := bind_ok e1
  refine ⟨ρ, FR, sl, ah, rel, ds, h2, e2, fun ρ1 FR1 H1 J x rh wk D hD => ?_⟩
  have rel1 := rel.ext x rh
  have rel2 := rel1.ext (ext_new hD (.lst [])) (relH_new rh hD (.lst []))
  refine loop_in hg hv (ins D) rel2 (notD_new rel1 hD) (fun ρ2 FR2 ah2 H2 x2 rh2 => wk D (notD_new rel1 hD) ρ2 FR2 ah2 H2 ((ext_new hD (.lst [])).d.trans x2) rh2) ⟨[], upd_same, .nil, none_fr rh hD, none_ρ rh hD⟩ e3 fun ρ2 FR2 H2 x2 rh2 ad2 => ?_
  obtain ⟨vs', e4, l, n, m⟩ := ad2
  have x3 : Ext ρ1 FR1 H1 ρ2 FR2 H2 := ((ext_new hD (.lst [])).d.trans x2).out hD
  exact q ρ2 FR2 H2 (.ref D) (x.trans x3) rh2 ⟨D, rfl, none_of x.there hD, n, m, vs', e4, l⟩
variable {elt tg iter tg1 iter1 : Expr} {ifs ifs1 : List Expr} {scope : Scope} {own : List (Str × Nat)} {t t1 : Tg} {g g1 : L2.TG} {rt rt1 : Slots → AH → R Bool} {re : Rs} {itr itr1 : Rls} {vs1 : List Nat}
theorem s_lc1 (F : Fit C X) (hN : X.N.Nodup) (hi : PI X tg iter (TiE C (isTp t) itr)) (ok : BlkOk X.N X.env.scope scope own) (hv : ∀ i ∈ tgs t, i ∈ own.map (·.2))
    (hg : ∀ (s : Shared) (H : Hp) (B : Addr) (cl : List (Str × Addr)) (fp : List Addr), PGd C (X.blk s H scope (compEnvC scope cl B X.env) fp) tg t g) (ht : ∀ (s : Shared) (H : Hp) (B : Addr) (cl : List (Str × Addr)) (fp : List Addr), PTs (X.blk s H scope (compEnvC scope cl B X.env) fp) ifs (Tt C rt))
    (he : ∀ (s : Shared) (H : Hp) (B : Addr) (cl : List (Str × Addr)) (fp : List Addr), PE (X.blk s H scope (compEnvC scope cl B X.env) fp) elt (TF C re)) (hs : ∀ env x, foldedSetIterable iter env x = pure x) :
    PE X (.ListComp elt [⟨tg, iter, ifs, 0⟩] scope pos) (TN C (lcR (clsR itr (own.map (·.2)) t rt (yldR re)))) :=
  PE.imp (pe_lc F.calm hN hi ok (fun s H B cl fp => (hg s H B cl fp).pg) ht he (hs _)) fun σ H Q q => by
    have q := lc_q (hg {} H 0 [] []) hv (fun D => ins_yld (D := D)) q
    exact q
theorem s_lc2 (F : Fit C X) (hN : X.N.Nodup) (hi : PI X tg iter (TiE C (isTp t) itr)) (ok : BlkOk X.N X.env.scope scope own) (hv : ∀ i ∈ tgs t, i ∈ own.map (·.2)) (hv1 : ∀ i ∈ tgs t1, i ∈ vs1) (hv2 : ∀ i ∈ vs1, i ∈ own.map (·.2))
    (hg : ∀ (s : Shared) (H : Hp) (B : Addr) (cl : List (Str × Addr)) (fp : List Addr), PGd C (X.blk s H scope (compEnvC scope cl B X.env) fp) tg t g) (ht : ∀ (s : Shared) (H : Hp) (B : Addr) (cl : List (Str × Addr)) (fp : List Addr), PTs (X.blk s H scope (compEnvC scope cl B X.env) fp) ifs (Tt C rt))
    (hi1 : ∀ (s : Shared) (H : Hp) (B : Addr) (cl : List (Str × Addr)) (fp : List Addr), PI (X.blk s H scope (compEnvC scope cl B X.env) fp) tg1 iter1 (TiE C (isTp t1) itr1))
    (hg1 : ∀ (s : Shared) (H : Hp) (B : Addr) (cl : List (Str × Addr)) (fp : List Addr), PGd C (X.blk s H scope (compEnvC scope cl B X.env) fp) tg1 t1 g1) (ht1 : ∀ (s : Shared) (H : Hp) (B : Addr) (cl : List (Str × Addr)) (fp : List Addr), PTs (X.blk s H scope (compEnvC scope cl B X.env) fp) ifs1 (Tt C rt1))
    (he : ∀ (s : Shared) (H : Hp) (B : Addr) (cl : List (Str × Addr)) (fp : List Addr), PE (X.blk s H scope (compEnvC scope cl B X.env) fp) elt (TF C re)) (hs : ∀ env x, foldedSetIterable iter env x = pure x) (hs1 : ∀ env x, foldedSetIterable iter1 env x = pure x) :
    PE X (.ListComp elt [⟨tg, iter, ifs, 0⟩, ⟨tg1, iter1, ifs1, 0⟩] scope pos) (TN C (lcR (clsR itr (own.map (·.2)) t rt (clsR itr1 vs1 t1 rt1 (yldR re))))) :=
  PE.imp (pe_lc2 F.calm hN hi ok hv2 (fun s H B cl fp => (hg s H B cl fp).pg) ht hi1 (fun s H B cl fp => (hg1 s H B cl fp).pg) ht1 he (hs _) hs1) fun σ H Q q => by
    have q := lc_q (hg {} H 0 [] []) hv (fun D => ins_cls (hg1 {} H 0 [] []) hv1 (ins_yld (D := D))) q
    exact q
/-! .. stored at once under a name -/
theorem TFQ {r : Rs} {Q' : VK} (w : ∀ v H', Q v H' → Q' v H') (q : TF C r σ H Q) : TF C r σ H Q' := by
  obtain ⟨ρ, FR, sl, ah, rel, q⟩ := q
  exact ⟨ρ, FR, sl, ah, rel, q.imp' w⟩
/-! .. its tests -/
theorem s_ifs0 : PTs X [] (Tt C fun _ h => .ok true h) := ⟨fun pins s σ H Q I ⟨ρ, FR, sl, ah, rel, q⟩ => pts_nil.run pins s σ H Q I (q ρ FR H Ext.refl rel.toRelH)⟩
theorem s_ifs1 {c : Expr} {rt : Slots → AH → R Bool} (h : PT X c (Tt C rt)) : PTs X [c] (Tt C rt) := pts_one h
end
end Sd

end
section
set_option Elab.async false
set_option linter.all false
set_option maxRecDepth 100000
set_option maxHeartbeats 1000000
/-! Sd13: statements. -/
namespace Sd
open PySem PySem.Spec L2 Ev
open PyProof.Rows hiding St

/-- within a def's body: its own containers are younger than its entry -/
structure Sn (C : Cn) (ρ0 : List Addr) (FR0 H0 : Hp) (ρ : List Addr) (FR : Hp) (sl : Slots) (ah : AH) (σ : L2.St) (H : Hp) : Prop extends Rel C ρ FR sl ah σ H where
  ext : Ext ρ0 FR0 H0 ρ FR H
  young : ∀ (i : Nat) o a, sl[i]? = some (some (.own o)) → σ[i]? = some (some (.ref a)) → H0 a = none
/-- behind statements -/
def Se (C : Cn) (ρ0 : List Addr) (FR0 H0 : Hp) (E : Ends) : R Fl → Prop
  | .ok (.nx sl) ah => ∀ ρ FR σ H, Sn C ρ0 FR0 H0 ρ FR sl ah σ H → E.nx σ H
  | .ok (.brk sl) ah => ∀ ρ FR σ H, Sn C ρ0 FR0 H0 ρ FR sl ah σ H → E.bk σ H
  | .ok (.cont sl) ah => ∀ ρ FR σ H, Sn C ρ0 FR0 H0 ρ FR sl ah σ H → E.ct σ H
  | .ok (.ret d) ah => ∀ ρ FR v H, Ext ρ0 FR0 H0 ρ FR H → RelH C ρ FR ah H → Rp C ρ FR d v → E.rt v H
  | _ => False
abbrev Sf := Slots → AH → R Fl
def Ts (C : Cn) (r : Sf) : TS := fun E σ H => ∃ ρ0 FR0 H0 ρ FR sl ah, Sn C ρ0 FR0 H0 ρ FR sl ah σ H ∧ Se C ρ0 FR0 H0 E (r sl ah)
section
variable {C : Cn} {ρ0 ρ ρ1 ρ2 : List Addr} {FR0 FR FR1 FR2 H0 H H1 H2 : Hp} {ah ah1 ah2 : AH} {sl sl2 : Slots} {σ : L2.St} {X : Cx} {Q : VK} {e : Expr} {es : List Expr} {pos : Pos} {pins : List (Addr × Obj)} {s : Shared} {E : Ends}
theorem Se.ok {r : R Fl} (h : Se C ρ0 FR0 H0 E r) : ∃ x ah, r = .ok x ah := by
  cases r with
  | ok x ah => exact ⟨x, ah, rfl⟩
  | ex _ _ => exact h.elim
  | bad => exact h.elim
theorem Sn.step (h : Sn C ρ0 FR0 H0 ρ FR sl ah σ H) (x : Ext ρ FR H ρ1 FR1 H1) (rh : RelH C ρ1 FR1 ah1 H1) : Sn C ρ0 FR0 H0 ρ1 FR1 sl ah1 σ H1 where
  toRel := h.toRel.ext x rh
  ext := h.ext.trans x
  young := h.young
theorem set_own {i j : Nat} {c : Option Cell} {o : Own} (e : (sl.set i c)[j]? = some (some (.own o))) (hc : ∀ o, c ≠ some (.own o)) : i ≠ j ∧ sl[j]? = some (some (.own o)) := by
  by_cases h : i = j
  · subst h
    by_cases hl : i < sl.length
    · rw [List.getElem?_set_self hl] at e
      exact absurd (Option.some.inj e) (hc o)
    · rw [List.getElem?_eq_none (by rw [List.length_set]; omega)] at e; cases e
  · rw [List.getElem?_set_ne h] at e
    exact ⟨h, e⟩
theorem Sn.set {i : Nat} {d : Ev.D} {v : V} (h : Sn C ρ0 FR0 H0 ρ FR sl ah σ H) (p : Rp C ρ FR d v) : Sn C ρ0 FR0 H0 ρ FR (setS sl i d) ah (σ.set i (some v)) H where
  toRel := h.toRel.set p
  ext := h.ext
  young := fun j o a e1 e2 => by
    obtain ⟨n, e1⟩ := set_own e1 (fun o z => by cases z)
    rw [List.getElem?_set_ne n] at e2
    exact h.young j o a e1 e2
theorem Sn.tg {t : Tg} {g : L2.TG} {tg : Expr} {d : Ev.D} {x : V} {Q : L2.St → Hp → Prop} (hg : PGd C X tg t g) (h : Sn C ρ0 FR0 H0 ρ FR sl ah σ H) (e : setTg sl t d = some sl2) (p : Rq C ρ FR (isTp t) d x) (q : ∀ σ2, Sn C ρ0 FR0 H0 ρ FR sl2 ah σ2 H → Q σ2 H) : g x σ H Q := by
  refine hg.set e p h.toRel fun σ2 rel2 _ hn => q σ2 ⟨rel2, h.ext, fun j o a e1 e2 => ?_⟩
  cases e3 : H0 a with
  | none => rfl
  | some u =>
    exfalso
    refine hn a (fun i o' e4 e5 => ?_) j o e1 e2
    have := h.young i o' a e4 e5
    rw [this] at e3; cases e3
/-- a new container under a name -/
theorem Sn.setO {i : Nat} {o : Own} {a : Addr} (h : Sn C ρ0 FR0 H0 ρ FR sl ah σ H) (hi : i < sl.length) (x : Ext ρ FR H ρ1 FR1 H1) (rh : RelH C ρ1 FR1 ah1 H1) (n : H a = none) (nf : FR1 a = none) (m : a ∉ ρ1) (w : OwnAt C ρ1 FR1 H1 o a) :
    Sn C ρ0 FR0 H0 ρ1 FR1 (sl.set i (some (.own o))) ah1 (σ.set i (some (.ref a))) H1 := by
  have h1 := h.step x rh
  have na : ∀ (j : Nat) (o' : Own) (b : Addr), sl[j]? = some (some (.own o')) → σ[j]? = some (some (.ref b)) → b ≠ a := fun j o' b e1 e2 z => by
    obtain ⟨c, e3, q, _, _⟩ := h.own j o' e1
    rw [e2] at e3
    cases e3
    obtain ⟨u, hu⟩ := q.there
    rw [z, n] at hu; cases hu
  refine ⟨⟨rh, by rw [List.length_set, List.length_set, h.slen], fun j d e => ?_, fun j o' e => ?_, fun j k o1 o2 b hjk e1 e2 e3 => ?_⟩, h1.ext, fun j o' b e1 e2 => ?_⟩
  · have hij : i ≠ j := fun z => by
      subst z
      rw [List.getElem?_set_self hi] at e; cases e
    rw [List.getElem?_set_ne hij] at e
    rw [List.getElem?_set_ne hij]
    exact h1.val j d e
  · by_cases hij : i = j
    · subst hij
      rw [List.getElem?_set_self hi] at e
      cases e
      exact ⟨a, by rw [List.getElem?_set_self (by rw [← h.slen]; exact hi)], w, nf, m⟩
    · rw [List.getElem?_set_ne hij] at e
      rw [List.getElem?_set_ne hij]
      exact h1.own j o' e
  · by_cases hj : i = j
    · subst hj
      have hk : i ≠ k := hjk
      rw [List.getElem?_set_self (by rw [← h.slen]; exact hi)] at e3
      cases e3
      rw [List.getElem?_set_ne hk] at e2 ⊢
      exact fun z => na k o2 a e2 z rfl
    · rw [List.getElem?_set_ne hj] at e1 e3
      by_cases hk : i = k
      · subst hk
        rw [List.getElem?_set_self (by rw [← h.slen]; exact hi)]
        intro z
        cases z
        exact na j o1 a e1 e3 rfl
      · rw [List.getElem?_set_ne hk] at e2 ⊢
        exact h.dist j k o1 o2 b hjk e1 e2 e3
  · by_cases hij : i = j
    · subst hij
      rw [List.getElem?_set_self (by rw [← h.slen]; exact hi)] at e2
      cases e2
      exact none_of h.ext.there n
    · rw [List.getElem?_set_ne hij] at e1 e2
      exact h.young j o' b e1 e2
/-- a slot's own container has changed -/
theorem Sn.updO {i : Nat} {o o' : Own} {a : Addr} {u : HO} (h : Sn C ρ0 FR0 H0 ρ FR sl ah σ H) (e1 : sl[i]? = some (some (.own o))) (e2 : σ[i]? = some (some (.ref a))) (w : OwnAt C ρ FR (upd H a u) o' a) :
    Sn C ρ0 FR0 H0 ρ FR (sl.set i (some (.own o'))) ah σ (upd H a u) := by
  obtain ⟨b, e3, q, nf, m⟩ := h.own i o e1
  rw [e2] at e3
  cases e3
  have y := h.young i o a e1 e2
  have hi : i < sl.length := (List.getElem?_eq_some_iff.mp e1).1
  have na : ∀ (j : Nat) (o1 : Own) (b : Addr), i ≠ j → sl[j]? = some (some (.own o1)) → σ[j]? = some (some (.ref b)) → b ≠ a := fun j o1 b hij q1 q2 z => by
    subst z
    exact h.dist i j o o1 b hij e1 q1 e2 q2
  refine ⟨⟨relH_own h.toRelH nf m u, by rw [List.length_set]; exact h.slen, fun j d e => ?_, fun j o1 e => ?_, fun j k o1 o2 b hjk q1 q2 q3 => ?_⟩, ⟨h.ext.pre, h.ext.fr, fun b v q1 q2 => ?_, fun b v q1 => ?_, h.ext.nρ, h.ext.nF⟩, fun j o1 b q1 q2 => ?_⟩
  · by_cases hij : i = j
    · subst hij
      rw [List.getElem?_set_self hi] at e; cases e
    · rw [List.getElem?_set_ne hij] at e
      exact h.val j d e
  · by_cases hij : i = j
    · subst hij
      rw [List.getElem?_set_self hi] at e
      cases e
      exact ⟨a, e2, w, nf, m⟩
    · rw [List.getElem?_set_ne hij] at e
      obtain ⟨b, p1, p2, p3, p4⟩ := h.own j o1 e
      exact ⟨b, p1, p2.stay Pre.refl Sub.refl fun v z => by rw [upd_ne (na j o1 b hij e p1)]; exact z, p3, p4⟩
  · by_cases hj : i = j
    · subst hj
      by_cases hk : i = k
      · exact absurd hk hjk
      · rw [List.getElem?_set_ne hk] at q2
        exact h.dist i k o o2 b hjk e1 q2 q3
    · rw [List.getElem?_set_ne hj] at q1
      by_cases hk : i = k
      · subst hk
        exact h.dist j i o1 o b hjk q1 e1 q3
      · rw [List.getElem?_set_ne hk] at q2
        exact h.dist j k o1 o2 b hjk q1 q2 q3
  · have hb : b ≠ a := fun z => by rw [z, y] at q1; cases q1
    rw [upd_ne hb]
    exact h.ext.keep b v q1 q2
  · by_cases hb : b = a
    · subst hb; exact ⟨u, upd_same⟩
    · rw [upd_ne hb]; exact h.ext.there b v q1
  · by_cases hij : i = j
    · subst hij
      rw [e2] at q2; cases q2; exact y
    · rw [List.getElem?_set_ne hij] at q1
      exact h.young j o1 b q1 q2
theorem nodup_inj {l : List Addr} (n : l.Nodup) {i j : Nat} {a : Addr} (h1 : l[i]? = some a) (h2 : l[j]? = some a) : i = j := by
  obtain ⟨l1, q1⟩ := List.getElem?_eq_some_iff.mp h1
  obtain ⟨l2, q2⟩ := List.getElem?_eq_some_iff.mp h2
  have p := List.pairwise_iff_getElem.mp n
  rcases Nat.lt_trichotomy i j with h | h | h
  · exact absurd (q1.trans q2.symm) (p i j l1 l2 h)
  · exact h
  · exact absurd (q2.trans q1.symm) (p j i l2 l1 h)
/-- a box has changed -/
theorem Sn.updB {k : Nat} {o o' : Own} {a : Addr} {u : HO} (h : Sn C ρ0 FR0 H0 ρ FR sl ah σ H) (e1 : ah[k]? = some (.box o)) (e2 : ρ[k]? = some a) (w : OwnAt C ρ FR (upd H a u) o' a) :
    Sn C ρ0 FR0 H0 ρ FR sl (ah.set k (.box o')) σ (upd H a u) := by
  have ma : a ∈ ρ := List.mem_of_getElem? e2
  obtain ⟨nf, _⟩ := h.live a ma
  have hk : k < ah.length := (List.getElem?_eq_some_iff.mp e1).1
  refine ⟨⟨⟨fun b v q => ?_, by rw [List.length_set]; exact h.len, h.nd, fun b mb => ?_, fun j o1 e => ?_⟩, h.slen, h.val, fun j o1 e => ?_, h.dist⟩, ⟨h.ext.pre, h.ext.fr, fun b v q1 q2 => ?_, fun b v q1 => ?_, h.ext.nρ, h.ext.nF⟩, h.young⟩
  · have hb : b ≠ a := fun z => by rw [z, nf] at q; cases q
    rw [upd_ne hb]; exact h.sub b v q
  · obtain ⟨n1, v, e⟩ := h.live b mb
    refine ⟨n1, ?_⟩
    by_cases hb : b = a
    · subst hb; exact ⟨u, upd_same⟩
    · exact ⟨v, by rw [upd_ne hb]; exact e⟩
  · by_cases hj : k = j
    · subst hj
      rw [List.getElem?_set_self hk] at e
      cases e
      exact ⟨a, e2, w⟩
    · rw [List.getElem?_set_ne hj] at e
      obtain ⟨b, p1, p2⟩ := h.box j o1 e
      have hb : b ≠ a := fun z => by
        subst z
        exact hj (nodup_inj h.nd e2 p1)
      exact ⟨b, p1, p2.stay Pre.refl Sub.refl fun v z => by rw [upd_ne hb]; exact z⟩
  · obtain ⟨b, p1, p2, p3, p4⟩ := h.own j o1 e
    have hb : b ≠ a := fun z => p4 (z ▸ ma)
    exact ⟨b, p1, p2.stay Pre.refl Sub.refl fun v z => by rw [upd_ne hb]; exact z, p3, p4⟩
  · have hb : b ≠ a ∨ b = a := by by_cases hb : b = a; exact .inr hb; exact .inl hb
    rcases hb with hb | hb
    · rw [upd_ne hb]; exact h.ext.keep b v q1 q2
    · subst hb
      rcases h.ext.nρ b ma with z | z
      · exact absurd z q2
      · rw [z] at q1; cases q1
  · by_cases hb : b = a
    · subst hb; exact ⟨u, upd_same⟩
    · rw [upd_ne hb]; exact h.ext.there b v q1

/-! ### blocks -/
def seqR (r1 r2 : Sf) : Sf := fun sl h => (r1 sl h).bind fun x h => match x with
  | .nx sl => r2 sl h
  | x => .ok x h
theorem c_nil : PSs X [] (Ts C fun sl h => .ok (.nx sl) h) := PSs.imp pss_nil fun E σ H ⟨ρ0, FR0, H0, ρ, FR, sl, ah, h, q⟩ => q ρ FR σ H h
variable {st : Stmt} {rest : List Stmt} {r1 r2 : Sf}
theorem c_cons (h1 : PS X st (Ts C r1)) (h2 : PSs X rest (Ts C r2)) : PSs X (st :: rest) (Ts C (seqR r1 r2)) := by
  refine PSs.imp (pss_cons h1 h2) fun E σ H ⟨ρ0, FR0, H0, ρ, FR, sl, ah, h, q⟩ => ⟨ρ0, FR0, H0, ρ, FR, sl, ah, h, ?_⟩
  have q : Se C ρ0 FR0 H0 E ((r1 sl ah).bind fun x h => match x with | .nx sl => r2 sl h | x => .ok x h) := q
  cases hr : r1 sl ah with
  | ok x ah1 =>
    rw [hr] at q
    cases x with
    | nx sl1 => exact fun ρ1 FR1 σ1 H1 h1 => ⟨ρ0, FR0, H0, ρ1, FR1, sl1, ah1, h1, q⟩
    | brk sl1 => exact q
    | cont sl1 => exact q
    | ret d => exact q
  | ex _ _ => rw [hr] at q; exact q
  | bad => rw [hr] at q; exact q
/-- a container is frozen (no code) -/
def frzR (i : Nat) : Sf := fun sl h => R.opt h ((getO sl i).map fun o => .nx (setS sl i o.d))
theorem c_frz {i : Nat} (h2 : PSs X rest (Ts C r2)) : PSs X rest (Ts C (seqR (frzR i) r2)) := by
  refine ⟨fun pins s σ H E I q => ?_⟩
  obtain ⟨ρ0, FR0, H0, ρ, FR, sl, ah, h, q⟩ := q
  have q : Se C ρ0 FR0 H0 E ((R.opt ah ((getO sl i).map fun o => Fl.nx (setS sl i o.d))).bind fun x h => match x with | .nx sl => r2 sl h | x => .ok x h) := q
  cases ho : getO sl i with
  | none => rw [ho] at q; exact q.elim
  | some o =>
    rw [ho] at q
    have q : Se C ρ0 FR0 H0 E (r2 (setS sl i o.d) ah) := q
    have hs : sl[i]? = some (some (.own o)) := by
      unfold getO at ho
      split at ho
      · rename_i o' h'; cases ho; exact h'
      · cases ho
    obtain ⟨a, e1, w, nf, m⟩ := h.own i o hs
    obtain ⟨FR2, H2, I2, sb, nn, rh2, p, hne, u, hu⟩ := freeze I h.toRelH nf m w
    have y := h.young i o a hs e1
    have na : ∀ (j : Nat) (o1 : Own) (b : Addr), i ≠ j → sl[j]? = some (some (.own o1)) → σ[j]? = some (some (.ref b)) → b ≠ a := fun j o1 b hij q1 q2 z => by
      subst z
      exact h.dist i j o o1 b hij hs q1 e1 q2
    refine h2.run pins s σ H2 E I2 ⟨ρ0, FR0, H0, ρ, FR2, setS sl i o.d, ah, ?_, q⟩
    have hi : i < sl.length := (List.getElem?_eq_some_iff.mp hs).1
    refine ⟨⟨rh2, by unfold setS; rw [List.length_set]; exact h.slen, fun j d e => ?_, fun j o1 e => ?_, fun j k o1 o2 b hjk q1 q2 q3 => ?_⟩, ⟨h.ext.pre, h.ext.fr.trans sb, fun b v q1 q2 => ?_, fun b v q1 => ?_, h.ext.nρ, fun b v q1 => ?_⟩, fun j o1 b q1 q2 => ?_⟩
    · unfold setS at e
      by_cases hij : i = j
      · subst hij
        rw [List.getElem?_set_self hi] at e
        cases e
        exact ⟨.ref a, e1, p⟩
      · rw [List.getElem?_set_ne hij] at e
        obtain ⟨v, e2, r⟩ := h.val j d e
        exact ⟨v, e2, Rp.mono sb Pre.refl r⟩
    · obtain ⟨hij, e⟩ := set_own e (fun o z => by cases z)
      obtain ⟨b, p1, p2, p3, p4⟩ := h.own j o1 e
      have hb := na j o1 b hij e p1
      refine ⟨b, p1, p2.stay Pre.refl sb fun v z => by rw [hne b hb]; exact z, ?_, p4⟩
      cases e2 : FR2 b with
      | none => rfl
      | some v =>
        rcases nn b v e2 with z | z
        · rw [p3] at z; cases z
        · exact absurd z hb
    · obtain ⟨n1, q1⟩ := set_own q1 (fun o z => by cases z)
      obtain ⟨n2, q2⟩ := set_own q2 (fun o z => by cases z)
      exact h.dist j k o1 o2 b hjk q1 q2 q3
    · have hb : b ≠ a := fun z => by rw [z, y] at q1; cases q1
      rw [hne b hb]; exact h.ext.keep b v q1 q2
    · by_cases hb : b = a
      · exact ⟨u, hb ▸ hu⟩
      · rw [hne b hb]; exact h.ext.there b v q1
    · rcases nn b v q1 with z | z
      · exact h.ext.nF b v z
      · exact .inr (z ▸ y)
    · obtain ⟨n1, q1⟩ := set_own q1 (fun o z => by cases z)
      exact h.young j o1 b q1 q2

/-! ### small statements -/
theorem c_pass : PS X (.Pass pos) (Ts C fun sl h => .ok (.nx sl) h) := PS.imp ps_pass fun E σ H ⟨ρ0, FR0, H0, ρ, FR, sl, ah, h, q⟩ => q ρ FR σ H h
theorem c_brk : PS X (.Break pos) (Ts C fun sl h => .ok (.brk sl) h) := PS.imp ps_break fun E σ H ⟨ρ0, FR0, H0, ρ, FR, sl, ah, h, q⟩ => q ρ FR σ H h
theorem c_cont : PS X (.Continue pos) (Ts C fun sl h => .ok (.cont sl) h) := PS.imp ps_continue fun E σ H ⟨ρ0, FR0, H0, ρ, FR, sl, ah, h, q⟩ => q ρ FR σ H h
theorem c_raise {c : Nat} : PS X st (Ts C fun _ h => .ex c h) := PS.imp ps_never fun E σ H ⟨ρ0, FR0, H0, ρ, FR, sl, ah, h, q⟩ => q
variable {r : Rs}
theorem c_ret (he : PE X e (TF C r)) : PS X (.Return (some e) pos) (Ts C fun sl h => (r sl h).bind fun d h => .ok (.ret d) h) := by
  refine PS.imp (ps_ret he) fun E σ H ⟨ρ0, FR0, H0, ρ, FR, sl, ah, h, q⟩ => ⟨ρ, FR, sl, ah, h.toRel, ?_⟩
  obtain ⟨x, ah', e0⟩ := q.ok
  obtain ⟨d, h1, e1, e2⟩ := bind_ok e0
  have q : Se C ρ0 FR0 H0 E ((r sl ah).bind fun d h => .ok (.ret d) h) := q
  rw [e1] at q ⊢
  exact fun ρ1 FR1 H1 v x rh w => q ρ1 FR1 v H1 (h.ext.trans x) rh w
theorem c_retN : PS X (.Return none pos) (Ts C fun _ h => .ok (.ret .non) h) := PS.imp ps_retN fun E σ H ⟨ρ0, FR0, H0, ρ, FR, sl, ah, h, q⟩ => q ρ FR .non H h.ext h.toRelH .non
theorem c_ex (he : PE X e (TF C r)) (hs : swapsWith e none pos.line X.env = pure false) : PS X (.Expr e pos) (Ts C fun sl h => (r sl h).bind fun _ h => .ok (.nx sl) h) := by
  refine PS.imp (ps_expr he hs) fun E σ H ⟨ρ0, FR0, H0, ρ, FR, sl, ah, h, q⟩ => ⟨ρ, FR, sl, ah, h.toRel, ?_⟩
  obtain ⟨x, ah', e0⟩ := q.ok
  obtain ⟨d, h1, e1, e2⟩ := bind_ok e0
  have q : Se C ρ0 FR0 H0 E ((r sl ah).bind fun _ h => .ok (.nx sl) h) := q
  rw [e1] at q ⊢
  exact fun ρ1 FR1 H1 v x rh w => q ρ1 FR1 σ H1 (h.step x rh)
theorem c_doc {x : Str} {j} {pos' : Pos} : PS X (.Expr (.Constant (.str x) j pos) pos') (Ts C fun sl h => .ok (.nx sl) h) := PS.imp ps_doc fun E σ H ⟨ρ0, FR0, H0, ρ, FR, sl, ah, h, q⟩ => q ρ FR σ H h
theorem c_if {c : Expr} {a b : List Stmt} {rt : Slots → AH → R Bool} {ra rb : Sf} (hc : PT X c (Tt C rt)) (ha : PSs X a (Ts C ra)) (hb : PSs X b (Ts C rb)) : PS X (.If c a b pos) (Ts C fun sl h => (rt sl h).bind fun t h => if t then ra sl h else rb sl h) := by
  refine PS.imp (ps_if hc ha hb) fun E σ H ⟨ρ0, FR0, H0, ρ, FR, sl, ah, h, q⟩ => ⟨ρ, FR, sl, ah, h.toRel, ?_⟩
  obtain ⟨x, ah', e0⟩ := q.ok
  obtain ⟨t, h1, e1, e2⟩ := bind_ok e0
  have q : Se C ρ0 FR0 H0 E ((rt sl ah).bind fun t h => if t then ra sl h else rb sl h) := q
  rw [e1] at q ⊢
  intro ρ1 FR1 H1 x rh
  have q : Se C ρ0 FR0 H0 E (if t then ra sl h1 else rb sl h1) := q
  cases t with
  | true => exact ⟨ρ0, FR0, H0, ρ1, FR1, sl, h1, h.step x rh, q⟩
  | false => exact ⟨ρ0, FR0, H0, ρ1, FR1, sl, h1, h.step x rh, q⟩
def setR (i : Nat) (r : Rs) : Sf := fun sl h => (r sl h).bind fun d h => .ok (.nx (setS sl i d)) h
def ownR (i : Nat) (r : Rs) : Sf := fun sl h => (r sl h).bind fun d h => R.opt h ((d.own?).map fun o => .nx (sl.set i (some (.own o))))
theorem set_q {i : Nat} (q : Ts C (setR i r) E σ H) : tAsg (TF C r) (gName i) E σ H := by
  obtain ⟨ρ0, FR0, H0, ρ, FR, sl, ah, h, q⟩ := q
  refine ⟨ρ, FR, sl, ah, h.toRel, ?_⟩
  obtain ⟨x, ah', e0⟩ := q.ok
  obtain ⟨d, h1, e1, e2⟩ := bind_ok e0
  have q : Se C ρ0 FR0 H0 E ((r sl ah).bind fun d h => .ok (.nx (setS sl i d)) h) := q
  rw [e1] at q ⊢
  exact fun ρ1 FR1 H1 v x rh w => q ρ1 FR1 _ H1 ((h.step x rh).set w)
theorem own_q {i : Nat} (hi : i < X.N.length) (hl : σ.length = X.N.length) (q : Ts C (ownR i r) E σ H) : tAsg (TN C r) (gName i) E σ H := by
  obtain ⟨ρ0, FR0, H0, ρ, FR, sl, ah, h, q⟩ := q
  refine ⟨ρ, FR, sl, ah, h.toRel, ?_⟩
  obtain ⟨x, ah', e0⟩ := q.ok
  obtain ⟨d, h1, e1, e2⟩ := bind_ok e0
  obtain ⟨e3, _⟩ := opt_ok e2
  obtain ⟨o, ho, _⟩ := Option.map_eq_some_iff.mp e3
  have q : Se C ρ0 FR0 H0 E ((r sl ah).bind fun d h => R.opt h ((d.own?).map fun o => .nx (sl.set i (some (.own o))))) := q
  rw [e1] at q ⊢
  have q : Se C ρ0 FR0 H0 E (R.opt h1 ((d.own?).map fun o => .nx (sl.set i (some (.own o))))) := q
  rw [ho] at q
  intro ρ1 FR1 H1 v x rh w
  unfold Rn at w
  rw [ho] at w
  obtain ⟨a, rfl, n, nf, m, w⟩ := w
  exact q ρ1 FR1 _ H1 (h.setO (by rw [h.slen, hl]; exact hi) x rh n nf m w)
end
end Sd

end
section
set_option Elab.async false
set_option linter.all false
set_option maxRecDepth 100000
set_option maxHeartbeats 1000000
/-! Sd14: stores into containers. -/
namespace Sd
open PySem PySem.Spec L2 Ev
open PyProof.Rows hiding St

section
variable {C : Cn} {ρ0 ρ ρ1 ρ2 : List Addr} {FR0 FR FR1 FR2 H0 H H1 H2 : Hp} {ah ah1 ah2 : AH} {sl sl2 : Slots} {σ : L2.St} {X : Cx} {Q : VK} {e : Expr} {es : List Expr} {pos : Pos} {pins : List (Addr × Obj)} {s : Shared} {E : Ends}
/-! ### entries replaced -/
theorem RpK.app {ks ds ks' ds' : List Ev.D} : ∀ {kvs kvs' : List (Key × V)}, RpK C ρ H ks ds kvs → RpK C ρ H ks' ds' kvs' → RpK C ρ H (ks ++ ks') (ds ++ ds') (kvs ++ kvs')
  | _, _, .nil, h => h
  | _, _, .int h t, k => .int h (RpK.app t k)
  | _, _, .str h t, k => .str h (RpK.app t k)
theorem RpE.app {ks ds ks' ds' : List Ev.D} : ∀ {es es' : List Ent}, RpE C ρ H ks ds es → RpE C ρ H ks' ds' es' → RpE C ρ H (ks ++ ks') (ds ++ ds') (es ++ es')
  | _, _, .nil, h => h
  | _, _, .cons h1 h2 h3 h4 t, k => .cons h1 h2 h3 h4 (RpE.app t k)
theorem map_ne {z : Key} {v : V} : ∀ {kvs : List (Key × V)}, z ∉ kvs.map (·.1) → kvs.map (fun kv => if kv.1 = z then (kv.1, v) else kv) = kvs
  | [], _ => rfl
  | p :: r, h => by
    have h1 : p.1 ≠ z := fun e => h (by rw [List.map_cons, e]; exact List.mem_cons_self)
    have h2 : z ∉ r.map (·.1) := fun m => h (List.mem_cons_of_mem _ m)
    rw [List.map_cons, if_neg h1, map_ne h2]
theorem RpK.repl {k dv : Ev.D} {z : Key} {v : V} (hz : sk k = some z) (rv : Rp C ρ H dv v) : ∀ {ks ds : List Ev.D} {kvs : List (Key × V)} {j : Nat}, RpK C ρ H ks ds kvs → (kvs.map (·.1)).Nodup → findK k ks = some j → RpK C ρ H ks (ds.set j dv) (kvs.map fun kv => if kv.1 = z then (kv.1, v) else kv)
  | _, _, _, _, .nil, _, e => by simp [findK] at e
  | _, _, _, j, .int (i := i) (d := d) (v := v0) (ks := ks) (ds := ds) (kvs := kvs) h t, nd, e => by
    have hd := sk_eqv (x := .int i) rfl hz
    obtain ⟨n1, n2⟩ := List.nodup_cons.mp nd
    by_cases he : (Sum.inl i : Key) = z
    · have e1 : eqv (.int i) k = true := by rw [← hd]; exact decide_eq_true he
      simp only [findK, e1, if_true] at e
      cases e
      rw [List.map_cons, if_pos he, map_ne (by rw [← he]; exact n1)]
      exact .int rv t
    · have e1 : eqv (.int i) k = false := by rw [← hd]; exact decide_eq_false he
      simp only [findK, e1, Bool.false_eq_true, if_false] at e
      obtain ⟨j', q3, rfl⟩ := Option.map_eq_some_iff.mp e
      rw [List.map_cons, if_neg he]
      exact .int h (RpK.repl hz rv t n2 q3)
  | _, _, _, j, .str (x := i) (d := d) (v := v0) (ks := ks) (ds := ds) (kvs := kvs) h t, nd, e => by
    have hd := sk_eqv (x := .str i) rfl hz
    obtain ⟨n1, n2⟩ := List.nodup_cons.mp nd
    by_cases he : (Sum.inr i : Key) = z
    · have e1 : eqv (.str i) k = true := by rw [← hd]; exact decide_eq_true he
      simp only [findK, e1, if_true] at e
      cases e
      rw [List.map_cons, if_pos he, map_ne (by rw [← he]; exact n1)]
      exact .str rv t
    · have e1 : eqv (.str i) k = false := by rw [← hd]; exact decide_eq_false he
      simp only [findK, e1, Bool.false_eq_true, if_false] at e
      obtain ⟨j', q3, rfl⟩ := Option.map_eq_some_iff.mp e
      rw [List.map_cons, if_neg he]
      exact .str h (RpK.repl hz rv t n2 q3)
theorem RpK.one {k dv : Ev.D} {z : Key} {v : V} (hz : sk k = some z) (rv : Rp C ρ H dv v) : RpK C ρ H [k] [dv] [(z, v)] := by
  cases k <;> simp only [sk, reduceCtorEq, Option.some.injEq] at hz <;> subst hz
  · exact .int rv .nil
  · exact .str rv .nil
theorem RpK.put {k dv : Ev.D} {z : Key} {v : V} (hz : sk k = some z) (rv : Rp C ρ H dv v) {ks ds : List Ev.D} {kvs : List (Key × V)} (r : RpK C ρ H ks ds kvs) (nd : (kvs.map (·.1)).Nodup) : RpK C ρ H (Ev.putK ks ds k dv).1 (Ev.putK ks ds k dv).2 (L2.putK kvs z v) := by
  obtain ⟨h1, _⟩ := RpK.find r hz
  unfold Ev.putK L2.putK
  rw [valV_any, ← h1]
  cases hj : findK k ks with
  | none => exact r.app (RpK.one hz rv)
  | some j => exact RpK.repl hz rv r nd hj
theorem putAt_ne {z : NestedKey} {u : Value} : ∀ {es : List Ent}, z ∉ es.map (·.1) → es.map (PySem.putAt z u) = es
  | [], _ => rfl
  | p :: r, h => by
    have h1 : p.1 ≠ z := fun e => h (by rw [List.map_cons, e]; exact List.mem_cons_self)
    have h2 : z ∉ r.map (·.1) := fun m => h (List.mem_cons_of_mem _ m)
    rw [List.map_cons, putAt_ne h2]
    unfold PySem.putAt
    rw [if_neg h1]
theorem RpE.repl {k dv : Ev.D} {zs : List Ev.D} {v : V} {u : Value} (hz : k = .tup zs) (hk : okK k = true) (rv : Rp C ρ H dv v) (ru : RelV v u) : ∀ {ks ds : List Ev.D} {es : List Ent} {j : Nat}, RpE C ρ H ks ds es → (es.map (·.1)).Nodup → findK k ks = some j → RpE C ρ H ks (ds.set j dv) (es.map (PySem.putAt (nk k) u))
  | _, _, _, _, .nil, _, e => by simp [findK] at e
  | _, _, _, j, .cons (xs := xs) (a := a) (d := d) (v := v0) (u := u0) (ks := ks) (ds := ds) (es := es) h1 h2 h3 h4 t, nd, e => by
    subst hz
    have hd := nk_dec h2 hk
    obtain ⟨n1, n2⟩ := List.nodup_cons.mp nd
    by_cases he : nk (.tup xs) = nk (.tup zs)
    · have e1 : eqv (.tup xs) (.tup zs) = true := by rw [← hd]; exact decide_eq_true he
      simp only [findK, e1, if_true] at e
      cases e
      rw [List.map_cons, putAt_ne (by rw [← he]; exact n1)]
      have ep : PySem.putAt (nk (.tup zs)) u (nk (.tup xs), a, u0) = (nk (.tup xs), a, u) := by unfold PySem.putAt; rw [if_pos he]
      rw [ep]
      exact .cons h1 h2 rv ru t
    · have e1 : eqv (.tup xs) (.tup zs) = false := by rw [← hd]; exact decide_eq_false he
      simp only [findK, e1, Bool.false_eq_true, if_false] at e
      obtain ⟨j', q3, rfl⟩ := Option.map_eq_some_iff.mp e
      have ep : PySem.putAt (nk (.tup zs)) u (nk (.tup xs), a, u0) = (nk (.tup xs), a, u0) := by unfold PySem.putAt; rw [if_neg he]
      rw [List.map_cons, ep]
      exact .cons h1 h2 h3 h4 (RpE.repl rfl hk rv ru t n2 q3)
theorem RpE.put {k dv : Ev.D} {zs : List Ev.D} {v : V} {u : Value} {b : Addr} (hz : k = .tup zs) (hk : okK k = true) (rk : Rp C ρ H k (.ref b)) (rv : Rp C ρ H dv v) (ru : RelV v u) {ks ds : List Ev.D} {es : List Ent} (r : RpE C ρ H ks ds es) (nd : (es.map (·.1)).Nodup) :
    RpE C ρ H (Ev.putK ks ds k dv).1 (Ev.putK ks ds k dv).2 (PySem.storedH es (nk k) b u) := by
  obtain ⟨h1, _⟩ := RpE.find r hz hk
  unfold Ev.putK PySem.storedH
  rw [← h1]
  cases hj : findK k ks with
  | none =>
    subst hz
    exact r.app (.cons rk hk rv ru .nil)
  | some j => exact RpE.repl hz hk rv ru r nd hj
/-! ### o[k] = v -/
def rSt (C : Cn) : TSet := fun o i v H Q => ∃ ρ FR ah a c dk dv c', o = .ref a ∧ RelH C ρ FR ah H ∧ OwnAt C ρ FR H c a ∧ Rp C ρ FR dk i ∧ Rp C ρ FR dv v ∧ setOwn c dk dv = some c' ∧ ∀ u, OwnAt C ρ FR (upd H a u) c' a → Q (upd H a u)
theorem rawD_of {C : Cn} {h : Heap} {a : Addr} {es : List Ent} (hz : es.length ≤ sizeLine) (hs : (a == sysModules) = false) (d : h.DictOfH (nestedKind C.P C.w) a es) : RawD C.P C.w h a es := by
  obtain ⟨o, xs, ep, h1, h2, h3, h4, _, h5⟩ := d
  exact ⟨hz, hs, o, xs, ep, h1, h2, h3, h4, h5⟩
theorem dicO_ok {C : Cn} {P : Program} {w : World} {H : Hp} {h : Heap} {a : Addr} {es : List Ent} (r : RawD C.P C.w h a es) : ObjOk P w H h a (dicO C a es) := by
  refine ⟨r, ?_, fun h1 h2 r1 k => ?_⟩
  · obtain ⟨_, _, o, _, _, e, _⟩ := r
    exact ⟨o, e⟩
  · obtain ⟨z, s, o, xs, ep, e, q⟩ := r1
    exact ⟨z, s, o, xs, ep, k o e, q⟩
theorem storedH_len {es : List Ent} {k : NestedKey} {b : Addr} {u : Value} : (PySem.storedH es k b u).length ≤ es.length + 1 := by
  unfold PySem.storedH
  split
  · rw [List.length_map]; omega
  · rw [List.length_append]; exact Nat.le_refl _
theorem set_tup (F : Fit C X) (I : Inv X pins σ H s) (rh : RelH C ρ FR ah H) {a b : Addr} {ks ds zs : List Ev.D} {es : List Ent} {k dv : Ev.D} {v : V} {u : Value} {Q : Hp → Prop} (mu : Mut (H a)) (hs : (a == sysModules) = false) (hm : s.heap.DictOfH (nestedKind X.prog X.w) a es) (r : RpE C ρ FR ks ds es)
    (hz : k = .tup zs) (hk : okK k = true) (rk : Rp C ρ FR k (.ref b)) (rv : Rp C ρ FR dv v) (ru : RelV v u) (hl : ks.length < line) (q : ∀ w, OwnAt C ρ FR (upd H a w) (.dic (Ev.putK ks ds k dv).1 (Ev.putK ks ds k dv).2) a → Q (upd H a w)) :
    wpAny (model X.prog X.w) X.A (setItem (.ref a) (.ref b) u) (fun _ s' => ∃ H', Inv X pins σ H' s' ∧ Q H') X.xe s := by
  have hlen : es.length < sizeLine := by rw [← r.length.1, ← line_eq]; exact hl
  have hi : (nestedKind X.prog X.w).is s.heap (nk k) b := by
    subst hz
    exact key_is F I hk (Rp.mono rh.sub Pre.refl rk)
  have nd : (es.map (·.1)).Nodup := by
    obtain ⟨_, _, _, _, _, _, _, _, n⟩ := hm
    exact n
  refine wpAny_setItem_heap (hsz := Nat.le_of_lt hlen) (room8 F) hi hm fun h' hm' sb => ?_
  have hz' : (PySem.storedH es (nk k) b u).length ≤ sizeLine := Nat.le_trans storedH_len hlen
  rw [F.P, F.w] at hm'
  have rd := rawD_of (C := C) hz' hs hm'
  have ex : ∃ o, h'.get? a = some o := by
    obtain ⟨_, _, o, _, _, e, _⟩ := rd
    exact ⟨o, e⟩
  exact ⟨_, d_write I mu sb ex (dicO_ok rd), q _ (.inr ⟨_, upd_same, RpE.put hz hk rk rv ru r nd⟩)⟩
theorem set_key (F : Fit C X) (I : Inv X pins σ H s) {a : Addr} {ks ds : List Ev.D} {kvs : List (Key × V)} {k dv : Ev.D} {z : Key} {v : V} {u w : Value} {Q : Hp → Prop} (e : H a = some (.dK kvs)) (r : RpK C ρ FR ks ds kvs) (hz : sk k = some z) (rk : RelV (kV z) w) (rv : Rp C ρ FR dv v) (ru : RelV v u) (hl : ks.length < line)
    (q : ∀ w, OwnAt C ρ FR (upd H a w) (.dic (Ev.putK ks ds k dv).1 (Ev.putK ks ds k dv).2) a → Q (upd H a w)) :
    wpAny (model X.prog X.w) X.A (setItem (.ref a) w u) (fun _ s' => ∃ H', Inv X pins σ H' s' ∧ Q H') X.xe s := by
  have hlen : kvs.length < sizeLine := by rw [← r.length.1, ← line_eq]; exact hl
  have nd : (kvs.map (·.1)).Nodup := by
    obtain ⟨_, _, vs, rel, dd⟩ := dk_of I.hok e
    obtain ⟨_, _, _, _, _, _, _, n⟩ := dd
    rw [KV.keys rel]
    exact n.2
  have un := F.un
  exact d_setItem (A := X.A) (by omega) I (DPut.k e hlen) rk ru fun s' I' => ⟨_, I', q _ (.inl ⟨_, upd_same, RpK.put hz rv r nd⟩)⟩
theorem pset_st (F : Fit C X) : PSet X (rSt C) := by
  intro pins s σ H o i v ov iv u Q I ro ri rv ⟨ρ, FR, ah, a, c, dk, dv, c', eo, rh, w, r1, r2, hs, q⟩
  subst eo
  cases ro
  cases c with
  | lst xs =>
    cases dk <;> simp only [setOwn, reduceCtorEq] at hs
    obtain ⟨j, hj, rfl⟩ := Option.map_eq_some_iff.mp hs
    obtain ⟨vs, ha, l⟩ := w
    cases r1
    exact set_list pins s σ H (.ref a) _ _ _ iv u Q I rfl ri rv ⟨a, vs, _, j, rfl, rfl, ha, by rw [← l.length]; exact hj, q _ ⟨_, upd_same, RpL.set r2 j l⟩⟩
  | dic ks ds =>
    simp only [setOwn] at hs
    split at hs
    · rename_i hc
      cases hs
      rw [Bool.and_eq_true, decide_eq_true_eq] at hc
      obtain ⟨hf, hl⟩ := hc
      unfold fitK at hf
      rw [Bool.and_eq_true] at hf
      obtain ⟨h1, h2⟩ := hf
      rcases okK_cases h1 with ⟨z, hz⟩ | ⟨zs, hz⟩
      · have ev := sk_kV hz (.inl r1 : seen C ρ FR H dk i)
        subst ev
        rcases w with ⟨kvs, e, r⟩ | ⟨es, e, r⟩
        · exact set_key F I e r hz ri r2 rv hl q
        · cases r with
          | nil =>
            obtain ⟨h3, hm⟩ := dic_none F I (.inl e)
            have I2 : Inv X pins σ (upd H a (.dK [])) s := I.write (x := a) (e := a) (t' := s.toks) (h' := s.heap) (by rw [e]; trivial) (.inl rfl) (fun b v _ q => q) (let ⟨o, _, _, e, _⟩ := hm; ⟨o, e⟩) ⟨Nat.zero_le _, h3, [], .nil, hm⟩
            refine set_key F I2 upd_same .nil hz ri r2 rv hl fun w hw => ?_
            rw [upd_upd] at hw ⊢
            exact q w hw
          | cons _ _ _ _ _ =>
            simp only at h2
            cases dk <;> first
              | (simp [isT] at h2; done)
              | (simp [sk] at hz; done)
      · obtain ⟨b, rfl⟩ : ∃ b, i = .ref b := by
          subst hz
          cases r1
          exact ⟨_, rfl⟩
        cases ri
        rcases w with ⟨kvs, e, r⟩ | ⟨es, e, r⟩
        · cases r with
          | nil =>
            obtain ⟨_, h3, vs, kv, o, xs, ep, p1, p2, p3, p4, p5, p6⟩ := dk_of I.hok e
            cases kv
            have e0 : xs.toList = [] := by
              cases hx : xs.toList with
              | nil => rfl
              | cons y ys => rw [hx] at p5; cases p5
            exact set_tup F I rh (by rw [e]; trivial) h3 (es := []) ⟨o, xs, ep, p1, p2, p3, e0, fun _ z => absurd z List.not_mem_nil, List.nodup_nil⟩ .nil hz h1 r1 r2 rv hl q
          | int _ _ =>
            subst hz
            simp [isT] at h2
          | str _ _ =>
            subst hz
            simp [isT] at h2
        · exact set_tup F I rh (by rw [e]; trivial) (raw_ok F I (.inl e)).2.1 (RpE.ofH F I rh.sub (.inl e) r) r hz h1 r1 r2 rv hl q
    · cases hs
end
end Sd

end
section
set_option Elab.async false
set_option linter.all false
set_option maxRecDepth 100000
set_option maxHeartbeats 1000000
/-! SdD: dict(x), x a list or a tuple of pairs whose keys are tuples. -/
namespace Sd
open PySem PySem.Spec L2 Ev
open PyProof.Rows hiding St
section
variable {C : Cn} {ρ : List Addr} {FR H : Hp} {ah : AH} {σ : L2.St} {X : Cx} {Q : VK} {pins : List (Addr × Obj)} {s : Shared}
/-- the pairs as they lie: where each pair is, its key's place, its value -/
structure PrAt (C : Cn) (ρ : List Addr) (FR : Hp) (d : Ev.D) (T : Addr) (zs : List Ev.D) (dv : Ev.D) (b : Addr) (v : V) (u : Value) : Prop where
  ed : d = .tup [.tup zs, dv]
  sq : SqT C.K FR T [.ref b, v]
  rk : Rp C ρ FR (.tup zs) (.ref b)
  rv : Rp C ρ FR dv v
  ru : L2.RelV v u
inductive Prs (C : Cn) (ρ : List Addr) (FR : Hp) (X : Cx) (s : Shared) : List Ev.D → List V → List Addr → List (Value × Value) → List Ent → Prop
  | nil : Prs C ρ FR X s [] [] [] [] []
  | cons {d : Ev.D} {T : Addr} {zs : List Ev.D} {dv : Ev.D} {b : Addr} {v : V} {u : Value} {ds : List Ev.D} {vs : List V} {Ts : List Addr} {ps : List (Value × Value)} {es : List Ent} :
      PrAt C ρ FR d T zs dv b v u → PairAt s.heap T (.ref b) u → Prs C ρ FR X s ds vs Ts ps es → Prs C ρ FR X s (d :: ds) (.ref T :: vs) (T :: Ts) ((.ref b, u) :: ps) ((nk (.tup zs), b, u) :: es)
theorem prs_of (F : Fit C X) (I : Inv X pins σ H s) (sb : Sub FR H) : ∀ {xs : List Ev.D} {vs : List V}, RpL C ρ FR xs vs → xs.all keyT = true → ∃ Ts ps es, Prs C ρ FR X s xs vs Ts ps es
  | _, _, .nil, _ => ⟨[], [], [], .nil⟩
  | d :: ds, _, .cons (v := x) h t, hk => by
    rw [List.all_cons, Bool.and_eq_true] at hk
    obtain ⟨Ts, ps, es, r⟩ := prs_of F I sb t hk.2
    obtain ⟨zs, dv, rfl⟩ : ∃ zs dv, d = .tup [.tup zs, dv] := by
      have h1 := hk.1
      unfold keyT at h1
      split at h1
      · exact ⟨_, _, rfl⟩
      · cases h1
    cases h with
    | @tup T ws _ h1 h2 =>
      cases h2 with
      | @cons _ kv _ _ k1 k2 =>
        cases k2 with
        | @cons _ vv _ _ k2 k3 =>
          cases k3
          have hb : ∃ b, kv = .ref b := by
            cases k1
            exact ⟨_, rfl⟩
          obtain ⟨b, rfl⟩ := hb
          obtain ⟨its, rv, ⟨o, ho, hc, m, hd⟩, _⟩ := I.tuple (F.K ▸ SqT.sub sb h1.sq)
          cases rv with
          | @cons _ u1 _ _ r1 r2 =>
            cases r2 with
            | @cons _ u2 _ _ r2 r3 =>
              cases r3
              obtain rfl : u1 = Value.ref b := r1
              exact ⟨_, _, _, .cons ⟨rfl, h1.sq, k1, k2, r2⟩ (.inl ⟨o, ho, hc, m, by simpa using hd⟩) r⟩
theorem Prs.len {xs : List Ev.D} {vs : List V} {Ts : List Addr} {ps : List (Value × Value)} {es : List Ent} (h : Prs C ρ FR X s xs vs Ts ps es) : vs.length = xs.length ∧ Ts.length = xs.length ∧ ps.length = xs.length ∧ es.length = xs.length := by
  induction h with
  | nil => exact ⟨rfl, rfl, rfl, rfl⟩
  | cons _ _ _ ih => obtain ⟨a, b, c, d⟩ := ih; exact ⟨by simp [a], by simp [b], by simp [c], by simp [d]⟩
theorem Prs.get {xs : List Ev.D} {vs : List V} {Ts : List Addr} {ps : List (Value × Value)} {es : List Ent} (h : Prs C ρ FR X s xs vs Ts ps es) : ∀ {j : Nat} {k u : Value}, ps[j]? = some (k, u) → ∃ T b kk, vs[j]? = some (.ref T) ∧ Ts[j]? = some T ∧ k = .ref b ∧ es[j]? = some (kk, b, u) ∧ PairAt s.heap T (.ref b) u := by
  induction h with
  | nil => intro j k u e; simp at e
  | cons p q _ ih =>
    intro j k u e
    cases j with
    | zero =>
      simp only [List.getElem?_cons_zero, Option.some.injEq, Prod.mk.injEq] at e
      obtain ⟨rfl, rfl⟩ := e
      exact ⟨_, _, _, rfl, rfl, rfl, rfl, q⟩
    | succ j => exact ih (by simpa using e)
theorem fitK_ok {k : Ev.D} {ks : List Ev.D} (h : fitK k ks = true) : okK k = true := by
  unfold fitK at h
  rw [Bool.and_eq_true] at h
  exact h.1
theorem Prs.keys (F : Fit C X) (I : Inv X pins σ H s) (sb : Sub FR H) {xs : List Ev.D} {vs : List V} {Ts : List Addr} {ps : List (Value × Value)} {es : List Ent} (h : Prs C ρ FR X s xs vs Ts ps es) : ∀ {ks ds : List Ev.D} {p : List Ev.D × List Ev.D}, dictOf xs ks ds = some p → ∀ x ∈ es, (nestedKind X.prog X.w).is s.heap x.1 x.2.1 := by
  induction h with
  | nil => intro ks ds p e x hx; cases hx
  | cons q _ _ ih =>
    intro ks ds p e x hx
    rw [q.ed, dictOf] at e
    split at e
    · rename_i hc
      rw [Bool.and_eq_true] at hc
      have hk := fitK_ok hc.1
      rcases List.mem_cons.mp hx with rfl | hx
      · exact key_is F I hk (Rp.mono sb Pre.refl q.rk)
      · exact ih e x hx
    · cases e
theorem storedH_nd {es : List Ent} {k : NestedKey} {b : Addr} {u : Value} (n : (es.map (·.1)).Nodup) : ((PySem.storedH es k b u).map (·.1)).Nodup := by
  unfold PySem.storedH
  split
  · have : (es.map (PySem.putAt k u)).map (·.1) = es.map (·.1) := by
      rw [List.map_map]
      refine List.map_congr_left fun x _ => ?_
      show (PySem.putAt k u x).1 = x.1
      unfold PySem.putAt
      split <;> rfl
    rw [this]; exact n
  · rename_i h
    rw [List.map_append, List.nodup_append]
    refine ⟨n, by simp, fun x hx y hy z => ?_⟩
    have hy : y = k := by simpa using hy
    subst z
    subst hy
    obtain ⟨e, he, rfl⟩ := List.mem_map.mp hx
    refine h ?_
    unfold atKey
    rw [Option.isSome_map, List.find?_isSome]
    exact ⟨e, he, by simp⟩
theorem Prs.dict {xs : List Ev.D} {vs : List V} {Ts : List Addr} {ps : List (Value × Value)} {es : List Ent} (h : Prs C ρ FR X s xs vs Ts ps es) : ∀ {ks ds : List Ev.D} {acc : List Ent} {p : List Ev.D × List Ev.D}, dictOf xs ks ds = some p → RpE C ρ FR ks ds acc → (acc.map (·.1)).Nodup → RpE C ρ FR p.1 p.2 (storedAllH acc es) := by
  induction h with
  | nil => intro ks ds acc p e r _; cases e; exact r
  | cons q _ _ ih =>
    intro ks ds acc p e r n
    rw [q.ed, dictOf] at e
    split at e
    · rename_i hc
      rw [Bool.and_eq_true] at hc
      have hk := fitK_ok hc.1
      exact ih e (RpE.put rfl hk q.rk q.rv q.ru r n) (storedH_nd n)
    · cases e
theorem Prs.items {xs : List Ev.D} {vs : List V} {Ts : List Addr} {ps : List (Value × Value)} {es : List Ent} {its : List Value} (h : Prs C ρ FR X s xs vs Ts ps es) (r : Vals vs its) : PairItems s.heap its.toArray (fun j => Ts.getD j 0) ps ∧ PairsHaveH (nestedKind X.prog X.w) ps.length (PairRel ps) es := by
  obtain ⟨l1, l2, l3, l4⟩ := h.len
  refine ⟨⟨by rw [List.size_toArray, ← r.length, l1, l3], fun j k v e => ?_⟩, by rw [l4, l3], fun i key v e => ?_⟩
  · obtain ⟨T, b, kk, e1, e2, rfl, _, pa⟩ := h.get e
    obtain ⟨u, hu, ru⟩ := r.get e1
    obtain rfl : u = Value.ref T := ru
    have e3 : Ts.getD j 0 = T := by rw [List.getD_eq_getElem?_getD, e2]; rfl
    show its.toArray[j]? = some (Value.ref (Ts.getD j 0)) ∧ PairAt s.heap (Ts.getD j 0) (Value.ref b) v
    rw [e3]
    exact ⟨by simpa using hu, pa⟩
  · obtain ⟨T, b, kk, _, _, rfl, e2, _⟩ := h.get e
    exact ⟨kk, b, e2, rfl⟩
/-- the dict stands -/
theorem dict_end (F : Fit C X) (I : Inv X pins σ H s) (rh : RelH C ρ FR ah H) {xs : List Ev.D} {vs : List V} {Ts : List Addr} {ps : List (Value × Value)} {es : List Ent} {p : List Ev.D × List Ev.D} (P : Prs C ρ FR X s xs vs Ts ps es) (hd : dictOf xs [] [] = some p) (hz : xs.length ≤ line) (q : PstN C ρ FR H Q (.dic p.1 p.2) ah)
    {h' : Heap} {tk : Nat} (dd : h'.DictOfH (nestedKind X.prog X.w) s.heap.objs.size (storedAllH [] es)) (hk : ∀ b o, s.heap.get? b = some o → h'.get? b = some o) : EP X pins σ Q (.ref s.heap.objs.size) { s with heap := h', toks := tk } := by
  have r := P.dict hd .nil List.nodup_nil
  have hl : (storedAllH ([] : List Ent) es).length ≤ sizeLine := by
    have := storedAllH_length es ([] : List Ent)
    rw [P.len.2.2.2, List.length_nil, Nat.zero_add] at this
    rw [← line_eq]
    omega
  rw [F.P, F.w] at dd
  have rd := rawD_of (C := C) hl (by
    have := I.big
    exact beq_eq_false_iff_ne.mpr (Ne.symm (Nat.ne_of_lt this))) dd
  have n : H s.heap.objs.size = none := I.hok.fresh (Nat.le_refl _)
  exact ⟨.ref _, _, I.laid (t' := tk) (o := dicO C s.heap.objs.size (storedAllH [] es)) hk (Nat.le_refl _) (dicO_ok rd), rfl, q ρ FR _ _ (ext_new n _) (relH_new rh n _) ⟨_, rfl, n, none_fr rh n, none_ρ rh n, .inr ⟨_, upd_same, r⟩⟩⟩
theorem cl_dict (F : Fit C X) : CallL C X (.type "dict") (castD .dict) := by
  intro pins s σ H vs us Q I r ⟨x, ex, ρ, FR, ah, d1, d, rh, s1, hg, q⟩
  subst ex
  have un := F.un
  have hu : (nestedKind X.prog X.w).room X.A.in1.in1 := by
    show X.A.units + 1 + 1 + 8 < cLine
    omega
  cases d1 <;> simp only [castD, reduceCtorEq] at hg
  case lst xs =>
    split at hg
    · rename_i hc
      rw [Bool.and_eq_true, decide_eq_true_eq] at hc
      obtain ⟨p, hp, rfl⟩ := Option.map_eq_some_iff.mp hg
      obtain ⟨a, vs, rfl, t1, l1⟩ := s1.lst rh.sub
      obtain ⟨its, rv, ⟨o, m, ho, ho2, ho3, ho4⟩, hz⟩ := I.list (.inl t1)
      obtain ⟨u, rfl, ru⟩ := vals1 r
      obtain rfl : u = Value.ref a := ru
      obtain ⟨Ts, ps, es, P⟩ := prs_of F I rh.sub l1 hc.1
      obtain ⟨pi, ph⟩ := P.items rv
      exact call_dict_pairsH (PairArg.list a its.toArray _ ps) (I.ok.hd F.calm) hu ⟨⟨o, m, ho, ho2, ho3, ho4⟩, pi⟩ ph (fun h' hk x hx => nestedKind_stays.stays (fun b o _ _ e _ => hk b o (Nat.ne_of_lt (Heap.lt_size e)) List.not_mem_nil e) (P.keys F I rh.sub hp x hx))
        (by rw [P.len.2.2.1, ← line_eq]; exact hc.2) fun h' tk dd hk => dict_end F I rh P hp hc.2 q dd fun b o e => hk b o List.not_mem_nil e
    · cases hg
  case tup xs =>
    split at hg
    · rename_i hc
      rw [Bool.and_eq_true, decide_eq_true_eq] at hc
      obtain ⟨p, hp, rfl⟩ := Option.map_eq_some_iff.mp hg
      have w : Rp C ρ FR (.tup xs) x := by
        rcases s1 with s1 | ⟨o, b, e1, e2, _⟩
        · exact s1
        · cases o <;> cases e1
      cases w with
      | @tup a vs _ t1 l1 =>
        obtain ⟨u, rfl, ru⟩ := vals1 r
        obtain rfl : u = Value.ref a := ru
        have t2 := TupN.sub rh.sub t1
        obtain ⟨its, rv, o, m, ho, ho2, ho3, ho4⟩ : ∃ its : List Value, Vals vs its ∧ ∃ (o : Obj) (m : Nat), s.heap.get? a = some o ∧ o.cls = .type "tuple" ∧ o.dict = none ∧ o.data = .seq its.toArray m := by
          rcases t2 with ⟨o, ho, hd⟩ | ⟨o, its, m, h1, h2, h3, h4, _, h5⟩
          · obtain ⟨hgt, hz, its, rv, o', h1, h2, m, h3⟩ := I.hok a _ ho
            rw [hgt] at h1
            cases h1
            exact ⟨its, rv, o, m, hgt, h2, hd, h3⟩
          · exact ⟨its.toList, h5, o, m, I.kIn a o (F.K ▸ h1), h2, h3, by simpa using h4⟩
        obtain ⟨Ts, ps, es, P⟩ := prs_of F I rh.sub l1 hc.1
        obtain ⟨pi, ph⟩ := P.items rv
        exact call_dict_pairsH (PairArg.tuple a its.toArray _ ps) (I.ok.hd F.calm) hu ⟨⟨o, m, ho, ho2, ho3, ho4⟩, pi⟩ ph (fun h' hk x hx => nestedKind_stays.stays (fun b o _ _ e _ => hk b o (Nat.ne_of_lt (Heap.lt_size e)) List.not_mem_nil e) (P.keys F I rh.sub hp x hx))
          (by rw [P.len.2.2.1, ← line_eq]; exact hc.2) fun h' tk dd hk => dict_end F I rh P hp hc.2 q dd fun b o e => hk b o List.not_mem_nil e
    · cases hg
end
end Sd

end
section
set_option Elab.async false
set_option linter.all false
set_option maxRecDepth 100000
set_option maxHeartbeats 1000000
/-! Sd15: assignments, methods of lists, loops. -/
namespace Sd
open PySem PySem.Spec L2 Ev
open PyProof.Rows hiding St

section
variable {C : Cn} {ρ0 ρ ρ1 ρ2 : List Addr} {FR0 FR FR1 FR2 H0 H H1 H2 : Hp} {ah ah1 ah2 : AH} {sl sl2 : Slots} {σ : L2.St} {X : Cx} {Q : VK} {e : Expr} {es : List Expr} {pos : Pos} {pins : List (Addr × Obj)} {s : Shared} {E : Ends} {r : Rs} {i j : Nat} {x : Str} {p p1 : Pos}
/-- a name that is stored -/
structure Stored (X : Cx) (i : Nat) (x : Str) : Prop where
  nd : X.N.Nodup
  ix : X.N[i]? = some x
  loc : Loc X.env.scope x
  fn : X.fn x = true ∨ X.env.scope.names.lookup x = some .local
theorem Stored.lt (h : Stored X i x) : i < X.N.length := (List.getElem?_eq_some_iff.mp h.ix).1
theorem c_set (h : Stored X i x) (he : PE X e (TF C r)) (hs : swapsWith e (some (.Name x p)) pos.line X.env = pure false) : PS X (.Assign [.Name x p] e pos) (Ts C (setR i r)) :=
  PS.imp (ps_set h.nd h.ix h.loc he hs h.fn) fun E σ H q => set_q q
theorem c_own (h : Stored X i x) (he : PE X e (TN C r)) (hs : swapsWith e (some (.Name x p)) pos.line X.env = pure false) : PS X (.Assign [.Name x p] e pos) (Ts C (ownR i r)) :=
  ⟨fun pins s σ H E I q => (ps_set h.nd h.ix h.loc he hs h.fn).run pins s σ H E I (own_q h.lt I.len q)⟩
/-- a list is frozen without more -/
theorem tn_lst (hl : ∀ sl h d h', r sl h = .ok d h' → ∃ xs, d = .lst xs) (q : TF C r σ H Q) : TN C r σ H Q := by
  obtain ⟨ρ, FR, sl, ah, rel, q⟩ := q
  obtain ⟨d, ah', e, q⟩ := q.inv
  obtain ⟨xs, rfl⟩ := hl _ _ _ _ e
  refine ⟨ρ, FR, sl, ah, rel, ?_⟩
  rw [e]
  intro ρ' FR' H' v x rh w
  have w : ∃ a, v = .ref a ∧ H a = none ∧ FR' a = none ∧ a ∉ ρ' ∧ OwnAt C ρ' FR' H' (.lst xs) a := w
  obtain ⟨a, rfl, n, nf, m, vs, e1, l⟩ := w
  have sb : Sub FR' (upd FR' a (.lst vs)) := Sub.upd nf
  refine q ρ' (upd FR' a (.lst vs)) H' _ ⟨x.pre, x.fr.trans sb, x.keep, x.there, x.nρ, fun b u e2 => ?_⟩ ⟨fun b u e2 => ?_, rh.len, rh.nd, fun b mb => ?_, fun k o e2 => ?_⟩ (.lst (Rd.of upd_same) (RpL.mono sb Pre.refl l))
  · by_cases hb : b = a
    · exact .inr (hb ▸ n)
    · rw [upd_ne hb] at e2; exact x.nF b u e2
  · by_cases hb : b = a
    · subst hb; rw [upd_same] at e2; cases e2; exact e1
    · rw [upd_ne hb] at e2; exact rh.sub b u e2
  · have hb : b ≠ a := fun z => m (z ▸ mb)
    rw [upd_ne hb]; exact rh.live b mb
  · obtain ⟨b, e3, e4⟩ := rh.box k o e2
    exact ⟨b, e3, e4.stay Pre.refl sb fun _ z => z⟩
theorem lcR_lst {k : Slots → List Ev.D → AH → R (List Ev.D)} {h h' : AH} {d : Ev.D} (e : lcR k sl h = .ok d h') : ∃ xs, d = .lst xs := by
  obtain ⟨fin, h1, e1, e⟩ := bind_ok e
  cases e
  exact ⟨fin, rfl⟩
variable {elt tg iter tg1 iter1 : Expr} {ifs ifs1 : List Expr} {scope : Scope} {own : List (Str × Nat)} {t t1 : Tg} {g g1 : L2.TG} {rt rt1 : Slots → AH → R Bool} {re : Rs} {itr itr1 : Rls} {vs1 : List Nat} {spos : Pos}
/-- name = [..] on one line -/
theorem lc1_store {R : St → Hp → VK → Prop} (F : Fit C X) (h : Stored X i x) (hloc : X.env.scope.names.lookup x = some .local) (hsw : swapsWith (.ListComp elt [⟨tg, iter, ifs, 0⟩] scope pos) (some (.Name x p)) spos.line X.env = pure true)
    (hi : PI X tg iter (TiE C (isTp t) itr)) (ok : BlkOk X.N X.env.scope scope own) (hv : ∀ i ∈ tgs t, i ∈ own.map (·.2))
    (hg : ∀ (s : Shared) (H : Hp) (B : Addr) (cl : List (Str × Addr)) (fp : List Addr), PGd C (X.blk s H scope (compEnvC scope cl B X.env) fp) tg t g) (ht : ∀ (s : Shared) (H : Hp) (B : Addr) (cl : List (Str × Addr)) (fp : List Addr), PTs (X.blk s H scope (compEnvC scope cl B X.env) fp) ifs (Tt C rt))
    (he : ∀ (s : Shared) (H : Hp) (B : Addr) (cl : List (Str × Addr)) (fp : List Addr), PE (X.blk s H scope (compEnvC scope cl B X.env) fp) elt (TF C re)) (hs : ∀ env x, foldedSetIterable iter env x = pure x) :
    PS X (.Assign [.Name x p] (.ListComp elt [⟨tg, iter, ifs, 0⟩] scope pos) spos) (tAsg (TN C (lcR (clsR itr (own.map (·.2)) t rt (yldR re)))) (gName i)) :=
  PS.imp (ps_setLc F.calm h.nd h.ix hloc hsw hi ok (fun s H B cl fp => (hg s H B cl fp).pg) ht he (hs _)) fun E σ H q => by
    have q := lc_q (hg {} H 0 [] []) hv (fun D => ins_yld (D := D)) q
    exact q
theorem lc2_store (F : Fit C X) (h : Stored X i x) (hloc : X.env.scope.names.lookup x = some .local) (hsw : swapsWith (.ListComp elt [⟨tg, iter, ifs, 0⟩, ⟨tg1, iter1, ifs1, 0⟩] scope pos) (some (.Name x p)) spos.line X.env = pure true)
    (hi : PI X tg iter (TiE C (isTp t) itr)) (ok : BlkOk X.N X.env.scope scope own) (hv : ∀ i ∈ tgs t, i ∈ own.map (·.2)) (hv1 : ∀ i ∈ tgs t1, i ∈ vs1) (hv2 : ∀ i ∈ vs1, i ∈ own.map (·.2))
    (hg : ∀ (s : Shared) (H : Hp) (B : Addr) (cl : List (Str × Addr)) (fp : List Addr), PGd C (X.blk s H scope (compEnvC scope cl B X.env) fp) tg t g) (ht : ∀ (s : Shared) (H : Hp) (B : Addr) (cl : List (Str × Addr)) (fp : List Addr), PTs (X.blk s H scope (compEnvC scope cl B X.env) fp) ifs (Tt C rt))
    (hi1 : ∀ (s : Shared) (H : Hp) (B : Addr) (cl : List (Str × Addr)) (fp : List Addr), PI (X.blk s H scope (compEnvC scope cl B X.env) fp) tg1 iter1 (TiE C (isTp t1) itr1))
    (hg1 : ∀ (s : Shared) (H : Hp) (B : Addr) (cl : List (Str × Addr)) (fp : List Addr), PGd C (X.blk s H scope (compEnvC scope cl B X.env) fp) tg1 t1 g1) (ht1 : ∀ (s : Shared) (H : Hp) (B : Addr) (cl : List (Str × Addr)) (fp : List Addr), PTs (X.blk s H scope (compEnvC scope cl B X.env) fp) ifs1 (Tt C rt1))
    (he : ∀ (s : Shared) (H : Hp) (B : Addr) (cl : List (Str × Addr)) (fp : List Addr), PE (X.blk s H scope (compEnvC scope cl B X.env) fp) elt (TF C re)) (hs : ∀ env x, foldedSetIterable iter env x = pure x) (hs1 : ∀ env x, foldedSetIterable iter1 env x = pure x) :
    PS X (.Assign [.Name x p] (.ListComp elt [⟨tg, iter, ifs, 0⟩, ⟨tg1, iter1, ifs1, 0⟩] scope pos) spos) (tAsg (TN C (lcR (clsR itr (own.map (·.2)) t rt (clsR itr1 vs1 t1 rt1 (yldR re))))) (gName i)) :=
  PS.imp (ps_setLc2 F.calm h.nd h.ix hloc hsw hi ok hv2 (fun s H B cl fp => (hg s H B cl fp).pg) ht hi1 (fun s H B cl fp => (hg1 s H B cl fp).pg) ht1 he (hs _) hs1) fun E σ H q => by
    have q := lc_q (hg {} H 0 [] []) hv (fun D => ins_cls (hg1 {} H 0 [] []) hv1 (ins_yld (D := D))) q
    exact q
/-- such a statement, by its store -/
theorem c_setLc {st : Stmt} {k : Slots → List Ev.D → AH → R (List Ev.D)} (h : PS X st (tAsg (TN C (lcR k)) (gName i))) : PS X st (Ts C (setR i (lcR k))) :=
  PS.imp h fun E σ H q => tn_lst (fun _ _ _ _ => lcR_lst) (set_q q)
theorem c_ownLc {st : Stmt} {k : Slots → List Ev.D → AH → R (List Ev.D)} (hi : i < X.N.length) (h : PS X st (tAsg (TN C (lcR k)) (gName i))) : PS X st (Ts C (ownR i (lcR k))) :=
  ⟨fun pins s σ H E I q => h.run pins s σ H E I (own_q hi I.len q)⟩

/-! ### several names -/
def tsetR (t : Tg) (r : Rs) : Sf := fun sl h => (r sl h).bind fun d h => R.opt h ((setTg sl t d).map .nx)
theorem c_tset {ts : List Expr} {k : Nat} {tp : Pos} (hg : PGd C X (.Tuple ts k tp) t g) (he : PE X e (TF C r)) (hs : swapsWithSole [.Tuple ts k tp] e pos.line X.env = pure false) (hw : swappedStores [.Tuple ts k tp] e X.env = pure none) :
    PS X (.Assign [.Tuple ts k tp] e pos) (Ts C (tsetR t r)) := by
  refine PS.imp (ps_asg he hg.pg hs hw rfl) fun E σ H ⟨ρ0, FR0, H0, ρ, FR, sl, ah, h, q⟩ => ⟨ρ, FR, sl, ah, h.toRel, ?_⟩
  obtain ⟨x, ah', e0⟩ := q.ok
  obtain ⟨d, h1, e1, e2⟩ := bind_ok e0
  obtain ⟨e3, _⟩ := opt_ok e2
  obtain ⟨sl2, e4, _⟩ := Option.map_eq_some_iff.mp e3
  have q : Se C ρ0 FR0 H0 E ((r sl ah).bind fun d h => R.opt h ((setTg sl t d).map .nx)) := q
  rw [e1] at q ⊢
  have q : Se C ρ0 FR0 H0 E (R.opt h1 ((setTg sl t d).map .nx)) := q
  rw [e4] at q
  intro ρ1 FR1 H1 v x rh w
  exact (h.step x rh).tg hg e4 (.rp w) fun σ2 h2 => q ρ1 FR1 σ2 H1 h2
/-- what may be stored in a slot: a datum, or a container of its own -/
def putB (sl : Slots) (i : Nat) (b : Bool) (d : Ev.D) : Option Slots := if b then (d.own?).map fun o => sl.set i (some (.own o)) else some (setS sl i d)
def psetR (i j : Nat) (b c : Bool) (ra rb : Rs) : Sf := fun sl h => (ra sl h).bind fun x h => (rb sl h).bind fun y h => R.opt h ((putB sl i b x).bind fun sl => (putB sl j c y).map .nx)
/-- a value that waits to be stored -/
def Wt (C : Cn) (b : Bool) (H0 : Hp) (ρ : List Addr) (FR H : Hp) (d : Ev.D) (v : V) : Prop := if b then ∃ o a, d.own? = some o ∧ v = .ref a ∧ H0 a = none ∧ FR a = none ∧ a ∉ ρ ∧ OwnAt C ρ FR H o a else Rp C ρ FR d v
theorem Wt.ext {b : Bool} {d : Ev.D} {v : V} (h : Wt C b H0 ρ FR H d v) (x : Ext ρ FR H ρ1 FR1 H1) : Wt C b H0 ρ1 FR1 H1 d v := by
  cases b with
  | false =>
    have h : Rp C ρ FR d v := h
    show Rp C ρ1 FR1 d v
    exact Rp.mono x.fr x.pre h
  | true =>
    have h : ∃ o a, d.own? = some o ∧ v = .ref a ∧ H0 a = none ∧ FR a = none ∧ a ∉ ρ ∧ OwnAt C ρ FR H o a := h
    obtain ⟨o, a, e1, e2, n, nf, m, w⟩ := h
    obtain ⟨u, hu⟩ := w.there
    show ∃ o a, d.own? = some o ∧ v = .ref a ∧ H0 a = none ∧ FR1 a = none ∧ a ∉ ρ1 ∧ OwnAt C ρ1 FR1 H1 o a
    refine ⟨o, a, e1, e2, n, ?_, fun z => ?_, w.stay x.pre x.fr fun u e => x.keep a u e m⟩
    · cases e3 : FR1 a with
      | none => rfl
      | some w' =>
        rcases x.nF a w' e3 with z | z
        · rw [nf] at z; cases z
        · rw [hu] at z; cases z
    · rcases x.nρ a z with z | z
      · exact m z
      · rw [hu] at z; cases z
theorem Sn.putO {i : Nat} {o : Own} {a : Addr} (h : Sn C ρ0 FR0 H0 ρ FR sl ah σ H) (hi : i < sl.length) (nd : NotD sl σ a) (y : H0 a = none) (nf : FR a = none) (m : a ∉ ρ) (w : OwnAt C ρ FR H o a) :
    Sn C ρ0 FR0 H0 ρ FR (sl.set i (some (.own o))) ah (σ.set i (some (.ref a))) H := by
  have na : ∀ (j : Nat) (o' : Own) (b : Addr), sl[j]? = some (some (.own o')) → σ[j]? = some (some (.ref b)) → b ≠ a := fun j o' b e1 e2 z => nd j o' e1 (z ▸ e2)
  refine ⟨⟨h.toRelH, by rw [List.length_set, List.length_set, h.slen], fun j d e => ?_, fun j o' e => ?_, fun j k o1 o2 b hjk e1 e2 e3 => ?_⟩, h.ext, fun j o' b e1 e2 => ?_⟩
  · have hij : i ≠ j := fun z => by
      subst z
      rw [List.getElem?_set_self hi] at e; cases e
    rw [List.getElem?_set_ne hij] at e
    rw [List.getElem?_set_ne hij]
    exact h.val j d e
  · by_cases hij : i = j
    · subst hij
      rw [List.getElem?_set_self hi] at e
      cases e
      exact ⟨a, by rw [List.getElem?_set_self (by rw [← h.slen]; exact hi)], w, nf, m⟩
    · rw [List.getElem?_set_ne hij] at e
      rw [List.getElem?_set_ne hij]
      exact h.own j o' e
  · by_cases hj : i = j
    · subst hj
      have hk : i ≠ k := hjk
      rw [List.getElem?_set_self (by rw [← h.slen]; exact hi)] at e3
      cases e3
      rw [List.getElem?_set_ne hk] at e2 ⊢
      exact fun z => na k o2 a e2 z rfl
    · rw [List.getElem?_set_ne hj] at e1 e3
      by_cases hk : i = k
      · subst hk
        rw [List.getElem?_set_self (by rw [← h.slen]; exact hi)]
        intro z
        cases z
        exact na j o1 a e1 e3 rfl
      · rw [List.getElem?_set_ne hk] at e2 ⊢
        exact h.dist j k o1 o2 b hjk e1 e2 e3
  · by_cases hij : i = j
    · subst hij
      rw [List.getElem?_set_self (by rw [← h.slen]; exact hi)] at e2
      cases e2
      exact y
    · rw [List.getElem?_set_ne hij] at e1 e2
      exact h.young j o' b e1 e2
theorem Sn.putB' {i : Nat} {b : Bool} {d : Ev.D} {v : V} (h : Sn C ρ0 FR0 H0 ρ FR sl ah σ H) (hi : i < sl.length) (w : Wt C b H0 ρ FR H d v) (nd : b = true → ∀ a, v = .ref a → NotD sl σ a) (e : putB sl i b d = some sl2) : Sn C ρ0 FR0 H0 ρ FR sl2 ah (σ.set i (some v)) H := by
  cases b with
  | false =>
    cases e
    exact h.set w
  | true =>
    have w : ∃ o a, d.own? = some o ∧ v = .ref a ∧ H0 a = none ∧ FR a = none ∧ a ∉ ρ ∧ OwnAt C ρ FR H o a := w
    obtain ⟨o, a, e1, rfl, n, nf, m, w⟩ := w
    have e : ((d.own?).map fun o => sl.set i (some (.own o))) = some sl2 := e
    rw [e1] at e
    cases e
    exact h.putO hi (nd rfl a rfl) n nf m w
theorem notD_own {i : Nat} {o : Option Cell} {a b : Addr} {c : Option V} (h : NotD sl σ b) (hl : sl.length = σ.length) (hab : c ≠ some (.ref b)) : NotD (sl.set i o) (σ.set i c) b := by
  intro j o' e z
  by_cases q : i = j
  · subst q
    by_cases hi : i < sl.length
    · rw [List.getElem?_set_self (by rw [← hl]; exact hi)] at z
      exact hab (Option.some.inj z)
    · rw [List.getElem?_eq_none (by rw [List.length_set]; omega)] at e; cases e
  · rw [List.getElem?_set_ne q] at e z
    exact h j o' e z
/-- the grade of a value that is to be stored -/
def gB (C : Cn) : Bool → Rs → TE
  | true => TN C
  | false => TF C
theorem wt_of {b : Bool} {d : Ev.D} {v : V} {ah' : AH} (rel : Sn C ρ0 FR0 H0 ρ FR sl ah σ H) (x : Ext ρ FR H ρ1 FR1 H1) (ho : b = true → ∃ o, d.own? = some o) (w : (if b then Rn C H ah' ρ1 FR1 H1 d v else Rp C ρ1 FR1 d v)) :
    Wt C b H0 ρ1 FR1 H1 d v ∧ (b = true → ∃ a, v = .ref a ∧ H a = none) := by
  cases b with
  | false => exact ⟨w, fun z => by cases z⟩
  | true =>
    obtain ⟨o, ho⟩ := ho rfl
    have w : Rn C H ah' ρ1 FR1 H1 d v := w
    unfold Rn at w
    rw [ho] at w
    obtain ⟨a, rfl, n, nf, m, w⟩ := w
    exact ⟨⟨o, a, ho, rfl, none_of rel.ext.there n, nf, m, w⟩, fun _ => ⟨a, rfl, n⟩⟩
theorem gB_run {b : Bool} {r : Rs} {d : Ev.D} {Q : VK} (rel : Rel C ρ FR sl ah σ H) (e : r sl ah = .ok d ah1) (q : ∀ ρ1 FR1 H1 v, Ext ρ FR H ρ1 FR1 H1 → RelH C ρ1 FR1 ah1 H1 → (if b then Rn C H ah1 ρ1 FR1 H1 d v else Rp C ρ1 FR1 d v) → Q v H1) : gB C b r σ H Q := by
  cases b with
  | false => exact ⟨ρ, FR, sl, ah, rel, by rw [e]; exact q⟩
  | true => exact ⟨ρ, FR, sl, ah, rel, by rw [e]; exact q⟩
theorem c_pset {y : Str} {a b : Expr} {ba bb : Bool} {ra rb : Rs} {px py pt : Pos} {kt k2 : Nat} {pt2 : Pos} (F : Fit C X) (hi : Stored X i x) (hj : Stored X j y) (hij : i ≠ j) (hx : X.env.scope.names.lookup x = some .local) (hy : X.env.scope.names.lookup y = some .local) (ha : PE X a (gB C ba ra)) (hb : PE X b (gB C bb rb)) (na : noStar a = true) (nb : noStar b = true)
    (hw : swappedStores [.Tuple [.Name x px, .Name y py] kt pt] (.Tuple [a, b] k2 pt2) X.env = pure (some [x, y])) (hs : swapsWithSole [.Tuple [.Name x px, .Name y py] kt pt] (.Tuple [a, b] k2 pt2) pos.line X.env = pure false) :
    PS X (.Assign [.Tuple [.Name x px, .Name y py] kt pt] (.Tuple [a, b] k2 pt2) pos) (Ts C (psetR i j ba bb ra rb)) := by
  refine ⟨fun pins s σ H E I q => (ps_par F.calm hi.nd hi.ix hj.ix hij hx hy (pa_cons ha (pa_cons hb pa_nil (star_cons nb)) (star_cons na)) hw hs).run pins s σ H E I ?_⟩
  obtain ⟨ρ0, FR0, H0, ρ, FR, sl, ah, h, q⟩ := q
  obtain ⟨fl, ah', e0⟩ := q.ok
  obtain ⟨d1, h1, e1, e2⟩ := bind_ok e0
  obtain ⟨d2, h2, e3, e4⟩ := bind_ok e2
  obtain ⟨e5, _⟩ := opt_ok e4
  obtain ⟨sl1, e6, e7⟩ := Option.bind_eq_some_iff.mp e5
  obtain ⟨sl2, e8, _⟩ := Option.map_eq_some_iff.mp e7
  have q : Se C ρ0 FR0 H0 E ((ra sl ah).bind fun x h => (rb sl h).bind fun y h => R.opt h ((putB sl i ba x).bind fun sl => (putB sl j bb y).map .nx)) := q
  rw [e1] at q
  have q : Se C ρ0 FR0 H0 E ((rb sl h1).bind fun y h => R.opt h ((putB sl i ba d1).bind fun sl => (putB sl j bb y).map .nx)) := q
  rw [e3] at q
  have q : Se C ρ0 FR0 H0 E (R.opt h2 ((putB sl i ba d1).bind fun sl => (putB sl j bb d2).map .nx)) := q
  rw [e6] at q
  have q : Se C ρ0 FR0 H0 E (R.opt h2 ((putB sl1 j bb d2).map .nx)) := q
  rw [e8] at q
  have o1 : ba = true → ∃ o, d1.own? = some o := fun z => by
    subst z
    have e6 : ((d1.own?).map fun o => sl.set i (some (.own o))) = some sl1 := e6
    obtain ⟨o, ho, _⟩ := Option.map_eq_some_iff.mp e6
    exact ⟨o, ho⟩
  have o2 : bb = true → ∃ o, d2.own? = some o := fun z => by
    subst z
    have e8 : ((d2.own?).map fun o => sl1.set j (some (.own o))) = some sl2 := e8
    obtain ⟨o, ho, _⟩ := Option.map_eq_some_iff.mp e8
    exact ⟨o, ho⟩
  refine gB_run h.toRel e1 fun ρ1 FR1 H1 v1 x1 rh1 w1 => ?_
  obtain ⟨t1, n1⟩ := wt_of h x1 o1 w1
  have s1 := h.step x1 rh1
  refine gB_run s1.toRel e3 fun ρ2 FR2 H2 v2 x2 rh2 w2 => ?_
  obtain ⟨t2, n2⟩ := wt_of s1 x2 o2 w2
  have s2 := s1.step x2 rh2
  have li : i < sl.length := by rw [h.slen, I.len]; exact hi.lt
  have lj : j < sl.length := by rw [h.slen, I.len]; exact hj.lt
  have l12 : sl1.length = sl.length := by
    unfold putB at e6
    split at e6
    · obtain ⟨o, _, rfl⟩ := Option.map_eq_some_iff.mp e6
      rw [List.length_set]
    · cases e6
      unfold setS
      rw [List.length_set]
  have s3 := s2.putB' li (t1.ext x2) (fun z a ea => by
    obtain ⟨a', ea', n⟩ := n1 z
    rw [ea] at ea'
    cases ea'
    exact notD_new h.toRel n) e6
  have s4 := s3.putB' (i := j) (by rw [l12]; exact lj) t2 (fun z a ea => by
    obtain ⟨a', ea', n⟩ := n2 z
    rw [ea] at ea'
    cases ea'
    have nd0 := notD_new s1.toRel n
    intro k o' e z'
    by_cases hq : i = k
    · subst hq
      rw [List.getElem?_set_self (by rw [← h.slen]; exact li)] at z'
      have z' := Option.some.inj (Option.some.inj z')
      subst z'
      cases ba with
      | false =>
        have e6 : some (setS sl i d1) = some sl1 := e6
        cases e6
        unfold setS at e
        rw [List.getElem?_set_self li] at e; cases e
      | true =>
        obtain ⟨o, b, _, eb, _, _, _, w⟩ := t1
        cases eb
        obtain ⟨u, hu⟩ := w.there
        rw [n] at hu; cases hu
    · rw [List.getElem?_set_ne hq] at z'
      have e' : sl[k]? = some (some (.own o')) := by
        unfold putB at e6
        split at e6
        · obtain ⟨o, _, rfl⟩ := Option.map_eq_some_iff.mp e6
          rw [List.getElem?_set_ne hq] at e; exact e
        · cases e6
          unfold setS at e
          rw [List.getElem?_set_ne hq] at e; exact e
      exact nd0 k o' e' z') e8
  exact ⟨v1, v2, rfl, q ρ2 FR2 _ H2 s4⟩
end
end Sd

end
section
set_option Elab.async false
set_option linter.all false
set_option maxRecDepth 100000
set_option maxHeartbeats 1000000
/-! Sd16: containers changed in place; loops. -/
namespace Sd
open PySem PySem.Spec L2 Ev
open PyProof.Rows hiding St

section
variable {C : Cn} {ρ0 ρ ρ1 ρ2 : List Addr} {FR0 FR FR1 FR2 H0 H H1 H2 : Hp} {ah ah1 ah2 : AH} {sl sl2 : Slots} {σ : L2.St} {X : Cx} {Q : VK} {e : Expr} {es : List Expr} {pos : Pos} {pins : List (Addr × Obj)} {s : Shared} {E : Ends} {r : Rs} {i j : Nat} {x : Str} {p p1 : Pos} {F : Fs} {G : Ev.Gl}
/-- a place: a slot's own container, or the box that a slot refers to; j: the slot -/
inductive Place : Ev.Pl → Nat → Prop
  | sl (j : Nat) : Place (.sl j) j
  | bx (j : Nat) : Place (.bx (.var j)) j
theorem getO_some {o : Own} (h : getO sl j = some o) : sl[j]? = some (some (.own o)) := by
  unfold getO at h
  split at h
  · rename_i o' h'; cases h; exact h'
  · cases h
theorem getS_some {d : Ev.D} (h : getS sl j = some d) : sl[j]? = some (some (.val d)) := by
  unfold getS at h
  split at h
  · rename_i o' h'; cases h; exact h'
  · cases h
theorem getB_some {d : Ev.D} {o : Own} (h : getB ah d = some o) : ∃ k, d = .ref k ∧ ah[k]? = some (.box o) := by
  cases d <;> simp only [getB, reduceCtorEq] at h
  split at h
  · rename_i o' h'
    cases h
    exact ⟨_, rfl, h'⟩
  · cases h
theorem Place.ok {pl : Ev.Pl} (P : Place pl j) {q : Ev.D × Own} {h' : AH} (h : Sn C ρ0 FR0 H0 ρ FR sl ah σ H) (e : atP F G sl ah pl = .ok q h') :
    h' = ah ∧ ∃ a, σ[j]? = some (some (.ref a)) ∧ OwnAt C ρ FR H q.2 a ∧ ∀ o' r u, putP sl ah pl q.1 o' = some r → OwnAt C ρ FR (upd H a u) o' a → Sn C ρ0 FR0 H0 ρ FR r.1 r.2 σ (upd H a u) := by
  cases P with
  | sl =>
    have e : R.opt ah ((getO sl j).map fun o => (Ev.D.non, o)) = .ok q h' := e
    obtain ⟨e1, rfl⟩ := opt_ok e
    obtain ⟨o, ho, rfl⟩ := Option.map_eq_some_iff.mp e1
    have hs := getO_some ho
    obtain ⟨a, e2, w, nf, m⟩ := h.own j o hs
    refine ⟨rfl, a, e2, w, fun o' r u ep w' => ?_⟩
    cases ep
    exact h.updO hs e2 w'
  | bx =>
    have e : (R.opt ah (getS sl j)).bind (fun d h => R.opt h ((getB h d).map fun o => (d, o))) = .ok q h' := e
    obtain ⟨d, h1, e1, e2⟩ := bind_ok e
    obtain ⟨e3, rfl⟩ := opt_ok e1
    obtain ⟨e4, rfl⟩ := opt_ok e2
    obtain ⟨o, ho, rfl⟩ := Option.map_eq_some_iff.mp e4
    obtain ⟨k, rfl, hk⟩ := getB_some ho
    obtain ⟨v, ev, rp⟩ := h.val j _ (getS_some e3)
    cases rp with
    | @ref _ a hr =>
      obtain ⟨b, e5, w⟩ := h.box k o hk
      rw [hr] at e5
      cases e5
      refine ⟨rfl, a, ev, w, fun o' r u ep w' => ?_⟩
      cases ep
      exact h.updB hk hr w'
/-! ### o[k] = e -/
def setiR (F : Fs) (G : Ev.Gl) (pl : Ev.Pl) (re rk : Rs) : Sf := fun sl h => (re sl h).bind fun v h => (rk sl h).bind fun k h => (atP F G sl h pl).bind fun q h =>
  R.opt h ((setOwn q.2 k v).bind fun o => putP sl h pl q.1 o) |>.bind fun r _ => .ok (.nx r.1) r.2
theorem c_seti {o k : Expr} {tp po : Pos} {re rk : Rs} {pl : Ev.Pl} (W : Fit C X) (P : Place pl j) (hN : X.N[j]? = some x) (hv : Vis X.env.scope x) (hd : (x == ("__debug__" : Str)) = false) (hcd : (x == ("__classdict__" : Str)) = false) (he : PE X e (TF C re)) (hk : PE X k (TF C rk))
    (hs : swapsWithSole [.Subscript (.Name x po) k tp] e pos.line X.env = pure false) (hw : swappedStores [.Subscript (.Name x po) k tp] e X.env = pure none)
    (ha : ∀ v, assign (.Subscript (.Name x po) k tp) X.env v = (do
      let ov ← holding [v] (eval (.Name x po) X.env)
      let iv ← holding [v, ov] (eval k X.env)
      standAt tp
      holding [v, ov, iv] (setItem ov iv v)
      release [v, ov, iv] [])) : PS X (.Assign [.Subscript (.Name x po) k tp] e pos) (Ts C (setiR F G pl re rk)) := by
  refine PS.imp (ps_asg he (pg_sub (pe_var hN hv hd hcd) hk (pset_st W) ha) hs hw rfl) fun E σ H ⟨ρ0, FR0, H0, ρ, FR, sl, ah, h, q⟩ => ⟨ρ, FR, sl, ah, h.toRel, ?_⟩
  obtain ⟨fl, ah', e0⟩ := q.ok
  obtain ⟨v, h1, e1, e2⟩ := bind_ok e0
  obtain ⟨kd, h2, e3, e4⟩ := bind_ok e2
  obtain ⟨qq, h3, e5, e6⟩ := bind_ok e4
  obtain ⟨rr, h4, e7, e8⟩ := bind_ok e6
  obtain ⟨e9, e10⟩ := opt_ok e7
  obtain ⟨c', e11, e12⟩ := Option.bind_eq_some_iff.mp e9
  cases e8
  have q : Se C ρ0 FR0 H0 E (setiR F G pl re rk sl ah) := q
  rw [e0] at q
  rw [e1]
  intro ρ1 FR1 H1 xv x1 rh1 w1
  have s1 := h.step x1 rh1
  have x2e : ∀ ρ2 FR2 H2, Ext ρ1 FR1 H1 ρ2 FR2 H2 → RelH C ρ2 FR2 h2 H2 → h3 = h2 ∧ ∃ a, σ[j]? = some (some (.ref a)) ∧ OwnAt C ρ2 FR2 H2 qq.2 a ∧ ∀ o' r u, putP sl h2 pl qq.1 o' = some r → OwnAt C ρ2 FR2 (upd H2 a u) o' a → Sn C ρ0 FR0 H0 ρ2 FR2 r.1 r.2 σ (upd H2 a u) := fun ρ2 FR2 H2 x2 rh2 => P.ok (s1.step x2 rh2) e5
  -- the container's own reference
  have hσ : ∃ a, σ[j]? = some (some (.ref a)) := by
    cases P with
    | sl =>
      have e5 : R.opt h2 ((getO sl j).map fun o => (Ev.D.non, o)) = .ok qq h3 := e5
      obtain ⟨e13, _⟩ := opt_ok e5
      obtain ⟨o, ho, _⟩ := Option.map_eq_some_iff.mp e13
      obtain ⟨a, e14, _⟩ := h.own j o (getO_some ho)
      exact ⟨a, e14⟩
    | bx =>
      have e5 : (R.opt h2 (getS sl j)).bind (fun d h => R.opt h ((getB h d).map fun o => (d, o))) = .ok qq h3 := e5
      obtain ⟨d, _, e13, e14⟩ := bind_ok e5
      obtain ⟨e15, _⟩ := opt_ok e13
      obtain ⟨e16, _⟩ := opt_ok e14
      obtain ⟨o, ho, _⟩ := Option.map_eq_some_iff.mp e16
      obtain ⟨k, rfl, _⟩ := getB_some ho
      obtain ⟨v, ev, rp⟩ := h.val j _ (getS_some e15)
      cases rp with
      | ref hr => exact ⟨_, ev⟩
  obtain ⟨a, hσ⟩ := hσ
  refine ⟨.ref a, hσ, ρ1, FR1, sl, h1, s1.toRel, ?_⟩
  rw [e3]
  intro ρ2 FR2 H2 xk x2 rh2 w2
  obtain ⟨rfl, a', ha', w, put⟩ := x2e ρ2 FR2 H2 x2 rh2
  rw [hσ] at ha'
  cases ha'
  refine ⟨ρ2, FR2, h3, a, qq.2, kd, v, c', rfl, rh2, w, w2, Rp.mono x2.fr x2.pre w1, e11, fun u hu => ?_⟩
  exact q ρ2 FR2 σ _ (put c' rr u e12 hu)

/-! ### o.append(e), o.extend(e) -/
/-- a list read in place is that before e as well -/
def Early (F : Fs) (G : Ev.Gl) (pl : Ev.Pl) (re : Rs) : Prop := ∀ sl h v h1 q h2, re sl h = .ok v h1 → atP F G sl h1 pl = .ok q h2 → atP F G sl h pl = .ok q h
theorem early_sl {re : Rs} : Early F G (.sl j) re := fun sl h v h1 q h2 e1 e2 => by
  have e2 : R.opt h1 ((getO sl j).map fun o => (Ev.D.non, o)) = .ok q h2 := e2
  obtain ⟨e3, _⟩ := opt_ok e2
  show R.opt h ((getO sl j).map fun o => (Ev.D.non, o)) = .ok q h
  rw [e3]; rfl
theorem early_q {re : Rs} {pl : Ev.Pl} (P : Place pl j) (hq : Quiet re) : Early F G pl re := fun sl h v h1 q h2 e1 e2 => by
  have := hq _ _ _ _ e1
  subst this
  have e3 : h2 = h1 := by
    cases P with
    | sl =>
      have e2 : R.opt h1 ((getO sl j).map fun o => (Ev.D.non, o)) = .ok q h2 := e2
      exact (opt_ok e2).2
    | bx =>
      have e2 : (R.opt h1 (getS sl j)).bind (fun d h => R.opt h ((getB h d).map fun o => (d, o))) = .ok q h2 := e2
      obtain ⟨d, h3, e3, e4⟩ := bind_ok e2
      exact (opt_ok e4).2.trans (opt_ok e3).2
  rw [e2, e3]
def appR (F : Fs) (G : Ev.Gl) (pl : Ev.Pl) (re : Rs) (f : Own → Ev.D → Option Own) : Sf := fun sl h => (re sl h).bind fun v h => (atP F G sl h pl).bind fun q h =>
  R.opt h ((f q.2 v).bind fun o => putP sl h pl q.1 o) |>.bind fun r _ => .ok (.nx r.1) r.2
theorem mt_extR (W : Fit C X) : MtR X "list.extend" fun x vs H Q => ∃ l b xs zs, x = .ref l ∧ vs = [.ref b] ∧ H l = some (.lst xs) ∧ Rd H b (.lst zs) ∧ xs.length + zs.length ≤ sizeLine ∧ Q .non (upd H l (.lst (xs ++ zs))) := by
  intro pins s σ H x vs v us Q I rx rv ⟨l, b, xs, zs, ex, ev, hH, hB, hz, q⟩
  subst ex ev
  cases rx
  obtain ⟨u, rfl, ru⟩ := vals1 rv
  cases ru
  obtain ⟨z, its, n, r, hl, e⟩ := I.lstM hH
  obtain ⟨z2, its2, n2, r2, hl2, e2⟩ := rd_lst I hB
  have hsz : its.toArray.size + its2.toArray.size ≤ sizeLine := by simp only [List.size_toArray]; omega
  have hlong : ¬ (!its.toArray.isEmpty && Builtin.List.listTooLong (its.toArray.size + its2.toArray.size)) = true := by
    rw [notLongL hsz]
    simp
  exact call_meets PySem.F.slot_list_extend ⟨_, e, rfl⟩ PySem.F.entry_list_extend (PySem.F.args_list_extend_2 _ _)
    (AutoSeq1.list_extend_list_list_0 l its.toArray n b its2.toArray n2 hlong (by rw [List.size_toArray]; omega) (by omega)) ⟨e, e2, .non, _, I.lset (its' := its ++ its2) hH e (by simp) (r.append r2) (by rw [List.length_append]; omega), rfl, q⟩
/-- a list's method by one argument, its end dropped -/
theorem c_meth {m : Str} {id : String} {rr : V → List V → Hp → VK → Prop} {f : Own → Ev.D → Option Own} {po apos cpos : Pos} {re : Rs} {pl : Ev.Pl} (P : Place pl j) (hN : X.N[j]? = some x) (hv : Vis X.env.scope x) (hd : (x == ("__debug__" : Str)) = false) (hcd : (x == ("__classdict__" : Str)) = false) (he : PE X e (TF C re)) (hse : noStar e = true) (hq : Early F G pl re)
    (slot : PySem.Slot "list" m id) (hty : typeOf (.builtin id) = pure (.type "method_descriptor")) (hm : MtR X id rr) (hl : (apos.endLine == cpos.line) = true)
    (hf : ∀ c v c', f c v = some c' → ∃ xs, c = .lst xs)
    (hr : ∀ {ρ FR ah H a c v c' y} {Q : VK}, RelH C ρ FR ah H → OwnAt C ρ FR H c a → Rp C ρ FR v y → f c v = some c' → (∀ u, OwnAt C ρ FR (upd H a u) c' a → Q .non (upd H a u)) → rr (.ref a) [y] H Q) :
    PS X (.Expr (.Call (.Attribute (.Name x po) m apos) [e] [] cpos) pos) (Ts C (appR F G pl re f)) := by
  refine PS.imp (ps_expr (pe_bm (PySem.F.plainAttrs_list) slot hty hm (pe_var hN hv hd hcd) (pa_cons he pa_nil (star_cons hse)) rfl (by rw [star_cons hse]; rfl) hl (star_cons hse) rfl) rfl) fun E σ H ⟨ρ0, FR0, H0, ρ, FR, sl, ah, h, q⟩ => ?_
  obtain ⟨fl, ah', e0⟩ := q.ok
  obtain ⟨v, h1, e1, e2⟩ := bind_ok e0
  obtain ⟨qq, h3, e5, e6⟩ := bind_ok e2
  obtain ⟨r4, h4, e7, e8⟩ := bind_ok e6
  obtain ⟨e9, _⟩ := opt_ok e7
  obtain ⟨c', e11, e12⟩ := Option.bind_eq_some_iff.mp e9
  cases e8
  have q : Se C ρ0 FR0 H0 E (appR F G pl re f sl ah) := q
  rw [e0] at q
  obtain ⟨_, a, hσ, w0, _⟩ := P.ok h (hq _ _ _ _ _ _ e1 e5)
  obtain ⟨xs, hxs⟩ := hf _ _ _ e11
  refine ⟨.ref a, hσ, .inl ⟨rfl, ?_⟩, ρ, FR, sl, ah, h.toRel, ?_⟩
  · rw [hxs] at w0
    obtain ⟨vs, hv, _⟩ := w0
    exact ⟨vs, SqL.of hv⟩
  · rw [e1]
    intro ρ1 FR1 H1 y x1 rh1 w1
    obtain ⟨rfl, a', ha', w, put⟩ := P.ok (h.step x1 rh1) e5
    rw [hσ] at ha'
    cases ha'
    exact hr rh1 w w1 e11 fun u hu => q ρ1 FR1 σ _ (put c' r4 u e12 hu)
theorem c_app {po apos cpos : Pos} {re : Rs} {pl : Ev.Pl} (P : Place pl j) (hN : X.N[j]? = some x) (hv : Vis X.env.scope x) (hd : (x == ("__debug__" : Str)) = false) (hcd : (x == ("__classdict__" : Str)) = false) (he : PE X e (TF C re)) (hse : noStar e = true) (hq : Early F G pl re) (hl : (apos.endLine == cpos.line) = true) :
    PS X (.Expr (.Call (.Attribute (.Name x po) "append" apos) [e] [] cpos) pos) (Ts C (appR F G pl re appOwn)) := by
  refine c_meth P hN hv hd hcd he hse hq PySem.F.slot_list_append PySem.F.type_list_append mt_append hl (fun c v c' e => ?_) fun {ρ FR ah H a c v c' y Q} rh w r e q => ?_
  · cases c with
    | lst xs => exact ⟨xs, rfl⟩
    | dic _ _ => cases e
  · cases c with
    | dic _ _ => cases e
    | lst xs =>
      simp only [appOwn] at e
      split at e
      · rename_i hz
        cases e
        obtain ⟨vs, ha, l⟩ := w
        exact ⟨a, vs, y, rfl, rfl, ha, by rw [← l.length, ← line_eq]; exact hz, q _ ⟨_, upd_same, l.append (.cons r .nil)⟩⟩
      · cases e
theorem c_ext (W : Fit C X) {po apos cpos : Pos} {re : Rs} {pl : Ev.Pl} (P : Place pl j) (hN : X.N[j]? = some x) (hv : Vis X.env.scope x) (hd : (x == ("__debug__" : Str)) = false) (hcd : (x == ("__classdict__" : Str)) = false) (he : PE X e (TF C re)) (hse : noStar e = true) (hq : Early F G pl re) (hl : (apos.endLine == cpos.line) = true) :
    PS X (.Expr (.Call (.Attribute (.Name x po) "extend" apos) [e] [] cpos) pos) (Ts C (appR F G pl re extOwn)) := by
  refine c_meth P hN hv hd hcd he hse hq PySem.F.slot_list_extend PySem.F.type_list_extend (mt_extR W) hl (fun c v c' e => ?_) fun {ρ FR ah H a c v c' y Q} rh w r e q => ?_
  · cases c with
    | lst xs => exact ⟨xs, rfl⟩
    | dic _ _ => cases e
  · cases c with
    | dic _ _ => cases e
    | lst xs =>
      cases v <;> simp only [extOwn, reduceCtorEq] at e
      split at e
      · rename_i hz
        cases e
        obtain ⟨vs, ha, l⟩ := w
        cases r with
        | lst h1 h2 => exact ⟨a, _, vs, _, rfl, rfl, ha, Rd.sub rh.sub h1, by rw [← l.length, ← h2.length, ← line_eq]; exact hz, q _ ⟨_, upd_same, l.append h2⟩⟩
      · cases e
/-! ### p.append(q.pop(a)) -/
def apppopR (F : Fs) (G : Ev.Gl) (pp pq : Ev.Pl) (ra : Rs) : Sf := fun sl h => (ra sl h).bind fun v h => (atP F G sl h pq).bind fun z h =>
  R.opt h ((popOwn z.2 (some v)).bind fun o => (putP sl h pq z.1 o.2).map fun r => (o.1, r)) |>.bind fun r _ =>
    (atP F G r.2.1 r.2.2 pp).bind fun z h => R.opt h ((appOwn z.2 r.1).bind fun o => putP r.2.1 h pp z.1 o) |>.bind fun r _ => .ok (.nx r.1) r.2
theorem c_apppop {y : Str} {po pq apos cpos apos2 cpos2 : Pos} {ra : Rs} {jp jq : Nat} (hne : jp ≠ jq) (hN : X.N[jp]? = some x) (hv : Vis X.env.scope x) (hd : (x == ("__debug__" : Str)) = false) (hcd : (x == ("__classdict__" : Str)) = false)
    (hN2 : X.N[jq]? = some y) (hv2 : Vis X.env.scope y) (hd2 : (y == ("__debug__" : Str)) = false) (hcd2 : (y == ("__classdict__" : Str)) = false) (he : PE X e (TF C ra)) (hse : noStar e = true) (hl : (apos.endLine == cpos.line) = true) (hl2 : (apos2.endLine == cpos2.line) = true) :
    PS X (.Expr (.Call (.Attribute (.Name x po) "append" apos) [.Call (.Attribute (.Name y pq) "pop" apos2) [e] [] cpos2] [] cpos) pos) (Ts C (apppopR F G (.sl jp) (.sl jq) ra)) := by
  refine PS.imp (ps_expr (pe_bm (PySem.F.plainAttrs_list) PySem.F.slot_list_append PySem.F.type_list_append mt_append (pe_var hN hv hd hcd)
    (pa_cons (pe_bm (PySem.F.plainAttrs_list) PySem.F.slot_list_pop PySem.F.type_list_pop mt_popAt (pe_var hN2 hv2 hd2 hcd2) (pa_cons he pa_nil (star_cons hse)) rfl (by rw [star_cons hse]; rfl) hl2 (star_cons hse) rfl) pa_nil) rfl rfl hl rfl rfl) rfl) fun E σ H ⟨ρ0, FR0, H0, ρ, FR, sl, ah, h, q⟩ => ?_
  obtain ⟨fl, ah', e0⟩ := q.ok
  obtain ⟨v, h1, e1, e2⟩ := bind_ok e0
  obtain ⟨z1, h2, e3, e4⟩ := bind_ok e2
  obtain ⟨r1, h3, e5, e6⟩ := bind_ok e4
  obtain ⟨z2, h4, e7, e8⟩ := bind_ok e6
  obtain ⟨r2, h5, e9, e10⟩ := bind_ok e8
  obtain ⟨e11, _⟩ := opt_ok e5
  obtain ⟨⟨d, o2⟩, e12, e13⟩ := Option.bind_eq_some_iff.mp e11
  obtain ⟨r1', e14, rfl⟩ := Option.map_eq_some_iff.mp e13
  obtain ⟨e15, _⟩ := opt_ok e9
  obtain ⟨o3, e16, e17⟩ := Option.bind_eq_some_iff.mp e15
  cases e10
  have q : Se C ρ0 FR0 H0 E (apppopR F G (.sl jp) (.sl jq) ra sl ah) := q
  rw [e0] at q
  -- the popped list
  have e3' : R.opt h1 ((getO sl jq).map fun o => (Ev.D.non, o)) = .ok z1 h2 := e3
  obtain ⟨e18, eh2⟩ := opt_ok e3'
  obtain ⟨oq, hoq, rfl⟩ := Option.map_eq_some_iff.mp e18
  obtain ⟨xs, rfl⟩ : ∃ xs, oq = .lst xs := by
    cases oq with
    | lst xs => exact ⟨xs, rfl⟩
    | dic _ _ => cases v <;> cases e12
  cases v <;> simp only [popOwn, reduceCtorEq] at e12
  rename_i iv
  split at e12
  · rename_i hz
    obtain ⟨jj, hj, e12⟩ := Option.bind_eq_some_iff.mp e12
    obtain ⟨d', hd', e12⟩ := Option.map_eq_some_iff.mp e12
    cases e12
    cases e14
    -- the list that grows
    have e7' : R.opt h2 ((getO (sl.set jq (some (.own (.lst (xs.eraseIdx jj))))) jp).map fun o => (Ev.D.non, o)) = .ok z2 h4 := e7
    obtain ⟨e19, eh4⟩ := opt_ok e7'
    obtain ⟨op, hop, rfl⟩ := Option.map_eq_some_iff.mp e19
    have hsp : sl[jp]? = some (some (.own op)) := by
      have := getO_some hop
      rw [List.getElem?_set_ne (Ne.symm hne)] at this
      exact this
    obtain ⟨ws, rfl⟩ : ∃ ws, op = .lst ws := by
      cases op with
      | lst xs => exact ⟨xs, rfl⟩
      | dic _ _ => cases e16
    simp only [appOwn] at e16
    split at e16
    · rename_i hz2
      cases e16
      cases e17
      obtain ⟨ap, hap, ⟨vp, hvp, _⟩, _, _⟩ := h.own jp _ hsp
      obtain ⟨aq, haq, ⟨vq, hvq, _⟩, _, _⟩ := h.own jq _ (getO_some hoq)
      refine ⟨.ref ap, hap, .inl ⟨rfl, vp, SqL.of hvp⟩, .ref aq, haq, .inl ⟨rfl, vq, SqL.of hvq⟩, ρ, FR, sl, ah, h.toRel, ?_⟩
      rw [e1]
      intro ρ1 FR1 H1 y x1 rh1 w1
      have w1 : Rp C ρ1 FR1 (.int iv) y := w1
      cases w1
      have s1 := h.step x1 rh1
      obtain ⟨aq', haq', ⟨vq', hvq', lq⟩, _, _⟩ := s1.own jq _ (getO_some hoq)
      rw [haq] at haq'
      cases haq'
      obtain ⟨yv, hyv, ry⟩ := lq.get hd'
      have hb : -(16777216 : Int) ≤ iv ∧ iv < 16777216 := by
        unfold ixOf at hj
        have hz : xs.length ≤ 16777216 := hz
        split at hj
        · split at hj
          · constructor <;> omega
          · cases hj
        · split at hj
          · constructor <;> omega
          · cases hj
      refine ⟨aq, vq', iv, jj, yv, rfl, rfl, hvq', by omega, by omega, ?_, hyv, ?_⟩
      · unfold ixOf at hj
        rw [← lq.length]
        by_cases h0 : 0 ≤ iv
        · rw [if_pos h0] at hj
          split at hj
          · rename_i hlt
            cases hj
            exact seqIndex_of h0 hlt
          · cases hj
        · rw [if_neg h0] at hj
          split at hj
          · rename_i hlt
            cases hj
            exact seqIndex_neg (by omega) hlt
          · cases hj
      · have s2 := s1.updO (getO_some hoq) haq (o' := .lst (xs.eraseIdx jj)) (u := .lst (vq'.eraseIdx jj)) ⟨_, upd_same, lq.eraseIdx jj⟩
        have hsp2 : (sl.set jq (some (.own (.lst (xs.eraseIdx jj)))))[jp]? = some (some (.own (.lst ws))) := by
          rw [List.getElem?_set_ne (Ne.symm hne)]; exact hsp
        obtain ⟨ap', hap', ⟨vp', hvp', lp⟩, _, _⟩ := s2.own jp _ hsp2
        rw [hap] at hap'
        cases hap'
        refine ⟨ap, vp', yv, rfl, rfl, hvp', by rw [← lp.length, ← line_eq]; exact hz2, ?_⟩
        have s3 := s2.updO hsp2 hap (o' := .lst (ws ++ [d])) (u := .lst (vp' ++ [yv])) ⟨_, upd_same, lp.append (.cons ry .nil)⟩
        rw [← eh4.trans eh2] at s3
        exact q ρ1 FR1 σ _ s3
    · cases e16
  · cases e12

/-! ### loops -/
/-- a later entry -/
theorem Sn.rebase (h : Sn C ρ0 FR0 H0 ρ FR sl ah σ H) : ∃ H', Sn C ρ FR H' ρ FR sl ah σ H ∧ ∀ (E : Ends) (r : R Fl), Se C ρ0 FR0 H0 E r → Se C ρ FR H' E r := by
  classical
  let own : Addr → Prop := fun a => ∃ (i : Nat) (o : Own), sl[i]? = some (some (.own o)) ∧ σ[i]? = some (some (.ref a))
  have y : ∀ a, own a → H0 a = none := fun a ⟨i, o, e1, e2⟩ => h.young i o a e1 e2
  have ne : ∀ a, (if own a then none else H a) = none → H0 a = none := fun a e => by
    by_cases ha : own a
    · exact y a ha
    · rw [if_neg ha] at e; exact none_of h.ext.there e
  have sm : ∀ a o, H0 a = some o → ∃ o', (if own a then none else H a) = some o' := fun a o e => by
    by_cases ha : own a
    · rw [y a ha] at e; cases e
    · rw [if_neg ha]; exact h.ext.there a o e
  have ex : ∀ {ρ2 : List Addr} {FR2 H2 : Hp}, Ext ρ FR (fun a => if own a then none else H a) ρ2 FR2 H2 → Ext ρ0 FR0 H0 ρ2 FR2 H2 := fun {ρ2 FR2 H2} x => by
    refine ⟨h.ext.pre.trans x.pre, h.ext.fr.trans x.fr, fun a o e n => ?_, fun a o e => ?_, fun a m => ?_, fun a o e => ?_⟩
    · have ha : ¬ own a := fun z => by rw [y a z] at e; cases e
      refine x.keep a o (by show (if own a then none else H a) = some o; rw [if_neg ha]; exact h.ext.keep a o e n) fun m => ?_
      rcases h.ext.nρ a m with z | z
      · exact n z
      · rw [z] at e; cases e
    · obtain ⟨o1, e1⟩ := sm a o e
      exact x.there a o1 e1
    · rcases x.nρ a m with z | z
      · exact h.ext.nρ a z
      · exact .inr (ne a z)
    · rcases x.nF a o e with z | z
      · exact h.ext.nF a o z
      · exact .inr (ne a z)
  have sn : ∀ {ρ2 : List Addr} {FR2 H2 : Hp} {sl2 : Slots} {ah2 : AH} {σ2 : L2.St}, Sn C ρ FR (fun a => if own a then none else H a) ρ2 FR2 sl2 ah2 σ2 H2 → Sn C ρ0 FR0 H0 ρ2 FR2 sl2 ah2 σ2 H2 := fun {ρ2 FR2 H2 sl2 ah2 σ2} z => ⟨z.toRel, ex z.ext, fun i o a e1 e2 => ne a (z.young i o a e1 e2)⟩
  refine ⟨fun a => if own a then none else H a, ⟨h.toRel, ⟨Pre.refl, Sub.refl, fun a o e n => ?_, fun a o e => ?_, fun _ m => .inl m, fun _ _ e => .inl e⟩, fun i o a e1 e2 => if_pos ⟨i, o, e1, e2⟩⟩, fun E r q => ?_⟩
  · have e : (if own a then none else H a) = some o := e
    by_cases ha : own a
    · rw [if_pos ha] at e; cases e
    · rw [if_neg ha] at e; exact e
  · have e : (if own a then none else H a) = some o := e
    by_cases ha : own a
    · rw [if_pos ha] at e; cases e
    · rw [if_neg ha] at e; exact ⟨o, e⟩
  · cases r with
    | ok x ah2 =>
      cases x with
      | nx sl2 => exact fun ρ2 FR2 σ2 H2 z => q ρ2 FR2 σ2 H2 (sn z)
      | brk sl2 => exact fun ρ2 FR2 σ2 H2 z => q ρ2 FR2 σ2 H2 (sn z)
      | cont sl2 => exact fun ρ2 FR2 σ2 H2 z => q ρ2 FR2 σ2 H2 (sn z)
      | ret d => exact fun ρ2 FR2 v H2 z rh w => q ρ2 FR2 v H2 (ex z) rh w
    | ex _ _ => exact q
    | bad => exact q
/-- behind a body, in a loop -/
theorem Se.loop {r : R Fl} {k : Slots → AH → R Fl} (h : Se C ρ0 FR0 H0 E (r.bind fun x h => match x with
      | .nx sl => k sl h
      | .cont sl => k sl h
      | .brk sl => .ok (.nx sl) h
      | .ret d => .ok (.ret d) h)) {N : L2.St → Hp → Prop} (hN : ∀ ρ FR sl ah σ H, Sn C ρ0 FR0 H0 ρ FR sl ah σ H → Se C ρ0 FR0 H0 E (k sl ah) → N σ H) : Se C ρ0 FR0 H0 { E with nx := N, ct := N, bk := E.nx } r := by
  cases r with
  | ok x ah2 =>
    cases x with
    | nx sl2 => exact fun ρ2 FR2 σ2 H2 z => hN _ _ _ _ _ _ z h
    | brk sl2 => exact fun ρ2 FR2 σ2 H2 z => h ρ2 FR2 σ2 H2 z
    | cont sl2 => exact fun ρ2 FR2 σ2 H2 z => hN _ _ _ _ _ _ z h
    | ret d => exact h
  | ex _ _ => exact h
  | bad => exact h
def forS (itr : Rls) (t : Tg) (rb : Sf) : Sf := fun sl h => (itr sl h).bind fun ds h => forR (fun d sl h => (R.opt h (setTg sl t d)).bind fun sl h => rb sl h) ds sl h
theorem c_for {tg it : Expr} {body : List Stmt} {t : Tg} {g : L2.TG} {itr : Rls} {rb : Sf} (hp : PassesOwn (model X.prog X.w) X.A X.env X.xe) (W : Fit C X) (hi : PI X tg it (Ti C (isTp t) itr)) (hg : PGd C X tg t g) (hb : PSs X body (Ts C rb)) (hs : ∀ env x, foldedSetIterable it env x = pure x) :
    PS X (.For tg it body [] pos) (Ts C (forS itr t rb)) := by
  refine PS.imp (ps_for hp W.calm hi hg.pg hb (hs _)) fun E σ H ⟨ρ0, FR0, H0, ρ, FR, sl, ah, h, q⟩ => ⟨ρ, FR, sl, ah, h.toRel, ?_⟩
  obtain ⟨fl, ah', e0⟩ := q.ok
  obtain ⟨ds, h1, e1, e2⟩ := bind_ok e0
  have q : Se C ρ0 FR0 H0 E ((itr sl ah).bind fun ds h => forR (fun d sl h => (R.opt h (setTg sl t d)).bind fun sl h => rb sl h) ds sl h) := q
  rw [e1] at q
  have q : Se C ρ0 FR0 H0 E (forR (fun d sl h => (R.opt h (setTg sl t d)).bind fun sl h => rb sl h) ds sl h1) := q
  refine ⟨ds, h1, e1, fun ρ1 FR1 H1 J x rh wk => ?_⟩
  obtain ⟨Hb, s1, hq⟩ := (h.step x rh).rebase
  have q := hq _ _ q
  refine ⟨fun i m σ' H' => m = ds.length - i ∧ i ≤ ds.length ∧ ∃ ρ' FR' sl' ah', Sn C ρ1 FR1 Hb ρ' FR' sl' ah' σ' H' ∧ Se C ρ1 FR1 Hb E (forR (fun d sl h => (R.opt h (setTg sl t d)).bind fun sl h => rb sl h) (ds.drop i) sl' ah'),
    ⟨_, rfl, Nat.zero_le _, ρ1, FR1, sl, h1, s1, by rw [List.drop_zero]; exact q⟩, ?_⟩
  rintro i m σ' H' ⟨rfl, hile, ρ', FR', sl', ah2, s2, q2⟩
  obtain ⟨w1, w2⟩ := wk ρ' FR' ah2 H' s2.ext.pre s2.ext.fr s2.toRelH i
  by_cases hlt : i < ds.length
  · have hd : ds[i]? = some ds[i] := List.getElem?_eq_getElem hlt
    obtain ⟨go, yld⟩ := w2 _ hd
    rw [List.drop_eq_getElem_cons hlt] at q2
    have q2 : Se C ρ1 FR1 Hb E (((R.opt ah2 (setTg sl' t ds[i])).bind fun sl h => rb sl h).bind fun x h => match x with
      | .nx sl => forR (fun d sl h => (R.opt h (setTg sl t d)).bind fun sl h => rb sl h) (ds.drop (i + 1)) sl h
      | .cont sl => forR (fun d sl h => (R.opt h (setTg sl t d)).bind fun sl h => rb sl h) (ds.drop (i + 1)) sl h
      | .brk sl => .ok (.nx sl) h
      | .ret d => .ok (.ret d) h) := q2
    have q3 := q2.loop (N := fun σ'' H'' => ∃ ρ' FR' sl' ah', Sn C ρ1 FR1 Hb ρ' FR' sl' ah' σ'' H'' ∧ Se C ρ1 FR1 Hb E (forR (fun d sl h => (R.opt h (setTg sl t d)).bind fun sl h => rb sl h) (ds.drop (i + 1)) sl' ah')) fun ρ FR sl ah σ H a b => ⟨ρ, FR, sl, ah, a, b⟩
    refine .inr ⟨go, _, fun σ'' H'' hh => ⟨_, by omega, rfl, hlt, hh⟩, fun v H2 hy => ?_⟩
    obtain ⟨FR2, x2, rh2, r2⟩ := yld v H2 hy
    have s3 := s2.step x2 rh2
    obtain ⟨fl2, ah3, e3⟩ := q3.ok
    obtain ⟨sl3, ah5, e5, e6⟩ := bind_ok e3
    obtain ⟨e7, eh⟩ := opt_ok e5
    subst eh
    rw [e7] at q3
    exact s3.tg hg e7 r2 fun σ2 s4 => ⟨ρ1, FR1, Hb, ρ', FR2, sl3, ah5, s4, q3⟩
  · have e : i = ds.length := by omega
    subst e
    rw [List.drop_length] at q2
    exact .inl ⟨w1 (Nat.le_refl _), q2 ρ' FR' σ' H' s2⟩
def whS (rt : Slots → AH → R Bool) (rb : Sf) : Sf := fun sl h => whR rt rb laps sl h
theorem c_while {c : Expr} {body : List Stmt} {rt : Slots → AH → R Bool} {rb : Sf} (hp : PassesOwn (model X.prog X.w) X.A X.env X.xe) (hc : PT X c (Tt C rt)) (hb : PSs X body (Ts C rb)) : PS X (.While c body [] pos) (Ts C (whS rt rb)) := by
  refine PS.imp (ps_while hp hc hb) fun E σ H ⟨ρ0, FR0, H0, ρ, FR, sl, ah, h, q⟩ => ?_
  have q : Se C ρ0 FR0 H0 E (whR rt rb laps sl ah) := q
  refine ⟨fun m σ' H' => ∃ ρ' FR' sl' ah', Sn C ρ0 FR0 H0 ρ' FR' sl' ah' σ' H' ∧ Se C ρ0 FR0 H0 E (whR rt rb m sl' ah'), ⟨laps, ρ, FR, sl, ah, h, q⟩, ?_⟩
  rintro m σ' H' ⟨ρ', FR', sl', ah', s1, q1⟩
  cases m with
  | zero => exact q1.elim
  | succ m =>
    have q1 : Se C ρ0 FR0 H0 E ((rt sl' ah').bind fun t h => if t then (rb sl' h).bind fun x h => match x with
      | .nx sl => whR rt rb m sl h
      | .cont sl => whR rt rb m sl h
      | .brk sl => .ok (.nx sl) h
      | .ret d => .ok (.ret d) h
      else .ok (.nx sl') h) := q1
    obtain ⟨fl, ah2, e0⟩ := q1.ok
    obtain ⟨t, h1, e1, e2⟩ := bind_ok e0
    refine ⟨ρ', FR', sl', ah', s1.toRel, ?_⟩
    rw [e1] at q1 ⊢
    intro ρ1 FR1 H1 x rh
    have s2 := s1.step x rh
    cases t with
    | true =>
      have q1 : Se C ρ0 FR0 H0 E ((rb sl' h1).bind fun x h => match x with
        | .nx sl => whR rt rb m sl h
        | .cont sl => whR rt rb m sl h
        | .brk sl => .ok (.nx sl) h
        | .ret d => .ok (.ret d) h) := q1
      exact ⟨fun σ'' H'' => ∃ ρ' FR' sl' ah', Sn C ρ0 FR0 H0 ρ' FR' sl' ah' σ'' H'' ∧ Se C ρ0 FR0 H0 E (whR rt rb m sl' ah'), fun σ'' H'' hh => ⟨m, Nat.lt_succ_self m, hh⟩, ρ0, FR0, H0, ρ1, FR1, sl', h1, s2, q1.loop fun ρ FR sl ah σ H a b => ⟨ρ, FR, sl, ah, a, b⟩⟩
    | false => exact q1 ρ1 FR1 σ' H1 s2
end
end Sd

end
section
set_option Elab.async false
set_option linter.all false
set_option maxRecDepth 100000
set_option maxHeartbeats 2000000
/-! Sd17: the core text beside the program's text: a check. -/
namespace Sd
open PySem PySem.Spec L2 Ev
open PyProof.Rows hiding St

/-- where code stands: the slots' names, the scope, which stores are the frame's own -/
structure Kx where
  N : List Str
  sc : Scope
  fb : Str → Bool
def all2 {α β : Type} (p : α → β → Bool) : List α → List β → Bool
  | [], [] => true
  | a :: as, b :: bs => p a b && all2 p as bs
  | _, _ => false
def okName (x : Str) : Bool := !decide (x = "__debug__") && !decide (x = "__classdict__")
def isVis : Option NameKind → Bool
  | some .local | some .cell | some .free => true
  | _ => false
def isLoc : Option NameKind → Bool
  | some .local | some .cell => true
  | _ => false
def nameOk (κ : Kx) (i : Nat) (x : Str) : Bool := decide (κ.N[i]? = some x) && isVis (κ.sc.names.lookup x) && okName x
def globOk (κ : Kx) (x : Str) : Bool := decide (κ.sc.names.lookup x = some .globalImplicit) && !decide (x = "__debug__")
def storeOk (κ : Kx) (i : Nat) (x : Str) : Bool := decide (κ.N[i]? = some x) && isLoc (κ.sc.names.lookup x) && (κ.fb x || decide (κ.sc.names.lookup x = some .local))
/-- within a comprehension -/
def Kx.blk (κ : Kx) (scope : Scope) : Kx := ⟨κ.N, relS scope κ.sc, fun x => scope.names.lookup x == some .cell⟩
def notSet : Expr → Bool
  | .Set .. => false
  | _ => true
def ixPlain : Expr → Bool
  | .Slice .. => false
  | _ => true
def plainT : Expr → Bool
  | .UnaryOp .Not _ _ | .BoolOp .. | .IfExp .. | .Compare .. => false
  | _ => true
def isTup : Expr → Bool
  | .Tuple .. => true
  | _ => false
/-- no box is changed -/
def qt : Nat → E → Bool
  | 0, _ => false
  | _ + 1, .var _ | _ + 1, .con _ | _ + 1, .glob _ | _ + 1, .fnv _ | _ + 1, .bs _ => true
  | n + 1, .bx a => qt n a
  | n + 1, .neg a => qt n a
  | n + 1, .bin _ a b => qt n a && qt n b
  | n + 1, .cmp _ a b => qt n a && qt n b
  | n + 1, .sub a b => qt n a && qt n b
  | n + 1, .bi _ [a] => qt n a
  | _, _ => false
def qtO (n : Nat) : Option E → Bool
  | none => true
  | some a => qt n a
def biName : Bi → Option Str
  | .len => some "len" | .abs => some "abs" | .int => some "int" | .max => some "max" | .min => some "min" | .sum => some "sum" | .all => some "all" | .any => some "any"
  | _ => none
def biName2 : Bi → Option Str
  | .max2 => some "max" | .min2 => some "min"
  | _ => none
def castName : Cast → Str
  | .list => "list" | .tuple => "tuple" | .dict => "dict"
def cap (g : Nat) : Nat := if g = 0 then 0 else 1
/-- a target's names -/
def chkG (κ : Kx) : Tg → Expr → Bool
  | .nm i, .Name x _ => storeOk κ i x
  | .tp is, .Tuple ts _ _ => all2 (fun i t => match t with | .Name x _ => storeOk κ i x | _ => false) is ts
  | _, _ => false
def chkOpt (p : E → Expr → Bool) : Option E → Option Expr → Bool
  | none, none => true
  | some a, some b => p a b
  | _, _ => false
def clP : E → Option (Tg × E × List E × E)
  | .cl t it ifs b => some (t, it, ifs, b)
  | _ => none
def ylP : E → Option E
  | .yl e => some e
  | _ => none

section
variable (S : Sx) (G : Ev.Gl)
mutual
def chk : Nat → Kx → Nat → E → Expr → Bool
  | 0, _, _, _, _ => false
  | n + 1, κ, g, t, e => match t, e with
    | .var i, .Name x _ => decide (1 ≤ g) && nameOk κ i x
    | .bs i, .Name x _ => decide (2 ≤ g) && nameOk κ i x
    | .bx a, e => decide (3 ≤ g) && chk n κ 1 a e
    | .con (.int i), .Constant (.int j) _ _ => decide (1 ≤ g) && decide (i = j)
    | .con (.bl i), .Constant (.bool j) _ _ => decide (1 ≤ g) && decide (i = j)
    | .con (.str i), .Constant (.str j) _ _ => decide (1 ≤ g) && decide (i = j)
    | .con .non, .Constant .none _ _ => decide (1 ≤ g)
    | .glob k, .Name x _ => decide (1 ≤ g) && decide (S.gls[k]? = some x) && (G.consts[k]?).isSome && globOk κ x
    | .fnv k, .Name x _ => decide (1 ≤ g) && decide ((S.fns[k]?).map (·.1) = some x) && globOk κ x
    | .bin o a b, .BinOp a' op b' _ => decide (op = bopOf o) && chk n κ (if qt n b then 3 else 2) a a' && chk n κ 3 b b'
    | .cmp o a b, .Compare a' [op] [b'] _ => decide (op = copOf o) && chk n κ (if qt n b then 3 else 2) a a' && chk n κ 3 b b' && notSet b'
    | .chain o p a b c, .Compare a' [op, oq] [b', c'] _ => decide (op = copOf o) && decide (oq = copOf p) && chk n κ 2 a a' && chk n κ 2 b b' && chk n κ 3 c c' && notSet c'
    | .neg a, .UnaryOp .USub a' _ => decide (1 ≤ g) && chk n κ 1 a a'
    | .not a, .UnaryOp .Not a' _ => decide (1 ≤ g) && chk n κ 3 a a'
    | .and es, .BoolOp .And es' _ => chkL n κ (cap g) es es'
    | .or es, .BoolOp .Or es' _ => chkL n κ (cap g) es es'
    | .ite c a b, .IfExp c' a' b' _ => chkT n κ c c' && chk n κ (cap g) a a' && chk n κ (cap g) b b'
    | .tup es, .Tuple es' _ _ => chkA n κ es es' && decide (es'.length ≤ line)
    | .lst es, .List es' _ => chkA n κ es es' && decide (es'.length ≤ line)
    | .dic [], .Dict [] [] _ => true
    | .sub a b, .Subscript a' b' _ => decide (1 ≤ g) && chk n κ (if qt n b then 3 else 2) a a' && chk n κ 3 b b' && ixPlain b'
    | .cut a lo hi, .Subscript a' (.Slice lo' hi' none _) _ => chk n κ (if qtO n lo && qtO n hi then 3 else 2) a a' && chkO n κ lo lo' && chkO n κ hi hi'
    | .back a, .Subscript a' (.Slice none none (some (.UnaryOp .USub (.Constant (.int j) _ _) _)) _) _ => decide (j = 1) && chk n κ 3 a a'
    | .bi b [a], .Call (.Name x _) [a'] [] _ => decide (biName b = some x) && globOk κ x && chk n κ 3 a a' && noStar a'
    | .bi o [a, b], .Call (.Name x _) [a', b'] [] _ => decide (biName2 o = some x) && globOk κ x && chk n κ 1 a a' && chk n κ 1 b b' && noStar a' && noStar b'
    | .cast c a, .Call (.Name x _) [a'] [] _ => decide (castName c = x) && globOk κ x && noStar a' && chkC n κ c a a'
    | .srt a .non none, .Call (.Name x _) [a'] [] _ => decide (x = "sorted") && globOk κ x && chk n κ 3 a a' && noStar a'
    | .srt a .len none, .Call (.Name x _) [a'] [⟨some k, .Name y _, _⟩] _ => decide (x = "sorted") && decide (k = Str.ofString "key") && decide (y = "len") && globOk κ x && globOk κ y && chk n κ 3 a a' && noStar a'
    | .isi a t, .Call (.Name x _) [a', .Name T _] [] _ => decide (x = "isinstance") && globOk κ x && chk n κ 3 a a' && noStar a' && globOk κ T && typs.any (fun q => decide (q.1 = T) && decide (tyL t = [q.2]))
    | .isi a t, .Call (.Name x _) [a', .Tuple [.Name T _, .Name T' _] _ _] [] _ => decide (x = "isinstance") && globOk κ x && chk n κ 3 a a' && noStar a' && globOk κ T && globOk κ T' &&
        typs.any (fun q => decide (q.1 = T) && typs.any fun q' => decide (q'.1 = T') && decide (tyL t = [q.2, q'.2]))
    | .call f es [], .Call (.Name x _) es' [] _ => decide (1 ≤ g) && (match S.fns[f]? with | some (y, ps) => decide (y = x) && decide (es'.length = ps.length) | none => false) && globOk κ x && chkA n κ es es'
    | .box a, e => decide (1 ≤ g) && chk n κ 0 a e
    | .lc b, .ListComp elt gens scope _ => chkLc n κ b elt gens scope
    | .srtset a, .Call (.Name x _) [.Call (.Name y _) [a'] [] _] [] _ => decide (x = "sorted") && decide (y = "set") && globOk κ x && globOk κ y && chk n κ 3 a a' && noStar a'
    | .lenset a, .Call (.Name x _) [.Call (.Name y _) [a'] [] _] [] _ => decide (x = "len") && decide (y = "set") && globOk κ x && globOk κ y && chk n κ 3 a a' && noStar a'
    | .srt a .len (some b), .Call (.Name x _) [a'] [⟨some k, .Name y _, _⟩, ⟨some r, .Constant (.bool b') _ _, _⟩] _ => decide (x = "sorted") && decide (k = Str.ofString "key") && decide (y = "len") && decide (r = Str.ofString "reverse") && decide (b = b') && globOk κ x && globOk κ y && chk n κ 3 a a' && noStar a'
    | .call f es (i :: is), .Call (.Name x _) [] kws _ => decide (1 ≤ g) && (match S.fns[f]? with | some (y, _) => decide (y = x) | none => false) && globOk κ x && S.kws.any (fun q => decide (q.1 = f) && decide (kws.map (·.arg) = q.2.1.map some) && decide (q.2.2 = i :: is)) && chkA n κ es (kws.map (·.value))
    | _, _ => false
def chkO : Nat → Kx → Option E → Option Expr → Bool
  | 0, _, _, _ => false
  | n + 1, κ, a, b => match a, b with
    | none, none => true
    | some a, some b => chk n κ 1 a b
    | _, _ => false
/-- what is cast: a range, or any value -/
def chkC : Nat → Kx → Cast → E → Expr → Bool
  | 0, _, _, _, _ => false
  | n + 1, κ, c, a, e => match a, e with
    | .range es, .Call (.Name x _) es' [] _ => decide (x = "range") && globOk κ x && (es'.length == 1 || es'.length == 2) && chkA n κ es es' && !decide (c = .dict)
    | a, e => chk n κ 3 a e
def chkL : Nat → Kx → Nat → List E → List Expr → Bool
  | 0, _, _, _, _ => false
  | n + 1, κ, g, as, bs => match as, bs with
    | [a], [b] => chk n κ g a b
    | a :: a2 :: as, b :: b2 :: bs => chk n κ g a b && chkL n κ g (a2 :: as) (b2 :: bs)
    | _, _ => false
def chkA : Nat → Kx → List E → List Expr → Bool
  | 0, _, _, _ => false
  | n + 1, κ, as, bs => match as, bs with
    | [], [] => true
    | a :: as, b :: bs => chk n κ 1 a b && noStar b && chkA n κ as bs
    | _, _ => false
def chkT : Nat → Kx → E → Expr → Bool
  | 0, _, _, _ => false
  | n + 1, κ, t, e => match t, e with
    | .not a, .UnaryOp .Not a' _ => chkT n κ a a'
    | .and es, .BoolOp .And es' _ => chkTL n κ es es'
    | .or es, .BoolOp .Or es' _ => chkTL n κ es es'
    | .cmp o a b, .Compare a' [op] [b'] _ => decide (op = copOf o) && chk n κ (if qt n b then 3 else 2) a a' && chk n κ 3 b b' && notSet b'
    | .chain o p a b c, .Compare a' [op, oq] [b', c'] _ => decide (op = copOf o) && decide (oq = copOf p) && chk n κ 2 a a' && chk n κ 2 b b' && chk n κ 3 c c' && notSet c'
    | t, e => plainT e && chk n κ 3 t e
def chkTL : Nat → Kx → List E → List Expr → Bool
  | 0, _, _, _ => false
  | n + 1, κ, as, bs => match as, bs with
    | [a], [b] => chkT n κ a b
    | a :: a2 :: as, b :: b2 :: bs => chkT n κ a b && chkTL n κ (a2 :: as) (b2 :: bs)
    | _, _ => false
/-- what is walked -/
def chkI : Nat → Kx → Expr → E → Expr → Bool
  | 0, _, _, _, _ => false
  | n + 1, κ, tg, t, e => match t, e with
    | .range [a], .Call (.Name x _) [a'] [] _ => decide (x = "range") && globOk κ x && chk n κ 1 a a' && noStar a'
    | .range [a, b], .Call (.Name x _) [a', b'] [] _ => decide (x = "range") && globOk κ x && chk n κ 1 a a' && noStar a' && chk n κ 1 b b' && noStar b'
    | .enum a, .Call (.Name x _) [a'] [] _ => isTup tg && decide (x = "enumerate") && globOk κ x && chk n κ 1 a a' && noStar a'
    | .zip a b, .Call (.Name x _) [a', b'] [] _ => isTup tg && decide (x = "zip") && globOk κ x && chk n κ 1 a a' && noStar a' && chk n κ 1 b b' && noStar b'
    | t, e => chk n κ 1 t e
def chkIf : Nat → Kx → List E → List Expr → Bool
  | 0, _, _, _ => false
  | n + 1, κ, as, bs => match as, bs with
    | [], [] => true
    | [a], [b] => chkT n κ a b
    | _, _ => false
def chkLc : Nat → Kx → E → Expr → List Comprehension → Scope → Bool
  | 0, _, _, _, _, _ => false
  | n + 1, κ, b, elt, gens, scope => match clP b, gens with
    | some (t, it, ifs, b2), [⟨tg, iter, ifs', a⟩] => decide (a = 0) && (match it, iter with | .bsl i, .Name x _ => nameOk κ i x | it, iter => chkI n κ tg it iter) && notSet iter && blkC κ.N κ.sc scope ((tgs t ++ owns b2).map fun i => ((κ.N[i]?).getD default, i)) && chkG (κ.blk scope) t tg && chkIf n (κ.blk scope) ifs ifs' &&
        (match ylP b2 with | some re => chk n (κ.blk scope) 1 re elt | none => false)
    | some (t, it, ifs, b2), [⟨tg, iter, ifs', a⟩, ⟨tg1, iter1, ifs1', a1⟩] => decide (a = 0) && decide (a1 = 0) && (match it, iter with | .bsl i, .Name x _ => nameOk κ i x | it, iter => chkI n κ tg it iter) && notSet iter && blkC κ.N κ.sc scope ((tgs t ++ owns b2).map fun i => ((κ.N[i]?).getD default, i)) && chkG (κ.blk scope) t tg && chkIf n (κ.blk scope) ifs ifs' &&
        (match clP b2 with | some (t1, it1, ifs1, b3) => (match it1, iter1 with | .bsl i, .Name x _ => nameOk (κ.blk scope) i x | it, iter => chkI n (κ.blk scope) tg1 it iter) && notSet iter1 && chkG (κ.blk scope) t1 tg1 && chkIf n (κ.blk scope) ifs1 ifs1' &&
          (match ylP b3 with | some re => chk n (κ.blk scope) 1 re elt | none => false) | none => false)
    | _, _ => false
end
end
/-- the store is one with the comprehension -/
def swE (κ : Kx) (e : Expr) (x : Str) (p : Pos) : Bool := match e with
  | .ListComp _ _ scope pos => decide (κ.sc.names.lookup x = some .local) && decide (p.line = pos.line) && !(scope.names.any fun (n, k) => n == x && (k == .local || k == .cell))
  | _ => false
/-- two names, not both the frame's own -/
def notLocals (κ : Kx) : List Expr → Bool
  | [.Name x _, .Name y _] => !(decide (κ.sc.names.lookup x = some .local) && decide (κ.sc.names.lookup y = some .local))
  | _ => false
def noC : Expr → Bool
  | .SetComp .. | .DictComp .. => false
  | _ => true
def lcP : E → Option E
  | .lc b => some b
  | _ => none
def isPlace : Ev.Pl → Option Nat
  | .sl j => some j
  | .bx (.var j) => some j
  | _ => none
def isSl : Ev.Pl → Bool
  | .sl _ => true
  | _ => false
section
variable (S : Sx) (G : Ev.Gl)
mutual
def chkS : Nat → Kx → Ev.S → Stmt → Bool
  | 0, _, _, _ => false
  | n + 1, κ, s, st => match s, st with
    | .set i t, .Assign [.Name x p] e _ => storeOk κ i x && noC e && (if swE κ e x p then (match lcP t, e with | some b, .ListComp elt gens scope _ => chkLc S G n κ b elt gens scope | _, _ => false) else chk S G n κ 1 t e)
    | .own i t, .Assign [.Name x p] e _ => storeOk κ i x && noC e && (if swE κ e x p then (match lcP t, e with | some b, .ListComp elt gens scope _ => chkLc S G n κ b elt gens scope | _, _ => false) else chk S G n κ 0 t e)
    | .tset is t, .Assign [.Tuple ts _ _] e _ => chkG κ (.tp is) (.Tuple ts 0 ⟨0, 0, 0, 0⟩) && chk S G n κ 1 t e && (!isTup e || notLocals κ ts) && noC e
    | .pset [(i, bi), (j, bj)] [ta, tb], .Assign [.Tuple [.Name x px, .Name y py] _ _] (.Tuple [a, b] _ _) _ => storeOk κ i x && storeOk κ j y && decide (κ.sc.names.lookup x = some .local) && decide (κ.sc.names.lookup y = some .local) && decide (i ≠ j) && decide (x ≠ y) && decide (px.line = py.line) &&
        noStar a && noStar b && !foldedForSure 8 a && !constantsAlone 8 a && chk S G n κ (if bi then 0 else 1) ta a && chk S G n κ (if bj then 0 else 1) tb b
    | .seti pl k t, .Assign [.Subscript (.Name x _) k' _] e _ => (match isPlace pl with | some j => nameOk κ j x | none => false) && ixPlain k' && chk S G n κ 1 t e && chk S G n κ 1 k k'
    | .app pl t, .Expr (.Call (.Attribute (.Name x _) m ap) [e] [] cp) _ => (match isPlace pl with | some j => nameOk κ j x | none => false) && decide (m = "append") && decide (ap.endLine = cp.line) && chk S G n κ 1 t e && noStar e && (isSl pl || qt n t)
    | .ext pl t, .Expr (.Call (.Attribute (.Name x _) m ap) [e] [] cp) _ => (match isPlace pl with | some j => nameOk κ j x | none => false) && decide (m = "extend") && decide (ap.endLine = cp.line) && chk S G n κ 1 t e && noStar e && (isSl pl || qt n t)
    | .apppop (.sl i) (.sl j) t, .Expr (.Call (.Attribute (.Name x _) m ap) [.Call (.Attribute (.Name y _) m2 ap2) [e] [] cp2] [] cp) _ => nameOk κ i x && nameOk κ j y && decide (i ≠ j) && decide (m = "append") && decide (m2 = "pop") && decide (ap.endLine = cp.line) && decide (ap2.endLine = cp2.line) && chk S G n κ 1 t e && noStar e
    | .ret t, .Return (some e) _ => chk S G n κ 1 t e
    | .raise _, .Raise .. => true
    | .ite t a b, .If c a' b' _ => chkT S G n κ t c && chkSs n κ a a' && chkSs n κ b b'
    | .wh t b, .While c b' [] _ => chkT S G n κ t c && chkSs n κ b b'
    | .for t it b, .For tg iter b' [] _ => chkI S G n κ tg it iter && notSet iter && chkG κ t tg && chkSs n κ b b'
    | .brk, .Break _ => true
    | .cont, .Continue _ => true
    | .pass, .Pass _ => true
    | _, _ => false
def chkSs : Nat → Kx → List Ev.S → List Stmt → Bool
  | 0, _, _, _ => false
  | n + 1, κ, ss, sts => match ss, sts with
    | .frz i :: ss, sts => chkSs n κ ss sts
    | ss, .Expr (.Constant (.str _) _ _) _ :: sts => chkSs n κ ss sts
    | [], [] => true
    | s :: ss, st :: sts => chkS n κ s st && chkSs n κ ss sts
    | _, _ => false
end
end
end Sd

end
section
set_option Elab.async false
set_option linter.all false
set_option maxRecDepth 100000
set_option maxHeartbeats 4000000
/-! Sd18: what is checked holds: expressions. -/
namespace Sd
open PySem PySem.Spec L2 Ev
open PyProof.Rows hiding St

structure KxOk (κ : Kx) (X : Cx) : Prop where
  N : X.N = κ.N
  nd : X.N.Nodup
  sc : X.env.scope = κ.sc
  fb : ∀ x, X.fn x = κ.fb x
  fk : X.env.scope.kind = .function
section
variable {C : Cn} {S : Sx} {G : Ev.Gl} {F : Fs} {lv : Nat} {X : Cx} {κ : Kx} {i : Nat} {x : Str}
theorem KxOk.blk (K : KxOk κ X) {scope : Scope} {own : List (Str × Nat)} (ok : BlkOk X.N X.env.scope scope own) (s : Shared) (H : Hp) (B : Addr) (cl : List (Str × Addr)) (fp : List Addr) : KxOk (κ.blk scope) (X.blk s H scope (compEnvC scope cl B X.env) fp) where
  N := K.N
  nd := K.nd
  sc := by
    show relS scope X.env.scope = relS scope κ.sc
    rw [K.sc]
  fb := fun x => rfl
  fk := ok.kind
theorem Fx.blk (W : Fx C X S G F lv) (s : Shared) (H : Hp) (scope : Scope) (ce : Env) (fp : List Addr) : Fx C (X.blk s H scope ce fp) S G F lv where
  K := W.K
  P := W.P
  w := W.w
  calm := W.calm
  un := W.un
  room := W.room
  bl := W.bl
  gl := W.gl
  fn := W.fn
theorem okName_1 (h : okName x = true) : (x == ("__debug__" : Str)) = false ∧ (x == ("__classdict__" : Str)) = false := by
  unfold okName at h
  simp only [Bool.and_eq_true, Bool.not_eq_true', decide_eq_false_iff_not] at h
  exact ⟨beq_eq_false_iff_ne.mpr h.1, beq_eq_false_iff_ne.mpr h.2⟩
theorem vis_1 {sc : Scope} (h : isVis (sc.names.lookup x) = true) : Vis sc x := by
  unfold isVis at h
  split at h
  · exact .inl (by assumption)
  · exact .inr (.inl (by assumption))
  · exact .inr (.inr (by assumption))
  · cases h
theorem loc_1 {sc : Scope} (h : isLoc (sc.names.lookup x) = true) : Loc sc x := by
  unfold isLoc at h
  split at h
  · exact .inl (by assumption)
  · exact .inr (by assumption)
  · cases h
theorem name_1 (K : KxOk κ X) (h : nameOk κ i x = true) : X.N[i]? = some x ∧ Vis X.env.scope x ∧ (x == ("__debug__" : Str)) = false ∧ (x == ("__classdict__" : Str)) = false := by
  unfold nameOk at h
  simp only [Bool.and_eq_true, decide_eq_true_eq] at h
  obtain ⟨⟨h1, h2⟩, h3⟩ := h
  rw [K.N, K.sc]
  exact ⟨h1, vis_1 h2, okName_1 h3⟩
theorem glob_1 (K : KxOk κ X) (h : globOk κ x = true) : L2.Gl X x ∧ (x == ("__debug__" : Str)) = false := by
  unfold globOk at h
  simp only [Bool.and_eq_true, Bool.not_eq_true', decide_eq_true_eq, decide_eq_false_iff_not] at h
  refine ⟨?_, beq_eq_false_iff_ne.mpr h.2⟩
  show X.env.scope.names.lookup x = some .globalImplicit
  rw [K.sc]; exact h.1
theorem store_1 (K : KxOk κ X) (h : storeOk κ i x = true) : Stored X i x := by
  unfold storeOk at h
  simp only [Bool.and_eq_true, Bool.or_eq_true, decide_eq_true_eq] at h
  obtain ⟨⟨h1, h2⟩, h3⟩ := h
  refine ⟨K.nd, by rw [K.N]; exact h1, by rw [K.sc]; exact loc_1 h2, ?_⟩
  rcases h3 with h3 | h3
  · exact .inl (by rw [K.fb]; exact h3)
  · exact .inr (by rw [K.sc]; exact h3)
theorem notSet_m {e : Expr} (h : notSet e = true) (op : CmpOp) : behindInMarks op e = false := by
  cases e <;> first
    | rfl
    | cases h
theorem notSet_f {e : Expr} (h : notSet e = true) (env : Env) (v : Value) : foldedSetIterable e env v = pure v := by
  cases e <;> first
    | rfl
    | cases h
theorem ix_1 {e : Expr} (h : ixPlain e = true) : PlainIx e := by
  intro o i
  cases e <;> first
    | rfl
    | cases h
theorem qt_1 : ∀ (n : Nat) (t : E), qt n t = true → Quiet (ev F G t)
  | 0, _, h => by simp [qt] at h
  | n + 1, t, h => by
    cases t <;> first
      | (simp [qt] at h; done)
      | skip
    case var => exact fun sl h d h' e => (opt_ok e).2
    case con => exact fun sl h d h' e => by cases e; rfl
    case glob => exact fun sl h d h' e => (opt_ok e).2
    case fnv => exact fun sl h d h' e => by cases e; rfl
    case bs => exact fun sl h d h' e => (opt_ok e).2
    case bx a =>
      intro sl h0 d h' e
      obtain ⟨d1, h1, e1, e2⟩ := bind_ok e
      exact (opt_ok e2).2.trans (qt_1 n a h _ _ _ _ e1)
    case neg a =>
      intro sl h0 d h' e
      obtain ⟨d1, h1, e1, e2⟩ := bind_ok e
      have := qt_1 n a h _ _ _ _ e1
      cases d1 <;> first
        | (cases e2; done)
        | (cases e2; exact this)
    case bin o a b =>
      simp only [qt, Bool.and_eq_true] at h
      intro sl h0 d h' e
      obtain ⟨d1, h1, e1, e2⟩ := bind_ok e
      obtain ⟨d2, h2, e3, e4⟩ := bind_ok e2
      exact (opt_ok e4).2.trans ((qt_1 n b h.2 _ _ _ _ e3).trans (qt_1 n a h.1 _ _ _ _ e1))
    case cmp o a b =>
      simp only [qt, Bool.and_eq_true] at h
      intro sl h0 d h' e
      obtain ⟨d1, h1, e1, e2⟩ := bind_ok e
      obtain ⟨d2, h2, e3, e4⟩ := bind_ok e2
      exact (opt_ok e4).2.trans ((qt_1 n b h.2 _ _ _ _ e3).trans (qt_1 n a h.1 _ _ _ _ e1))
    case sub a b =>
      simp only [qt, Bool.and_eq_true] at h
      intro sl h0 d h' e
      obtain ⟨d1, h1, e1, e2⟩ := bind_ok e
      obtain ⟨d2, h2, e3, e4⟩ := bind_ok e2
      exact (opt_ok e4).2.trans ((qt_1 n b h.2 _ _ _ _ e3).trans (qt_1 n a h.1 _ _ _ _ e1))
    case bi b es =>
      cases es with
      | nil => simp [qt] at h
      | cons a r =>
        cases r with
        | cons _ _ => simp [qt] at h
        | nil =>
          simp only [qt] at h
          intro sl h0 d h' e
          obtain ⟨ds, h1, e1, e2⟩ := bind_ok e
          obtain ⟨d1, h2, e3, e4⟩ := bind_ok e1
          cases e4
          exact (opt_ok e2).2.trans (qt_1 n a h _ _ _ _ e3)
theorem qtO_1 {n : Nat} {t : Option E} (h : qtO n t = true) : QuietO (evOpt F G t) := by
  intro sl h0 d h' e
  cases t with
  | none => cases e; rfl
  | some a =>
    obtain ⟨d1, h1, e1, e2⟩ := bind_ok e
    cases e2
    exact qt_1 n a h _ _ _ _ e1
/-! equations of the evaluator -/
theorem PE.eq {g : Nat} {e : Expr} {r r' : Rs} (h : PE X e (TG C g r)) (w : ∀ sl h, r' sl h = r sl h) : PE X e (TG C g r') := by
  have : r' = r := by funext sl h; exact w sl h
  rw [this]; exact h
theorem PE.up' {g g' : Nat} {e : Expr} {r : Rs} (h : PE X e (TG C g r)) (z : g ≤ g') : PE X e (TG C g' r) := PE.up z h
theorem op1_of {n : Nat} {e : Expr} {a b : E} (h : PE X e (TG C (if qt n b then 3 else 2) (ev F G a))) : Op1 C X e (ev F G a) (ev F G b) := by
  by_cases hq : qt n b = true
  · rw [if_pos hq] at h
    exact .inr ⟨h, qt_1 n b hq⟩
  · rw [if_neg hq] at h
    exact .inl h
theorem gr_cap (g : Nat) : ∃ φ, TG C (cap g) = Tx C φ ∧ Gr C φ := by
  unfold cap
  by_cases h : g = 0
  · rw [if_pos h]
    exact ⟨_, rfl, gr_N⟩
  · rw [if_neg h]
    exact ⟨_, rfl, gr_F⟩
theorem cap_le (g : Nat) : cap g ≤ g := by
  unfold cap
  split <;> omega
theorem s_box {e : Expr} {r : Rs} (he : PE X e (TN C r)) : PE X e (TF C fun sl h => (r sl h).bind fun x h => match x.own? with
    | some o => .ok (.ref h.length) (h ++ [.box o])
    | none => .bad) := by
  refine PE.imp he fun σ H Q ⟨ρ, FR, sl, ah, rel, q⟩ => ⟨ρ, FR, sl, ah, rel, ?_⟩
  obtain ⟨d, ah', e, q⟩ := q.inv
  obtain ⟨d1, h1, e1, e2⟩ := bind_ok e
  cases ho : d1.own? with
  | none => rw [ho] at e2; cases e2
  | some o =>
    rw [ho] at e2
    cases e2
    rw [e1]
    intro ρ' FR' H' v x rh w
    have w : Rn C H h1 ρ' FR' H' d1 v := w
    unfold Rn at w
    rw [ho] at w
    obtain ⟨a, rfl, n, nf, m, w⟩ := w
    obtain ⟨u, hu⟩ := w.there
    refine q (ρ' ++ [a]) FR' H' _ ⟨x.pre.trans (Pre.app _), x.fr, x.keep, x.there, fun b mb => ?_, x.nF⟩ ⟨rh.sub, by rw [List.length_append, List.length_append, rh.len]; rfl, ?_, fun b mb => ?_, fun k o' ek => ?_⟩ (.ref ?_)
    · rcases List.mem_append.mp mb with mb | mb
      · exact x.nρ b mb
      · rw [List.mem_singleton.mp mb]; exact .inr n
    · refine List.nodup_append.mpr ⟨rh.nd, by simp, fun b mb c mc z => ?_⟩
      rw [List.mem_singleton.mp mc] at z
      exact m (z ▸ mb)
    · rcases List.mem_append.mp mb with mb | mb
      · exact rh.live b mb
      · rw [List.mem_singleton.mp mb]; exact ⟨nf, u, hu⟩
    · by_cases hk : k < h1.length
      · rw [List.getElem?_append_left hk] at ek
        obtain ⟨b, e3, e4⟩ := rh.box k o' ek
        exact ⟨b, Pre.app _ _ _ e3, e4.stay (Pre.app _) Sub.refl fun _ z => z⟩
      · rw [List.getElem?_append_right (by omega)] at ek
        have hk0 : k - h1.length = 0 := by
          cases hz : k - h1.length with
          | zero => rfl
          | succ j => rw [hz] at ek; simp at ek
        rw [hk0] at ek
        cases ek
        have : k = ρ'.length := by rw [rh.len]; omega
        subst this
        exact ⟨a, by simp, w.stay (Pre.app _) Sub.refl fun _ z => z⟩
    · rw [← rh.len]
      simp
theorem bi_1 (W : Fit C X) {b : Bi} {x : Str} (h : biName b = some x) : x ∈ bnames ∧ x ≠ "__name__" ∧ ((∃ id, CallL C X (.builtin id) (bi1 b) ∧ bootBuiltins x = some (.builtin id)) ∨ ∃ id, CallL C X (.type id) (bi1 b) ∧ bootBuiltins x = some (.type id)) := by
  cases b <;> simp only [biName, reduceCtorEq, Option.some.injEq] at h <;> subst h
  case len => exact ⟨in_b, by decide +kernel, .inl ⟨"len", cl_len W, rfl⟩⟩
  case abs => exact ⟨in_b, by decide +kernel, .inl ⟨"abs", cl_abs W, rfl⟩⟩
  case int => exact ⟨in_b, by decide +kernel, .inr ⟨"int", cl_int W, rfl⟩⟩
  case max => exact ⟨in_b, by decide +kernel, .inl ⟨"max", cl_max W, rfl⟩⟩
  case min => exact ⟨in_b, by decide +kernel, .inl ⟨"min", cl_min W, rfl⟩⟩
  case sum => exact ⟨in_b, by decide +kernel, .inl ⟨"sum", cl_sum W, rfl⟩⟩
  case all => exact ⟨in_b, by decide +kernel, .inl ⟨"all", cl_all W, rfl⟩⟩
  case any => exact ⟨in_b, by decide +kernel, .inl ⟨"any", cl_any W, rfl⟩⟩
theorem bi_2 (W : Fit C X) {b : Bi} {x : Str} (h : biName2 b = some x) : x ∈ bnames ∧ x ≠ "__name__" ∧ ∃ id, CallR X (.builtin id) (l2 C fun u v => builtin b [u, v]) ∧ bootBuiltins x = some (.builtin id) := by
  cases b <;> simp only [biName2, reduceCtorEq, Option.some.injEq] at h <;> subst h
  case max2 => exact ⟨in_b, by decide +kernel, "max", cl_max2 W, rfl⟩
  case min2 => exact ⟨in_b, by decide +kernel, "min", cl_min2 W, rfl⟩
def gTs : List Nat → TGs
  | [] => gNil
  | i :: is => gCons (gName i) (gTs is)
def gT (C : Cn) : Tg → L2.TG
  | .nm i => gName i
  | .tp is => gTup C.K is.length (gTs is)
theorem chkG_1 (W : Fit C X) (K : KxOk κ X) {t : Tg} {e : Expr} (h : chkG κ t e = true) : PGd C X e t (gT C t) := by
  cases t with
  | nm i =>
    cases e <;> simp only [chkG, Bool.false_eq_true] at h
    have s := store_1 K h
    exact pgd_name s.nd s.ix s.loc s.fn
  | tp is =>
    cases e <;> simp only [chkG, Bool.false_eq_true] at h
    rename_i ts k pos
    have go : ∀ (is : List Nat) (ts : List Expr), all2 (fun i t => match t with | .Name x _ => storeOk κ i x | _ => false) is ts = true → PGds C X ts is (gTs is) := by
      intro is
      induction is with
      | nil => intro ts h; cases ts with
        | nil => exact pgds_nil
        | cons _ _ => cases h
      | cons i is ih => intro ts h; cases ts with
        | nil => cases h
        | cons t ts =>
          simp only [all2, Bool.and_eq_true] at h
          obtain ⟨h1, h2⟩ := h
          have hg := ih ts h2
          cases t <;> simp only [Bool.false_eq_true] at h1
          have s := store_1 K h1
          exact pgds_cons s.nd s.ix s.loc s.fn hg
    have := pgd_tup (pos := pos) (k := k) W (go is ts h)
    rw [W.K] at this
    exact this
theorem isTup_tp {t : Tg} {e : Expr} (h : chkG κ t e = true) : isTup e = isTp t := by
  cases t <;> cases e <;> first
    | rfl
    | (simp [chkG] at h; done)
theorem clP_1 {b : E} {q : Tg × E × List E × E} (h : clP b = some q) : b = .cl q.1 q.2.1 q.2.2.1 q.2.2.2 := by
  cases b <;> simp only [clP, reduceCtorEq, Option.some.injEq] at h
  subst h; rfl
theorem ylP_1 {b q : E} (h : ylP b = some q) : b = .yl q := by
  cases b <;> simp only [ylP, reduceCtorEq, Option.some.injEq] at h
  subst h; rfl

/-- what the check of an expression tells, at one depth -/
structure Snd (C : Cn) (S : Sx) (G : Ev.Gl) (F : Fs) (lv n : Nat) : Prop where
  e : ∀ κ g t e, chk S G n κ g t e = true → ∀ X, Fx C X S G F lv → KxOk κ X → PE X e (TG C g (ev F G t))
  o : ∀ κ t e, chkO S G n κ t e = true → ∀ X, Fx C X S G F lv → KxOk κ X → PO X e (To C (evOpt F G t))
  c : ∀ κ c t e, chkC S G n κ c t e = true → ∀ X, Fx C X S G F lv → KxOk κ X → ∀ (p pos : Pos), globOk κ (castName c) = true → noStar e = true → PE X (.Call (.Name (castName c) p) [e] [] pos) (TG C 0 (ev F G (.cast c t)))
  l : ∀ κ g ts es, chkL S G n κ (cap g) ts es = true → ∀ X, Fx C X S G F lv → KxOk κ X → ∀ pos, PE X (.BoolOp .And es pos) (TG C (cap g) (evAnd F G ts)) ∧ PE X (.BoolOp .Or es pos) (TG C (cap g) (evOr F G ts))
  a : ∀ κ ts es, chkA S G n κ ts es = true → ∀ X, Fx C X S G F lv → KxOk κ X → PA X es (Ta C (evs F G ts)) ∧ es.all noStar = true ∧ ∀ sl h ds h', evs F G ts sl h = .ok ds h' → ds.length = es.length
  k : ∀ κ ts kws, chkA S G n κ ts (kws.map (·.value)) = true → ∀ X, Fx C X S G F lv → KxOk κ X → PK X kws (Ta C (evs F G ts)) ∧ ∀ sl h ds h', evs F G ts sl h = .ok ds h' → ds.length = kws.length
  t : ∀ κ t e, chkT S G n κ t e = true → ∀ X, Fx C X S G F lv → KxOk κ X → PT X e (Tt C (tru (ev F G t)))
  tl : ∀ κ ts es, chkTL S G n κ ts es = true → ∀ X, Fx C X S G F lv → KxOk κ X → ∀ pos, PW X (.BoolOp .And es pos) (Tt C (tru (evAnd F G ts))) ∧ PW X (.BoolOp .Or es pos) (Tt C (tru (evOr F G ts)))
  i : ∀ κ tg t e, chkI S G n κ tg t e = true → ∀ X, Fx C X S G F lv → KxOk κ X → PI X tg e (Ti C (isTup tg) (itR (ev F G t) items))
  f : ∀ κ ts es, chkIf S G n κ ts es = true → ∀ X, Fx C X S G F lv → KxOk κ X → PTs X es (Tt C (evIfs F G ts))
  lc : ∀ κ b elt gens scope, chkLc S G n κ b elt gens scope = true → ∀ X, Fx C X S G F lv → KxOk κ X → ∀ pos, PE X (.ListComp elt gens scope pos) (TG C 0 (ev F G (.lc b))) ∧
    ∀ i x p spos, Stored X i x → X.env.scope.names.lookup x = some .local → swapsWith (.ListComp elt gens scope pos) (some (.Name x p)) spos.line X.env = pure true → PS X (.Assign [.Name x p] (.ListComp elt gens scope pos) spos) (tAsg (TN C (ev F G (.lc b))) (gName i)) ∧ ∃ k, ev F G (.lc b) = lcR k
end
end Sd

end
section
set_option Elab.async false
set_option linter.all false
set_option maxRecDepth 100000
set_option maxHeartbeats 1000000
/-! Sg1: tables of sets up to 2,048 slots: each slot is met, tables are laid anew. -/
namespace Sg
open PySem L2
open PyProof.Rows hiding St

/-! ### the round of the slots -/
def bigs : List Nat := [7, 31, 127, 511, 2047]
def Big (m : Nat) : Prop := m ∈ bigs
def gone (m : Nat) : Nat → Nat → Nat → Nat
  | 0, _, acc => acc
  | f + 1, s, acc => gone m f ((s * 5 + 1) % (m + 1)) (acc ||| (1 <<< s))
theorem gone_full : ∀ m ∈ bigs, gone m (m + 1) 0 0 = 2 ^ (m + 1) - 1 := by decide +kernel
theorem turn_full : ∀ m ∈ bigs, lcgN m (m + 1) = 0 := by decide +kernel
theorem gone_bit (m j : Nat) : ∀ (f b acc : Nat), (gone m f (lcgN m b) acc).testBit j = true → acc.testBit j = true ∨ ∃ c, c < f ∧ lcgN m (b + c) = j
  | 0, _, _, h => .inl h
  | f + 1, b, acc, h => by
    have h : (gone m f (lcgN m (b + 1)) (acc ||| (1 <<< lcgN m b))).testBit j = true := h
    rcases gone_bit m j f (b + 1) _ h with h1 | ⟨c, c1, c2⟩
    · rw [Nat.testBit_or, Bool.or_eq_true] at h1
      rcases h1 with h1 | h1
      · exact .inl h1
      · refine .inr ⟨0, Nat.succ_pos _, ?_⟩
        rw [Nat.one_shiftLeft, Nat.testBit_two_pow] at h1
        exact of_decide_eq_true h1
    · exact .inr ⟨c + 1, Nat.succ_lt_succ c1, by rw [show b + (c + 1) = b + 1 + c by omega]; exact c2⟩
theorem all_met {m j : Nat} (b : Big m) (h : j ≤ m) : ∃ c, c ≤ m ∧ lcgN m c = j := by
  have e : (gone m (m + 1) (lcgN m 0) 0).testBit j = true := by
    show (gone m (m + 1) 0 0).testBit j = true
    rw [gone_full m b, Nat.testBit_two_pow_sub_one]
    exact decide_eq_true (by omega)
  rcases gone_bit m j _ 0 0 e with z | ⟨c, c1, c2⟩
  · simp at z
  · exact ⟨c, by omega, by rw [← c2, Nat.zero_add]⟩
theorem whole_turn {m : Nat} (b : Big m) : ∀ k, lcgN m (m + 1 + k) = lcgN m k
  | 0 => turn_full m b
  | k + 1 => by
    show (lcgN m (m + 1 + k) * 5 + 1) % (m + 1) = _
    rw [whole_turn b k]; rfl
theorem met_from {m i j : Nat} (b : Big m) (hi : i ≤ m) (hj : j ≤ m) : ∃ k, k ≤ m ∧ lcgI m i k = j := by
  obtain ⟨x, x1, x2⟩ := all_met b hi
  obtain ⟨y, y1, y2⟩ := all_met b hj
  by_cases c : x ≤ y
  · exact ⟨y - x, by omega, by rw [← x2, lcgN_add, Nat.add_sub_cancel' c, y2]⟩
  · refine ⟨y + (m + 1) - x, by omega, ?_⟩
    rw [← x2, lcgN_add, show x + (y + (m + 1) - x) = m + 1 + y by omega, whole_turn b, y2]
theorem runs_meet {m : Nat} (b : Big m) (h : Int) {j : Nat} (hj : j ≤ m) : ∃ n, n ≤ m + 12 ∧ runI m (SetTable.bits h) n = j := by
  obtain ⟨k, k1, k2⟩ := met_from b (runI_le m (SetTable.bits h) 12) hj
  exact ⟨12 + k, by omega, (runI_tail (bits_lt h) k).trans k2⟩
theorem ways_meet {m : Nat} (b : Big m) (h : Int) {j : Nat} (hj : j ≤ m) : ∃ k, k < 10 * SetTable.turns m ∧ way m h k = j := by
  obtain ⟨n, n1, n2⟩ := runs_meet b h hj
  obtain ⟨k, k1, k2⟩ := run_nth m (SetTable.bits h) n
  exact ⟨k, by unfold SetTable.turns; omega, (congrArg SetTable.Probe.j k2).trans n2⟩
theorem in_table (m : Nat) (h : Int) (k : Nat) : way m h k ≤ m := by
  have r := runEnd_bd (m := m) (i := SetTable.bits h % (m + 1)) (Nat.le_of_lt_succ (Nat.mod_lt _ (Nat.succ_pos m)))
  have q := nth_in (m := m) k (runAt m (SetTable.bits h % (m + 1)) (SetTable.bits h)) (by
    show SetTable.bits h % (m + 1) + (SetTable.runEnd m _ - SetTable.bits h % (m + 1)) ≤ m
    omega)
  exact Nat.le_trans (Nat.le_add_right _ _) q

/-! ### tables -/
/-- j is met by way of occupied slots -/
def Hit (occ : Nat → Prop) (m : Nat) (h : Int) (j : Nat) : Prop := ∃ K, way m h K = j ∧ ∀ k, k < K → occ (way m h k)
theorem Hit.imp {p q : Nat → Prop} {m : Nat} {h : Int} {j : Nat} (w : ∀ x, p x → q x) (x : Hit p m h j) : Hit q m h j := by
  obtain ⟨K, a, b⟩ := x
  exact ⟨K, a, fun k hk => w _ (b k hk)⟩
/-- a table over hashes -/
structure Tb (t : SetTable) (hs : List Int) : Prop where
  up : Ris t.place.toList
  nod : t.dummies = #[]
  len : t.place.toList.length = hs.length
  big : Big t.mask
  lim : ∀ x ∈ t.place.toList, x ≤ t.mask
  hit : ∀ (i : Nat) (h : Int) (j : Nat), hs[i]? = some h → t.place.toList[i]? = some j → Hit (· ∈ t.place.toList) t.mask h j
theorem Big.odd {m : Nat} (b : Big m) : m % 2 = 1 := by
  have : ∀ m ∈ bigs, m % 2 = 1 := by decide
  exact this m b
theorem Tb.stop {t : SetTable} {hs : List Int} (T : Tb t hs) (hl : hs.length ≤ t.mask) (h : Int) : ∃ K, K < 10 * SetTable.turns t.mask ∧ way t.mask h K ∉ t.place.toList ∧ ∀ k, k < K → way t.mask h k ∈ t.place.toList := by
  obtain ⟨j, j1, j2⟩ := st_missing t.place.toList (t.mask + 1) (by rw [T.len]; omega)
  obtain ⟨k, k1, k2⟩ := ways_meet T.big h (Nat.le_of_lt_succ j1)
  obtain ⟨K, a, b, c⟩ := st_least (p := fun k => way t.mask h k ∉ t.place.toList) k (by rw [k2]; exact j2)
  exact ⟨K, Nat.lt_of_le_of_lt a k1, b, fun k' hk => Classical.byContradiction fun z => c k' hk z⟩
theorem Tb.ahead {t : SetTable} {hs : List Int} (T : Tb t hs) {h : Int} {K i j : Nat} (hK : way t.mask h K ∉ t.place.toList) (e1 : hs[i]? = some h) (e2 : t.place.toList[i]? = some j) : ∃ k, k < K ∧ way t.mask h k = j := by
  obtain ⟨k, a, b⟩ := T.hit i h j e1 e2
  refine ⟨k, Nat.lt_of_not_le fun z => ?_, a⟩
  rcases Nat.lt_or_eq_of_le z with z | z
  · exact hK (b K z)
  · rw [z, a] at hK; exact hK (List.mem_of_getElem? e2)
/-- one put in at the first free slot -/
theorem Tb.put {t : SetTable} {hs : List Int} (T : Tb t hs) {h : Int} {K p : Nat} (hp : SetTable.below t.place (way t.mask h K) = p) (hK : way t.mask h K ∉ t.place.toList) (hb : ∀ k, k < K → way t.mask h k ∈ t.place.toList) :
    p ≤ hs.length ∧ Tb (t.put (way t.mask h K)).1 (hs.take p ++ h :: hs.drop p) ∧ (t.put (way t.mask h K)).1.fill = hs.length + 1 := by
  have hm := in_table t.mask h K
  have hle : p ≤ t.place.toList.length := by
    have := (below_cut T.up (way t.mask h K)).1
    rw [hp] at this; exact this
  have hlh : p ≤ hs.length := by rw [← T.len]; exact hle
  have pl : (t.put (way t.mask h K)).1.place.toList = t.place.toList.take p ++ way t.mask h K :: t.place.toList.drop p := by rw [put_place, hp]
  have len2 : (t.put (way t.mask h K)).1.place.toList.length = hs.length + 1 := by rw [pl, len_ins _ hle, T.len]
  have more : ∀ x, x ∈ t.place.toList → x ∈ (t.put (way t.mask h K)).1.place.toList := fun x hx => by rw [pl]; exact mem_ins.2 (.inr hx)
  refine ⟨hlh, ⟨?_, put_dm T.nod _, by rw [len2, len_ins _ hlh], T.big, fun x hx => ?_, fun i h' j' h1 h2 => ?_⟩, ?_⟩
  · exact ris_insert T.up fun z => hK (by
      rw [← Array.getElem?_toList] at z
      exact List.mem_of_getElem? z)
  · rw [pl] at hx
    rcases mem_ins.1 hx with z | z
    · exact z ▸ hm
    · exact T.lim x z
  · rw [pl, tins_get _ hle] at h2
    rw [tins_get _ hlh] at h1
    split at h1
    · rename_i c
      rw [if_pos c] at h2
      exact (T.hit i h' j' h1 h2).imp more
    · rename_i c
      rw [if_neg c] at h2
      split at h1
      · rename_i d
        rw [if_pos d] at h2
        cases h1
        cases h2
        exact ⟨K, rfl, fun k hk => more _ (hb k hk)⟩
      · rename_i d
        rw [if_neg d] at h2
        exact (T.hit (i - 1) h' j' h1 h2).imp more
  · show (t.put (way t.mask h K)).1.place.size + (t.put (way t.mask h K)).1.dummies.size = _
    rw [put_dm T.nod, ← Array.length_toList, len2]; rfl

/-! ### all laid anew -/
theorem free_at {m : Nat} (b : Big m) (owner : Array (Option Nat)) (h : Int) {j : Nat} (hj : j ≤ m) (hf : oAt owner j = none) :
    ∃ K, SetTable.layClean.free m owner (SetTable.turns m) (SetTable.bits h % (m + 1)) (SetTable.bits h) = some (way m h K) ∧ oAt owner (way m h K) = none ∧ ∀ k, k < K → oAt owner (way m h k) ≠ none := by
  obtain ⟨n, n1, n2⟩ := runs_meet b h hj
  have e : way m h (off m (SetTable.bits h % (m + 1)) (SetTable.bits h) n) = j := by
    show (nth m (runAt m _ _) _).j = j
    rw [nth_off, itL_run]; exact n2
  obtain ⟨K, a1, a2, a3⟩ := st_least (p := fun k => oAt owner (way m h k) = none) _ (show oAt owner (way m h _) = none by rw [e]; exact hf)
  refine ⟨K, free_spec m owner (SetTable.turns m) n _ _ K (by unfold SetTable.turns; omega) a1 (fun k hk => ?_) ?_, a2, a3⟩
  · have q : oAt owner (way m h k) ≠ none := a3 k hk
    exact Option.isNone_eq_false_iff.mpr (Option.isSome_iff_ne_none.mpr q)
  · exact Option.isNone_iff_eq_none.mpr a2
/-- who sits where, behind some hashes -/
structure Sit (m : Nat) (hs : List Int) (owner : Array (Option Nat)) : Prop where
  size : owner.size = m + 1
  who : ∀ j k, j ≤ m → oAt owner j = some k → ∃ h, hs[k]? = some h ∧ Hit (fun x => oAt owner x ≠ none) m h j
  every : ∀ k, k < hs.length → ∃ j, j ≤ m ∧ oAt owner j = some k
  taken : ∃ l : List Nat, l.length = hs.length ∧ ∀ j, j ≤ m → oAt owner j ≠ none → j ∈ l
theorem Sit.nil (m : Nat) : Sit m [] (Array.replicate (m + 1) none) :=
  { size := by simp
    who := fun j k hj e => by rw [oAt_init hj] at e; cases e
    every := fun k hk => absurd hk (Nat.not_lt_zero k)
    taken := ⟨[], rfl, fun j hj e => absurd (oAt_init hj) e⟩ }
theorem Sit.next {m : Nat} (b : Big m) {hs : List Int} {owner : Array (Option Nat)} (W : Sit m hs owner) (hl : hs.length ≤ m) (h : Int) :
    ∃ j, SetTable.layClean.free m owner (SetTable.turns m) (SetTable.bits h % (m + 1)) (SetTable.bits h) = some j ∧ Sit m (hs ++ [h]) (owner.setIfInBounds j (some hs.length)) := by
  obtain ⟨l, l1, l2⟩ := W.taken
  obtain ⟨j0, j1, j2⟩ := st_missing l (m + 1) (by omega)
  have jf : oAt owner j0 = none := Classical.byContradiction fun z => j2 (l2 j0 (Nat.le_of_lt_succ j1) z)
  obtain ⟨K, f1, f2, f3⟩ := free_at b owner h (Nat.le_of_lt_succ j1) jf
  have wm := in_table m h K
  refine ⟨way m h K, f1, ?_⟩
  have here : oAt (owner.setIfInBounds (way m h K) (some hs.length)) (way m h K) = some hs.length := oAt_set_self _ (by rw [W.size]; omega)
  have there : ∀ x, x ≠ way m h K → oAt (owner.setIfInBounds (way m h K) (some hs.length)) x = oAt owner x := fun x hx => oAt_set_ne _ hx
  have grow : ∀ x, oAt owner x ≠ none → oAt (owner.setIfInBounds (way m h K) (some hs.length)) x ≠ none := fun x hx => by
    by_cases c : x = way m h K
    · rw [c, here]; simp
    · rw [there x c]; exact hx
  refine ⟨by rw [Array.size_setIfInBounds]; exact W.size, fun j k hj e => ?_, fun k hk => ?_, ⟨l ++ [way m h K], by simp [l1], fun j hj e => ?_⟩⟩
  · by_cases c : j = way m h K
    · subst c
      rw [here] at e
      cases e
      exact ⟨h, by simp, K, rfl, fun k hk => grow _ (f3 k hk)⟩
    · rw [there j c] at e
      obtain ⟨h', a1, a2⟩ := W.who j k hj e
      refine ⟨h', ?_, a2.imp grow⟩
      rw [List.getElem?_append_left (List.getElem?_eq_some_iff.mp a1).1]; exact a1
  · rw [List.length_append, List.length_singleton] at hk
    rcases Nat.lt_or_ge k hs.length with c | c
    · obtain ⟨j, a1, a2⟩ := W.every k c
      exact ⟨j, a1, by rw [there j fun z => by rw [z, f2] at a2; cases a2]; exact a2⟩
    · exact ⟨way m h K, wm, by rw [here, show k = hs.length by omega]⟩
  · by_cases c : j = way m h K
    · simp [c]
    · rw [there j c] at e
      exact List.mem_append_left _ (l2 j hj e)
theorem sits {m : Nat} (b : Big m) : ∀ (rest hs : List Int) (owner : Array (Option Nat)), Sit m hs owner → hs.length + rest.length ≤ m →
    ∃ o2, rest.foldl (stepF m) (some (owner, hs.length)) = some (o2, (hs ++ rest).length) ∧ Sit m (hs ++ rest) o2
  | [], hs, owner, W, _ => ⟨owner, by simp, by simpa using W⟩
  | h :: rest, hs, owner, W, hl => by
    simp only [List.length_cons] at hl
    obtain ⟨j, e, W2⟩ := W.next b (by omega) h
    obtain ⟨o2, q1, q2⟩ := sits b rest (hs ++ [h]) _ W2 (by simp; omega)
    refine ⟨o2, ?_, by simpa using q2⟩
    rw [List.foldl_cons, stepF_some e]
    simpa using q1
theorem clean_ok {m : Nat} (b : Big m) {hs : Array Int} (hn : hs.size ≤ m) : ∃ owner, SetTable.layClean m hs = some owner ∧ Sit m hs.toList owner := by
  obtain ⟨o2, q1, q2⟩ := sits b hs.toList [] _ (Sit.nil m) (by simpa using hn)
  refine ⟨o2, ?_, by simpa using q2⟩
  rw [layClean_eq]
  exact (congrArg (fun z => Option.map (·.1) z) q1)
theorem anew (t : SetTable) {hs : Array Int} {wanted M : Nat} (hw : SetTable.sizeAbove wanted - 1 = M) (b : Big M) (hn : hs.size ≤ M) :
    ∃ t' order, t.relaid hs wanted = some (t', order) ∧ order.toList.Perm (List.range hs.size) ∧ Tb t' (order.toList.map fun i => hs.getD i 0) ∧ t'.mask = M ∧ t'.led = t.led ∧ t'.plain = t.plain := by
  obtain ⟨owner, e, W⟩ := clean_ok b hn
  have up := ris_live (fun j => owner.getD j none) (List.range (M + 1)) (by
    unfold Ris
    first | exact List.pairwise_lt_range | exact List.pairwise_lt_range _)
  have u1 : Ris ((liveOf M owner).map (·.1)) := up.1
  have nd : ((liveOf M owner).map (·.1)).Nodup := by
    unfold Ris at u1
    exact u1.imp fun h => Nat.ne_of_lt h
  have mem : ∀ {j k : Nat}, (j, k) ∈ liveOf M owner ↔ j ≤ M ∧ oAt owner j = some k := mem_live W.size
  have len : (liveOf M owner).length = hs.size := by
    obtain ⟨l, l1, l2⟩ := W.taken
    have a := nat_nodup_len ((liveOf M owner).map (·.1)) l nd fun x hx => by
      obtain ⟨⟨y, k⟩, hq, rfl⟩ := List.mem_map.mp hx
      obtain ⟨c1, c2⟩ := mem.1 hq
      exact l2 y c1 (by rw [c2]; simp)
    have d := nat_nodup_len (List.range hs.size) ((liveOf M owner).map (·.2)) List.nodup_range fun k hk => by
      obtain ⟨j, c1, c2⟩ := W.every k (by simpa using hk)
      exact List.mem_map.mpr ⟨(j, k), mem.2 ⟨c1, c2⟩, rfl⟩
    simp only [List.length_map, List.length_range, Array.length_toList] at a d l1
    omega
  refine ⟨tabOf t M owner, ((liveOf M owner).map (·.2)).toArray, by rw [relaid_eq, hw, e]; rfl, ?_, ⟨u1, rfl, ?_, b, fun x hx => ?_, fun i h j h1 h2 => ?_⟩, rfl, rfl, rfl⟩
  · refine perm_range hs.size _ (by simpa using len) fun k hk => ?_
    obtain ⟨j, c1, c2⟩ := W.every k (by simpa using hk)
    exact List.mem_map.mpr ⟨(j, k), mem.2 ⟨c1, c2⟩, rfl⟩
  · simp [tabOf]
  · have hx : x ∈ (liveOf M owner).map (·.1) := hx
    obtain ⟨⟨y, k⟩, hq, rfl⟩ := List.mem_map.mp hx
    exact (mem.1 hq).1
  · have h1 : (((liveOf M owner).map (·.2)).map fun i => hs.getD i 0)[i]? = some h := h1
    have h2 : ((liveOf M owner).map (·.1))[i]? = some j := h2
    rw [List.getElem?_map] at h2
    obtain ⟨⟨y, k⟩, hq, rfl⟩ := Option.map_eq_some_iff.mp h2
    rw [List.getElem?_map, List.getElem?_map, hq] at h1
    have eh : hs.getD k 0 = h := Option.some.inj h1
    obtain ⟨c1, c2⟩ := mem.1 (List.mem_of_getElem? hq)
    obtain ⟨h0, d1, d2⟩ := W.who y k c1 c2
    have e0 : hs.getD k 0 = h0 := by
      rw [Array.getD_eq_getD_getElem?, ← Array.getElem?_toList, d1]; rfl
    obtain ⟨K, w1, w2⟩ := d2
    refine ⟨K, by rw [← eh, e0]; exact w1, fun k' hk' => ?_⟩
    have ww := w2 k' hk'
    rw [← eh, e0]
    show way M h0 k' ∈ (liveOf M owner).map (·.1)
    cases z : oAt owner (way M h0 k') with
    | none => exact absurd z ww
    | some k2 => exact List.mem_map.mpr ⟨(_, k2), mem.2 ⟨in_table M h0 k', z⟩, rfl⟩
end Sg

end
section
set_option Elab.async false
set_option linter.all false
set_option maxRecDepth 100000
set_option maxHeartbeats 2000000
/-! Sg2: sets of tuples (keys of any depth to eight): searching, adding. -/
namespace Sg
open PySem L2
open PySem.Spec
open PyProof.Rows hiding St

abbrev KA := Addr × NestedKey
def rowK (w : World) (p : KA) : Int × Value := (p.2.hash w, Value.ref p.1)
section
variable {P : Program} {w : World} {A : Around} {E : Value → Shared → Prop}
/-! ### what a search asks of a key -/
def NoCls (P : Program) (w : World) (n : Nat) (s : Shared) (v : Value) : Prop := ∀ (A : Around) (E : Value → Shared → Prop) (Q : Bool → Shared → Prop), Q false s → wpAny (model P w) A (ofAClassStatement n v) Q E s
def ByVal (P : Program) (w : World) (n : Nat) (s : Shared) (v : Value) : Prop := ∃ b : Bool, ∀ (A : Around) (E : Value → Shared → Prop) (Q : Bool → Shared → Prop), Q b s → wpAny (model P w) A (hashByValue n v) Q E s
mutual
theorem nocls : ∀ (k : NestedKey) (v : Value) (n : Nat) (s : Shared), NestedIs s.heap k v → k.depth ≤ n → NoCls P w n s v
  | .none, _, n, s, x, _ => by cases x; intro A E Q q; cases n <;> exact wpAny_pure q
  | .num i, _, n, s, x, _ => by cases x <;> (intro A E Q q; cases n <;> exact wpAny_pure q)
  | .text y, _, n, s, x, _ => by cases x; intro A E Q q; cases n <;> exact wpAny_pure q
  | .tup ks, _, n, s, x, hn => by
    cases x with
    | @tup a o vs m _ hg hc hd hk =>
      simp only [NestedKey.depth] at hn
      cases n with
      | zero => omega
      | succ n =>
        have all := noclss ks _ n s hk (by omega)
        intro A E Q q
        unfold ofAClassStatement
        refine wpAny_bind (wpAny_typeOf (show s.TypeIs (.ref a) "tuple" from ⟨o, hg, hc⟩) ?_)
        dsimp only
        have e : (("tuple" : String) == "tuple") = true := by decide
        simp only [e, if_true, Bool.not_true, Bool.false_eq_true, if_false]
        try refine wpAny_bind (wpAny_pure ?_)
        try simp only [Bool.not_true, Bool.false_eq_true, if_false]
        refine wpAny_bind (m := seqItems? (.ref a)) (wpAny_seqItems hg hd ?_)
        dsimp only
        refine wpAny_bind ?_
        show wpAny _ _ (forIn vs _ _) _ _ s
        rw [← Array.forIn_toList]
        refine wpAny_forIn_list _ (fun left r s' => r.1 = none ∧ s' = s ∧ ∀ v ∈ left, NoCls P w n s v) _ ?_ ?_ _ _ ⟨rfl, rfl, all⟩
        · rintro v left r s' ⟨h1, rfl, h2⟩
          refine wpAny_bind (h2 v List.mem_cons_self _ _ _ ?_)
          simp only [Bool.false_eq_true, if_false]
          exact wpAny_pure ⟨rfl, rfl, fun u hu => h2 u (List.mem_cons_of_mem _ hu)⟩
        · rintro ⟨r1, r2⟩ s' ⟨h1, rfl, _⟩
          simp only at h1
          subst h1
          exact wpAny_pure q
theorem noclss : ∀ (ks : List NestedKey) (vs : List Value) (n : Nat) (s : Shared), NestedAll s.heap ks vs → NestedKey.depthAll ks ≤ n → ∀ v ∈ vs, NoCls P w n s v
  | [], _, _, _, x, _, _, hv => by cases x; cases hv
  | k :: ks, _, n, s, x, hn, v, hv => by
    cases x with
    | cons x1 x2 =>
      simp only [NestedKey.depthAll] at hn
      rcases List.mem_cons.mp hv with e | hv
      · subst e; exact nocls k _ n s x1 (by omega)
      · exact noclss ks _ n s x2 (by omega) v hv
end
theorem ByVal.items {n : Nat} {s : Shared} : ∀ (vs : List Value), (∀ v ∈ vs, ByVal P w n s v) → ∃ b : Bool, ∀ (A : Around) (E : Value → Shared → Prop) (Q : Option Bool × Unit → Shared → Prop), (∀ r : Option Bool × Unit, (if b then r.1 = none else r.1 = some false) → Q r s) →
    wpAny (model P w) A (forIn vs ((none, ()) : Option Bool × Unit) fun x _ => do
      let y ← hashByValue n x
      if !y then pure (ForInStep.done (some false, ())) else pure (ForInStep.yield (none, ()))) Q E s
  | [], _ => ⟨true, fun A E Q q => wpAny_pure (q _ rfl)⟩
  | v :: vs, h => by
    obtain ⟨b1, h1⟩ := h v List.mem_cons_self
    obtain ⟨b2, h2⟩ := ByVal.items vs fun u hu => h u (List.mem_cons_of_mem _ hu)
    refine ⟨b1 && b2, fun A E Q q => ?_⟩
    rw [List.forIn_cons]
    refine wpAny_bind (wpAny_bind (h1 _ _ _ ?_))
    cases b1 with
    | false => exact wpAny_pure (wpAny_pure (q _ rfl))
    | true => exact wpAny_pure (h2 _ _ _ q)
mutual
theorem byval : ∀ (k : NestedKey) (v : Value) (n : Nat) (s : Shared), NestedIs s.heap k v → ByVal P w n s v
  | .none, _, n, s, x => by cases x; exact ⟨true, fun A E Q q => by cases n <;> exact wpAny_pure q⟩
  | .num i, _, n, s, x => by cases x <;> exact ⟨true, fun A E Q q => by cases n <;> exact wpAny_pure q⟩
  | .text y, _, n, s, x => by cases x; exact ⟨false, fun A E Q q => by cases n <;> exact wpAny_pure q⟩
  | .tup ks, _, 0, s, x => by cases x; exact ⟨false, fun A E Q q => wpAny_pure q⟩
  | .tup ks, _, n + 1, s, x => by
    cases x with
    | @tup a o vs m _ hg hc hd hk =>
      obtain ⟨b, hb⟩ := ByVal.items vs.toList (byvals ks _ n s hk)
      refine ⟨b, fun A E Q q => ?_⟩
      unfold hashByValue
      refine wpAny_bind (wpAny_specialOf (show s.TypeIs (.ref a) "tuple" from ⟨o, hg, hc⟩) F.slot_tuple_hash.lookup ?_)
      refine wpAny_bind (m := seqItems? (.ref a)) (wpAny_seqItems hg hd ?_)
      refine wpAny_bind ?_
      show wpAny _ _ (forIn vs _ _) _ _ s
      rw [← Array.forIn_toList]
      refine hb _ _ _ fun r hr => ?_
      obtain ⟨r1, r2⟩ := r
      cases b with
      | false =>
        have e : r1 = some false := hr
        subst e
        exact wpAny_pure q
      | true =>
        have e : r1 = none := hr
        subst e
        exact wpAny_pure q
theorem byvals : ∀ (ks : List NestedKey) (vs : List Value) (n : Nat) (s : Shared), NestedAll s.heap ks vs → ∀ v ∈ vs, ByVal P w n s v
  | [], _, _, _, x, _, hv => by cases x; cases hv
  | k :: ks, _, n, s, x, v, hv => by
    cases x with
    | cons x1 x2 =>
      rcases List.mem_cons.mp hv with e | hv
      · subst e; exact byval k _ n s x1
      · exact byvals ks _ n s x2 v hv
end

/-! ### the set -/
structure SetG (P : Program) (w : World) (h : Heap) (a : Addr) (L : List KA) (es : Array (Int × Value)) (ep : Nat) (t : SetTable) : Prop where
  ob : ∃ o, h.get? a = some o ∧ o.ExactSet ∧ o.data = .set es ep t
  rw : es.toList = L.map (rowK w)
  tb : Tb t (L.map fun p => p.2.hash w)
  nd : (L.map (·.2)).Nodup
  ky : ∀ p ∈ L, (nestedKind P w).is h p.2 p.1
  ld : w.params.followText "set-order" = true ∨ t.led = true
  rm : L.length * 5 < t.mask * 3
  fw : L.length < 1200
variable {s : Shared} {a : Addr} {L : List KA} {es : Array (Int × Value)} {ep : Nat} {t : SetTable}
theorem SetG.count (R : SetG P w s.heap a L es ep t) : es.size = L.length := by
  rw [← Array.length_toList, R.rw, List.length_map]
theorem fits_of {hs : List Int} {n : Nat} (T : Tb t hs) (e : n = hs.length) (l : n ≤ t.mask) : t.fits n = true := by
  have h1 := T.len
  rw [Array.length_toList] at h1
  unfold SetTable.fits SetTable.fill
  rw [T.nod, Bool.and_eq_true, beq_iff_eq, decide_eq_true_eq]
  exact ⟨by omega, by show t.place.size + 0 ≤ t.mask; omega⟩
theorem SetG.fit (R : SetG P w s.heap a L es ep t) : t.fits es.size = true := by
  have := R.rm
  exact fits_of R.tb (by rw [List.length_map]; exact R.count) (by rw [R.count]; omega)
theorem SetG.row (R : SetG P w s.heap a L es ep t) {i : Nat} {p : KA} (h : L[i]? = some p) : es[i]? = some (p.2.hash w, Value.ref p.1) := by
  rw [← Array.getElem?_toList, R.rw, List.getElem?_map, h]; rfl
theorem SetG.whole (R : SetG P w s.heap a L es ep t) : ¬ t.gaveWay = true := by
  unfold SetTable.gaveWay
  rw [R.tb.big.odd]
  decide
/-- a search among keys shows nothing -/
theorem quiet_search {k : NestedKey} {b : Addr} {Q : Bool → Shared → Prop} (hk : (nestedKind P w).is s.heap k b) {ys : List Value} (hy : ∀ y ∈ ys, ∃ k' c, y = Value.ref c ∧ (nestedKind P w).is s.heap k' c) (q : Q false s) :
    wpAny (model P w) A (searchCouldBeSeen (.ref b) ys) Q E s := by
  unfold searchCouldBeSeen
  refine wpAny_bind ?_
  refine wpAny_forIn_list _ (fun left r s' => r.1 = none ∧ s' = s ∧ ∀ y ∈ left, ∃ k' c, y = Value.ref c ∧ (nestedKind P w).is s.heap k' c) _ ?_ ?_ _ _ ⟨rfl, rfl, hy⟩
  · rintro v left r s' ⟨h1, rfl, h2⟩
    obtain ⟨k', c, rfl, hc⟩ := h2 v List.mem_cons_self
    have later := fun u hu => h2 u (List.mem_cons_of_mem _ hu)
    dsimp only
    split
    · exact wpAny_pure ⟨rfl, rfl, later⟩
    · refine wpAny_bind ((nestedKind P w).quiet hk ?_)
      simp only [Bool.not_true, Bool.false_eq_true, if_false]
      refine wpAny_bind ((nestedKind P w).quiet hc ?_)
      simp only [Bool.not_true, Bool.false_eq_true, if_false]
      refine wpAny_bind (nocls _ _ 8 _ hk.1 hk.2 _ _ _ ?_)
      simp only [Bool.false_eq_true, if_false]
      refine wpAny_bind (nocls _ _ 8 _ hc.1 hc.2 _ _ _ ?_)
      simp only [Bool.false_eq_true, if_false]
      exact wpAny_pure ⟨rfl, rfl, later⟩
  · rintro ⟨r1, r2⟩ s' ⟨h1, rfl, _⟩
    simp only at h1
    subst h1
    exact wpAny_pure q

/-- the state of the search behind c steps -/
abbrev stp (m : Nat) (h : Int) (c : Nat) : SetTable.Probe := nth m (runAt m (SetTable.bits h % (m + 1)) (SetTable.bits h)) c
theorem stp_add (m : Nat) (h : Int) (c q : Nat) : nth m (stp m h c) q = stp m h (c + q) := (nth_add m c _ q).symm
theorem way_stp (m : Nat) (h : Int) (c q : Nat) : (nth m (stp m h c) q).j = way m h (c + q) := congrArg SetTable.Probe.j (stp_add m h c q)
theorem no_dummy (m : Nat) : ∀ (n : Nat) (p : SetTable.Probe), p.dummy = none → (nth m p n).dummy = none
  | 0, _, h => h
  | n + 1, p, h => no_dummy m n (adv m p) (by unfold adv; split <;> exact h)
/-- the search, from the c-th step on -/
theorem seek (R : SetG P w s.heap a L es ep t) {x : Addr} {k : NestedKey} (hx : (nestedKind P w).is s.heap k x) (hu : A.units + 8 < cLine) {K : Nat} (far : K < 10 * SetTable.turns t.mask)
    (free : way t.mask (k.hash w) K ∉ t.place.toList) (full : ∀ c, c < K → way t.mask (k.hash w) c ∈ t.place.toList) {Q : SetFound → Shared → Prop}
    (yes : k ∈ L.map (·.2) → Q (.there none) s) (no : k ∉ L.map (·.2) → Q (.free (way t.mask (k.hash w) K) false) s) :
    ∀ (f c : Nat) (st : Option SetTable.Probe), st.getD (t.probeStart (k.hash w)) = stp t.mask (k.hash w) c → c ≤ K → K - c < f →
      (∀ (i : Nat) p, L[i]? = some p → p.2 = k → ∃ c', c ≤ c' ∧ c' < K ∧ t.place.toList[i]? = some (way t.mask (k.hash w) c')) →
      wpAny (model P w) A (setSearchFrom a (.ref x) (k.hash w) true f st) Q E s
  | 0, c, st, _, _, hf, _ => absurd hf (Nat.not_lt_zero _)
  | f + 1, c, st, hst, hc, hf, ahead => by
    obtain ⟨o, ho, hex, hd⟩ := R.ob
    rw [setSearchFrom_succ]
    refine wpAny_bind (wpAny_setState_of ho hd R.fit ?_)
    dsimp only
    refine wp_if_neg R.whole ?_
    try refine wpAny_bind (wpAny_pure ?_)
    have hashes : ∀ (i : Nat) p, L[i]? = some p → (es[i]?.map (·.1)).getD 0 = p.2.hash w := fun i p hp => by rw [R.row hp]; rfl
    have eK : c + (K - c) = K := by omega
    have sp := go_spec t R.tb.up R.tb.nod (fun i => (es[i]?.map (·.1)).getD 0) (k.hash w) (10 * SetTable.turns t.mask) (K - c) (stp t.mask (k.hash w) c) (no_dummy _ _ _ rfl) (by omega)
      (fun q hq => by rw [way_stp]; exact full _ (by omega)) (by rw [way_stp, eK]; exact free)
    rw [← hst] at sp
    rcases sp with ⟨q, i, q1, q2, q3, q4, q5⟩ | ⟨q1, q2⟩
    · rw [show t.probe (fun i => (es[i]?.map (·.1)).getD 0) (k.hash w) (st.getD (t.probeStart (k.hash w))) = _ from q5]
      dsimp only
      rw [hst, way_stp] at q2
      rw [hst, way_stp, stp_add]
      have il : i < L.length := by
        have z1 := (List.getElem?_eq_some_iff.mp q2).1
        have z2 := R.tb.len
        rw [List.length_map] at z2
        omega
      obtain ⟨p, hp⟩ : ∃ p, L[i]? = some p := ⟨_, List.getElem?_eq_getElem il⟩
      have pm : p ∈ L := List.mem_of_getElem? hp
      have last : wpAny (model P w) A (searchRest a (.ref x) (k.hash w) true f es t (way t.mask (k.hash w) (c + q)) i (stp t.mask (k.hash w) (c + (q + 1)))) Q E s := by
        unfold searchRest
        rw [R.row hp]
        dsimp only
        refine wpAny_bind (wpAny_holding ((nestedKind P w).eqBool hu (R.ky p pm) hx ?_))
        refine wpAny_bind (wpAny_setState_of ho hd R.fit ?_)
        dsimp only
        by_cases hk : p.2 = k
        · refine wp_if_pos (by simp [hk]) (wpAny_pure (yes (List.mem_map.mpr ⟨p, pm, hk⟩)))
        · refine wp_if_neg (by simp [hk]) ?_
          try refine wpAny_bind (wpAny_pure ?_)
          rw [sameMem]
          dsimp only
          have live : t.slot (way t.mask (k.hash w) (c + q)) = .live i := slot_live R.tb.up q2
          simp only [if_true, live, R.row hp]
          refine wpAny_bind (wpAny_isSame_ref_self (wpAny_bind (wpAny_pure ?_)))
          simp only [if_true]
          refine wp_if_neg (by simp [hk]) ?_
          refine seek R hx hu far free full yes no f (c + (q + 1)) _ rfl (by omega) (by omega) fun i0 p0 h0 hk0 => ?_
          obtain ⟨c', a1, a2, a3⟩ := ahead i0 p0 h0 hk0
          refine ⟨c', Nat.lt_of_not_le fun z => ?_, a2, a3⟩
          have z : c' ≤ c + q := z
          rcases Nat.lt_or_eq_of_le z with z | z
          · refine q4 (c' - c) i0 (by omega) ?_ ((hashes i0 p0 h0).trans (by rw [hk0]))
            rw [hst, way_stp, show c + (c' - c) = c' by omega]; exact a3
          · rw [z] at a3
            have s0 := slot_live R.tb.up a3
            rw [live] at s0
            injection s0 with s0
            rw [← s0, hp] at h0
            cases h0
            exact hk hk0
      by_cases hl : t.led = true
      · refine wp_if_neg (by simp [hl]) ?_
        try refine wpAny_bind (wpAny_pure ?_)
        exact last
      · refine wp_if_pos (by simp [hl]) (wpAny_bind (quiet_search hx (fun y hy => ?_) ?_))
        · obtain ⟨e, he, rfl⟩ := List.mem_map.mp hy
          have he1 : e ∈ es ∧ e.1 = k.hash w := by simpa using he
          have he2 : e ∈ es.toList := by simpa using he1.1
          rw [R.rw] at he2
          obtain ⟨p2, hp2, rfl⟩ := List.mem_map.mp he2
          exact ⟨p2.2, p2.1, rfl, R.ky p2 hp2⟩
        · refine wp_if_neg (by decide) ?_
          try refine wpAny_bind (wpAny_pure ?_)
          exact last
    · rw [show t.probe (fun i => (es[i]?.map (·.1)).getD 0) (k.hash w) (st.getD (t.probeStart (k.hash w))) = _ from q2]
      dsimp only
      rw [hst, way_stp, eK]
      refine wpAny_pure (no fun hm => ?_)
      obtain ⟨p0, h0, hk0⟩ := List.mem_map.mp hm
      obtain ⟨i0, h00⟩ := List.mem_iff_getElem?.mp h0
      obtain ⟨c', a1, a2, a3⟩ := ahead i0 p0 h00 hk0
      refine q1 (c' - c) i0 (by omega) ?_ ((hashes i0 p0 h00).trans (by rw [hk0]))
      rw [hst, way_stp, show c + (c' - c) = c' by omega]; exact a3
theorem seek_all (R : SetG P w s.heap a L es ep t) {x : Addr} {k : NestedKey} (hx : (nestedKind P w).is s.heap k x) (hu : A.units + 8 < cLine) {Q : SetFound → Shared → Prop}
    (yes : k ∈ L.map (·.2) → Q (.there none) s)
    (no : ∀ K, k ∉ L.map (·.2) → way t.mask (k.hash w) K ∉ t.place.toList → (∀ c, c < K → way t.mask (k.hash w) c ∈ t.place.toList) → Q (.free (way t.mask (k.hash w) K) false) s) :
    wpAny (model P w) A (setSearch a (.ref x) (k.hash w) true) Q E s := by
  have rm := R.rm
  obtain ⟨K, k1, k2, k3⟩ := R.tb.stop (by rw [List.length_map]; omega) (k.hash w)
  have lim : ∀ m ∈ bigs, 10 * SetTable.turns m ≤ 20620 := by decide
  have := lim _ R.tb.big
  unfold setSearch
  refine seek R hx hu k1 k2 k3 yes (fun n => no K n k2 k3) 100000 0 none rfl (Nat.zero_le _) (by omega) fun i p hp hk => ?_
  have il : i < t.place.toList.length := by
    rw [R.tb.len, List.length_map]
    exact (List.getElem?_eq_some_iff.mp hp).1
  obtain ⟨c, c1, c2⟩ := R.tb.ahead k2 (show (L.map fun p => p.2.hash w)[i]? = some (k.hash w) by rw [List.getElem?_map, hp, ← hk]; rfl) (List.getElem?_eq_getElem il)
  exact ⟨c, Nat.zero_le _, c1, by rw [c2]; exact List.getElem?_eq_getElem il⟩

/-! ### adding -/
theorem key_still {h h' : Heap} {k : NestedKey} {a b : Addr} {o : Obj} (hb : (nestedKind P w).is h k b) (ho : h.get? a = some o) (hd : o.data = .set es ep t) (hs : Heap.SameBut a h h') : (nestedKind P w).is h' k b :=
  ⟨NestedIs.at (fun c u vs n hc hv => (hs.2 c fun z => by
    subst z
    rw [ho] at hc
    cases hc
    rw [hd] at hv
    cases hv).trans hc) k _ hb.1, hb.2⟩
theorem ins_perm {α : Type} (l : List α) (p : Nat) (x : α) : (l.take p ++ x :: l.drop p).Perm (x :: l) := by
  refine List.perm_middle.trans ?_
  rw [List.take_append_drop]
theorem picks {α β : Type} (l : List α) (f : α → β) (g : Nat → Option β) (hg : ∀ i, g i = (l[i]?).map f) : ∀ is : List Nat, (∀ i ∈ is, i < l.length) → ∃ l2 : List α, is.filterMap g = l2.map f ∧ l2 = is.filterMap (fun i => l[i]?) ∧ l2.length = is.length ∧ ∀ (j : Nat) (x : α), l2[j]? = some x → ∃ i : Nat, is[j]? = some i ∧ l[i]? = some x
  | [], _ => ⟨[], rfl, rfl, rfl, fun j x e => nomatch e⟩
  | i :: is, h => by
    obtain ⟨l2, e1, e2, e3, e4⟩ := picks l f g hg is fun j hj => h j (List.mem_cons_of_mem _ hj)
    obtain ⟨x, hx⟩ : ∃ x, l[i]? = some x := ⟨_, List.getElem?_eq_getElem (h i List.mem_cons_self)⟩
    refine ⟨x :: l2, ?_, ?_, by simp [e3], fun j y e => ?_⟩
    · rw [List.filterMap_cons_some (by rw [hg, hx]; rfl), e1]; rfl
    · rw [List.filterMap_cons_some hx, ← e2]
    · cases j with
      | zero => cases e; exact ⟨i, rfl, hx⟩
      | succ j => exact e4 j y e
theorem all_range {α : Type} (l : List α) : (List.range l.length).filterMap (fun i => l[i]?) = l := by
  refine List.ext_getElem? fun i => ?_
  have key : ∀ n, n ≤ l.length → (List.range n).filterMap (fun i => l[i]?) = l.take n := by
    intro n
    induction n with
    | zero => intro _; simp
    | succ n ih =>
      intro hn
      rw [List.range_succ, List.filterMap_append, ih (by omega), List.take_succ]
      simp [List.getElem?_eq_getElem (show n < l.length from hn)]
  rw [key _ (Nat.le_refl _), List.take_length]
/-- the table laid anew -/
theorem relay_go {o : Obj} (ho : s.heap.get? a = some o) (hex : o.ExactSet) (hd : o.data = .set es ep t) (er : es.toList = L.map (rowK w)) (T : Tb t (L.map fun p => p.2.hash w)) (lm : L.length ≤ t.mask)
    (nd : (L.map (·.2)).Nodup) (ky : ∀ p ∈ L, (nestedKind P w).is s.heap p.2 p.1) (ld : w.params.followText "set-order" = true ∨ t.led = true) (fw : L.length < 1200) {wanted M : Nat}
    (hw : SetTable.sizeAbove wanted - 1 = M) (hM : Big M) (hw2 : SetTable.sizeAbove wanted ≤ 2048) (hn : L.length * 5 < M * 3) {Q : Unit → Shared → Prop}
    (q : ∀ h' L' es' ep' t', Heap.SameBut a s.heap h' → SetG P w h' a L' es' ep' t' → L'.Perm L → Q () { s with heap := h' }) : wpAny (model P w) A (setRelay a wanted) Q E s := by
  have sz : es.size = L.length := by rw [← Array.length_toList, er, List.length_map]
  obtain ⟨t', order, e, op, T2, e1, e2, e3⟩ := anew t (hs := es.map (·.1)) hw hM (by rw [Array.size_map, sz]; omega)
  rw [Array.size_map, sz] at op
  obtain ⟨L2, r1, r2, r3, r4⟩ := picks L (rowK w) (fun i => es[i]?) (fun i => by rw [← Array.getElem?_toList, er, List.getElem?_map]) order.toList fun i hi => List.mem_range.mp (op.mem_iff.mp hi)
  have pm : L2.Perm L := by
    rw [r2]
    refine (op.filterMap _).trans ?_
    rw [all_range]
  have el : (order.filterMap (es[·]?)).toList = L2.map (rowK w) := by rw [Array.toList_filterMap]; exact r1
  have es2 : (order.filterMap (es[·]?)).size = es.size := by rw [← Array.length_toList, el, List.length_map, pm.length_eq, sz]
  have hh : (order.toList.map fun i => (es.map (·.1)).getD i 0) = L2.map fun p => p.2.hash w := by
    refine List.ext_getElem? fun j => ?_
    rw [List.getElem?_map, List.getElem?_map]
    cases hj : L2[j]? with
    | none =>
      have : order.toList[j]? = none := by
        rw [List.getElem?_eq_none_iff] at hj ⊢
        omega
      rw [this]; rfl
    | some p =>
      obtain ⟨i, i1, i2⟩ := r4 j p hj
      rw [i1]
      have z : es[i]? = some (rowK w p) := by rw [← Array.getElem?_toList, er, List.getElem?_map, i2]; rfl
      simp [Array.getD_eq_getD_getElem?, z, rowK]
  rw [hh] at T2
  rw [setRelay_eq]
  refine wpAny_bind (wpAny_setState_of ho hd (fits_of T (by rw [List.length_map]; exact sz) (by omega)) ?_)
  dsimp only
  refine wp_if_neg (by rw [sizeLine_eq]; omega) ?_
  try refine wpAny_bind (wpAny_pure ?_)
  rw [e]
  dsimp only
  refine wpAny_bind (wp_if_neg (by rw [es2]; simp) ?_)
  try refine wpAny_bind (wpAny_pure ?_)
  refine wpAny_pure ?_
  dsimp only
  refine wpAny_storeSet_of ho hd ?_ (by rw [es2, sz, sizeLine_eq]; omega)
  have sb : Heap.SameBut a s.heap (s.heap.update a (Obj.putSet (order.filterMap (es[·]?)) t')) := Heap.SameBut.update ..
  exact q _ L2 _ (ep + 1) t' sb { ob := ⟨_, store_at ho hd, ⟨hex.1, hex.2.1, hex.2.2⟩, rfl⟩, rw := el, tb := T2, nd := (pm.map (·.2)).nodup_iff.mpr nd, ky := fun p hp => key_still (ky p (pm.mem_iff.mp hp)) ho hd sb, ld := by rw [e2]; exact ld, rm := by rw [pm.length_eq, e1]; exact hn, fw := by rw [pm.length_eq]; exact fw } pm
theorem grow_sizes : ∀ p ∈ [(5, 31), (19, 127), (77, 511), (307, 2047)], SetTable.sizeAbove (SetTable.grown p.1) - 1 = p.2 ∧ SetTable.sizeAbove (SetTable.grown p.1) ≤ 2048 := by decide +kernel
/-- ADDING -/
theorem add_go (R : SetG P w s.heap a L es ep t) {x : Addr} {k : NestedKey} (hx : (nestedKind P w).is s.heap k x) (hu : A.units + 8 < cLine) (fw : L.length + 1 < 1200) {Q : Bool → Shared → Prop}
    (q : ∀ b h' L' es' ep' t', Heap.SameBut a s.heap h' → SetG P w h' a L' es' ep' t' → (k ∈ L.map (·.2) → L' = L) → (k ∉ L.map (·.2) → L'.Perm ((x, k) :: L)) → Q b { s with heap := h' }) :
    wpAny (model P w) A (setAddHashed a (.ref x) (k.hash w)) Q E s := by
  obtain ⟨o, ho, hex, hd⟩ := R.ob
  have rm := R.rm
  unfold setAddHashed
  refine wpAny_holding ?_
  rw [show 100000 = 99999 + 1 from rfl, setAddHashedIn_succ]
  refine wpAny_bind (wpAny_setState_of ho hd R.fit ?_)
  dsimp only
  refine wp_if_neg (by simp [byScan, Value.scannable]) ?_
  try refine wpAny_bind (wpAny_pure ?_)
  refine wpAny_bind (seek_all R hx hu (fun m => ?_) fun K m free full => ?_)
  · exact wpAny_pure (q false s.heap L es ep t (Heap.SameBut.refl a s.heap) R (fun _ => rfl) fun z => absurd m z)
  dsimp only
  refine wpAny_bind (wpAny_setState_of ho hd R.fit ?_)
  dsimp only
  obtain ⟨p, hp⟩ : ∃ p, SetTable.below t.place (way t.mask (k.hash w) K) = p := ⟨_, rfl⟩
  obtain ⟨g1, g2, g3⟩ := R.tb.put hp free full
  have g4 : (t.put (way t.mask (k.hash w) K)).2 = p := hp
  have g5 : (t.put (way t.mask (k.hash w) K)).1.mask = t.mask := rfl
  have g6 : (t.put (way t.mask (k.hash w) K)).1.led = t.led := rfl
  generalize t.put (way t.mask (k.hash w) K) = pt at g2 g3 g4 g5 g6 ⊢
  obtain ⟨t1, p'⟩ := pt
  dsimp only at g2 g3 g4 g5 g6 ⊢
  subst g4
  rw [List.length_map] at g1 g3
  have pm := ins_perm L p' (x, k)
  have el : (SetTable.insertAt es p' (k.hash w, Value.ref x)).toList = (L.take p' ++ (x, k) :: L.drop p').map (rowK w) := by
    rw [SetTable.toList_insertAt, R.rw, List.map_append, List.map_cons, List.map_take, List.map_drop]; rfl
  have eh : (L.map fun p => p.2.hash w).take p' ++ k.hash w :: (L.map fun p => p.2.hash w).drop p' = (L.take p' ++ (x, k) :: L.drop p').map fun p => p.2.hash w := by
    rw [List.map_append, List.map_cons, List.map_take, List.map_drop]
  rw [eh] at g2
  have nd1 : ((L.take p' ++ (x, k) :: L.drop p').map (·.2)).Nodup := (pm.map (·.2)).nodup_iff.mpr (List.nodup_cons.mpr ⟨m, R.nd⟩)
  have n1 : (L.take p' ++ (x, k) :: L.drop p').length = L.length + 1 := pm.length_eq
  have sz : es.size = L.length := R.count
  generalize SetTable.insertAt es p' (k.hash w, Value.ref x) = es1 at el ⊢
  generalize L.take p' ++ (x, k) :: L.drop p' = L1 at pm el g2 nd1 n1
  have sz1 : es1.size = L.length + 1 := by rw [← Array.length_toList, el, List.length_map, n1]
  -- behind the question of how it is hashed
  have rest : ∀ t2 : SetTable, t2.mask = t1.mask → t2.led = t1.led → t2.fill = t1.fill → Tb t2 (L1.map fun p => p.2.hash w) →
      wpAny (model P w) A (do
        storeSet a es1 t2
        if !false && t2.tooFull then setRelay a (SetTable.grown (es.size + 1))
        return true) Q E s := fun t2 z1 z2 z3 T2 => by
    refine wpAny_bind (wpAny_storeSet_of ho hd ?_ (by rw [sz1, sizeLine_eq]; omega))
    have sb : Heap.SameBut a s.heap (s.heap.update a (Obj.putSet es1 t2)) := Heap.SameBut.update ..
    have ho1 := store_at (es' := es1) (t' := t2) ho hd
    generalize s.heap.update a (Obj.putSet es1 t2) = h1 at sb ho1 ⊢
    have ky1 : ∀ p ∈ L1, (nestedKind P w).is h1 p.2 p.1 := fun p hp => by
      rcases List.mem_cons.mp (pm.mem_iff.mp hp) with e | hp
      · rw [e]; exact key_still hx ho hd sb
      · exact key_still (R.ky p hp) ho hd sb
    have ld1 : w.params.followText "set-order" = true ∨ t2.led = true := by rw [z2, g6]; exact R.ld
    have full_iff : t2.tooFull = decide ((L.length + 1) * 5 ≥ t.mask * 3) := by
      unfold SetTable.tooFull
      rw [z3, g3, z1, g5]
    by_cases hf : (L.length + 1) * 5 ≥ t.mask * 3
    · have hf1 : t2.tooFull = true := by rw [full_iff]; exact decide_eq_true hf
      first
        | (refine wpAny_bind ?_; refine wp_if_pos (by simp [hf1]) ?_)
        | (refine wp_if_pos (by simp [hf1]) ?_; refine wpAny_bind ?_)
      have hc : ∃ M, (L.length + 1, M) ∈ [(5, 31), (19, 127), (77, 511), (307, 2047)] ∧ Big M ∧ (L.length + 1) * 5 < M * 3 ∧ L.length + 1 ≤ t.mask := by
        have b : t.mask ∈ bigs := R.tb.big
        simp only [bigs, List.mem_cons, List.not_mem_nil, or_false] at b
        rcases b with b | b | b | b | b <;> rw [b] at hf rm ⊢
        · exact ⟨31, by simp; omega, by show _ ∈ bigs; decide, by omega, by omega⟩
        · exact ⟨127, by simp; omega, by show _ ∈ bigs; decide, by omega, by omega⟩
        · exact ⟨511, by simp; omega, by show _ ∈ bigs; decide, by omega, by omega⟩
        · exact ⟨2047, by simp; omega, by show _ ∈ bigs; decide, by omega, by omega⟩
        · omega
      obtain ⟨M, c1, c2, c3, c4⟩ := hc
      obtain ⟨c5, c6⟩ := grow_sizes _ c1
      rw [sz]
      refine relay_go (s := { s with heap := h1 }) ho1 ⟨hex.1, hex.2.1, hex.2.2⟩ rfl el T2 (by rw [n1, z1, g5]; exact c4) nd1 ky1 ld1 (by rw [n1]; exact fw) c5 c2 c6 (by rw [n1]; exact c3) fun h2 L2 es2 ep2 t3 sb2 R2 pm2 => ?_
      exact wpAny_pure (q true h2 L2 es2 ep2 t3 (sb.trans sb2) R2 (fun z => absurd z m) fun _ => pm2.trans pm)
    · have hf1 : t2.tooFull = false := by rw [full_iff]; exact decide_eq_false hf
      first
        | refine wp_if_neg (by simp [hf1]) ?_
        | (refine wpAny_bind ?_; refine wp_if_neg (by simp [hf1]) ?_; refine wpAny_pure ?_)
      refine wpAny_pure (q true h1 L1 es1 (ep + 1) t2 sb { ob := ⟨_, ho1, ⟨hex.1, hex.2.1, hex.2.2⟩, rfl⟩, rw := el, tb := T2, nd := nd1, ky := ky1, ld := ld1, rm := by rw [n1, z1, g5]; omega, fw := by rw [n1]; exact fw } (fun z => absurd z m) fun _ => pm)
  have asked : ∀ (b : Bool), wpAny (model P w) A (do
        storeSet a es1 (if b then t1 else { t1 with plain := false })
        if !false && (if b then t1 else { t1 with plain := false } : SetTable).tooFull then setRelay a (SetTable.grown (es.size + 1))
        return true) Q E s := fun b => by
    cases b with
    | true => exact rest t1 rfl rfl rfl g2
    | false => exact rest { t1 with plain := false } rfl rfl rfl ⟨g2.up, g2.nod, g2.len, g2.big, g2.lim, g2.hit⟩
  by_cases hpl : t1.plain = true
  · obtain ⟨b, hb⟩ := byval (P := P) (w := w) k _ 8 s hx.1
    first
      | (refine wpAny_bind ?_; refine wp_if_pos hpl ?_; refine hb _ _ _ ?_)
      | refine wp_if_pos hpl (wpAny_bind (hb _ _ _ ?_))
    exact asked b
  · first
      | (refine wpAny_bind ?_; refine wp_if_neg hpl ?_; refine wpAny_pure ?_)
      | refine wp_if_neg hpl ?_
    exact asked true
end
end Sg

end
section
set_option Elab.async false
set_option linter.all false
set_option maxRecDepth 100000
set_option maxHeartbeats 4000000
/-! Sg3: set(xs) of a list, of a tuple: by what each item does to the set. -/
namespace Sg
open PySem L2
open PySem.Spec
open PyProof.Rows hiding St

abbrev newSet (w : World) : Obj := { cls := .type "set", dict := none, data := .set #[] 0 (.fresh 0 0 (!w.params.followText "set-order")) }
/-- all that stood stands -/
abbrev Holds (h h' : Heap) : Prop := ∀ b o, h.get? b = some o → h'.get? b = some o
/-- what an item does: from J i to J (i + 1) -/
def Turn (P : Program) (w : World) (u : Nat) (base : Heap) (S : Addr) (J : Nat → Heap → Prop) (i : Nat) (v : Value) : Prop :=
  ∀ (A : Around) (E : Value → Shared → Prop) (s : Shared) (Q : Bool → Shared → Prop), A.units ≤ u → Holds base s.heap → J i s.heap →
    (∀ b h' tk, s.toks ≤ tk → Heap.SameBut S s.heap h' → J (i + 1) h' → Q b { s with heap := h', toks := tk }) → wpAny (model P w) A (setAdd S v) Q E s
section
variable {P : Program} {w : World} {A : Around} {E : Value → Shared → Prop} {s : Shared}
theorem fill_loop {I : Addr} {fp wr : List Addr} {G : Array GenState → Array GenState → Prop} {n : Nat} {Pv : Nat → Value → Prop} {St : Nat → Shared → Prop} {R : Result → Shared → Prop}
    (W : WalksS P w A.in1 I fp wr G n Pv St) (S : Addr) (away : S ∉ fp) (base : Heap) (b0 : base.get? S = none) (b1 : ∀ b ∈ wr, base.get? b = none) (J : Nat → Heap → Prop)
    (keep : ∀ i h h', J i h → Holds base h' → (∀ o, h.get? S = some o → h'.get? S = some o) → J i h') (turn : ∀ i v, i < n → Pv i v → Turn P w A.in1.units base S J i v) :
    ∀ (k i : Nat) (s : Shared), n - i = k → i ≤ n → St i s → Holds base s.heap → J i s.heap →
      (∀ s', Moved (S :: wr) G s s' → J n s'.heap → Holds base s'.heap → R (.ok (.ret .none)) s') →
      codeAny (model P w) A (.builtin "set.update.loop" ⟨[.ref S, .ref I], []⟩) R s := by
  have nw : S ∉ wr := fun z => away (W.sub _ z)
  have on : ∀ {s s' : Shared}, Moved wr G s s' → Holds base s.heap → Holds base s'.heap := fun m hk b o e => m.heap b o (fun z => by rw [b1 b z] at e; cases e) (hk b o e)
  intro k
  induction k with
  | zero =>
    intro i s hk hi st hb j r
    obtain rfl : i = n := by omega
    refine codeAny_builtin F.entry_set_update_loop ?_
    rw [Around.under_plainId F.plain_set_update_loop _]
    refine wpAny_bind (m := pyNext (.ref I)) (W.done s _ _ st fun s' m => ?_)
    exact wpAny_pure (r s' (m.mono fun b hb => List.mem_cons_of_mem _ hb) (keep _ _ _ j (on m hb) fun o e => m.heap S o nw e) (on m hb))
  | succ k ih =>
    intro i s hk hi st hb j r
    have lt : i < n := by omega
    refine codeAny_builtin F.entry_set_update_loop ?_
    rw [Around.under_plainId F.plain_set_update_loop _]
    refine wpAny_bind (m := pyNext (.ref I)) (W.item i s _ _ lt st fun v s' pv st' m => ?_)
    have hb' := on m hb
    show wpAny _ A.in1 (holding [v] (setAdd S v) >>= _) _ _ s'
    refine wpAny_bind (wpAny_holding (turn i v lt pv A.in1 _ s' _ (Nat.le_refl _) hb' (keep _ _ _ j hb' fun o e => m.heap S o nw e) fun b h' tk htk sb j' => ?_))
    have hb2 : Holds base h' := fun c o e => (sb.2 c fun z => by rw [z, b0] at e; cases e).trans (hb' c o e)
    refine wpAny_pure ⟨plainId_quiet F.plain_set_update_loop _, ih (i + 1) _ (by omega) lt (W.frame _ s' _ _ st' htk fun c hc o e => ?_) hb2 j' fun s2 m2 j2 hb3 => ?_⟩
    · exact (sb.2 c fun z => away (z ▸ hc)).trans e
    · refine r s2 (Moved.trans W.gtrans ((m.mono fun b hb => List.mem_cons_of_mem _ hb).then_heap htk fun c o hc e => ?_) m2) j2 hb3
      exact (sb.2 c fun z => hc (by rw [z]; exact List.mem_cons_self)).trans e

/-- the iterator of a list, of a tuple -/
inductive Src (h : Heap) (l : Addr) (items : Array Value) : Prop
  | lst : h.IsList l items → Src h l items
  | tup : h.IsTuple l items → Src h l items

set_option maxHeartbeats 8000000 in
theorem set_call {l : Addr} {items : Array Value} (src : Src s.heap l items) (hh : A.handled = none) {Q : Value → Shared → Prop} (J : Nat → Heap → Prop)
    (start : ∀ h, h.get? s.heap.objs.size = some (newSet w) → Holds s.heap h → J 0 h)
    (keep : ∀ i h h', J i h → Holds s.heap h' → (∀ o, h.get? s.heap.objs.size = some o → h'.get? s.heap.objs.size = some o) → J i h')
    (turn : ∀ (i : Nat) v, items[i]? = some v → Turn P w (A.units + 8) s.heap s.heap.objs.size J i v)
    (q : ∀ h' tk, J items.size h' → Holds s.heap h' → Q (.ref s.heap.objs.size) { s with heap := h', toks := tk }) :
    wpAny (model P w) A (call (.type "set") [.ref l]) Q E s := by
  obtain ⟨c, tl, hmro⟩ := F.called_set.mro
  have hmade := F.called_set.made
  have hsub := F.called_set.sub
  refine wpAny_call (codeAny_of_tree ?_)
  refine wpAny_pure ⟨Code.quiet_builtin _ (by decide +kernel), codeAny_builtin F.entry_type_call ?_⟩
  rw [Around.under_plain (weight_type_call_type "set" [.ref l] []) rfl]
  have h1 := F.called_set.notType
  have h2 := F.called_set.canCreate
  have hct := F.typeCall_set_1 (.ref l)
  repeat (any_goals (first | assumption | wp_step))
  refine codeAny_mono (code_set_led1 (.ref l) (E := E) (Q₁ := fun obj z => obj = .ref s.heap.objs.size ∧ z = { s with heap := s.heap.push (newSet w) }) ⟨rfl, rfl⟩) fun r z hr => ?_
  cases r with
  | error e => exact hr
  | ok fl =>
    cases fl with
    | ret obj =>
      obtain ⟨rfl, rfl⟩ := hr
      have here : (s.heap.push (newSet w)).get? s.heap.objs.size = some (newSet w) := Heap.get?_push_size _ rfl
      have hT : Shared.TypeIs { s with heap := s.heap.push (newSet w) } (.ref s.heap.objs.size) "set" := ⟨_, here, rfl⟩
      have hli := F.called_set.init.lookup
      have hbi := F.called_set.init.bind (.ref s.heap.objs.size)
      repeat (any_goals (first | assumption | wp_step))
      refine codeAny_mono (codeAny_call_builtin (R := wants (fun r z => r = .none ∧ ∃ h' tk, z = { s with heap := h', toks := tk } ∧ J items.size h' ∧ Holds s.heap h') E) F.called_set.init.plain F.entry_set_init (check_set_init_1 hT ?_)) fun r2 z2 hr2 => ?_
      · have low : l < s.heap.objs.size := by
          cases src with
          | lst x => obtain ⟨o, e, _⟩ := x; exact Heap.lt_size e
          | tup x => obtain ⟨o, e, _⟩ := x; exact Heap.lt_size e
        have vac : ∀ b, s.heap.objs.size ≤ b → s.heap.get? b = none := fun b hb => by
          cases e : s.heap.get? b with
          | none => rfl
          | some o => exact absurd (Nat.lt_of_lt_of_le (Heap.lt_size e) hb) (Nat.lt_irrefl _)
        have sz : (s.heap.push (newSet w)).objs.size = s.heap.objs.size + 1 := Heap.size_push ..
        have ne : l ≠ (s.heap.push (newSet w)).objs.size := by rw [sz]; exact Nat.ne_of_lt (Nat.lt_succ_of_lt low)
        have away : s.heap.objs.size ∉ [(s.heap.push (newSet w)).objs.size, l] := by
          rw [sz]
          simp only [List.mem_cons, List.not_mem_nil, or_false, not_or]
          exact ⟨Nat.ne_of_lt (Nat.lt_succ_self _), Nat.ne_of_gt low⟩
        have calm3 : A.in1.in1.in1.handled = none := by simp [hh]
        have two : ∀ x, Holds s.heap ((s.heap.push (newSet w)).push x) := fun x b o e => Heap.get?_push_of_some _ (Heap.get?_push_of_some _ e)
        have fin : ∀ z : Shared, Moved (s.heap.objs.size :: [(s.heap.push (newSet w)).objs.size]) (fun a b => b = a) { s with heap := s.heap.push (newSet w) } z → J items.size z.heap → Holds s.heap z.heap → ∃ h' tk, z = { s with heap := h', toks := tk } ∧ J items.size h' ∧ Holds s.heap h' := fun z m j hb => by
          obtain ⟨h', g', d', tk', os'⟩ := z
          have eg : g' = s.gens := m.gens
          have ed : d' = s.drawn := m.drawn
          have eo : os' = s.os := m.os
          subst eg; subst ed; subst eo
          exact ⟨h', tk', rfl, j, hb⟩
        cases src with
        | lst hl =>
          obtain ⟨⟨oc, od, dat, osl⟩, ho, hc, m, hd⟩ := hl
          simp only at hc hd
          subst hc; subst hd
          have hol : (s.heap.push (newSet w)).get? l = some { cls := .type "list", dict := od, data := .seq items m, slots := osl } := Heap.get?_push_of_some _ ho
          have sub1 := F.sub_list_set
          have sub2 := F.sub_list_frozenset
          have hne : (Value.type "list" == Value.type "dict") = false := by decide
          have hl1 : (s.heap.push (newSet w)).IsList l items := ⟨_, hol, rfl, m, rfl⟩
          unfold Builtin.«set.__init__» noKeywords Builtin.Frozenset.updateFrom
          generalize hPI : pyIter = PI
          wp_walk
          subst hPI
          refine wpAny_pyIter_list hl1 (wpAny_bind (wpAny_runValue ?_))
          refine fill_loop ((Walks.list calm3 _ l ne items).toS) s.heap.objs.size away s.heap (vac _ (Nat.le_refl _)) (fun b hb => vac b (by rw [List.mem_singleton.mp hb, sz]; omega)) J keep (fun i v _ pv => ?_) (items.size - 0) 0 _ (by omega) (Nat.zero_le _)
            ⟨⟨_, Heap.get?_push_size _ rfl, rfl, rfl⟩, (hl1.push _)⟩ (two _) (start _ (Heap.get?_push_of_some _ here) (two _)) fun z m j hb => ?_
          · intro A' E' s' Q' hA
            exact turn i v pv A' E' s' Q' (Nat.le_trans hA (by simp only [Around.in1_units]; omega))
          · obtain ⟨h', tk', rfl, j', hb'⟩ := fin z ⟨fun b o hb e => m.heap b o hb (Heap.get?_push_of_some _ e), m.gens, m.drawn, m.os, m.toks⟩ j hb
            refine wpAny_pure ?_
            exact wpAny_pure ⟨rfl, h', tk', rfl, j', hb'⟩
        | tup hl =>
          obtain ⟨⟨oc, od, dat, osl⟩, ho, hc, m, hd⟩ := hl
          simp only at hc hd
          subst hc; subst hd
          have hol : (s.heap.push (newSet w)).get? l = some { cls := .type "tuple", dict := od, data := .seq items m, slots := osl } := Heap.get?_push_of_some _ ho
          have sub1 := F.sub_tuple_set
          have sub2 := F.sub_tuple_frozenset
          have hne : (Value.type "tuple" == Value.type "dict") = false := by decide
          have hl1 : (s.heap.push (newSet w)).IsTuple l items := ⟨_, hol, rfl, m, rfl⟩
          unfold Builtin.«set.__init__» noKeywords Builtin.Frozenset.updateFrom
          generalize hPI : pyIter = PI
          wp_walk
          subst hPI
          refine wpAny_pyIter_tuple hl1 (wpAny_bind (wpAny_runValue ?_))
          refine fill_loop ((Walks.tuple calm3 _ l ne items).toS) s.heap.objs.size away s.heap (vac _ (Nat.le_refl _)) (fun b hb => vac b (by rw [List.mem_singleton.mp hb, sz]; omega)) J keep (fun i v _ pv => ?_) (items.size - 0) 0 _ (by omega) (Nat.zero_le _)
            ⟨⟨_, Heap.get?_push_size _ rfl, rfl, rfl⟩, (hl1.push _)⟩ (two _) (start _ (Heap.get?_push_of_some _ here) (two _)) fun z m j hb => ?_
          · intro A' E' s' Q' hA
            exact turn i v pv A' E' s' Q' (Nat.le_trans hA (by simp only [Around.in1_units]; omega))
          · obtain ⟨h', tk', rfl, j', hb'⟩ := fin z ⟨fun b o hb e => m.heap b o hb (Heap.get?_push_of_some _ e), m.gens, m.drawn, m.os, m.toks⟩ j hb
            refine wpAny_pure ?_
            exact wpAny_pure ⟨rfl, h', tk', rfl, j', hb'⟩
      · cases r2 with
        | error e => exact hr2
        | ok fl2 =>
          cases fl2 with
          | ret r =>
            obtain ⟨rfl, h', tk, rfl, j, hb⟩ := hr2
            repeat (any_goals (first | assumption | wp_step))
            exact q _ _ j hb
          | _ => exact hr2.elim
    | _ => exact hr.elim

/-! ### keys -/
/-- the first ones of each key -/
def firsts : List KA → List KA
  | [] => []
  | p :: l => p :: (firsts l).filter fun q => decide (q.2 ≠ p.2)
theorem firsts_keys : ∀ (l : List KA) (k : NestedKey), k ∈ (firsts l).map (·.2) ↔ k ∈ l.map (·.2)
  | [], k => Iff.rfl
  | p :: l, k => by
    have ih := firsts_keys l k
    simp only [firsts, List.map_cons, List.mem_cons]
    by_cases e : k = p.2
    · simp [e]
    · rw [← ih]
      simp only [e, false_or, List.mem_map, List.mem_filter, decide_eq_true_eq]
      constructor
      · rintro ⟨x, ⟨x1, x2⟩, x3⟩; exact ⟨x, x1, x3⟩
      · rintro ⟨x, x1, x3⟩; exact ⟨x, ⟨x1, by rw [x3]; exact e⟩, x3⟩
theorem firsts_snoc (x : KA) : ∀ l : List KA, firsts (l ++ [x]) = if x.2 ∈ l.map (·.2) then firsts l else firsts l ++ [x]
  | [] => rfl
  | p :: l => by
    simp only [List.cons_append, firsts, firsts_snoc x l, List.map_cons, List.mem_cons]
    by_cases h : x.2 ∈ l.map (·.2)
    · simp [h]
    · by_cases e : x.2 = p.2
      · simp only [h, if_false, List.filter_append]
        simp [e]
      · simp [h, e]
theorem firsts_len (l : List KA) : ∀ i, (firsts (l.take i)).length ≤ (firsts l).length := by
  have step : ∀ i, (firsts (l.take i)).length ≤ (firsts (l.take (i + 1))).length := fun i => by
    rw [List.take_add_one]
    cases l[i]? with
    | none => simp
    | some x =>
      simp only [Option.toList_some, firsts_snoc]
      split
      · exact Nat.le_refl _
      · simp
  have far : ∀ i j, i ≤ j → (firsts (l.take i)).length ≤ (firsts (l.take j)).length := fun i j h => by
    induction h with
    | refl => exact Nat.le_refl _
    | step _ ih => exact Nat.le_trans ih (step _)
  intro i
  have := far i (i + l.length) (Nat.le_add_right _ _)
  rwa [List.take_of_length_le (l := l) (i := i + l.length) (Nat.le_add_left _ _)] at this
theorem firsts_sub : ∀ (l : List KA) (p : KA), p ∈ firsts l → p ∈ l
  | [], _, h => h
  | q :: l, p, h => by
    rcases List.mem_cons.mp h with e | h
    · exact e ▸ List.mem_cons_self
    · exact List.mem_cons_of_mem _ (firsts_sub l p (List.mem_filter.mp h).1)
/-- the set's state behind i keys -/
def JK (P : Program) (w : World) (S : Addr) (ks : List KA) (i : Nat) (h : Heap) : Prop := ∃ L es ep t, SetG P w h S L es ep t ∧ L.Perm (firsts (ks.take i))
theorem SetG.stay {h h' : Heap} {a : Addr} {L : List KA} {es : Array (Int × Value)} {ep : Nat} {t : SetTable} (R : SetG P w h a L es ep t) (e : ∀ o, h.get? a = some o → h'.get? a = some o) (ky : ∀ p ∈ L, (nestedKind P w).is h' p.2 p.1) : SetG P w h' a L es ep t := by
  obtain ⟨o, ho, r⟩ := R.ob
  exact ⟨⟨o, e o ho, r⟩, R.rw, R.tb, R.nd, ky, R.ld, R.rm, R.fw⟩
theorem SetG.new {h : Heap} {a : Addr} (ho : h.get? a = some (newSet w)) : SetG P w h a [] #[] 0 (.fresh 0 0 (!w.params.followText "set-order")) where
  ob := ⟨_, ho, ⟨rfl, rfl, rfl⟩, rfl⟩
  rw := rfl
  tb := ⟨List.Pairwise.nil, rfl, rfl, by show 7 ∈ bigs; decide, fun x hx => (by cases hx), fun i h j hi => (by simp at hi)⟩
  nd := List.nodup_nil
  ky := fun p hp => (by cases hp)
  ld := by
    show _ ∨ (!w.params.followText "set-order") = true
    cases w.params.followText "set-order" <;> simp
  rm := by show 0 * 5 < 7 * 3; decide
  fw := by show 0 < 1200; decide
theorem key_on {h h' : Heap} {k : NestedKey} {b : Addr} (hb : Holds h h') (x : (nestedKind P w).is h k b) : (nestedKind P w).is h' k b := ⟨NestedIs.at (fun a o vs n e _ => hb a o e) _ _ x.1, x.2⟩
theorem set_keys {l : Addr} {items : Array Value} {ks : List KA} (src : Src s.heap l items) (hh : A.handled = none) (hu : A.units + 20 < cLine) {Q : Value → Shared → Prop} (ei : items.toList = ks.map fun p => Value.ref p.1)
    (hk : ∀ p ∈ ks, (nestedKind P w).is s.heap p.2 p.1) (few : (firsts ks).length < 1199)
    (q : ∀ h' tk L es ep t, SetG P w h' s.heap.objs.size L es ep t → L.Perm (firsts ks) → Holds s.heap h' → Q (.ref s.heap.objs.size) { s with heap := h', toks := tk }) :
    wpAny (model P w) A (call (.type "set") [.ref l]) Q E s := by
  have sz : items.size = ks.length := by rw [← Array.length_toList, ei, List.length_map]
  refine set_call src hh (JK P w s.heap.objs.size ks) (fun h e _ => ⟨[], _, _, _, SetG.new e, List.Perm.refl _⟩) (fun i h h' ⟨L, es, ep, t, R, pm⟩ hb e => ⟨L, es, ep, t, R.stay e fun p hp => ?_, pm⟩) (fun i v e => ?_) (fun h' tk ⟨L, es, ep, t, R, pm⟩ hb => ?_)
  · exact key_on hb (hk p (List.mem_of_mem_take (firsts_sub _ _ (pm.mem_iff.mp hp))))
  · intro A' E' s' Q' hA hb ⟨L, es, ep, t, R, pm⟩ q'
    have e1 : (ks.map fun p => Value.ref p.1)[i]? = some v := by rw [← ei, Array.getElem?_toList]; exact e
    rw [List.getElem?_map] at e1
    obtain ⟨p, hp, rfl⟩ := Option.map_eq_some_iff.mp e1
    have hx := key_on hb (hk p (List.mem_of_getElem? hp))
    have len := firsts_len ks i
    have nx : ks.take (i + 1) = ks.take i ++ [p] := by rw [List.take_add_one, hp]; rfl
    unfold setAdd
    refine wpAny_holding (wpAny_bind ((nestedKind P w).pyHash (by show A'.units + 8 < cLine; omega) hx ?_))
    have mem : p.2 ∈ L.map (·.2) ↔ p.2 ∈ (ks.take i).map (·.2) := (pm.map (·.2)).mem_iff.trans (firsts_keys _ _)
    refine add_go (s := { s' with toks := s'.toks + (nestedKind P w).draws p.2 }) R hx (by omega) (by rw [pm.length_eq]; omega) fun b h' L' es' ep' t' sb R' c1 c2 => q' b h' _ (Nat.le_add_right _ _) sb ⟨L', es', ep', t', R', ?_⟩
    rw [nx, firsts_snoc]
    by_cases c : p.2 ∈ L.map (·.2)
    · rw [if_pos (mem.mp c), c1 c]; exact pm
    · rw [if_neg fun z => c (mem.mpr z)]
      exact (c2 c).trans ((pm.cons p).trans (List.perm_append_singleton p _).symm)
  · rw [List.take_of_length_le (by omega)] at pm
    exact q h' tk L es ep t R pm hb

/-! ### ints -/
def JI (w : World) (S : Addr) (ns : List Int) (i : Nat) (h : Heap) : Prop := ∃ c, c ≤ i ∧ SetR w h S (fun j => decide (j ∈ ns.take i)) c
theorem set_ints {l : Addr} {items : Array Value} {ns : List Int} (src : Src s.heap l items) (hh : A.handled = none) {Q : Value → Shared → Prop} (ei : IntsAre items.toList ns) (few : ns.length + 1 < scanBound)
    (q : ∀ h' tk c, SetR w h' s.heap.objs.size (fun j => decide (j ∈ ns)) c → Holds s.heap h' → Q (.ref s.heap.objs.size) { s with heap := h', toks := tk }) :
    wpAny (model P w) A (call (.type "set") [.ref l]) Q E s := by
  have sz : items.size = ns.length := by rw [← Array.length_toList, ei.length]
  refine set_call src hh (JI w s.heap.objs.size ns) (fun h e _ => ⟨0, Nat.le_refl _, setR_new_at e⟩) (fun i h h' ⟨c, c1, R⟩ hb e => ⟨c, c1, R.at e⟩) (fun i v e => ?_) (fun h' tk ⟨c, c1, R⟩ hb => ?_)
  · intro A' E' s' Q' hA hb ⟨c, c1, R⟩ q'
    have il : i < ns.length := by rw [← sz]; exact (Array.getElem?_eq_some_iff.mp e).1
    obtain ⟨t, rfl⟩ := PyProof.Rows.IntsAre.int_at ei i v (by rw [Array.getElem?_toList]; exact e)
    have hz : ns[i]? = some (ns.getD i 0) := by rw [List.getD_eq_getElem?_getD, List.getElem?_eq_getElem il]; rfl
    generalize ns.getD i 0 = z at hz
    unfold setAdd
    refine wpAny_holding (wpAny_bind ((intKind P w).pyHash (k := z) (intKind_is _ _ _ _) ?_))
    refine setR_add_hashed (s := { s' with toks := s'.toks + 1 }) R (by omega) fun h' sb R' => q' _ h' _ (Nat.le_succ _) sb ⟨_, ?_, R'.congr fun j => ?_⟩
    · split <;> omega
    · rw [List.take_add_one, hz]
      simp [List.mem_append]
  · rw [List.take_of_length_le (by omega)] at R
    exact q h' tk c R hb
end
end Sg

end
section
set_option Elab.async false
set_option linter.all false
set_option maxRecDepth 100000
set_option maxHeartbeats 2000000
/-! Sg4: sorted(set(x)), len(set(x)). -/
namespace Sd
open PySem PySem.Spec L2 Ev Sg
open PyProof.Rows hiding St

/-! ### the order of data has no ties but equals -/
mutual
theorem eqv_comm : ∀ x y : D, eqv x y = eqv y x
  | x, y => by
    cases x <;> cases y <;> first
      | rfl
      | exact Bool.beq_comm ..
      | exact eqvL_comm _ _
      | skip
    all_goals (simp only [eqv]; first | exact Bool.beq_comm .. | skip)
    all_goals (rw [Bool.eq_iff_iff, beq_iff_eq, beq_iff_eq]; exact ⟨Eq.symm, Eq.symm⟩)
theorem eqvL_comm : ∀ xs ys : List D, eqvL xs ys = eqvL ys xs
  | [], [] => rfl
  | [], _ :: _ => rfl
  | _ :: _, [] => rfl
  | x :: xs, y :: ys => by rw [eqvL, eqvL, eqv_comm x y, eqvL_comm xs ys]
end
theorem lex_tri : ∀ xs ys : List Nat, ¬ xs < ys → ¬ ys < xs → xs = ys
  | [], [], _, _ => rfl
  | [], _ :: _, h, _ => absurd (List.Lex.nil) h
  | _ :: _, [], _, h => absurd (List.Lex.nil) h
  | x :: xs, y :: ys, h1, h2 => by
    rcases Nat.lt_trichotomy x y with c | c | c
    · exact absurd (List.Lex.rel c) h1
    · subst c
      rw [lex_tri xs ys (fun z => h1 (List.Lex.cons z)) fun z => h2 (List.Lex.cons z)]
    · exact absurd (List.Lex.rel c) h2
mutual
theorem ltv_tri : ∀ x y : D, alike x y = true → ltv x y = false → ltv y x = false → eqv x y = true
  | x, y, al, h1, h2 => by
    cases x <;> cases y <;> first
      | rfl
      | (simp [alike] at al; done)
      | skip
    · rename_i a b; revert h1 h2; cases a <;> cases b <;> simp [ltv, eqv]
    · rename_i i j
      simp only [ltv, decide_eq_false_iff_not] at h1 h2
      simp only [eqv, beq_iff_eq]; omega
    · rename_i a b
      simp only [ltv, decide_eq_false_iff_not] at h1 h2
      simp only [eqv, beq_iff_eq]
      have e := lex_tri _ _ h1 h2
      cases a; cases b
      congr 1
      exact Array.toList_inj.mp e
    · simp only [eqv]; exact ltvL_tri _ _ (by simpa [alike] using al) h1 h2
    · simp only [eqv]; exact ltvL_tri _ _ (by simpa [alike] using al) h1 h2
theorem ltvL_tri : ∀ xs ys : List D, alikeL xs ys = true → ltvL xs ys = false → ltvL ys xs = false → eqvL xs ys = true
  | [], [], _, _, _ => rfl
  | [], _ :: _, _, h1, _ => by simp [ltvL] at h1
  | _ :: _, [], _, _, h2 => by simp [ltvL] at h2
  | x :: xs, y :: ys, al, h1, h2 => by
    simp only [alikeL, Bool.and_eq_true] at al
    simp only [ltvL] at h1 h2
    rw [eqv_comm y x] at h2
    cases e : eqv x y with
    | true =>
      rw [e] at h1 h2
      simp only [if_true] at h1 h2
      rw [eqvL, e, ltvL_tri xs ys al.2 h1 h2]; rfl
    | false =>
      rw [e] at h1 h2
      simp only [Bool.false_eq_true, if_false] at h1 h2
      rw [ltv_tri x y al.1 h1 h2] at e
      cases e
end

/-! ### first ones -/
def dz : List (D × V) → List (D × V)
  | [] => []
  | p :: l => p :: (dz l).filter fun q => !eqv p.1 q.1
theorem dz_fst : ∀ l : List (D × V), (dz l).map (·.1) = dedup (l.map (·.1))
  | [] => rfl
  | p :: l => by
    rw [dz, List.map_cons, List.map_cons, dedup, ← dz_fst l, List.filter_map]; rfl
theorem dz_sub : ∀ (l : List (D × V)) (p : D × V), p ∈ dz l → p ∈ l
  | [], _, h => h
  | q :: l, p, h => by
    rcases List.mem_cons.mp h with e | h
    · exact e ▸ List.mem_cons_self
    · exact List.mem_cons_of_mem _ (dz_sub l p (List.mem_filter.mp h).1)
theorem dz_apart : ∀ l : List (D × V), (dz l).Pairwise fun p q => eqv p.1 q.1 = false
  | [] => .nil
  | p :: l => by
    refine List.pairwise_cons.mpr ⟨fun q hq => by simpa using (List.mem_filter.mp hq).2, (dz_apart l).filter _⟩
theorem perm_each {α β : Type} {R : α → β → Prop} : ∀ {us us' : List α}, us'.Perm us → ∀ {bs : List β}, PySem.W.EachIs R us bs → ∃ bs', bs'.Perm bs ∧ PySem.W.EachIs R us' bs' := by
  intro us us' h
  induction h with
  | nil => intro bs e; exact ⟨bs, .refl _, e⟩
  | cons x _ ih =>
    intro bs e
    cases e with
    | cons r t =>
      obtain ⟨b2, p, q⟩ := ih t
      exact ⟨_, p.cons _, .cons r q⟩
  | swap x y l =>
    intro bs e
    cases e with
    | cons r t =>
      cases t with
      | cons r2 t2 => exact ⟨_, .swap .., .cons r2 (.cons r t2)⟩
  | trans _ _ ih1 ih2 =>
    intro bs e
    obtain ⟨b2, p, q⟩ := ih2 e
    obtain ⟨b3, p3, q3⟩ := ih1 q
    exact ⟨b3, p3.trans p, q3⟩

section
variable {C : Cn} {ρ : List Addr} {FR H : Hp} {ah : AH} {sl : Slots} {σ : St} {X : Cx} {Q : VK} {e : Expr} {pos : Pos} {pins : List (Addr × Obj)} {s : Shared}
/-- one order, whatever order they came in -/
theorem sort_any {zs bs : List (D × V)} (pm : bs.Perm zs) (ap : zs.Pairwise fun p q => eqv p.1 q.1 = false) (ok : okL deep (zs.map (·.1)) = true) (al : ∀ x ∈ zs.map (·.1), ∀ y ∈ zs.map (·.1), alike x y = true) :
    bs.mergeSort (PySem.W.dataLe false fun p : D × V => py p.1) = zs.mergeSort (PySem.W.dataLe false fun p => py p.1) := by
  have T := dataLe_total (β := D × V) false fun p => py p.1
  have srt : ∀ l : List (D × V), (l.mergeSort (PySem.W.dataLe false fun p => py p.1)).Pairwise fun a b => PySem.W.dataLe false (fun p : D × V => py p.1) a b = true := fun l => by
    have := sortA_pw T l
    rwa [sortA_eq T l] at this
  refine List.Perm.eq_of_pairwise (le := fun a b => PySem.W.dataLe false (fun p : D × V => py p.1) a b = true) (fun a b ha hb h1 h2 => ?_) (srt bs) (srt zs) ((List.mergeSort_perm _ _).trans (pm.trans (List.mergeSort_perm _ _).symm))
  have ma : a ∈ zs := pm.mem_iff.mp ((List.mergeSort_perm _ _).mem_iff.mp ha)
  have mb : b ∈ zs := (List.mergeSort_perm _ _).mem_iff.mp hb
  have m1 : a.1 ∈ zs.map (·.1) := List.mem_map.mpr ⟨a, ma, rfl⟩
  have m2 : b.1 ∈ zs.map (·.1) := List.mem_map.mpr ⟨b, mb, rfl⟩
  have l1 : PySem.W.dataLe false py a.1 b.1 = leUp a.1 b.1 := le_py ok al false m1 m2
  have l2 : PySem.W.dataLe false py b.1 a.1 = leUp b.1 a.1 := le_py ok al false m2 m1
  have h1 : leUp a.1 b.1 = true := l1 ▸ h1
  have h2 : leUp b.1 a.1 = true := l2 ▸ h2
  simp only [leUp, Bool.not_eq_true'] at h1 h2
  have eq := ltv_tri a.1 b.1 (al _ m1 _ m2) h2 h1
  obtain ⟨i, hi, ei⟩ := List.getElem_of_mem ma
  obtain ⟨j, hj, ej⟩ := List.getElem_of_mem mb
  have pw := List.pairwise_iff_getElem.mp ap
  rcases Nat.lt_trichotomy i j with c | c | c
  · have := pw i j hi hj c
    rw [ei, ej, eq] at this; cases this
  · subst c; exact ei.symm.trans ej
  · have := pw j i hj hi c
    rw [ei, ej, eqv_comm, eq] at this; cases this

/-- a set at a, of the first ones of zs -/
structure SetD (C : Cn) (ρ : List Addr) (FR : Hp) (w : World) (h : Heap) (a : Addr) (zs : List (D × V)) : Prop where
  ex : ∃ (o : Obj) (es : Array (Int × Value)) (ep : Nat) (t : SetTable), h.get? a = some o ∧ o.ExactSet ∧ o.data = .set es ep t ∧ t.fits es.size = true ∧ es.size < scanBound ∧ Ris t.place.toList ∧ (w.params.followText "set-order" = true ∨ t.led = true) ∧
    ∃ bs, bs.Perm (dz zs) ∧ PySem.W.EachIs (RZ C ρ FR) (es.toList.map (·.2)) bs
def adr : V → Addr
  | .ref a => a
  | _ => 0
def encK (p : D × V) : KA := (adr p.2, nk p.1)
theorem firsts_dz : ∀ l : List (D × V), (∀ p ∈ l, isT p.1 = true ∧ okK p.1 = true) → firsts (l.map encK) = (dz l).map encK
  | [], _ => rfl
  | p :: l, h => by
    have ih := firsts_dz l fun q hq => h q (List.mem_cons_of_mem _ hq)
    rw [List.map_cons, firsts, ih, dz, List.map_cons, List.filter_map]
    congr 2
    refine List.filter_congr fun q hq => ?_
    have a := h p List.mem_cons_self
    have b := h q (List.mem_cons_of_mem _ (dz_sub l q hq))
    obtain ⟨d1, v1⟩ := p
    obtain ⟨d2, v2⟩ := q
    cases d1 <;> simp only [isT, reduceCtorEq, false_and, Bool.false_eq_true] at a
    cases d2 <;> simp only [isT, reduceCtorEq, false_and, Bool.false_eq_true] at b
    show decide (nk _ ≠ nk _) = !eqv _ _
    rw [eqv_comm, ← nk_dec b.2 a.2, decide_not]
/-- the items: tuples, or ints -/
theorem setD_call (F : Fit C X) (I : Inv X pins σ H s) (rh : RelH C ρ FR ah H) {xs : List D} {vs : List V} {its : List Value} {a : Addr} (src : Src s.heap a its.toArray) (l : RpL C ρ FR xs vs) (r : Vals vs its) (ok : okSet xs = true) {Q : Value → Shared → Prop} {E : Value → Shared → Prop}
    (q : ∀ h' tk, Holds s.heap h' → SetD C ρ FR X.w h' s.heap.objs.size (xs.zip vs) → Q (.ref s.heap.objs.size) { s with heap := h', toks := tk }) :
    wpAny (model X.prog X.w) X.A (call (.type "set") [.ref a]) Q E s := by
  have un := F.un
  have hd : X.A.handled = none := I.ok.hd F.calm
  simp only [okSet, Bool.and_eq_true, Bool.or_eq_true, decide_eq_true_eq] at ok
  obtain ⟨len, ⟨⟨tup, key⟩, few⟩ | ⟨int, few⟩⟩ := ok
  · have each := each_RZ l r
    have good : ∀ p ∈ xs.zip vs, isT p.1 = true ∧ okK p.1 = true := fun p hp => by
      have m := zip_mem p hp
      exact ⟨List.all_eq_true.mp tup _ m, List.all_eq_true.mp key _ m⟩
    -- each item is an address, a key
    have refs : ∀ {zs : List (D × V)} {us : List Value}, (∀ p ∈ zs, isT p.1 = true ∧ okK p.1 = true) → PySem.W.EachIs (RZ C ρ FR) us zs → us = zs.map fun p => Value.ref (adr p.2) := by
      intro zs us g e
      induction e with
      | nil => rfl
      | @cons u p us zs r0 _ ih =>
        obtain ⟨d, v⟩ := p
        have g0 := (g _ List.mem_cons_self).1
        obtain ⟨r1, r2⟩ := r0
        cases d <;> simp only [isT, reduceCtorEq, Bool.false_eq_true] at g0
        cases r2
        cases r1
        rw [List.map_cons, ← ih fun q hq => g q (List.mem_cons_of_mem _ hq)]; rfl
    have keys : ∀ {zs : List (D × V)} {us : List Value}, (∀ p ∈ zs, isT p.1 = true ∧ okK p.1 = true) → PySem.W.EachIs (RZ C ρ FR) us zs → ∀ p ∈ zs, (nestedKind X.prog X.w).is s.heap (encK p).2 (encK p).1 := by
      intro zs us g e
      induction e with
      | nil => intro p hp; cases hp
      | @cons u p us zs r0 _ ih =>
        intro p2 hp2
        rcases List.mem_cons.mp hp2 with e2 | hp2
        · subst e2
          obtain ⟨d, v⟩ := p2
          have g0 := g _ List.mem_cons_self
          obtain ⟨r1, r2⟩ := r0
          cases d <;> simp only [isT, reduceCtorEq, Bool.false_eq_true, false_and] at g0
          have r3 := Rp.mono rh.sub Pre.refl r2
          cases r2
          exact key_is F I g0.2 r3
        · exact ih (fun q hq => g q (List.mem_cons_of_mem _ hq)) p2 hp2
    have fst := zip_fst l
    have fz := firsts_dz _ good
    refine set_keys (ks := (xs.zip vs).map encK) src hd (by omega) ?_ (fun p hp => ?_) ?_ fun h' tk L es ep t R pm hb => q h' tk hb ?_
    · rw [List.map_map]
      exact refs good each
    · obtain ⟨z, hz, rfl⟩ := List.mem_map.mp hp
      exact keys good each z hz
    · have e2 : (dz (xs.zip vs)).length = (dedup xs).length := by rw [← List.length_map (f := fun p : D × V => p.1), dz_fst, fst]
      rw [fz, List.length_map, e2]; exact few
    · obtain ⟨o, ho, hex, hd⟩ := R.ob
      have rw1 : es.toList.map (·.2) = L.map fun p => Value.ref p.1 := by rw [R.rw, List.map_map]; rfl
      have fw := R.fw
      refine ⟨o, es, ep, t, ho, hex, hd, R.fit (s := { s with heap := h' }), by rw [R.count (s := { s with heap := h' })]; unfold scanBound; omega, R.tb.up, R.ld, ?_⟩
      rw [rw1]
      have base : PySem.W.EachIs (RZ C ρ FR) ((dz (xs.zip vs)).map fun p => Value.ref (adr p.2)) (dz (xs.zip vs)) := by
        have all : ∀ p ∈ dz (xs.zip vs), RZ C ρ FR (Value.ref (adr p.2)) p := fun p hp => by
          have hz := dz_sub _ _ hp
          have : ∀ {zs : List (D × V)} {us : List Value}, (∀ p ∈ zs, isT p.1 = true ∧ okK p.1 = true) → PySem.W.EachIs (RZ C ρ FR) us zs → ∀ p ∈ zs, RZ C ρ FR (Value.ref (adr p.2)) p := by
            intro zs us g e
            have := refs g e
            subst this
            clear each q
            induction zs with
            | nil => intro p hp; cases hp
            | cons z zs ih =>
              cases e with
              | cons r0 t =>
                intro p2 hp2
                rcases List.mem_cons.mp hp2 with e2 | hp2
                · subst e2; exact r0
                · exact ih (fun q hq => g q (List.mem_cons_of_mem _ hq)) t p2 hp2
          exact this good each p hz
        clear q
        generalize dz (xs.zip vs) = zs at all
        induction zs with
        | nil => exact .nil
        | cons z zs ih => exact .cons (all z List.mem_cons_self) (ih fun p hp => all p (List.mem_cons_of_mem _ hp))
      refine perm_each ?_ base
      rw [fz] at pm
      have := pm.map fun p : KA => Value.ref p.1
      rwa [List.map_map] at this
  · -- ints
    have allInt : ∃ ns : List Int, xs = ns.map D.int := by
      clear q l r src len few
      induction xs with
      | nil => exact ⟨[], rfl⟩
      | cons x xs ih =>
        rw [List.all_cons, Bool.and_eq_true] at int
        obtain ⟨ns, rfl⟩ := ih int.2
        cases x <;> simp only [isInt0, reduceCtorEq, Bool.false_eq_true, false_and] at int
        rename_i i
        exact ⟨i :: ns, rfl⟩
    obtain ⟨ns, rfl⟩ := allInt
    have vsn : vs = ns.map V.int := by
      clear q r src len few int
      induction ns generalizing vs with
      | nil => cases l; rfl
      | cons n ns ih =>
        cases l with
        | cons h1 h2 => cases h1; rw [ih h2]; rfl
    subst vsn
    have zz : (ns.map D.int).zip (ns.map V.int) = ns.map fun n => (D.int n, V.int n) := by
      rw [List.zip_map']
    rw [List.length_map] at few
    refine set_ints (ns := ns) src hd (by simpa using r.ints) (by unfold scanBound; omega) fun h' tk c R hb => q h' tk hb ?_
    obtain ⟨o, es, ep, t, ho, hex, hd, g, nd, hm, hbd, hf, hn, hr, hl⟩ := R
    refine ⟨o, es, ep, t, ho, hex, hd, hf, hbd, hr, hl, ?_⟩
    refine ⟨es.toList.map fun e => (D.int (keyOf e), V.int (keyOf e)), ?_, ?_⟩
    · rw [zz]
      have e1 : ∃ ms : List Int, dz (ns.map fun n => (D.int n, V.int n)) = ms.map (fun n => (D.int n, V.int n)) ∧ ms.Nodup ∧ ∀ k, k ∈ ms ↔ k ∈ ns := by
        clear q l r src few int zz hm len
        induction ns with
        | nil => exact ⟨[], rfl, List.nodup_nil, fun k => Iff.rfl⟩
        | cons n ns ih =>
          obtain ⟨ms, i1, i2, i3⟩ := ih
          refine ⟨n :: ms.filter fun k => decide (k ≠ n), ?_, ?_, fun k => ?_⟩
          · rw [List.map_cons, dz, i1, List.map_cons, List.filter_map]
            congr 2
            refine List.filter_congr fun k _ => ?_
            show (!(n == k)) = decide (k ≠ n)
            by_cases z : k = n
            · simp [z]
            · have z2 : ¬ n = k := fun y => z y.symm
              simp [z, z2]
          · refine List.nodup_cons.mpr ⟨fun z => ?_, i2.filter _⟩
            simpa using (List.mem_filter.mp z).2
          · simp only [List.mem_cons, List.mem_filter, decide_eq_true_eq, i3]
            by_cases z : k = n <;> simp [z]
      obtain ⟨ms, i1, i2, i3⟩ := e1
      rw [i1]
      have pm : (es.toList.map keyOf).Perm ms := (List.perm_ext_iff_of_nodup nd i2).mpr fun k => by
        rw [i3, ← hm k, decide_eq_true_eq]
      have := pm.map fun n => (D.int n, V.int n)
      rwa [List.map_map] at this
    · clear hm nd hn hf hbd ho hd q
      generalize es.toList = el at g
      induction el with
      | nil => exact .nil
      | cons e0 el ih =>
        obtain ⟨k, tk, h1, h2⟩ := g e0 List.mem_cons_self
        have ek : keyOf e0 = k := by unfold keyOf; rw [h1]
        refine .cons ⟨?_, ?_⟩ (ih fun e he => g e (List.mem_cons_of_mem _ he))
        · exact ⟨tk, by rw [ek]; exact h1⟩
        · exact .int _

theorem srtset_parts {d1 d : D} (h : srtsetD d1 = some d) : ∃ xs, seqs d1 = some xs ∧ okSet xs = true ∧ okSort (dedup xs) = true ∧ d = .lst (sortBy leUp (dedup xs)) := by
  obtain ⟨xs, e, h⟩ := Option.bind_eq_some_iff.mp h
  split at h
  · rename_i c
    rw [Bool.and_eq_true] at c
    cases h
    exact ⟨xs, e, c.1, c.2, rfl⟩
  · cases h
/-- what is looked at, as it lies in the machine -/
theorem seen_src (F : Fit C X) (I : Inv X pins σ H s) (rh : RelH C ρ FR ah H) {d1 : D} {x : V} (s1 : seen C ρ FR H d1 x) {xs : List D} (e : seqs d1 = some xs) : ∃ a vs its, x = .ref a ∧ RpL C ρ FR xs vs ∧ Vals vs its ∧ Src s.heap a its.toArray := by
  cases d1 <;> simp only [seqs, reduceCtorEq, Option.some.injEq] at e
  · subst e
    obtain ⟨a, vs, rfl, t1, l1⟩ := s1.tup rh.sub
    obtain ⟨its, rv, ht, _⟩ := I.tuple (F.K ▸ t1)
    exact ⟨a, vs, its, rfl, l1, rv, .tup ht⟩
  · subst e
    obtain ⟨a, vs, rfl, t1, l1⟩ := s1.lst rh.sub
    obtain ⟨its, rv, hl, _⟩ := I.list (.inl t1)
    exact ⟨a, vs, its, rfl, l1, rv, .lst hl.isList⟩
  · subst e
    obtain ⟨a, vs, rfl, t1, l1⟩ := s1.scr rh.sub
    obtain ⟨its, rv, hl, _⟩ := I.list (F.K ▸ t1)
    exact ⟨a, vs, its, rfl, l1, rv, .lst hl.isList⟩
/-- sorted(a set) -/
theorem sorted_setD (F : Fit C X) (I : Inv X pins σ H s) (rh : RelH C ρ FR ah H) {xs : List D} {vs : List V} {a : Addr} (l : RpL C ρ FR xs vs) (S : SetD C ρ FR X.w s.heap a (xs.zip vs)) (ok : okSort (dedup xs) = true) {E : Value → Shared → Prop}
    (q : PstN C ρ FR H Q (.lst (sortBy leUp (dedup xs))) ah) : wpAny (model X.prog X.w) X.A (call (.builtin "sorted") [.ref a]) (EP X pins σ Q) E s := by
  obtain ⟨o, es, ep, t, ho, hex, hd, hf, hsz, up, ld, bs, pm, each⟩ := S.ex
  obtain ⟨ok1, al, hs, hz⟩ := okSort_parts ok
  have fst : (dz (xs.zip vs)).map (·.1) = dedup xs := by rw [dz_fst, zip_fst l]
  refine Calls.call_function_entry PyProof.Rows.kind_sorted PyProof.Rows.plain_sorted PyProof.Rows.entry_sorted (PyProof.Rows.args_sorted1 _) ?_
  unfold Builtin.«sorted»
  refine wpAny_bind (m := checkCount "sorted" 1 1 _) (wpAny_pure ?_)
  refine wpAny_bind (collect_set (A := X.A.in1) (I.ok.hd F.calm) ⟨o, ho, hex.1, hd⟩ hf hsz up ld fun s1 out k1 hz1 g1 o1 pm1 => ?_)
  obtain ⟨b2, pm2, each2⟩ := perm_each pm1 each
  have pm3 := pm2.trans pm
  have m3 : ∀ p ∈ b2, p.1 ∈ dedup xs := fun p hp => by
    rw [← fst]
    exact List.mem_map.mpr ⟨p, pm3.mem_iff.mp hp, rfl⟩
  have ln : b2.length ≤ sizeLine := by
    have : (dz (xs.zip vs)).length = (dedup xs).length := by rw [← fst, List.length_map]
    rw [pm3.length_eq, this, ← line_eq]; exact hz
  have lo : out.length ≤ sizeLine := by rw [each2.length]; exact ln
  refine wpAny_bind (wpAny_newList ?_ lo)
  have hoL : (s1.heap.push (seqObj "list" out.toArray 0)).get? s1.heap.objs.size = some (seqObj "list" out.toArray 0) := Heap.get?_push_size _ rfl
  have hmap : ∀ d ∈ b2.map (fun p => py p.1), ∃ x ∈ dedup xs, d = py x := fun d hd => by
    obtain ⟨p, hp, rfl⟩ := List.mem_map.mp hd
    exact ⟨p.1, m3 p hp, rfl⟩
  have hal : PySem.W.AllAlike (b2.map fun p => py p.1) := fun d hd d' hd' => by
    obtain ⟨x, hx, rfl⟩ := hmap d hd
    obtain ⟨y, hy, rfl⟩ := hmap d' hd'
    exact allAlike_of al _ (List.mem_map.mpr ⟨x, hx, rfl⟩) _ (List.mem_map.mpr ⟨y, hy, rfl⟩)
  have hsr : PySem.W.Sortable (b2.map fun p => py p.1) := by
    rcases sortable_of ok1 hs with z | z
    · refine .inl fun d hd => ?_
      obtain ⟨x, hx, rfl⟩ := hmap d hd
      exact z _ (List.mem_map.mpr ⟨x, hx, rfl⟩)
    · refine .inr fun d hd => ?_
      obtain ⟨x, hx, rfl⟩ := hmap d hd
      exact z _ (List.mem_map.mpr ⟨x, hx, rfl⟩)
  have reads : PySem.W.EachIs (fun v (b : D × V) => ∃ as, Reads s.heap v (py b.1) as) out b2 := each_reads I F rh.sub ok1 m3 each2
  have low : ∀ b u, s.heap.get? b = some u → b ≠ s1.heap.objs.size := fun b u e => Nat.ne_of_lt (Heap.lt_size (k1 b u e))
  have er : PySem.W.EachIs (fun v d => ∃ as, Reads (PySem.W.sortingHeap (s1.heap.push (seqObj "list" out.toArray 0)) s1.heap.objs.size out) v d as) out (b2.map fun p => py p.1) :=
    PySem.W.each_map (R := fun v d => ∃ as, Reads (PySem.W.sortingHeap (s1.heap.push (seqObj "list" out.toArray 0)) s1.heap.objs.size out) v d as) (fun p : D × V => py p.1) (reads.mono fun v b ⟨as, r⟩ => ⟨as, PyProof.Rows.Reads.keeps (fun b u e => PySem.W.sortingHeap_old (low b u e) (Heap.get?_push_of_some _ (k1 b u e))) r⟩)
  have room : ∀ d ∈ b2.map (fun p => py p.1), X.A.in1.in1.units + d.depth < cLine := fun d hd => by
    obtain ⟨x, hx, rfl⟩ := hmap d hd
    have := py_depth (okL_mem ok1 _ hx) F
    simp only [Around.in1_units]; omega
  refine wpAny_bind (wpAny_holding (wpAny_call_entry_kw PyProof.Rows.slot_list_sort ⟨_, hoL, rfl⟩ PyProof.Rows.entry_list_sort (PySem.W.list_sort_vals (s := { s1 with heap := s1.heap.push (seqObj "list" out.toArray 0) }) (κ := PySem.W.dataKind (PySem.W.sortingHeap (s1.heap.push (seqObj "list" out.toArray 0)) s1.heap.objs.size out) (b2.map fun p => py p.1)) hoL
    (PySem.W.SortsAt.data (s := { s1 with heap := PySem.W.sortingHeap (s1.heap.push (seqObj "list" out.toArray 0)) s1.heap.objs.size out }) er hal hsr room) lo ⟨.none, rfl, ?_⟩) (PyProof.Rows.args_list_sort _)))
  have fin := PySem.W.sortVals_data (h' := PySem.W.sortingHeap (s1.heap.push (seqObj "list" out.toArray 0)) s1.heap.objs.size out) (enc := fun p : D × V => py p.1) false each2 (reads.mono fun v b ⟨as, r⟩ => ⟨as, PyProof.Rows.Reads.keeps (fun b u e => PySem.W.sortingHeap_old (low b u e) (Heap.get?_push_of_some _ (k1 b u e))) r⟩) hal
  generalize PySem.W.sortVals (PySem.W.dataKind (PySem.W.sortingHeap (s1.heap.push (seqObj "list" out.toArray 0)) s1.heap.objs.size out) (b2.map fun p => py p.1)) false out out = out2 at fin ⊢
  rw [sort_any pm3 (dz_apart _) (by rw [fst]; exact ok1) (by rw [fst]; exact al)] at fin
  obtain ⟨r1, r2⟩ := RZ_each fin
  have srt := merge_zip (xs := dedup xs) fst ok false
  have srt : ((dz (xs.zip vs)).mergeSort (PySem.W.dataLe false fun p => py p.1)).map (·.1) = sortBy leUp (dedup xs) := srt
  rw [srt] at r1
  obtain ⟨c, hc⟩ := sortedHeap_at (vs := out) (out := out2.toArray) hoL
  have hn : H s1.heap.objs.size = none := I.hok.fresh hz1
  have kp : ∀ b u, s.heap.get? b = some u → (PyProof.Rows.sortedHeap (s1.heap.push (seqObj "list" out.toArray 0)) s1.heap.objs.size out out2.toArray).get? b = some u := fun b u e => by
    rw [sortedHeap_old (low b u e) (by rw [size_push']; exact Nat.lt_succ_of_lt (Heap.lt_size (k1 b u e)))]
    exact Heap.get?_push_of_some _ (k1 b u e)
  have len2 : ((dz (xs.zip vs)).mergeSort (PySem.W.dataLe false fun p => py p.1)).length ≤ sizeLine := by
    rw [(List.mergeSort_perm _ _).length_eq, ← pm3.length_eq]; exact ln
  have J : Inv X pins σ (upd H s1.heap.objs.size (.lst (((dz (xs.zip vs)).mergeSort (PySem.W.dataLe false fun p => py p.1)).map (·.2)))) { s with heap := PyProof.Rows.sortedHeap (s1.heap.push (seqObj "list" out.toArray 0)) s1.heap.objs.size out out2.toArray, gens := s1.gens, drawn := s1.drawn, toks := s1.toks } :=
    I.call (ch := []) (Un.laid kp hz1 hn) (I.hok.laid kp hz1 ⟨by rw [List.length_map]; exact len2, out2, c, r2, hc⟩) (by rw [g1]; exact I.bare) (fun _ z => nomatch z)
  have e : ({ s1 with heap := PyProof.Rows.sortedHeap (s1.heap.push (seqObj "list" out.toArray 0)) s1.heap.objs.size out out2.toArray } : Shared) = { s with heap := PyProof.Rows.sortedHeap (s1.heap.push (seqObj "list" out.toArray 0)) s1.heap.objs.size out out2.toArray, gens := s1.gens, drawn := s1.drawn, toks := s1.toks } := by
    cases s1; cases s; cases o1; rfl
  refine wpAny_pure ⟨_, rfl, ?_⟩
  rw [e]
  exact ⟨.ref _, _, J, rfl, q.lst rh hn r1⟩

/-- sorted(set(e)) -/
theorem s_srtset (F : Fit C X) {ra : Rs} {x y : Str} {p p2 pos2 : Pos} (hx : x = "sorted") (hg : L2.Gl X x) (hm : X.mg x = none) (hy : y = "set") (hg2 : L2.Gl X y) (hm2 : X.mg y = none) (ha : PE X e (TB C ra)) (hs : noStar e = true) :
    PE X (.Call (.Name x p) [.Call (.Name y p2) [e] [] pos2] [] pos) (TN C (un1 ra srtsetD)) := by
  refine ⟨fun pins s σ H Q I h => ?_⟩
  subst hx
  subst hy
  refine Call_ (ld_blt I hg hm (u := .builtin "sorted") rfl ?_)
  refine PyProof.Rows.callWith_builtin1 (PyProof.Rows.args_cons ?_ rfl) rfl rfl
  refine Call_ (ld_blt I hg2 hm2 (u := .type "set") PyProof.Rows.boot_set ?_)
  refine PyProof.Rows.callWith_type1 ((a_look hs ha).run pos2 pins s σ H (fun vs H1 => ∃ x, vs = [x] ∧ l1 C srtsetD x H1 Q) I (tk_l1 (un1_l1 h)) |> fun z => thn z fun us s1 ⟨vs, H1, I1, r1, v0, ev, ρ, FR, ah, d1, d, rh, s1', hg', q⟩ => ?_) (star_cons hs) rfl
  subst ev
  obtain ⟨u, rfl, ru⟩ := vals1 r1
  obtain ⟨xs, e1, ok1, ok2, rfl⟩ := srtset_parts hg'
  obtain ⟨a, vs, its, rfl, l, rv, src⟩ := seen_src F I1 rh s1' e1
  cases ru
  refine setD_call F I1 rh src l rv ok1 fun h' tk hb S => ?_
  refine PyProof.Rows.args_nil ?_
  exact sorted_setD (s := { s1 with heap := h', toks := tk }) F (I1.kept (t' := tk) hb) rh l S ok2 q
/-- len(set(e)) -/
theorem s_lenset (F : Fit C X) {ra : Rs} {x y : Str} {p p2 pos2 : Pos} (hx : x = "len") (hg : L2.Gl X x) (hm : X.mg x = none) (hy : y = "set") (hg2 : L2.Gl X y) (hm2 : X.mg y = none) (ha : PE X e (TB C ra)) (hs : noStar e = true) :
    PE X (.Call (.Name x p) [.Call (.Name y p2) [e] [] pos2] [] pos) (TN C (un1 ra lensetD)) := by
  refine ⟨fun pins s σ H Q I h => ?_⟩
  subst hx
  subst hy
  refine Call_ (ld_blt I hg hm (u := .builtin "len") PySem.boot_len ?_)
  refine PyProof.Rows.callWith_builtin1 (PyProof.Rows.args_cons ?_ rfl) rfl rfl
  refine Call_ (ld_blt I hg2 hm2 (u := .type "set") PyProof.Rows.boot_set ?_)
  refine PyProof.Rows.callWith_type1 ((a_look hs ha).run pos2 pins s σ H (fun vs H1 => ∃ x, vs = [x] ∧ l1 C lensetD x H1 Q) I (tk_l1 (un1_l1 h)) |> fun z => thn z fun us s1 ⟨vs, H1, I1, r1, v0, ev, ρ, FR, ah, d1, d, rh, s1', hg', q⟩ => ?_) (star_cons hs) rfl
  subst ev
  obtain ⟨u, rfl, ru⟩ := vals1 r1
  obtain ⟨xs, e1, hg'⟩ := Option.bind_eq_some_iff.mp hg'
  split at hg'
  · rename_i ok1
    cases hg'
    obtain ⟨a, vs, its, rfl, l, rv, src⟩ := seen_src F I1 rh s1' e1
    cases ru
    refine setD_call F I1 rh src l rv ok1 fun h' tk hb S => ?_
    refine PyProof.Rows.args_nil ?_
    obtain ⟨o, es, ep, t, ho, hex, hd, hf, hsz, up, ld, bs, pm, each⟩ := S.ex
    have n : es.size = (dedup xs).length := by
      have z := each.length
      rw [List.length_map, pm.length_eq, ← List.length_map (f := fun p : D × V => p.1), dz_fst, zip_fst l] at z
      rw [← Array.length_toList]; exact z
    have I2 : Inv X pins σ H1 { s1 with heap := h', toks := tk } := I1.kept hb
    refine call_len_set (s := { s1 with heap := h', toks := tk }) ho hex hd hf (by unfold scanBound at hsz; omega) ⟨.int (dedup xs).length, H1, I2.tok _, ⟨_, by rw [n]⟩, q.same rh rfl (.int _)⟩
  · cases hg'
end
end Sd

end
section
set_option Elab.async false
set_option linter.all false
set_option maxRecDepth 100000
set_option maxHeartbeats 8000000
/-! Sd19: what is checked holds: one step. -/
namespace Sd
open PySem PySem.Spec L2 Ev
open PyProof.Rows hiding St
section
variable {C : Cn} {S : Sx} {G : Ev.Gl} {F : Fs} {lv n : Nat}
theorem step_e (I : Snd C S G F lv n) : ∀ κ g t e, chk S G (n + 1) κ g t e = true → ∀ X, Fx C X S G F lv → KxOk κ X → PE X e (TG C g (ev F G t)) := by
  intro κ g t e h X W K
  rw [chk.eq_def] at h
  dsimp only at h
  split at h
  case h_1 i x _ =>
    simp only [Bool.and_eq_true, decide_eq_true_eq] at h
    obtain ⟨h1, h2⟩ := h
    obtain ⟨a1, a2, a3, a4⟩ := name_1 K h2
    exact PE.up' (g := 1) (s_var a1 a2 a3 a4) h1
  case h_2 i x _ =>
    simp only [Bool.and_eq_true, decide_eq_true_eq] at h
    obtain ⟨h1, h2⟩ := h
    obtain ⟨a1, a2, a3, a4⟩ := name_1 K h2
    exact PE.up' (g := 2) (s_bs a1 a2 a3 a4) h1
  case h_3 =>
    simp only [Bool.and_eq_true, decide_eq_true_eq] at h
    obtain ⟨h1, h2⟩ := h
    exact PE.up' (g := 3) (s_bx (I.e κ 1 _ _ h2 X W K)) h1
  case h_4 i j _ _ =>
    simp only [Bool.and_eq_true, decide_eq_true_eq] at h
    obtain ⟨h1, rfl⟩ := h
    exact PE.up' (g := 1) s_int h1
  case h_5 i j _ _ =>
    simp only [Bool.and_eq_true, decide_eq_true_eq] at h
    obtain ⟨h1, rfl⟩ := h
    exact PE.up' (g := 1) s_bl h1
  case h_6 i j _ _ =>
    simp only [Bool.and_eq_true, decide_eq_true_eq] at h
    obtain ⟨h1, rfl⟩ := h
    exact PE.up' (g := 1) s_str h1
  case h_7 =>
    simp only [decide_eq_true_eq] at h
    exact PE.up' (g := 1) s_non h
  case h_8 k x _ =>
    simp only [Bool.and_eq_true, decide_eq_true_eq] at h
    obtain ⟨⟨⟨h1, h2⟩, h3⟩, h4⟩ := h
    obtain ⟨d, hd⟩ := Option.isSome_iff_exists.mp h3
    obtain ⟨a1, a2⟩ := glob_1 K h4
    refine PE.up' (g := 1) (PE.eq (g := 1) (s_gl W h2 hd a1 a2) fun sl h => ?_) h1
    show R.opt h (G.consts[k]?) = _
    rw [hd]; rfl
  case h_9 k x _ =>
    simp only [Bool.and_eq_true, decide_eq_true_eq] at h
    obtain ⟨⟨h1, h2⟩, h4⟩ := h
    obtain ⟨a1, a2⟩ := glob_1 K h4
    obtain ⟨⟨y, ps⟩, hy, rfl⟩ := Option.map_eq_some_iff.mp h2
    exact PE.up' (g := 1) (s_fnv W hy a1 a2) h1
  case h_10 o a b a' op b' _ =>
    simp only [Bool.and_eq_true, decide_eq_true_eq] at h
    obtain ⟨⟨rfl, h2⟩, h3⟩ := h
    exact PE.up' (g := 0) (s_bin W.toFit o (op1_of (I.e κ _ a a' h2 X W K)) (I.e κ 3 b b' h3 X W K)) (Nat.zero_le _)
  case h_11 o a b a' op b' _ =>
    simp only [Bool.and_eq_true, decide_eq_true_eq] at h
    obtain ⟨⟨⟨rfl, h2⟩, h3⟩, h4⟩ := h
    exact PE.up' (g := 0) (s_cmp W.toFit o (op1_of (I.e κ _ a a' h2 X W K)) (I.e κ 3 b b' h3 X W K) (notSet_m h4 _)) (Nat.zero_le _)
  case h_12 o p a b c a' op oq b' c' _ =>
    simp only [Bool.and_eq_true, decide_eq_true_eq] at h
    obtain ⟨⟨⟨⟨⟨rfl, rfl⟩, h1⟩, h2⟩, h3⟩, h4⟩ := h
    exact PE.up' (g := 0) (s_chain W.toFit o p (I.e κ 2 a a' h1 X W K) (I.e κ 2 b b' h2 X W K) (I.e κ 3 c c' h3 X W K) (notSet_m h4 _)) (Nat.zero_le _)
  case h_13 a a' _ =>
    simp only [Bool.and_eq_true, decide_eq_true_eq] at h
    obtain ⟨h1, h2⟩ := h
    refine PE.up' (g := 1) (PE.eq (g := 1) (s_neg (I.e κ 1 a a' h2 X W K)) fun sl h => ?_) h1
    show (ev F G a sl h).bind _ = (ev F G a sl h).bind _
    congr 1
    funext d h
    cases d <;> rfl
  case h_14 a a' _ =>
    simp only [Bool.and_eq_true, decide_eq_true_eq] at h
    obtain ⟨h1, h2⟩ := h
    exact PE.up' (g := 1) (s_not W.toFit (I.e κ 3 a a' h2 X W K)) h1
  case h_15 es es' pos =>
    exact PE.up' (I.l κ g es es' h X W K pos).1 (cap_le g)
  case h_16 es es' pos =>
    exact PE.up' (I.l κ g es es' h X W K pos).2 (cap_le g)
  case h_17 c a b c' a' b' _ =>
    simp only [Bool.and_eq_true] at h
    obtain ⟨⟨h1, h2⟩, h3⟩ := h
    have ha := I.e κ (cap g) a a' h2 X W K
    have hb := I.e κ (cap g) b b' h3 X W K
    obtain ⟨φ, eφ, gr⟩ := gr_cap (C := C) g
    rw [eφ] at ha hb
    have hr := s_ite (pos := ‹Pos›) gr (I.t κ c c' h1 X W K) ha hb
    rw [← eφ] at hr
    refine PE.up' (PE.eq hr fun sl h => ?_) (cap_le g)
    show (ev F G c sl h).bind _ = ((ev F G c sl h).bind _).bind _
    cases ev F G c sl h with
    | ok d h1 => rfl
    | ex _ _ => rfl
    | bad => rfl
  case h_18 es es' _ _ =>
    simp only [Bool.and_eq_true, decide_eq_true_eq] at h
    obtain ⟨h1, h2⟩ := h
    obtain ⟨a1, a2, a3⟩ := I.a κ es es' h1 X W K
    exact PE.up' (g := 0) (s_tup h2 a3 a1) (Nat.zero_le _)
  case h_19 es es' _ =>
    simp only [Bool.and_eq_true, decide_eq_true_eq] at h
    obtain ⟨h1, h2⟩ := h
    obtain ⟨a1, a2, a3⟩ := I.a κ es es' h1 X W K
    exact PE.up' (g := 0) (s_lst h2 a3 a1) (Nat.zero_le _)
  case h_20 => exact PE.up' (g := 0) s_dic0 (Nat.zero_le _)
  case h_21 a b a' b' _ =>
    simp only [Bool.and_eq_true, decide_eq_true_eq] at h
    obtain ⟨⟨⟨h1, h2⟩, h3⟩, h4⟩ := h
    exact PE.up' (g := 1) (s_sub W.toFit (op1_of (I.e κ _ a a' h2 X W K)) (I.e κ 3 b b' h3 X W K) (ix_1 h4)) h1
  case h_22 a lo hi a' lo' hi' _ _ =>
    simp only [Bool.and_eq_true] at h
    obtain ⟨⟨h1, h2⟩, h3⟩ := h
    refine PE.up' (g := 0) (s_cut W.toFit ?_ (I.o κ lo lo' h2 X W K) (I.o κ hi hi' h3 X W K)) (Nat.zero_le _)
    have h1 := I.e κ _ a a' h1 X W K
    by_cases hq : qtO n lo = true ∧ qtO n hi = true
    · rw [if_pos hq] at h1
      exact .inr ⟨h1, qtO_1 hq.1, qtO_1 hq.2⟩
    · rw [if_neg hq] at h1
      exact .inl h1
  case h_23 a a' j _ _ _ _ _ =>
    simp only [Bool.and_eq_true, decide_eq_true_eq] at h
    obtain ⟨rfl, h2⟩ := h
    exact PE.up' (g := 0) (s_back W.toFit (I.e κ 3 a a' h2 X W K)) (Nat.zero_le _)
  case h_24 b a x _ a' _ =>
    simp only [Bool.and_eq_true, decide_eq_true_eq] at h
    obtain ⟨⟨⟨h1, h2⟩, h3⟩, h4⟩ := h
    obtain ⟨b1, b2, b3⟩ := bi_1 W.toFit h1
    obtain ⟨a1, a2⟩ := glob_1 K h2
    have ha := I.e κ 3 a a' h3 X W K
    have eq : ∀ sl h, ev F G (.bi b [a]) sl h = un1 (ev F G a) (bi1 b) sl h := fun sl h => by
      show ((ev F G a sl h).bind fun x h => (R.ok [] h).bind fun xs h => R.ok (x :: xs) h).bind (fun xs h => R.opt h (builtin b xs)) = (ev F G a sl h).bind fun x h => R.opt h (bi1 b x)
      cases ev F G a sl h <;> rfl
    rcases b3 with ⟨id, c1, c2⟩ | ⟨id, c1, c2⟩
    · exact PE.up' (g := 0) (PE.eq (s_b1 c1 a1 (W.bl _ b1) c2 ha h4 b2 a2) eq) (Nat.zero_le _)
    · exact PE.up' (g := 0) (PE.eq (s_t1 c1 a1 (W.bl _ b1) c2 ha h4 b2 a2) eq) (Nat.zero_le _)
  case h_25 o a b x _ a' b' _ =>
    simp only [Bool.and_eq_true, decide_eq_true_eq] at h
    obtain ⟨⟨⟨⟨⟨h1, h2⟩, h3⟩, h4⟩, h5⟩, h6⟩ := h
    obtain ⟨b1, b2, id, c1, c2⟩ := bi_2 W.toFit h1
    obtain ⟨a1, a2⟩ := glob_1 K h2
    have eq : ∀ sl h, ev F G (.bi o [a, b]) sl h = bin2 (ev F G a) (ev F G b) (fun u v => builtin o [u, v]) sl h := fun sl h => by
      show ((ev F G a sl h).bind fun x h => ((ev F G b sl h).bind fun y h => (R.ok [] h).bind fun xs h => R.ok (y :: xs) h).bind fun xs h => R.ok (x :: xs) h).bind (fun xs h => R.opt h (builtin o xs)) = (ev F G a sl h).bind fun x h => (ev F G b sl h).bind fun y h => R.opt h (builtin o [x, y])
      cases ev F G a sl h with
      | ok d h1 =>
        show (((ev F G b sl h1).bind fun y h => (R.ok [] h).bind fun xs h => R.ok (y :: xs) h).bind fun xs h => R.ok (d :: xs) h).bind (fun xs h => R.opt h (builtin o xs)) = (ev F G b sl h1).bind fun y h => R.opt h (builtin o [d, y])
        cases ev F G b sl h1 <;> rfl
      | ex _ _ => rfl
      | bad => rfl
    exact PE.up' (g := 0) (PE.eq (s_b2 c1 a1 (W.bl _ b1) c2 (I.e κ 1 a a' h3 X W K) (I.e κ 1 b b' h4 X W K) h5 h6 b2 a2) eq) (Nat.zero_le _)
  case h_26 c a x p a' pos =>
    simp only [Bool.and_eq_true, decide_eq_true_eq] at h
    obtain ⟨⟨⟨rfl, h2⟩, h3⟩, h4⟩ := h
    exact PE.up' (g := 0) (I.c κ c a a' h4 X W K p pos h2 h3) (Nat.zero_le _)
  case h_27 a x _ a' _ =>
    simp only [Bool.and_eq_true, decide_eq_true_eq] at h
    obtain ⟨⟨⟨rfl, h2⟩, h3⟩, h4⟩ := h
    obtain ⟨a1, a2⟩ := glob_1 K h2
    refine PE.up' (g := 0) (PE.eq (s_b1 (cl_sorted W.toFit) a1 (W.bl _ in_b) rfl (I.e κ 3 a a' h3 X W K) h4 (by decide +kernel) a2) fun sl h => ?_) (Nat.zero_le _)
    show (ev F G a sl h).bind _ = (ev F G a sl h).bind _
    congr 1
    funext d h
    cases d <;> first
      | rfl
      | (rename_i xs
         show (if okSort xs = true then R.ok (D.lst (sortBy leUp xs)) h else R.bad) = R.opt h (if okSort xs = true then some (D.lst (sortBy leUp xs)) else none)
         split <;> rfl)
  case h_28 a x _ a' k y _ _ _ =>
    simp only [Bool.and_eq_true, decide_eq_true_eq] at h
    obtain ⟨⟨⟨⟨⟨⟨rfl, rfl⟩, rfl⟩, h4⟩, h5⟩, h6⟩, h7⟩ := h
    obtain ⟨a1, a2⟩ := glob_1 K h4
    obtain ⟨b1, b2⟩ := glob_1 K h5
    refine PE.up' (g := 0) (PE.eq (s_srtlen W.toFit rfl a1 (W.bl _ in_b) rfl b1 (W.bl _ in_b) (I.e κ 3 a a' h6 X W K) h7) fun sl h => ?_) (Nat.zero_le _)
    show (ev F G a sl h).bind _ = (ev F G a sl h).bind _
    congr 1
    funext d h
    cases d <;> first
      | rfl
      | (rename_i xs
         show (keyEach (fun x h => R.opt h (builtin .len [x])) xs h).bind (fun ps h => if ps.length ≤ line then R.ok (D.lst ((sortKey leUp ps).map (·.2))) h else R.bad) = R.opt h ((lens xs).bind fun ps => if ps.length ≤ line then some (D.lst ((sortKey leUp ps).map (·.2))) else none)
         rw [lens_each]
         cases lens xs with
         | none => rfl
         | some ps =>
           show (if ps.length ≤ line then R.ok (D.lst ((sortKey leUp ps).map (·.2))) h else R.bad) = R.opt h (if ps.length ≤ line then some (D.lst ((sortKey leUp ps).map (·.2))) else none)
           split <;> rfl)
  case h_29 a t x _ a' T _ _ =>
    simp only [Bool.and_eq_true, decide_eq_true_eq, List.any_eq_true] at h
    obtain ⟨⟨⟨⟨⟨rfl, h2⟩, h3⟩, h4⟩, h5⟩, ⟨T', Tn⟩, h6, rfl, h7⟩ := h
    exact PE.up' (g := 0) (s_isi1 W rfl h7 h6 (glob_1 K h2).1 (glob_1 K h5).1 (I.e κ 3 a a' h3 X W K) h4) (Nat.zero_le _)
  case h_30 a t x _ a' T _ T' _ _ _ _ =>
    simp only [Bool.and_eq_true, decide_eq_true_eq, List.any_eq_true] at h
    obtain ⟨⟨⟨⟨⟨⟨rfl, h2⟩, h3⟩, h4⟩, h5⟩, h5'⟩, ⟨T1, Tn⟩, h6, rfl, ⟨T2, Tn'⟩, h8, rfl, h9⟩ := h
    exact PE.up' (g := 0) (s_isi2 W rfl h9 h6 h8 (glob_1 K h2).1 (glob_1 K h5).1 (glob_1 K h5').1 (I.e κ 3 a a' h3 X W K) h4) (Nat.zero_le _)
  case h_31 f es x p es' pos =>
    simp only [Bool.and_eq_true, decide_eq_true_eq] at h
    obtain ⟨⟨⟨h1, h2⟩, h3⟩, h4⟩ := h
    obtain ⟨a1, a2⟩ := glob_1 K h3
    obtain ⟨c1, c2, c3⟩ := I.a κ es es' h4 X W K
    split at h2
    · rename_i y ps hS
      simp only [Bool.and_eq_true, decide_eq_true_eq] at h2
      obtain ⟨rfl, h5⟩ := h2
      cases es' with
      | nil =>
        have hps : ps = [] := by
          cases ps with
          | nil => rfl
          | cons _ _ => simp at h5
        subst hps
        have hes : es = [] := by
          cases es with
          | nil => rfl
          | cons _ _ => cases n <;> simp [chkA] at h4
        subst hes
        exact PE.up' (g := 1) (PE.eq (g := 1) (s_call0 W hS a1 a2) fun sl h => rfl) h1
      | cons e0 es' => exact PE.up' (g := 1) (PE.eq (g := 1) (s_call W hS a1 a2 c2 h5 c3 c1) fun sl h => rfl) h1
    · cases h2
  case h_32 =>
    simp only [Bool.and_eq_true, decide_eq_true_eq] at h
    obtain ⟨h1, h2⟩ := h
    exact PE.up' (g := 1) (s_box (I.e κ 0 _ _ h2 X W K)) h1
  case h_33 b elt gens scope pos => exact PE.up' (I.lc κ b elt gens scope h X W K pos).1 (Nat.zero_le _)
  case h_34 a x _ y _ a' _ _ =>
    simp only [Bool.and_eq_true, decide_eq_true_eq] at h
    obtain ⟨⟨⟨⟨⟨rfl, rfl⟩, h2⟩, h3⟩, h4⟩, h5⟩ := h
    exact PE.up' (g := 0) (PE.eq (g := 0) (s_srtset W.toFit rfl (glob_1 K h2).1 (W.bl _ in_b) rfl (glob_1 K h3).1 (W.bl _ in_b) (I.e κ 3 a a' h4 X W K) h5) fun sl h => rfl) (Nat.zero_le _)
  case h_35 a x _ y _ a' _ _ =>
    simp only [Bool.and_eq_true, decide_eq_true_eq] at h
    obtain ⟨⟨⟨⟨⟨rfl, rfl⟩, h2⟩, h3⟩, h4⟩, h5⟩ := h
    exact PE.up' (g := 0) (PE.eq (g := 0) (s_lenset W.toFit rfl (glob_1 K h2).1 (W.bl _ in_b) rfl (glob_1 K h3).1 (W.bl _ in_b) (I.e κ 3 a a' h4 X W K) h5) fun sl h => rfl) (Nat.zero_le _)
  case h_36 a b x _ a' k y _ _ r b' _ _ _ _ =>
    simp only [Bool.and_eq_true, decide_eq_true_eq] at h
    obtain ⟨⟨⟨⟨⟨⟨⟨⟨rfl, rfl⟩, rfl⟩, rfl⟩, rfl⟩, h4⟩, h5⟩, h6⟩, h7⟩ := h
    obtain ⟨a1, a2⟩ := glob_1 K h4
    obtain ⟨b1, b2⟩ := glob_1 K h5
    refine PE.up' (g := 0) (PE.eq (g := 0) (s_srtlenR W.toFit rfl a1 (W.bl _ in_b) rfl b1 (W.bl _ in_b) (I.e κ 3 a a' h6 X W K) h7) fun sl h => ?_) (Nat.zero_le _)
    show (ev F G a sl h).bind _ = (ev F G a sl h).bind _
    congr 1
    funext d h
    cases d <;> first
      | rfl
      | (rename_i xs
         show (keyEach (fun x h => R.opt h (builtin .len [x])) xs h).bind (fun ps h => if ps.length ≤ line then R.ok (D.lst ((sortKey (if b then leDown else leUp) ps).map (·.2))) h else R.bad) = R.opt h ((lens xs).bind fun ps => if ps.length ≤ line then some (D.lst ((sortKey (if b then leDown else leUp) ps).map (·.2))) else none)
         rw [lens_each]
         cases lens xs with
         | none => rfl
         | some ps =>
           show (if ps.length ≤ line then R.ok (D.lst ((sortKey (if b then leDown else leUp) ps).map (·.2))) h else R.bad) = R.opt h (if ps.length ≤ line then some (D.lst ((sortKey (if b then leDown else leUp) ps).map (·.2))) else none)
           split <;> rfl)
  case h_37 f es i is x p kws pos =>
    simp only [Bool.and_eq_true, decide_eq_true_eq, List.any_eq_true] at h
    obtain ⟨⟨⟨⟨h1, h2⟩, h3⟩, ⟨⟨f', ks, pm⟩, q1, ⟨q2, q3⟩, q4⟩⟩, h5⟩ := h
    obtain ⟨a1, a2⟩ := glob_1 K h3
    obtain ⟨c1, c2⟩ := I.k κ es kws h5 X W K
    simp only at q2 q3 q4
    subst q2
    subst q4
    split at h2
    · rename_i y ps hS
      obtain rfl := of_decide_eq_true h2
      exact PE.up' (g := 1) (PE.eq (g := 1) (s_callK W hS q1 a1 a2 q3 c2 c1) fun sl h => rfl) h1
    · cases h2
  case h_38 => cases h
end
end Sd

end
section
set_option Elab.async false
set_option linter.all false
set_option maxRecDepth 100000
set_option maxHeartbeats 8000000
/-! Sd20: the other steps; expressions that are checked. -/
namespace Sd
open PySem PySem.Spec L2 Ev
open PyProof.Rows hiding St
section
variable {C : Cn} {S : Sx} {G : Ev.Gl} {F : Fs} {lv n : Nat}
theorem step_o (I : Snd C S G F lv n) : ∀ κ t e, chkO S G (n + 1) κ t e = true → ∀ X, Fx C X S G F lv → KxOk κ X → PO X e (To C (evOpt F G t)) := by
  intro κ t e h X W K
  rw [chkO.eq_def] at h
  dsimp only at h
  split at h
  · exact o_none
  · exact o_some (I.e κ 1 _ _ h X W K)
  · cases h
theorem cast_call {c : Cast} {X : Cx} {e : Expr} {ra : Rs} {p pos : Pos} (W : Fx C X S G F lv) (hg : L2.Gl X (castName c)) (hd : (castName c == ("__debug__" : Str)) = false) (ha : PE X e (TB C ra)) (hs : noStar e = true) : PE X (.Call (.Name (castName c) p) [e] [] pos) (TN C (un1 ra (castD c))) := by
  cases c with
  | tuple => exact s_t1 (fun pins s σ H vs us Q I r ⟨x, ex, q⟩ => cl_tuple W.toFit pins s σ H vs us Q I r ⟨x, ex, l1_imp (fun d e h => by cases d <;> first | exact h | cases h) q⟩) hg (W.bl _ in_b) rfl ha hs (by decide +kernel) hd
  | list => exact s_t1 (fun pins s σ H vs us Q I r ⟨x, ex, q⟩ => cl_list W.toFit pins s σ H vs us Q I r ⟨x, ex, l1_imp (fun d e h => by cases d <;> first | exact h | cases h) q⟩) hg (W.bl _ in_b) rfl ha hs (by decide +kernel) hd
  | dict => exact s_t1 (cl_dict W.toFit) hg (W.bl _ in_b) rfl ha hs (by decide +kernel) hd
/-- argument lists of one, of two -/
theorem chkA_len : ∀ (n : Nat) (κ : Kx) (as : List E) (bs : List Expr), chkA S G n κ as bs = true → as.length = bs.length
  | 0, _, _, _, h => by simp [chkA] at h
  | n + 1, κ, as, bs, h => by
    rw [chkA.eq_def] at h
    dsimp only at h
    split at h
    · rfl
    · simp only [Bool.and_eq_true] at h
      simp [chkA_len n κ _ _ h.2]
    · cases h
theorem chkA_inv {n : Nat} {κ : Kx} {a : E} {as : List E} {b : Expr} {bs : List Expr} (h : chkA S G n κ (a :: as) (b :: bs) = true) : ∃ m, n = m + 1 ∧ chk S G m κ 1 a b = true ∧ noStar b = true ∧ chkA S G m κ as bs = true := by
  cases n with
  | zero => simp [chkA] at h
  | succ n =>
    rw [chkA.eq_def] at h
    simp only [Bool.and_eq_true] at h
    exact ⟨n, rfl, h.1.1, h.1.2, h.2⟩
theorem step_a (I : Snd C S G F lv n) : ∀ κ ts es, chkA S G (n + 1) κ ts es = true → ∀ X, Fx C X S G F lv → KxOk κ X → PA X es (Ta C (evs F G ts)) ∧ es.all noStar = true ∧ ∀ sl h ds h', evs F G ts sl h = .ok ds h' → ds.length = es.length := by
  intro κ ts es h X W K
  rw [chkA.eq_def] at h
  dsimp only at h
  split at h
  · exact ⟨a_nil, rfl, fun sl h ds h' e => by cases e; rfl⟩
  · simp only [Bool.and_eq_true] at h
    obtain ⟨⟨h1, h2⟩, h3⟩ := h
    obtain ⟨a1, a2, a3⟩ := I.a κ _ _ h3 X W K
    refine ⟨a_cons h2 (I.e κ 1 _ _ h1 X W K) a1, by rw [List.all_cons, h2, a2]; rfl, fun sl h ds h' e => ?_⟩
    obtain ⟨d, h1, xs, e1, e2, rfl⟩ := consR_ok e
    simp [a3 _ _ _ _ e2]
  · cases h
theorem step_k (I : Snd C S G F lv n) : ∀ κ ts (kws : List Keyword), chkA S G (n + 1) κ ts (kws.map (·.value)) = true → ∀ X, Fx C X S G F lv → KxOk κ X → PK X kws (Ta C (evs F G ts)) ∧ ∀ sl h ds h', evs F G ts sl h = .ok ds h' → ds.length = kws.length := by
  intro κ ts kws h X W K
  cases kws with
  | nil =>
    cases ts with
    | nil => exact ⟨k_nil, fun sl h ds h' e => by cases e; rfl⟩
    | cons _ _ => simp [chkA] at h
  | cons kw kws =>
    obtain ⟨nm, v, kp⟩ := kw
    cases ts with
    | nil => simp [chkA] at h
    | cons t ts =>
      obtain ⟨m, e, h1, _, h3⟩ := chkA_inv h
      obtain rfl : n = m := Nat.succ.inj e
      obtain ⟨a1, a2⟩ := I.k κ ts kws h3 X W K
      refine ⟨k_cons (I.e κ 1 _ _ h1 X W K) a1, fun sl h ds h' e => ?_⟩
      obtain ⟨d, h1, xs, e1, e2, rfl⟩ := consR_ok e
      simp [a2 _ _ _ _ e2]
theorem step_l (I : Snd C S G F lv n) : ∀ κ g ts es, chkL S G (n + 1) κ (cap g) ts es = true → ∀ X, Fx C X S G F lv → KxOk κ X → ∀ pos, PE X (.BoolOp .And es pos) (TG C (cap g) (evAnd F G ts)) ∧ PE X (.BoolOp .Or es pos) (TG C (cap g) (evOr F G ts)) := by
  intro κ g ts es h X W K pos
  rw [chkL.eq_def] at h
  dsimp only at h
  split at h
  · have ha := I.e κ _ _ _ h X W K
    exact ⟨pe_one ha, pe_one ha⟩
  · simp only [Bool.and_eq_true] at h
    obtain ⟨h1, h2⟩ := h
    have ha := I.e κ _ _ _ h1 X W K
    obtain ⟨b1, b2⟩ := I.l κ g _ _ h2 X W K pos
    obtain ⟨φ, eφ, gr⟩ := gr_cap (C := C) g
    rw [eφ] at ha b1 b2 ⊢
    exact ⟨s_and W.toFit gr ha b1, s_or W.toFit gr ha b2⟩
  · cases h
theorem step_tl (I : Snd C S G F lv n) : ∀ κ ts es, chkTL S G (n + 1) κ ts es = true → ∀ X, Fx C X S G F lv → KxOk κ X → ∀ pos, PW X (.BoolOp .And es pos) (Tt C (tru (evAnd F G ts))) ∧ PW X (.BoolOp .Or es pos) (Tt C (tru (evOr F G ts))) := by
  intro κ ts es h X W K pos
  rw [chkTL.eq_def] at h
  dsimp only at h
  split at h
  · have ha := I.t κ _ _ h X W K
    exact ⟨tw_and1 ha, tw_or1 ha⟩
  · simp only [Bool.and_eq_true] at h
    obtain ⟨h1, h2⟩ := h
    have ha := I.t κ _ _ h1 X W K
    obtain ⟨b1, b2⟩ := I.tl κ _ _ h2 X W K pos
    exact ⟨tw_and ha b1, tw_or ha b2⟩
  · cases h
theorem plainT_1 {e : Expr} {env : Env} (h : plainT e = true) : ∀ whole, isTrue e env whole = (do let v ← whole; standAt e.pos; holding [v] (truthy v)) := by
  intro whole
  cases e <;> first
    | rfl
    | (cases h; done)
    | (rename_i op a p
       cases op <;> first
         | rfl
         | (cases h; done))
theorem step_t (I : Snd C S G F lv n) : ∀ κ t e, chkT S G (n + 1) κ t e = true → ∀ X, Fx C X S G F lv → KxOk κ X → PT X e (Tt C (tru (ev F G t))) := by
  intro κ t e h X W K
  rw [chkT.eq_def] at h
  dsimp only at h
  split at h
  · exact t_not W.toFit (I.t κ _ _ h X W K)
  · exact (I.tl κ _ _ h X W K _).1.pt
  · exact (I.tl κ _ _ h X W K _).2.pt
  · rename_i o a b a' op b' _
    simp only [Bool.and_eq_true, decide_eq_true_eq] at h
    obtain ⟨⟨⟨rfl, h2⟩, h3⟩, h4⟩ := h
    exact t_cmp W.toFit o (op1_of (I.e κ _ a a' h2 X W K)) (I.e κ 3 b b' h3 X W K) (notSet_m h4 _)
  · rename_i o p a b c a' op oq b' c' _
    simp only [Bool.and_eq_true, decide_eq_true_eq] at h
    obtain ⟨⟨⟨⟨⟨rfl, rfl⟩, h1⟩, h2⟩, h3⟩, h4⟩ := h
    exact t_chain W.toFit o p (I.e κ 2 a a' h1 X W K) (I.e κ 2 b b' h2 X W K) (I.e κ 3 c c' h3 X W K) (notSet_m h4 _)
  · simp only [Bool.and_eq_true] at h
    exact t_plain W.toFit (I.e κ 3 _ _ h.2 X W K) (plainT_1 h.1)
theorem step_f (I : Snd C S G F lv n) : ∀ κ ts es, chkIf S G (n + 1) κ ts es = true → ∀ X, Fx C X S G F lv → KxOk κ X → PTs X es (Tt C (evIfs F G ts)) := by
  intro κ ts es h X W K
  rw [chkIf.eq_def] at h
  dsimp only at h
  split at h
  · exact s_ifs0
  · rename_i a b
    have ht := I.t κ _ _ h X W K
    have eq : evIfs F G [a] = tru (ev F G a) := by
      funext sl h
      show ((ev F G a sl h).bind fun x h => (R.opt h (truth x)).bind fun t h => if t = true then R.ok true h else R.ok false h) = (ev F G a sl h).bind fun x h => R.opt h (truth x)
      congr 1
      funext x h
      cases truth x with
      | none => rfl
      | some b => cases b <;> rfl
    rw [eq]
    exact s_ifs1 ht
  · cases h
theorem TI_eq {b : Bool} {X : Cx} {tg e : Expr} {r r' : Rls} (h : PI X tg e (Ti C b r)) (w : ∀ sl h, r' sl h = r sl h) : PI X tg e (Ti C b r') := by
  have : r' = r := by funext sl h; exact w sl h
  rw [this]; exact h
theorem isTup_1 {e : Expr} (h : isTup e = true) : ∃ ts k p, e = .Tuple ts k p := by
  cases e <;> first
    | exact ⟨_, _, _, rfl⟩
    | cases h
theorem step_i (I : Snd C S G F lv n) : ∀ κ tg t e, chkI S G (n + 1) κ tg t e = true → ∀ X, Fx C X S G F lv → KxOk κ X → PI X tg e (Ti C (isTup tg) (itR (ev F G t) items)) := by
  intro κ tg t e h X W K
  rw [chkI.eq_def] at h
  dsimp only at h
  split at h
  · simp only [Bool.and_eq_true, decide_eq_true_eq] at h
    obtain ⟨⟨⟨rfl, h2⟩, h3⟩, h4⟩ := h
    exact i_range1 W rfl (glob_1 K h2).1 (I.e κ 1 _ _ h3 X W K) h4
  · simp only [Bool.and_eq_true, decide_eq_true_eq] at h
    obtain ⟨⟨⟨⟨⟨rfl, h2⟩, h3⟩, h4⟩, h5⟩, h6⟩ := h
    exact i_range2 W rfl (glob_1 K h2).1 (I.e κ 1 _ _ h3 X W K) (I.e κ 1 _ _ h5 X W K) h4 h6
  · rename_i a x _ a' _
    simp only [Bool.and_eq_true, decide_eq_true_eq] at h
    obtain ⟨⟨⟨⟨h0, rfl⟩, h2⟩, h3⟩, h4⟩ := h
    obtain ⟨ts, k, p, rfl⟩ := isTup_1 h0
    refine TI_eq (i_enum W rfl (glob_1 K h2).1 (I.e κ 1 _ _ h3 X W K) h4) fun sl h => ?_
    show ((ev F G a sl h).bind fun x h => R.opt h ((enumD x).map .lst)).bind (fun x h => R.opt h (items x)) = (ev F G a sl h).bind fun x h => R.opt h (enumD x)
    cases ev F G a sl h with
    | ok d h1 =>
      show (R.opt h1 ((enumD d).map .lst)).bind (fun x h => R.opt h (items x)) = R.opt h1 (enumD d)
      cases enumD d <;> rfl
    | ex _ _ => rfl
    | bad => rfl
  · rename_i a b x _ a' b' _
    simp only [Bool.and_eq_true, decide_eq_true_eq] at h
    obtain ⟨⟨⟨⟨⟨⟨h0, rfl⟩, h2⟩, h3⟩, h4⟩, h5⟩, h6⟩ := h
    obtain ⟨ts, k, p, rfl⟩ := isTup_1 h0
    refine TI_eq (i_zip W rfl (glob_1 K h2).1 (I.e κ 1 _ _ h3 X W K) (I.e κ 1 _ _ h5 X W K) h4 h6) fun sl h => ?_
    show ((ev F G a sl h).bind fun x h => (ev F G b sl h).bind fun y h => R.opt h ((zipD x y).map .lst)).bind (fun x h => R.opt h (items x)) = (ev F G a sl h).bind fun x h => (ev F G b sl h).bind fun y h => R.opt h (zipD x y)
    cases ev F G a sl h with
    | ok d h1 =>
      show ((ev F G b sl h1).bind fun y h => R.opt h ((zipD d y).map .lst)).bind (fun x h => R.opt h (items x)) = (ev F G b sl h1).bind fun y h => R.opt h (zipD d y)
      cases ev F G b sl h1 with
      | ok d2 h2 =>
        show (R.opt h2 ((zipD d d2).map .lst)).bind (fun x h => R.opt h (items x)) = R.opt h2 (zipD d d2)
        cases zipD d d2 <;> rfl
      | ex _ _ => rfl
      | bad => rfl
    | ex _ _ => rfl
    | bad => rfl
  · exact i_seq W.toFit (I.e κ 1 _ _ h X W K)
theorem step_c (Is : ∀ m, m ≤ n → Snd C S G F lv m) : ∀ κ c t e, chkC S G (n + 1) κ c t e = true → ∀ X, Fx C X S G F lv → KxOk κ X → ∀ (p pos : Pos), globOk κ (castName c) = true → noStar e = true → PE X (.Call (.Name (castName c) p) [e] [] pos) (TG C 0 (ev F G (.cast c t))) := by
  intro κ c t e h X W K p pos hg hs
  obtain ⟨a1, a2⟩ := glob_1 K hg
  have I := Is n (Nat.le_refl _)
  rw [chkC.eq_def] at h
  dsimp only at h
  split at h
  · rename_i es x px es' pos'
    simp only [Bool.and_eq_true, Bool.or_eq_true, beq_iff_eq, decide_eq_true_eq, Bool.not_eq_true', decide_eq_false_iff_not] at h
    obtain ⟨⟨⟨⟨rfl, h2⟩, h3⟩, h4⟩, h5⟩ := h
    obtain ⟨b1, b2⟩ := glob_1 K h2
    have hr : PRg X (.Call (.Name "range" px) es' [] pos') (Trg C (evs F G es)) := by
      have hlen := chkA_len n κ es es' h4
      cases es' with
      | nil => simp at h3
      | cons e1 r =>
        cases es with
        | nil => simp at hlen
        | cons t1 r1 =>
          obtain ⟨m, rfl, c1, c2, c3⟩ := chkA_inv h4
          have g1 : PE X e1 (TF C (ev F G t1)) := (Is m (by omega)).e κ 1 _ _ c1 X W K
          cases r with
          | nil =>
            cases r1 with
            | cons _ _ => simp at hlen
            | nil => exact g_rng1 W rfl b1 g1 c2
          | cons e2 r =>
            cases r1 with
            | nil => simp at hlen
            | cons t2 r1 =>
              obtain ⟨m', rfl, d1, d2, d3⟩ := chkA_inv c3
              cases r with
              | nil =>
                cases r1 with
                | cons _ _ => simp at hlen
                | nil => exact g_rng2 W rfl b1 g1 ((Is m' (by omega)).e κ 1 _ _ d1 X W K) c2 d2
              | cons _ _ => simp at h3
    have eq : ∀ sl h, ev F G (.cast c (.range es)) sl h = un1 (rng (evs F G es)) (castD c) sl h := fun sl h => rfl
    cases c with
    | tuple => exact PE.eq (g := 0) (s_tupRg W rfl a1 hr hs) eq
    | list => exact PE.eq (g := 0) (s_listRg W rfl a1 hr hs) eq
    | dict => exact absurd rfl h5
  · exact cast_call W a1 a2 (I.e κ 3 _ _ h X W K) hs
/-- the block's own names -/
theorem ownL (N : List Str) : ∀ vs : List Nat, (vs.map fun i => ((N[i]?).getD default, i)).map (·.2) = vs
  | [] => rfl
  | v :: vs => by
    rw [List.map_cons, List.map_cons, ownL N vs]
theorem bind_as {α β γ : Type} (r : R α) (f : α → AH → R β) (g : β → AH → R γ) : (r.bind f).bind g = r.bind fun a h => (f a h).bind g := by cases r <;> rfl
theorem evB_cl (t : Tg) (it : E) (ifs : List E) (b : E) : evB F G (.cl t it ifs b) = clsR (itR (ev F G it) items) (tgs t ++ owns b) t (evIfs F G ifs) (evB F G b) := by
  funext sl acc h
  show (ev F G it sl h).bind _ = ((ev F G it sl h).bind fun x h => R.opt h (items x)).bind _
  rw [bind_as]
  rfl
theorem evB_yl (e : E) : evB F G (.yl e) = yldR (ev F G e) := rfl
theorem ev_lc (b : E) : ev F G (.lc b) = lcR (evB F G b) := rfl
theorem step_ie (I : Snd C S G F lv n) {κ : Kx} {tg iter : Expr} {it : E} (h : (match it, iter with | .bsl i, .Name x _ => nameOk κ i x | it, iter => chkI S G n κ tg it iter) = true) {X : Cx} (W : Fx C X S G F lv) (K : KxOk κ X) :
    PI X tg iter (TiE C (isTup tg) (itR (ev F G it) items)) := by
  split at h
  · rename_i i x _
    obtain ⟨a1, a2, a3, a4⟩ := name_1 K h
    refine i_bsl W.toFit (r := ev F G (.bsl i)) ?_ fun sl h d h' e => ?_
    · refine PE.imp (s_bs a1 a2 a3 a4) fun σ H Q ⟨ρ, FR, sl, ah, rel, q⟩ => ⟨ρ, FR, sl, ah, rel, ?_⟩
      obtain ⟨d, ah', e, _⟩ := q.inv
      have q : Pst C ρ FR H (lookS C sl σ) Q (R.opt ah (getOL sl i)) := q
      unfold getOL at q
      cases ho : getO sl i with
      | none => rw [ho] at q; exact q.elim
      | some o =>
        rw [ho] at q
        cases o with
        | dic _ _ => exact q.elim
        | lst xs =>
          show Pst C ρ FR H (lookS C sl σ) Q (R.opt ah ((getO sl i).map Own.d))
          rw [ho]
          exact q
    · obtain ⟨e1, _⟩ := opt_ok e
      unfold getOL at e1
      split at e1
      · cases e1; exact ⟨_, rfl⟩
      · cases e1
  · exact Sd.PI.toE (I.i κ tg _ _ h X W K)
theorem step_lc (I : Snd C S G F lv n) : ∀ κ b elt gens scope, chkLc S G (n + 1) κ b elt gens scope = true → ∀ X, Fx C X S G F lv → KxOk κ X → ∀ pos, PE X (.ListComp elt gens scope pos) (TG C 0 (ev F G (.lc b))) ∧
    ∀ i x p spos, Stored X i x → X.env.scope.names.lookup x = some .local → swapsWith (.ListComp elt gens scope pos) (some (.Name x p)) spos.line X.env = pure true → PS X (.Assign [.Name x p] (.ListComp elt gens scope pos) spos) (tAsg (TN C (ev F G (.lc b))) (gName i)) ∧ ∃ k, ev F G (.lc b) = lcR k := by
  intro κ b elt gens scope h X W K pos
  rw [chkLc.eq_def] at h
  dsimp only at h
  split at h
  · rename_i t it ifs b2 tg iter ifs' a hcl
    simp only [Bool.and_eq_true, decide_eq_true_eq] at h
    obtain ⟨⟨⟨⟨⟨⟨rfl, h2⟩, h3⟩, h4⟩, h5⟩, h6⟩, h7⟩ := h
    split at h7
    · rename_i re hyl
      have eb := clP_1 hcl
      have eb2 := ylP_1 hyl
      simp only at eb
      subst eb2
      subst eb
      have ok := blkOk_by h4
      rw [← K.N, ← K.sc] at ok
      have Kb := K.blk ok
      have ov := ownL X.N (tgs t ++ owns (.yl re))
      have hg : ∀ (s : Shared) (H : Hp) (B : Addr) (cl : List (Str × Addr)) (fp : List Addr), PGd C (X.blk s H scope (compEnvC scope cl B X.env) fp) tg t (gT C t) := fun s H B cl fp => chkG_1 (W.blk s H scope _ fp).toFit (Kb s H B cl fp) h5
      have ht : ∀ (s : Shared) (H : Hp) (B : Addr) (cl : List (Str × Addr)) (fp : List Addr), PTs (X.blk s H scope (compEnvC scope cl B X.env) fp) ifs' (Tt C (evIfs F G ifs)) := fun s H B cl fp => I.f _ _ _ h6 _ (W.blk s H scope _ fp) (Kb s H B cl fp)
      have he : ∀ (s : Shared) (H : Hp) (B : Addr) (cl : List (Str × Addr)) (fp : List Addr), PE (X.blk s H scope (compEnvC scope cl B X.env) fp) elt (TF C (ev F G re)) := fun s H B cl fp => I.e _ 1 _ _ h7 _ (W.blk s H scope _ fp) (Kb s H B cl fp)
      have hi := step_ie I h2 W K
      rw [isTup_tp h5] at hi
      have hv : ∀ i ∈ tgs t, i ∈ ((tgs t ++ owns (.yl re)).map fun i => ((X.N[i]?).getD default, i)).map (·.2) := fun i hi => by rw [ov]; exact List.mem_append_left _ hi
      have r1 := s_lc1 (pos := pos) W.toFit K.nd hi ok hv hg ht he (notSet_f h3)
      rw [ov, ← evB_yl, ← evB_cl, ← ev_lc] at r1
      refine ⟨r1, fun i x p spos st hl hsw => ?_⟩
      have r2 := lc1_store (R := fun _ _ _ => True) W.toFit st hl hsw hi ok hv hg ht he (notSet_f h3)
      rw [ov, ← evB_yl, ← evB_cl, ← ev_lc] at r2
      exact ⟨r2, _, rfl⟩
    · cases h7
  · rename_i t it ifs b2 tg iter ifs' a tg1 iter1 ifs1' a1 hcl
    simp only [Bool.and_eq_true, decide_eq_true_eq] at h
    obtain ⟨⟨⟨⟨⟨⟨⟨rfl, rfl⟩, h2⟩, h3⟩, h4⟩, h5⟩, h6⟩, h7⟩ := h
    split at h7
    · rename_i t1 it1 ifs1 b3 hcl1
      simp only [Bool.and_eq_true] at h7
      obtain ⟨⟨⟨⟨g2, g3⟩, g5⟩, g6⟩, g7⟩ := h7
      split at g7
      · rename_i re hyl
        have eb := clP_1 hcl
        have eb1 := clP_1 hcl1
        have eb2 := ylP_1 hyl
        simp only at eb eb1
        subst eb2
        subst eb1
        subst eb
        have ok := blkOk_by h4
        rw [← K.N, ← K.sc] at ok
        have Kb := K.blk ok
        have ov := ownL X.N (tgs t ++ owns (.cl t1 it1 ifs1 (.yl re)))
        have hg : ∀ (s : Shared) (H : Hp) (B : Addr) (cl : List (Str × Addr)) (fp : List Addr), PGd C (X.blk s H scope (compEnvC scope cl B X.env) fp) tg t (gT C t) := fun s H B cl fp => chkG_1 (W.blk s H scope _ fp).toFit (Kb s H B cl fp) h5
        have ht : ∀ (s : Shared) (H : Hp) (B : Addr) (cl : List (Str × Addr)) (fp : List Addr), PTs (X.blk s H scope (compEnvC scope cl B X.env) fp) ifs' (Tt C (evIfs F G ifs)) := fun s H B cl fp => I.f _ _ _ h6 _ (W.blk s H scope _ fp) (Kb s H B cl fp)
        have hg1 : ∀ (s : Shared) (H : Hp) (B : Addr) (cl : List (Str × Addr)) (fp : List Addr), PGd C (X.blk s H scope (compEnvC scope cl B X.env) fp) tg1 t1 (gT C t1) := fun s H B cl fp => chkG_1 (W.blk s H scope _ fp).toFit (Kb s H B cl fp) g5
        have ht1 : ∀ (s : Shared) (H : Hp) (B : Addr) (cl : List (Str × Addr)) (fp : List Addr), PTs (X.blk s H scope (compEnvC scope cl B X.env) fp) ifs1' (Tt C (evIfs F G ifs1)) := fun s H B cl fp => I.f _ _ _ g6 _ (W.blk s H scope _ fp) (Kb s H B cl fp)
        have hi1 : ∀ (s : Shared) (H : Hp) (B : Addr) (cl : List (Str × Addr)) (fp : List Addr), PI (X.blk s H scope (compEnvC scope cl B X.env) fp) tg1 iter1 (TiE C (isTp t1) (itR (ev F G it1) items)) := fun s H B cl fp => isTup_tp g5 ▸ step_ie I g2 (W.blk s H scope _ fp) (Kb s H B cl fp)
        have he : ∀ (s : Shared) (H : Hp) (B : Addr) (cl : List (Str × Addr)) (fp : List Addr), PE (X.blk s H scope (compEnvC scope cl B X.env) fp) elt (TF C (ev F G re)) := fun s H B cl fp => I.e _ 1 _ _ g7 _ (W.blk s H scope _ fp) (Kb s H B cl fp)
        have hi := step_ie I h2 W K
        rw [isTup_tp h5] at hi
        have hv : ∀ i ∈ tgs t, i ∈ ((tgs t ++ owns (.cl t1 it1 ifs1 (.yl re))).map fun i => ((X.N[i]?).getD default, i)).map (·.2) := fun i hi => by rw [ov]; exact List.mem_append_left _ hi
        have hv1 : ∀ i ∈ tgs t1, i ∈ tgs t1 ++ owns (.yl re) := fun i hi => List.mem_append_left _ hi
        have hv2 : ∀ i ∈ tgs t1 ++ owns (.yl re), i ∈ ((tgs t ++ owns (.cl t1 it1 ifs1 (.yl re))).map fun i => ((X.N[i]?).getD default, i)).map (·.2) := fun i hi => by rw [ov]; exact List.mem_append_right _ hi
        have r1 := s_lc2 (pos := pos) W.toFit K.nd hi ok hv hv1 hv2 hg ht hi1 hg1 ht1 he (notSet_f h3) (notSet_f g3)
        rw [ov, ← evB_yl, ← evB_cl, ← evB_cl, ← ev_lc] at r1
        refine ⟨r1, fun i x p spos st hl hsw => ?_⟩
        have r2 := lc2_store W.toFit st hl hsw hi ok hv hv1 hv2 hg ht hi1 hg1 ht1 he (notSet_f h3) (notSet_f g3)
        rw [ov, ← evB_yl, ← evB_cl, ← evB_cl, ← ev_lc] at r2
        exact ⟨r2, _, rfl⟩
      · cases g7
    · cases h7
  · cases h
theorem snd_zero : Snd C S G F lv 0 where
  e := fun κ g t e h => by simp [chk] at h
  o := fun κ t e h => by simp [chkO] at h
  c := fun κ c t e h => by simp [chkC] at h
  l := fun κ g ts es h => by simp [chkL] at h
  a := fun κ ts es h => by simp [chkA] at h
  k := fun κ ts kws h => by simp [chkA] at h
  t := fun κ t e h => by simp [chkT] at h
  tl := fun κ ts es h => by simp [chkTL] at h
  i := fun κ tg t e h => by simp [chkI] at h
  f := fun κ ts es h => by simp [chkIf] at h
  lc := fun κ b elt gens scope h => by simp [chkLc] at h
theorem snd_le : ∀ n m, m ≤ n → Snd C S G F lv m
  | 0, m, h => by
    have : m = 0 := by omega
    subst this
    exact snd_zero
  | n + 1, m, h => by
    by_cases hm : m ≤ n
    · exact snd_le n m hm
    · have : m = n + 1 := by omega
      subst this
      have I := snd_le n n (Nat.le_refl _)
      exact ⟨step_e I, step_o I, step_c (snd_le n), step_l I, step_a I, step_k I, step_t I, step_tl I, step_i I, step_f I, step_lc I⟩
theorem snd (n : Nat) : Snd C S G F lv n := snd_le n n (Nat.le_refl _)
end
end Sd

end
section
set_option Elab.async false
set_option linter.all false
set_option maxRecDepth 100000
set_option maxHeartbeats 8000000
/-! Sd21: statements that are checked. -/
namespace Sd
open PySem PySem.Spec L2 Ev
open PyProof.Rows hiding St
section
variable {C : Cn} {S : Sx} {G : Ev.Gl} {F : Fs} {lv n : Nat} {X : Cx} {κ : Kx}
theorem sw_val {elt : Expr} {gs : List Comprehension} {scope : Scope} {pos py : Pos} {y : Str} {l : Nat} (K : KxOk κ X) :
    swapsWith (.ListComp elt gs scope pos) (some (.Name y py)) l X.env = pure (swE κ (.ListComp elt gs scope pos) y py) := by
  have hb : X.env.blockKind = .function := by unfold Env.blockKind; rw [K.fk]; rfl
  have ky : X.env.kindOf y = κ.sc.names.lookup y := by show X.env.scope.names.lookup y = _; rw [K.sc]
  unfold swapsWith swE
  simp only [hb, ky, Expr.pos]
  congr 1
  have e1 : (ScopeKind.function == ScopeKind.function) = true := rfl
  rw [e1, Bool.true_and]
  congr 1
  rw [Bool.eq_iff_iff]
  simp
theorem sw_not {e : Expr} {y : Str} {py : Pos} {l : Nat} (K : KxOk κ X) (hn : noC e = true) (h : swE κ e y py = false) : swapsWith e (some (.Name y py)) l X.env = pure false := by
  cases e <;> first
    | rfl
    | (rw [sw_val K, h]; done)
    | (cases hn; done)
theorem sw_lc {e : Expr} {y : Str} {py : Pos} (h : swE κ e y py = true) : ∃ elt gs scope pos, e = .ListComp elt gs scope pos ∧ κ.sc.names.lookup y = some .local := by
  cases e <;> first
    | (cases h; done)
    | skip
  rename_i elt gs scope pos
  refine ⟨elt, gs, scope, pos, rfl, ?_⟩
  simp only [swE, Bool.and_eq_true, decide_eq_true_eq] at h
  exact h.1.1
theorem sw_tup {e : Expr} {ts : List Expr} {k : Nat} {tp : Pos} {l : Nat} (h : isTup e = false) (hn : noC e = true) : swapsWithSole [.Tuple ts k tp] e l X.env = pure false ∧ swappedStores [.Tuple ts k tp] e X.env = pure none := by
  cases e <;> first
    | exact ⟨rfl, rfl⟩
    | (cases h; done)
    | (cases hn; done)
theorem sw_tup2 {vs : List Expr} {k k2 : Nat} {x y : Str} {px py tp p2 : Pos} {l : Nat} (K : KxOk κ X) (h : notLocals κ [.Name x px, .Name y py] = true) : swapsWithSole [.Tuple [.Name x px, .Name y py] k tp] (.Tuple vs k2 p2) l X.env = pure false ∧ swappedStores [.Tuple [.Name x px, .Name y py] k tp] (.Tuple vs k2 p2) X.env = pure none := by
  refine ⟨rfl, ?_⟩
  have kx : X.env.kindOf x = κ.sc.names.lookup x := by show X.env.scope.names.lookup x = _; rw [K.sc]
  have ky : X.env.kindOf y = κ.sc.names.lookup y := by show X.env.scope.names.lookup y = _; rw [K.sc]
  simp only [notLocals, Bool.not_eq_true', Bool.and_eq_false_iff, decide_eq_false_iff_not] at h
  unfold swappedStores
  simp only [kx, ky, List.filterMap_cons, List.filterMap_nil]
  rcases h with h | h
  · have hx : (κ.sc.names.lookup x == some NameKind.local) = false := beq_eq_false_iff_ne.mpr h
    simp only [hx, Bool.false_and, Bool.false_eq_true, if_false]
    split <;> (try split) <;> (try split) <;> simp_all
  · have hy : (κ.sc.names.lookup y == some NameKind.local) = false := beq_eq_false_iff_ne.mpr h
    simp only [hy, Bool.false_and, Bool.false_eq_true, if_false]
    split <;> (try split) <;> (try split) <;> simp_all
theorem notLocals_1 {ts : List Expr} (h : notLocals κ ts = true) : ∃ x y px py, ts = [.Name x px, .Name y py] := by
  unfold notLocals at h
  split at h
  · exact ⟨_, _, _, _, rfl⟩
  · cases h
theorem sw_tup3 {e : Expr} {ts : List Expr} {k : Nat} {tp : Pos} {l : Nat} (K : KxOk κ X) (h : (!isTup e || notLocals κ ts) = true) (hn : noC e = true) : swapsWithSole [.Tuple ts k tp] e l X.env = pure false ∧ swappedStores [.Tuple ts k tp] e X.env = pure none := by
  by_cases ht : isTup e = true
  · rw [ht] at h
    have h : notLocals κ ts = true := h
    obtain ⟨x, y, px, py, rfl⟩ := notLocals_1 h
    obtain ⟨vs, k2, p2, rfl⟩ := isTup_1 ht
    exact sw_tup2 K h
  · exact sw_tup (by simpa using ht) hn
theorem sw_sub {e o i : Expr} {tp : Pos} {l : Nat} : swapsWithSole [.Subscript o i tp] e l X.env = pure false ∧ swappedStores [.Subscript o i tp] e X.env = pure none := by
  cases e <;> exact ⟨rfl, rfl⟩
theorem st_no (a : Expr) : noStar a = true → (match a with | .Starred .. => true | _ => false) = false := by
  intro na
  cases a <;> first | rfl | cases na
theorem swapped_ok {x y : Str} {a b : Expr} {px py pt : Pos} {kt k2 : Nat} {pt2 : Pos} (fk : X.env.scope.kind = .function) (hx : X.env.scope.names.lookup x = some .local) (hy : X.env.scope.names.lookup y = some .local) (hxy : x ≠ y) (hl : px.line = py.line) (na : noStar a = true) (nb : noStar b = true)
    (fa : foldedForSure 8 a = false) (ca : constantsAlone 8 a = false) : swappedStores [.Tuple [.Name x px, .Name y py] kt pt] (.Tuple [a, b] k2 pt2) X.env = pure (some [x, y]) := by
  have hb : X.env.blockKind = .function := by unfold Env.blockKind; rw [fk]; rfl
  have kx : X.env.kindOf x = some .local := hx
  have ky : X.env.kindOf y = some .local := hy
  have sa := st_no a na
  have sb := st_no b nb
  unfold swappedStores
  simp only [List.any_cons, List.any_nil, sa, sb, hb, List.filterMap_cons, List.filterMap_nil, kx, ky, Expr.pos, List.head?_cons, Option.map_some, Option.getD_some, hl, List.all_cons, List.all_nil, fa, ca]
  have exy : (y == x) = false := beq_eq_false_iff_ne.mpr (Ne.symm hxy)
  have exy2 : (x == y) = false := beq_eq_false_iff_ne.mpr hxy
  simp [List.eraseDups, List.eraseDupsBy, List.eraseDupsBy.loop, exy, exy2]
  intro h
  exfalso
  rcases h with h | h
  · exact Bool.noConfusion (sa.symm.trans h)
  · exact Bool.noConfusion (sb.symm.trans h)
theorem place_1 {pl : Ev.Pl} {j : Nat} (h : isPlace pl = some j) : Place pl j := by
  cases pl with
  | sl k => cases h; exact .sl _
  | bx e =>
    cases e <;> first
      | (cases h; exact .bx _)
      | cases h
theorem early_1 {pl : Ev.Pl} {j n : Nat} {t : E} (P : Place pl j) (h : (isSl pl || qt n t) = true) : Early F G pl (ev F G t) := by
  cases P with
  | sl => exact early_sl
  | bx =>
    have h : qt n t = true := h
    exact early_q (.bx _) (qt_1 n t h)
theorem assign_1 {o k : Expr} {tp : Pos} {env : Env} (h : ixPlain k = true) : ∀ v, assign (.Subscript o k tp) env v = (do
      let ov ← holding [v] (eval o env)
      let iv ← holding [v, ov] (eval k env)
      standAt tp
      holding [v, ov, iv] (setItem ov iv v)
      release [v, ov, iv] []) := by
  intro v
  cases k <;> first
    | rfl
    | cases h
theorem PS.eq {st : Stmt} {r r' : Sf} (h : PS X st (Ts C r)) (w : ∀ sl h, r' sl h = r sl h) : PS X st (Ts C r') := by
  have : r' = r := by funext sl h; exact w sl h
  rw [this]; exact h
theorem lcP_1 {t b : E} (h : lcP t = some b) : t = .lc b := by
  cases t <;> first
    | (cases h; rfl)
    | (cases h; done)
structure SndS (C : Cn) (S : Sx) (G : Ev.Gl) (F : Fs) (lv n : Nat) : Prop where
  s : ∀ κ s st, chkS S G n κ s st = true → ∀ X, Fx C X S G F lv → KxOk κ X → PassesOwn (model X.prog X.w) X.A X.env X.xe → PS X st (Ts C (xc F G s))
  ss : ∀ κ s st, chkSs S G n κ s st = true → ∀ X, Fx C X S G F lv → KxOk κ X → PassesOwn (model X.prog X.w) X.A X.env X.xe → PSs X st (Ts C (xcs F G s))
theorem step_ss (I : SndS C S G F lv n) : ∀ κ s st, chkSs S G (n + 1) κ s st = true → ∀ X, Fx C X S G F lv → KxOk κ X → PassesOwn (model X.prog X.w) X.A X.env X.xe → PSs X st (Ts C (xcs F G s)) := by
  intro κ s st h X W K hp
  rw [chkSs.eq_def] at h
  dsimp only at h
  split at h
  · exact c_frz (I.ss κ _ _ h X W K hp)
  · refine c_cons (r1 := fun sl h => .ok (.nx sl) h) (r2 := xcs F G s) ?_ (I.ss κ _ _ h X W K hp)
    exact c_doc
  · exact c_nil
  · simp only [Bool.and_eq_true] at h
    exact c_cons (I.s κ _ _ h.1 X W K hp) (I.ss κ _ _ h.2 X W K hp)
  · cases h
theorem step_s (I : SndS C S G F lv n) : ∀ κ s st, chkS S G (n + 1) κ s st = true → ∀ X, Fx C X S G F lv → KxOk κ X → PassesOwn (model X.prog X.w) X.A X.env X.xe → PS X st (Ts C (xc F G s)) := by
  intro κ s st h X W K hp
  have Z : Snd C S G F lv n := snd n
  rw [chkS.eq_def] at h
  dsimp only at h
  split at h
  case h_1 i t x p e pos =>
    simp only [Bool.and_eq_true] at h
    obtain ⟨⟨h1, h2⟩, h3⟩ := h
    have st := store_1 K h1
    by_cases hsw : swE κ e x p = true
    · rw [if_pos hsw] at h3
      split at h3
      · rename_i b elt gens scope pos' hl
        have eb := lcP_1 hl
        subst eb
        obtain ⟨_, _, _, _, _, hloc⟩ := sw_lc hsw
        obtain ⟨r1, k, r2⟩ := (Z.lc κ b elt gens scope h3 X W K pos').2 i x p pos st (by rw [K.sc]; exact hloc) (by rw [sw_val K, hsw])
        have r3 : PS X (.Assign [.Name x p] (.ListComp elt gens scope pos') pos) (Ts C (setR i (ev F G (.lc b)))) := by
          rw [r2] at r1 ⊢
          exact c_setLc r1
        exact r3
      · cases h3
    · have hsw : swE κ e x p = false := by simpa using hsw
      rw [hsw] at h3
      exact c_set st (Z.e κ 1 t e h3 X W K) (sw_not K h2 hsw)
  case h_2 i t x p e pos =>
    simp only [Bool.and_eq_true] at h
    obtain ⟨⟨h1, h2⟩, h3⟩ := h
    have st := store_1 K h1
    by_cases hsw : swE κ e x p = true
    · rw [if_pos hsw] at h3
      split at h3
      · rename_i b elt gens scope pos' hl
        have eb := lcP_1 hl
        subst eb
        obtain ⟨_, _, _, _, _, hloc⟩ := sw_lc hsw
        obtain ⟨r1, k, r2⟩ := (Z.lc κ b elt gens scope h3 X W K pos').2 i x p pos st (by rw [K.sc]; exact hloc) (by rw [sw_val K, hsw])
        have r3 : PS X (.Assign [.Name x p] (.ListComp elt gens scope pos') pos) (Ts C (ownR i (ev F G (.lc b)))) := by
          rw [r2] at r1 ⊢
          exact c_ownLc st.lt r1
        exact r3
      · cases h3
    · have hsw : swE κ e x p = false := by simpa using hsw
      rw [hsw] at h3
      exact c_own st (Z.e κ 0 t e h3 X W K) (sw_not K h2 hsw)
  case h_3 is t ts kk tp e pos =>
    simp only [Bool.and_eq_true] at h
    obtain ⟨⟨⟨h1, h2⟩, h3⟩, h4⟩ := h
    obtain ⟨b1, b2⟩ := sw_tup3 (k := kk) (tp := tp) (l := pos.line) K h3 h4
    have hg : PGd C X (.Tuple ts kk tp) (.tp is) (gT C (.tp is)) := chkG_1 W.toFit K h1
    exact c_tset hg (Z.e κ 1 t e h2 X W K) b1 b2
  case h_4 i bi j bj ta tb x px y py _ _ a b _ _ _ =>
    simp only [Bool.and_eq_true, decide_eq_true_eq, Bool.not_eq_true'] at h
    obtain ⟨⟨⟨⟨⟨⟨⟨⟨⟨⟨⟨⟨h1, h2⟩, h3⟩, h4⟩, h5⟩, h6⟩, h7⟩, h8⟩, h9⟩, h10⟩, h11⟩, h12⟩, h13⟩ := h
    have lx : X.env.scope.names.lookup x = some .local := by rw [K.sc]; exact h3
    have ly : X.env.scope.names.lookup y = some .local := by rw [K.sc]; exact h4
    have ga : PE X a (gB C bi (ev F G ta)) := by
      have := Z.e κ _ ta a h12 X W K
      cases bi <;> exact this
    have gb : PE X b (gB C bj (ev F G tb)) := by
      have := Z.e κ _ tb b h13 X W K
      cases bj <;> exact this
    refine PS.eq (c_pset W.toFit (store_1 K h1) (store_1 K h2) h5 lx ly ga gb h8 h9 (swapped_ok K.fk lx ly h6 h7 h8 h9 h10 h11) rfl) fun sl h => ?_
    show ((ev F G ta sl h).bind fun x h => ((ev F G tb sl h).bind fun y h => (R.ok [] h).bind fun xs h => R.ok (y :: xs) h).bind fun xs h => R.ok (x :: xs) h).bind (fun ds h => R.opt h ((putAll sl [(i, bi), (j, bj)] ds).map Fl.nx)) = _
    unfold psetR
    rw [bind_as]
    congr 1
    funext d1 h1
    rw [bind_as, bind_as]
    congr 1
    funext d2 h2
    show R.opt h2 ((putAll sl [(i, bi), (j, bj)] [d1, d2]).map Fl.nx) = R.opt h2 ((putB sl i bi d1).bind fun sl => (putB sl j bj d2).map Fl.nx)
    congr 1
    cases bi <;> cases bj
    · rfl
    · show (((d2.own?).bind fun o => some ((setS sl i d1).set j (some (.own o))))).map Fl.nx = ((d2.own?).map fun o => (setS sl i d1).set j (some (.own o))).map Fl.nx
      cases d2.own? <;> rfl
    · show ((d1.own?).bind fun o => some (setS (sl.set i (some (.own o))) j d2)).map Fl.nx = ((d1.own?).map fun o => sl.set i (some (.own o))).bind fun sl => (some (setS sl j d2)).map Fl.nx
      cases d1.own? <;> rfl
    · show ((d1.own?).bind fun o => (d2.own?).bind fun o2 => some ((sl.set i (some (.own o))).set j (some (.own o2)))).map Fl.nx = ((d1.own?).map fun o => sl.set i (some (.own o))).bind fun sl => ((d2.own?).map fun o => sl.set j (some (.own o))).map Fl.nx
      cases d1.own? <;> cases d2.own? <;> rfl
  case h_5 pl k t x _ k' _ e _ =>
    simp only [Bool.and_eq_true] at h
    obtain ⟨⟨⟨h1, h2⟩, h3⟩, h4⟩ := h
    split at h1
    · rename_i j hj
      obtain ⟨a1, a2, a3, a4⟩ := name_1 K h1
      exact c_seti (o := e) W.toFit (place_1 hj) a1 a2 a3 a4 (Z.e κ 1 t e h3 X W K) (Z.e κ 1 k k' h4 X W K) sw_sub.1 (sw_sub (l := 0)).2 (assign_1 h2)
    · cases h1
  case h_6 pl t x _ m ap e cp _ =>
    simp only [Bool.and_eq_true, decide_eq_true_eq] at h
    obtain ⟨⟨⟨⟨⟨h1, rfl⟩, h3⟩, h4⟩, h5⟩, h6⟩ := h
    split at h1
    · rename_i j hj
      obtain ⟨a1, a2, a3, a4⟩ := name_1 K h1
      exact c_app (place_1 hj) a1 a2 a3 a4 (Z.e κ 1 t e h4 X W K) h5 (early_1 (place_1 hj) h6) (beq_iff_eq.mpr h3)
    · cases h1
  case h_7 pl t x _ m ap e cp _ =>
    simp only [Bool.and_eq_true, decide_eq_true_eq] at h
    obtain ⟨⟨⟨⟨⟨h1, rfl⟩, h3⟩, h4⟩, h5⟩, h6⟩ := h
    split at h1
    · rename_i j hj
      obtain ⟨a1, a2, a3, a4⟩ := name_1 K h1
      exact c_ext W.toFit (place_1 hj) a1 a2 a3 a4 (Z.e κ 1 t e h4 X W K) h5 (early_1 (place_1 hj) h6) (beq_iff_eq.mpr h3)
    · cases h1
  case h_8 i j t x _ m ap y _ m2 ap2 e cp2 cp _ =>
    simp only [Bool.and_eq_true, decide_eq_true_eq] at h
    obtain ⟨⟨⟨⟨⟨⟨⟨⟨h1, h2⟩, h3⟩, rfl⟩, rfl⟩, h6⟩, h7⟩, h8⟩, h9⟩ := h
    obtain ⟨a1, a2, a3, a4⟩ := name_1 K h1
    obtain ⟨b1, b2, b3, b4⟩ := name_1 K h2
    exact c_apppop h3 a1 a2 a3 a4 b1 b2 b3 b4 (Z.e κ 1 t e h8 X W K) h9 (beq_iff_eq.mpr h6) (beq_iff_eq.mpr h7)
  case h_9 t e _ => exact c_ret (Z.e κ 1 t e h X W K)
  case h_10 => exact c_raise
  case h_11 t a b c a' b' _ =>
    simp only [Bool.and_eq_true] at h
    obtain ⟨⟨h1, h2⟩, h3⟩ := h
    refine PS.eq (c_if (Z.t κ t c h1 X W K) (I.ss κ a a' h2 X W K hp) (I.ss κ b b' h3 X W K hp)) fun sl h => ?_
    show (ev F G t sl h).bind _ = ((ev F G t sl h).bind _).bind _
    rw [bind_as]
  case h_12 t b c b' _ =>
    simp only [Bool.and_eq_true] at h
    exact c_while hp (Z.t κ t c h.1 X W K) (I.ss κ b b' h.2 X W K hp)
  case h_13 t it b tg iter b' _ =>
    simp only [Bool.and_eq_true] at h
    obtain ⟨⟨⟨h1, h2⟩, h3⟩, h4⟩ := h
    refine PS.eq (c_for hp W.toFit (isTup_tp h3 ▸ Z.i κ tg it iter h1 X W K) (chkG_1 W.toFit K h3) (I.ss κ b b' h4 X W K hp) (notSet_f h2)) fun sl h => ?_
    show (ev F G it sl h).bind _ = ((ev F G it sl h).bind fun x h => R.opt h (items x)).bind _
    rw [bind_as]
  case h_14 => exact c_brk
  case h_15 => exact c_cont
  case h_16 => exact c_pass
  case h_17 => cases h
theorem snds : ∀ n, SndS C S G F lv n
  | 0 => ⟨fun κ s st h => by simp [chkS] at h, fun κ s st h => by simp [chkSs] at h⟩
  | n + 1 => ⟨step_s (snds n), step_ss (snds n)⟩
end
end Sd

end
section
set_option Elab.async false
set_option linter.all false
set_option maxRecDepth 100000
set_option maxHeartbeats 8000000
/-! Sd22: every function keeps what the evaluator tells of it. -/
namespace Sd
open PySem PySem.Spec L2 Ev
open PyProof.Rows hiding St
/-- a function of the text that has been checked -/
structure Dn (C : Cn) (mg : Str → Option Value) (S : Sx) (G : Ev.Gl) (T : List Fn) (k : Nat) (x : Str) (ps : List Str) : Prop where
  ex : ∃ (a : Addr) (fd : FuncData) (qual : Str) (params : Arguments) (body : List Stmt) (scope : Scope) (N : List Str) (f : Fn) (n : Nat), mg x = some (.ref a) ∧ C.fa k = some a ∧ FunD C.K x qual params body scope [] [] a fd ∧ Binds C.K fd ps [] ∧
    FnScope N ps scope ∧ T[k]? = some f ∧ f.np = ps.length ∧ f.ns = N.length ∧ chkSs S G n ⟨N, scope, fun _ => true⟩ f.body body = true ∧ ∀ q ∈ S.kws, q.1 = k → KP C.K fd ps q.2.1 q.2.2
theorem sn_start {C : Cn} {ρ : List Addr} {FR H : Hp} {ah : AH} {ds : List Ev.D} {vs : List V} {N : List Str} {m : Nat} (rh : RelH C ρ FR ah H) (l : RpL C ρ FR ds vs) (hm : m = N.length - vs.length) :
    Sn C ρ FR H ρ FR (ds.map (fun d => some (.val d)) ++ List.replicate m none) ah (start N vs) H := by
  have hl := l.length
  have no : ∀ (i : Nat) (o : Own), (ds.map (fun d => some (Cell.val d)) ++ List.replicate m none)[i]? ≠ some (some (.own o)) := fun i o e => by
    by_cases hi : i < ds.length
    · rw [List.getElem?_append_left (by rw [List.length_map]; exact hi), List.getElem?_map] at e
      obtain ⟨d, _, e⟩ := Option.map_eq_some_iff.mp e
      cases e
    · rw [List.getElem?_append_right (by rw [List.length_map]; omega), List.getElem?_replicate] at e
      split at e <;> cases e
  refine ⟨⟨rh, by unfold L2.start; simp [hl, hm], fun i d e => ?_, fun i o e => absurd e (no i o), fun i j o o' a _ e _ _ => absurd e (no i o)⟩, Ext.refl, fun i o a e _ => absurd e (no i o)⟩
  by_cases hi : i < ds.length
  · rw [List.getElem?_append_left (by rw [List.length_map]; exact hi), List.getElem?_map] at e
    obtain ⟨d', hd, e⟩ := Option.map_eq_some_iff.mp e
    cases e
    obtain ⟨v, hv, r⟩ := l.get hd
    refine ⟨v, ?_, r⟩
    unfold L2.start
    rw [List.getElem?_append_left (by rw [List.length_map]; omega), List.getElem?_map, hv]; rfl
  · rw [List.getElem?_append_right (by rw [List.length_map]; omega), List.getElem?_replicate] at e
    split at e <;> cases e
theorem all_ok {C : Cn} {mg : Str → Option Value} {base : Heap} {S : Sx} {G : Ev.Gl} {T : List Fn} (hfn : ∀ k x ps, S.fns[k]? = some (x, ps) → Dn C mg S G T k x ps) (hbl : ∀ x ∈ bnames, mg x = none)
    (hgl : ∀ (k : Nat) (x : Str) (d : Ev.D), S.gls[k]? = some x → G.consts[k]? = some d → ∃ u v, mg x = some u ∧ RelV v u ∧ ∀ ρ FR, Rp C ρ FR d v) :
    ∀ (lv k : Nat) (x : Str) (ps : List Str), S.fns[k]? = some (x, ps) → ∃ a fd, mg x = some (.ref a) ∧ C.fa k = some a ∧ PySem.W.keepIn C.K (.ref a) = true ∧ Binds C.K fd ps [] ∧ FnOk C.P C.w C.K mg base cx0 lv a fd ps (spK C (runN G T lv) k ps.length) ∧ ∀ q ∈ S.kws, q.1 = k → KP C.K fd ps q.2.1 q.2.2
  | 0, k, x, ps, hk => by
    obtain ⟨a, fd, qual, params, body, scope, N, f, n, h1, h2, h3, h4, h5, h6, h7, h8, h9, h10⟩ := (hfn k x ps hk).ex
    refine ⟨a, fd, h1, h2, h3.kp, h4, ⟨fun vs H Q E q => q.1, fun A outer s H args us vs Q E _ _ _ _ q => ?_⟩, h10⟩
    obtain ⟨_, ρ, FR, ah, ds, _, _, q⟩ := q
    exact q.elim
  | lv + 1, k, x, ps, hk => by
    obtain ⟨a, fd, qual, params, body, scope, N, f, n, h1, h2, h3, h4, h5, h6, h7, h8, h9, h10⟩ := (hfn k x ps hk).ex
    refine ⟨a, fd, h1, h2, h3.kp, h4, h3.ok h5 (fun vs H Q E q => q.1) fun cdv A outer s H vs Q E hr q => ?_, h10⟩
    obtain ⟨hlen, ρ, FR, ah, ds, rh, l, q⟩ := q
    refine ⟨Ts C (xcs (runN G T lv) G f.body), ?_, ?_⟩
    · have W : Fx C (cxOf cx0 C.P C.w C.K mg base N qual scope a cdv A outer s H E) S G (runN G T lv) lv := ⟨⟨rfl, rfl, rfl, rfl, by have := hr.un; show (A.deeper _).units + 200 < cLine; omega⟩, hr, hbl, hgl, fun k' x' ps' hk' => all_ok hfn hbl hgl lv k' x' ps' hk'⟩
      have K : KxOk ⟨N, scope, fun _ => true⟩ (cxOf cx0 C.P C.w C.K mg base N qual scope a cdv A outer s H E) := ⟨rfl, h5.nd, rfl, fun _ => rfl, h5.kind⟩
      exact (snds n).ss _ _ _ h9 _ W K (passes_of (K := fun e s'' => cx0 outer H s E e s'') rfl)
    · have e1 : runN G T (lv + 1) k ds ah = run1 (runN G T lv) G f ds ah := by
        show (match T[k]? with | some fn => run1 (runN G T lv) G fn ds ah | none => R.bad) = _
        rw [h6]
      rw [e1] at q
      have hds : ds.length = f.np := by rw [l.length, hlen, h7]
      unfold run1 at q
      rw [if_pos hds] at q
      refine ⟨ρ, FR, H, ρ, FR, _, ah, sn_start (m := f.ns - f.np) rh l (by rw [h8, h7, hlen]), ?_⟩
      cases hx : xcs (runN G T lv) G f.body (ds.map (fun d => some (.val d)) ++ List.replicate (f.ns - f.np) none) ah with
      | ok y ah' =>
        rw [hx] at q
        cases y with
        | nx sl => exact fun ρ' FR' σ' H' h => q ρ' FR' H' .non h.ext h.toRelH .non
        | ret d => exact fun ρ' FR' v H' x rh' w => q ρ' FR' H' v x rh' w
        | brk sl => exact q.elim
        | cont sl => exact q.elim
      | ex c ah' => rw [hx] at q; exact q.elim
      | bad => rw [hx] at q; exact q.elim
/-- .. one by its own object -/
theorem fn_ok {C : Cn} {mg : Str → Option Value} {base : Heap} {S : Sx} {G : Ev.Gl} {T : List Fn} (hfn : ∀ k x ps, S.fns[k]? = some (x, ps) → Dn C mg S G T k x ps) (hbl : ∀ x ∈ bnames, mg x = none)
    (hgl : ∀ (k : Nat) (x : Str) (d : Ev.D), S.gls[k]? = some x → G.consts[k]? = some d → ∃ u v, mg x = some u ∧ RelV v u ∧ ∀ ρ FR, Rp C ρ FR d v) (lv k : Nat) {x : Str} {ps : List Str} {a : Addr} {fd : FuncData} {qual : Str} {params : Arguments} {body : List Stmt} {scope : Scope} {N : List Str} {f : Fn} {n : Nat}
    (h3 : FunD C.K x qual params body scope [] [] a fd) (h5 : FnScope N ps scope) (h6 : T[k]? = some f) (h7 : f.np = ps.length) (h8 : f.ns = N.length) (h9 : chkSs S G n ⟨N, scope, fun _ => true⟩ f.body body = true) :
    FnOk C.P C.w C.K mg base cx0 (lv + 1) a fd ps (spK C (runN G T (lv + 1)) k ps.length) := by
  refine h3.ok h5 (fun vs H Q E q => q.1) fun cdv A outer s H vs Q E hr q => ?_
  obtain ⟨hlen, ρ, FR, ah, ds, rh, l, q⟩ := q
  refine ⟨Ts C (xcs (runN G T lv) G f.body), ?_, ?_⟩
  · have W : Fx C (cxOf cx0 C.P C.w C.K mg base N qual scope a cdv A outer s H E) S G (runN G T lv) lv := ⟨⟨rfl, rfl, rfl, rfl, by have := hr.un; show (A.deeper _).units + 200 < cLine; omega⟩, hr, hbl, hgl, fun k' x' ps' hk' => all_ok hfn hbl hgl lv k' x' ps' hk'⟩
    have K : KxOk ⟨N, scope, fun _ => true⟩ (cxOf cx0 C.P C.w C.K mg base N qual scope a cdv A outer s H E) := ⟨rfl, h5.nd, rfl, fun _ => rfl, h5.kind⟩
    exact (snds n).ss _ _ _ h9 _ W K (passes_of (K := fun e s'' => cx0 outer H s E e s'') rfl)
  · have e1 : runN G T (lv + 1) k ds ah = run1 (runN G T lv) G f ds ah := by
      show (match T[k]? with | some fn => run1 (runN G T lv) G fn ds ah | none => R.bad) = _
      rw [h6]
    rw [e1] at q
    have hds : ds.length = f.np := by rw [l.length, hlen, h7]
    unfold run1 at q
    rw [if_pos hds] at q
    refine ⟨ρ, FR, H, ρ, FR, _, ah, sn_start (m := f.ns - f.np) rh l (by rw [h8, h7, hlen]), ?_⟩
    cases hx : xcs (runN G T lv) G f.body (ds.map (fun d => some (.val d)) ++ List.replicate (f.ns - f.np) none) ah with
    | ok y ah' =>
      rw [hx] at q
      cases y with
      | nx sl => exact fun ρ' FR' σ' H' h => q ρ' FR' H' .non h.ext h.toRelH .non
      | ret d => exact fun ρ' FR' v H' x rh' w => q ρ' FR' H' v x rh' w
      | brk sl => exact q.elim
      | cont sl => exact q.elim
    | ex c ah' => rw [hx] at q; exact q.elim
    | bad => rw [hx] at q; exact q.elim
end Sd

end
section
set_option linter.all false
set_option maxRecDepth 100000
set_option maxHeartbeats 1000000
/-! L1: the evaluator, step by step (rewriting rules; comprehensions as lists). -/
namespace Ev
open PySem
section
variable {α β : Type} {F : Fs} {G : Gl} {sl : Slots} {h : AH}
@[simp] theorem rb_ok (a : α) (h : AH) (f : α → AH → R β) : (R.ok a h).bind f = f a h := rfl
@[simp] theorem rb_ex (c : Nat) (h : AH) (f : α → AH → R β) : (R.ex c h : R α).bind f = .ex c h := rfl
@[simp] theorem ro_some (a : α) : R.opt h (some a) = .ok a h := rfl
theorem mul_line : line = 16777216 := rfl
@[simp] theorem getS_0 (d : D) (r : Slots) : getS (some (.val d) :: r) 0 = some d := rfl
@[simp] theorem getS_s (c : Option Cell) (r : Slots) (i : Nat) : getS (c :: r) (i + 1) = getS r i := rfl
@[simp] theorem getO_0 (o : Own) (r : Slots) : getO (some (.own o) :: r) 0 = some o := rfl
@[simp] theorem getO_s (c : Option Cell) (r : Slots) (i : Nat) : getO (c :: r) (i + 1) = getO r i := rfl
@[simp] theorem setS_eq (sl : Slots) (i : Nat) (d : D) : setS sl i d = sl.set i (some (.val d)) := rfl
@[simp] theorem wipe_0 : wipeS sl [] = sl := rfl
@[simp] theorem wipe_s (i : Nat) (is : List Nat) : wipeS sl (i :: is) = (wipeS sl is).set i none := rfl
@[simp] theorem ev_var (i : Nat) : ev F G (.var i) sl h = R.opt h (getS sl i) := rfl
@[simp] theorem ev_con (d : D) : ev F G (.con d) sl h = .ok d h := rfl
@[simp] theorem ev_glob (k : Nat) : ev F G (.glob k) sl h = R.opt h (G.consts[k]?) := rfl
@[simp] theorem ev_fnv (k : Nat) : ev F G (.fnv k) sl h = .ok (.fn k) h := rfl
@[simp] theorem ev_bs (i : Nat) : ev F G (.bs i) sl h = R.opt h ((getO sl i).map Own.d) := rfl
@[simp] theorem ev_bsl (i : Nat) : ev F G (.bsl i) sl h = R.opt h (getOL sl i) := rfl
@[simp] theorem ev_bx (e : E) : ev F G (.bx e) sl h = (ev F G e sl h).bind fun d h => R.opt h ((getB h d).map Own.d) := rfl
@[simp] theorem ev_bin (o : Bop) (a b : E) : ev F G (.bin o a b) sl h = (ev F G a sl h).bind fun x h => (ev F G b sl h).bind fun y h => R.opt h (binop o x y) := rfl
@[simp] theorem ev_neg (a : E) : ev F G (.neg a) sl h = (ev F G a sl h).bind fun x h => match x with | .int i => .ok (.int (-i)) h | _ => .bad := rfl
@[simp] theorem ev_cmp (o : Cop) (a b : E) : ev F G (.cmp o a b) sl h = (ev F G a sl h).bind fun x h => (ev F G b sl h).bind fun y h => R.opt h ((cmpop o x y).map .bl) := rfl
@[simp] theorem ev_chain (o p : Cop) (a b c : E) : ev F G (.chain o p a b c) sl h = (ev F G a sl h).bind fun x h => (ev F G b sl h).bind fun y h => (R.opt h (cmpop o x y)).bind fun t h => if t then (ev F G c sl h).bind fun z h => R.opt h ((cmpop p y z).map .bl) else .ok (.bl false) h := rfl
@[simp] theorem ev_and (es : List E) : ev F G (.and es) sl h = evAnd F G es sl h := rfl
@[simp] theorem ev_or (es : List E) : ev F G (.or es) sl h = evOr F G es sl h := rfl
@[simp] theorem ev_not (a : E) : ev F G (.not a) sl h = (ev F G a sl h).bind fun x h => R.opt h ((truth x).map fun b => .bl (!b)) := rfl
@[simp] theorem ev_ite (c a b : E) : ev F G (.ite c a b) sl h = (ev F G c sl h).bind fun x h => (R.opt h (truth x)).bind fun t h => if t then ev F G a sl h else ev F G b sl h := rfl
@[simp] theorem ev_tup (es : List E) : ev F G (.tup es) sl h = (evs F G es sl h).bind fun xs h => .ok (.tup xs) h := rfl
@[simp] theorem ev_lst (es : List E) : ev F G (.lst es) sl h = (evs F G es sl h).bind fun xs h => .ok (.lst xs) h := rfl
@[simp] theorem ev_dic0 : ev F G (.dic []) sl h = .ok (.dic [] []) h := rfl
@[simp] theorem ev_sub (a b : E) : ev F G (.sub a b) sl h = (ev F G a sl h).bind fun x h => (ev F G b sl h).bind fun y h => R.opt h (subD x y) := rfl
@[simp] theorem ev_cut (a : E) (lo hi : Option E) : ev F G (.cut a lo hi) sl h = (ev F G a sl h).bind fun x h => (evOpt F G lo sl h).bind fun l h => (evOpt F G hi sl h).bind fun u h => R.opt h ((optI l).bind fun i => (optI u).bind fun j => cutD x i j) := rfl
@[simp] theorem ev_back (a : E) : ev F G (.back a) sl h = (ev F G a sl h).bind fun x h => R.opt h (backD x) := rfl
@[simp] theorem ev_bi (b : Bi) (es : List E) : ev F G (.bi b es) sl h = (evs F G es sl h).bind fun xs h => R.opt h (builtin b xs) := rfl
@[simp] theorem ev_cast (c : Cast) (a : E) : ev F G (.cast c a) sl h = (ev F G a sl h).bind fun x h => R.opt h (castD c x) := rfl
@[simp] theorem ev_srt (a : E) (k : SKey) (r : Option Bool) : ev F G (.srt a k r) sl h = (ev F G a sl h).bind fun x h => (R.opt h (lstOf x)).bind fun xs h => sortK F k (r.getD false) xs h := rfl
@[simp] theorem ev_srtset (a : E) : ev F G (.srtset a) sl h = (ev F G a sl h).bind fun x h => R.opt h (srtsetD x) := rfl
@[simp] theorem ev_isi (a : E) (t : Ty) : ev F G (.isi a t) sl h = (ev F G a sl h).bind fun x h => R.opt h ((isI t x).map .bl) := rfl
@[simp] theorem ev_call (f : Nat) (es : List E) : ev F G (.call f es []) sl h = (evs F G es sl h).bind fun xs h => F f xs h := rfl
@[simp] theorem ev_callk (f : Nat) (es : List E) (i : Nat) (is : List Nat) : ev F G (.call f es (i :: is)) sl h = (evs F G es sl h).bind fun xs h => (R.opt h (permD xs (i :: is))).bind fun ys h => F f ys h := rfl
@[simp] theorem ev_box (e : E) : ev F G (.box e) sl h = (ev F G e sl h).bind fun x h => match x.own? with | some o => .ok (.ref h.length) (h ++ [.box o]) | none => .bad := rfl
@[simp] theorem ev_range (es : List E) : ev F G (.range es) sl h = (evs F G es sl h).bind fun xs h => R.opt h (rngD xs) := rfl
@[simp] theorem ev_enum (a : E) : ev F G (.enum a) sl h = (ev F G a sl h).bind fun x h => R.opt h ((enumD x).map .lst) := rfl
@[simp] theorem ev_zip (a b : E) : ev F G (.zip a b) sl h = (ev F G a sl h).bind fun x h => (ev F G b sl h).bind fun y h => R.opt h ((zipD x y).map .lst) := rfl
@[simp] theorem evs_0 : evs F G [] sl h = .ok [] h := rfl
@[simp] theorem evs_s (e : E) (es : List E) : evs F G (e :: es) sl h = (ev F G e sl h).bind fun x h => (evs F G es sl h).bind fun xs h => .ok (x :: xs) h := rfl
@[simp] theorem evO_0 : evOpt F G none sl h = .ok none h := rfl
@[simp] theorem evO_s (e : E) : evOpt F G (some e) sl h = (ev F G e sl h).bind fun x h => .ok (some x) h := rfl
@[simp] theorem evAnd_1 (e : E) : evAnd F G [e] sl h = ev F G e sl h := rfl
@[simp] theorem evAnd_s (e e2 : E) (es : List E) : evAnd F G (e :: e2 :: es) sl h = (ev F G e sl h).bind fun x h => (R.opt h (truth x)).bind fun t h => if t then evAnd F G (e2 :: es) sl h else .ok x h := rfl
@[simp] theorem evOr_1 (e : E) : evOr F G [e] sl h = ev F G e sl h := rfl
@[simp] theorem evOr_s (e e2 : E) (es : List E) : evOr F G (e :: e2 :: es) sl h = (ev F G e sl h).bind fun x h => (R.opt h (truth x)).bind fun t h => if t then .ok x h else evOr F G (e2 :: es) sl h := rfl
@[simp] theorem evIfs_0 : evIfs F G [] sl h = .ok true h := rfl
@[simp] theorem evIfs_1 (e : E) : evIfs F G [e] sl h = (ev F G e sl h).bind fun x h => (R.opt h (truth x)).bind fun t h => if t then .ok true h else .ok false h := rfl
@[simp] theorem truth_bl (b : Bool) : truth (.bl b) = some b := rfl
@[simp] theorem xc_ex (e : E) : xc F G (.ex e) sl h = (ev F G e sl h).bind fun _ h => .ok (.nx sl) h := rfl
@[simp] theorem xc_set (i : Nat) (e : E) : xc F G (.set i e) sl h = (ev F G e sl h).bind fun d h => .ok (.nx (setS sl i d)) h := rfl
@[simp] theorem xc_own (i : Nat) (e : E) : xc F G (.own i e) sl h = (ev F G e sl h).bind fun d h => R.opt h ((d.own?).map fun o => .nx (sl.set i (some (.own o)))) := rfl
@[simp] theorem xc_tset (is : List Nat) (e : E) : xc F G (.tset is e) sl h = (ev F G e sl h).bind fun d h => R.opt h ((setTg sl (.tp is) d).map .nx) := rfl
@[simp] theorem xc_pset (is : List (Nat × Bool)) (es : List E) : xc F G (.pset is es) sl h = (evs F G es sl h).bind fun ds h => R.opt h ((putAll sl is ds).map .nx) := rfl
@[simp] theorem xc_seti (p : Pl) (k e : E) : xc F G (.seti p k e) sl h = ((ev F G e sl h).bind fun v h => (ev F G k sl h).bind fun k h => (atP F G sl h p).bind fun q h =>
      R.opt h ((setOwn q.2 k v).bind fun o => putP sl h p q.1 o) |>.bind fun r _ => .ok (.nx r.1) r.2) := rfl
@[simp] theorem xc_app (p : Pl) (e : E) : xc F G (.app p e) sl h = ((ev F G e sl h).bind fun v h => (atP F G sl h p).bind fun q h =>
      R.opt h ((appOwn q.2 v).bind fun o => putP sl h p q.1 o) |>.bind fun r _ => .ok (.nx r.1) r.2) := rfl
@[simp] theorem xc_ext (p : Pl) (e : E) : xc F G (.ext p e) sl h = ((ev F G e sl h).bind fun v h => (atP F G sl h p).bind fun q h =>
      R.opt h ((extOwn q.2 v).bind fun o => putP sl h p q.1 o) |>.bind fun r _ => .ok (.nx r.1) r.2) := rfl
@[simp] theorem xc_ret (e : E) : xc F G (.ret e) sl h = (ev F G e sl h).bind fun d h => .ok (.ret d) h := rfl
@[simp] theorem xc_raise (c : Nat) : xc F G (.raise c) sl h = .ex c h := rfl
@[simp] theorem xc_ite (c : E) (a b : List S) : xc F G (.ite c a b) sl h = (ev F G c sl h).bind fun x h => (R.opt h (truth x)).bind fun t h => if t then xcs F G a sl h else xcs F G b sl h := rfl
@[simp] theorem xc_for (t : Tg) (it : E) (b : List S) : xc F G (.for t it b) sl h = (ev F G it sl h).bind fun x h => (R.opt h (items x)).bind fun ds h => forR (fun d sl h => (R.opt h (setTg sl t d)).bind fun sl h => xcs F G b sl h) ds sl h := rfl
@[simp] theorem xc_frz (i : Nat) : xc F G (.frz i) sl h = R.opt h ((getO sl i).map fun o => .nx (setS sl i o.d)) := rfl
@[simp] theorem xcs_0 : xcs F G [] sl h = .ok (.nx sl) h := rfl
@[simp] theorem xcs_s (s : S) (ss : List S) : xcs F G (s :: ss) sl h = (xc F G s sl h).bind fun x h => match x with | .nx sl => xcs F G ss sl h | x => .ok x h := rfl
@[simp] theorem setTg_nm (i : Nat) (d : D) : setTg sl (.nm i) d = some (setS sl i d) := rfl
@[simp] theorem setTg_2 (i j : Nat) (a b : D) : setTg sl (.tp [i, j]) (.tup [a, b]) = some (setS (setS sl i a) j b) := rfl

/-! ### comprehensions -/
/-- this inside tells these more -/
def EB (F : Fs) (G : Gl) (h : AH) (b : E) (sl : Slots) (g : List D) : Prop := ∀ acc : List D, (acc ++ g).length ≤ line → evB F G b sl acc h = .ok (acc ++ g) h
theorem eb_yl {e : E} {x : D} (he : ev F G e sl h = .ok x h) : EB F G h (.yl e) sl [x] := fun acc hl => by
  simp only [evB, he, rb_ok]
  rw [if_pos (by simp at hl; omega)]
theorem walk_map {γ : Type} {e : γ → D} {f : D → List D → AH → R (List D)} {g : γ → List D} : ∀ (xs : List γ) (acc : List D), (∀ x ∈ xs, ∀ acc, (acc ++ g x).length ≤ line → f (e x) acc h = .ok (acc ++ g x) h) → (acc ++ xs.flatMap g).length ≤ line → walkR f (xs.map e) acc h = .ok (acc ++ xs.flatMap g) h
  | [], acc, _, _ => by simp [walkR]
  | x :: xs, acc, hf, hl => by
    have l1 : (acc ++ g x).length ≤ (acc ++ (x :: xs).flatMap g).length := by simp
    rw [List.map_cons, walkR, hf x List.mem_cons_self acc (by omega), rb_ok, walk_map xs (acc ++ g x) (fun y hy => hf y (List.mem_cons_of_mem _ hy)) (by simpa using hl)]
    simp
theorem eb_clm {γ : Type} (e : γ → D) {t : Tg} {it b : E} {ifs : List E} {d : D} {xs : List γ} (p : γ → Bool) (g : γ → List D) (hi : ev F G it sl h = .ok d h) (hx : items d = some (xs.map e))
    (hb : ∀ x ∈ xs, ∃ sl', setTg (wipeS sl (tgs t ++ owns b)) t (e x) = some sl' ∧ evIfs F G ifs sl' h = .ok (p x) h ∧ (p x = true → EB F G h b sl' (g x))) : EB F G h (.cl t it ifs b) sl (xs.flatMap fun x => if p x then g x else []) := fun acc hl => by
  simp only [evB, hi, rb_ok, hx, ro_some]
  refine walk_map xs acc (fun x hm acc ha => ?_) hl
  obtain ⟨sl', e1, e2, e3⟩ := hb x hm
  rw [e1, ro_some, rb_ok, e2, rb_ok]
  cases hp : p x with
  | true =>
    rw [hp] at ha
    exact e3 hp acc ha
  | false => simp
theorem eb_cl {t : Tg} {it b : E} {ifs : List E} {d : D} {xs : List D} (p : D → Bool) (g : D → List D) (hi : ev F G it sl h = .ok d h) (hx : items d = some xs)
    (hb : ∀ x ∈ xs, ∃ sl', setTg (wipeS sl (tgs t ++ owns b)) t x = some sl' ∧ evIfs F G ifs sl' h = .ok (p x) h ∧ (p x = true → EB F G h b sl' (g x))) : EB F G h (.cl t it ifs b) sl (xs.flatMap fun x => if p x then g x else []) :=
  eb_clm id p g hi (by rw [hx, List.map_id]) hb
theorem ev_lcb {b : E} {g : List D} (hb : EB F G h b sl g) (hl : g.length ≤ 16000000) : ev F G (.lc b) sl h = .ok (.lst g) h := by
  have : ev F G (.lc b) sl h = (evB F G b sl [] h).bind fun ds h => .ok (.lst ds) h := rfl
  rw [this, hb [] (by rw [mul_line]; simp; omega)]; simp
theorem flat_1 {γ : Type} {g : γ → D} : ∀ xs : List γ, (xs.flatMap fun x => [g x]) = xs.map g
  | [] => rfl
  | x :: xs => by simp [flat_1 xs]
theorem flat_i {γ : Type} {p : γ → Bool} {g : γ → D} : ∀ xs : List γ, (xs.flatMap fun x => if p x then [g x] else []) = (xs.filter p).map g
  | [] => rfl
  | x :: xs => by
    rw [List.flatMap_cons, flat_i xs, List.filter_cons]
    cases p x <;> simp
/-- [e for i in it], the items told by f -/
theorem lcm {γ : Type} (f : γ → D) {i : Nat} {it e : E} {d : D} {xs : List γ} (g : γ → D) (hi : ev F G it sl h = .ok d h) (hx : items d = some (xs.map f)) (hl : xs.length ≤ 16000000) (he : ∀ x ∈ xs, ev F G e ((sl.set i none).set i (some (.val (f x)))) h = .ok (g x) h) : ev F G (.lc (.cl (.nm i) it [] (.yl e))) sl h = .ok (.lst (xs.map g)) h := by
  have := eb_clm f (t := .nm i) (ifs := []) (b := .yl e) (fun _ => true) (fun x => [g x]) hi hx fun x hm => ⟨_, rfl, rfl, fun _ => eb_yl (he x hm)⟩
  simp only [if_true, flat_1] at this
  exact ev_lcb this (by simpa using hl)
theorem lcmf {γ : Type} (f : γ → D) {i : Nat} {it e c : E} {d : D} {xs : List γ} (p : γ → Bool) (g : γ → D) (hi : ev F G it sl h = .ok d h) (hx : items d = some (xs.map f)) (hl : xs.length ≤ 16000000) (hc : ∀ x ∈ xs, ev F G c ((sl.set i none).set i (some (.val (f x)))) h = .ok (.bl (p x)) h)
    (he : ∀ x ∈ xs, p x = true → ev F G e ((sl.set i none).set i (some (.val (f x)))) h = .ok (g x) h) : ev F G (.lc (.cl (.nm i) it [c] (.yl e))) sl h = .ok (.lst ((xs.filter p).map g)) h := by
  have := eb_clm f (t := .nm i) (ifs := [c]) (b := .yl e) p (fun x => [g x]) hi hx fun x hm => ⟨_, rfl, by
    have hc := hc x hm
    simp only [tgs, owns, List.append_nil, wipe_s, wipe_0, setS_eq, evIfs_1, hc, rb_ok, truth_bl, ro_some]
    cases p x <;> rfl, fun hp => eb_yl (he x hm hp)⟩
  rw [flat_i] at this
  refine ev_lcb this ?_
  rw [List.length_map]
  exact Nat.le_trans (List.length_filter_le _ _) hl
theorem flat_one {g : D → D} : ∀ xs : List D, (xs.flatMap fun x => [g x]) = xs.map g
  | [] => rfl
  | x :: xs => by simp [flat_one xs]
theorem flat_if {p : D → Bool} {g : D → D} : ∀ xs : List D, (xs.flatMap fun x => if p x then [g x] else []) = (xs.filter p).map g
  | [] => rfl
  | x :: xs => by
    rw [List.flatMap_cons, flat_if xs, List.filter_cons]
    cases p x <;> simp
/-- [e for i in it] -/
theorem lc1 {i : Nat} {it e : E} {d : D} {xs : List D} (g : D → D) (hi : ev F G it sl h = .ok d h) (hx : items d = some xs) (hl : xs.length ≤ 16000000) (he : ∀ x ∈ xs, ev F G e ((sl.set i none).set i (some (.val x))) h = .ok (g x) h) : ev F G (.lc (.cl (.nm i) it [] (.yl e))) sl h = .ok (.lst (xs.map g)) h := by
  have := eb_cl (t := .nm i) (ifs := []) (b := .yl e) (fun _ => true) (fun x => [g x]) hi hx fun x hm => ⟨_, rfl, rfl, fun _ => eb_yl (he x hm)⟩
  simp only [if_true, flat_one] at this
  exact ev_lcb this (by simpa using hl)
/-- [e for i in it if c] -/
theorem lc1f {i : Nat} {it e c : E} {d : D} {xs : List D} (p : D → Bool) (g : D → D) (hi : ev F G it sl h = .ok d h) (hx : items d = some xs) (hl : xs.length ≤ 16000000) (hc : ∀ x ∈ xs, ev F G c ((sl.set i none).set i (some (.val x))) h = .ok (.bl (p x)) h)
    (he : ∀ x ∈ xs, p x = true → ev F G e ((sl.set i none).set i (some (.val x))) h = .ok (g x) h) : ev F G (.lc (.cl (.nm i) it [c] (.yl e))) sl h = .ok (.lst ((xs.filter p).map g)) h := by
  have := eb_cl (t := .nm i) (ifs := [c]) (b := .yl e) p (fun x => [g x]) hi hx fun x hm => ⟨_, rfl, by
    have hc := hc x hm
    simp only [tgs, owns, List.append_nil, wipe_s, wipe_0, setS_eq, evIfs_1, hc, rb_ok, truth_bl, ro_some]
    cases p x <;> rfl, fun hp => eb_yl (he x hm hp)⟩
  rw [flat_if] at this
  refine ev_lcb this ?_
  rw [List.length_map]
  exact Nat.le_trans (List.length_filter_le _ _) hl
/-- [e for i, j in zip(..)] -/
theorem lc2t {i j : Nat} {it e : E} {d : D} {xs : List D} (g : D → D) (hi : ev F G it sl h = .ok d h) (hx : items d = some xs) (hl : xs.length ≤ 16000000) (he : ∀ x ∈ xs, ∃ a b, x = .tup [a, b] ∧ ev F G e ((((sl.set j none).set i none).set i (some (.val a))).set j (some (.val b))) h = .ok (g x) h) : ev F G (.lc (.cl (.tp [i, j]) it [] (.yl e))) sl h = .ok (.lst (xs.map g)) h := by
  have := eb_cl (t := .tp [i, j]) (ifs := []) (b := .yl e) (fun _ => true) (fun x => [g x]) hi hx fun x hm => by
    obtain ⟨a, b, rfl, hb⟩ := he x hm
    exact ⟨_, rfl, rfl, fun _ => eb_yl hb⟩
  simp only [if_true, flat_one] at this
  exact ev_lcb this (by simpa using hl)
theorem bools_map {γ : Type} (f : γ → Bool) : ∀ xs : List γ, bools (xs.map fun x => .bl (f x)) = some (xs.map f)
  | [] => rfl
  | x :: xs => by simp [bools, bools_map f xs]
@[simp] theorem bi_all {γ : Type} (f : γ → Bool) (xs : List γ) : builtin .all [.lst (xs.map fun x => .bl (f x))] = some (.bl (xs.all f)) := by
  simp [builtin, bools_map]
@[simp] theorem bi_any {γ : Type} (f : γ → Bool) (xs : List γ) : builtin .any [.lst (xs.map fun x => .bl (f x))] = some (.bl (xs.any f)) := by
  simp [builtin, bools_map]
theorem ints_map {γ : Type} (f : γ → Int) : ∀ xs : List γ, intsOf (xs.map fun x => .int (f x)) = some (xs.map f)
  | [] => rfl
  | x :: xs => by simp [intsOf, ints_map f xs]
@[simp] theorem bi_len_t (xs : List D) : builtin .len [.tup xs] = some (.int xs.length) := rfl
@[simp] theorem bi_len_l (xs : List D) : builtin .len [.lst xs] = some (.int xs.length) := rfl
@[simp] theorem bi_len_s (xs : List D) : builtin .len [.scr xs] = some (.int xs.length) := rfl
/-! ### loops -/
theorem for_fold {γ σ : Type} (f : γ → D) {body : D → Slots → AH → R Fl} (Inv : σ → Slots → Prop) (step : σ → γ → σ) : ∀ (xs : List γ) (s : σ) (sl : Slots), (∀ s sl, ∀ x ∈ xs, Inv s sl → ∃ sl', body (f x) sl h = .ok (.nx sl') h ∧ Inv (step s x) sl') → Inv s sl →
    ∃ sl', forR body (xs.map f) sl h = .ok (.nx sl') h ∧ Inv (xs.foldl step s) sl'
  | [], s, sl, _, i => ⟨sl, rfl, i⟩
  | x :: xs, s, sl, hb, i => by
    obtain ⟨sl1, e1, i1⟩ := hb s sl x List.mem_cons_self i
    obtain ⟨sl2, e2, i2⟩ := for_fold f Inv step xs (step s x) sl1 (fun s sl y hy => hb s sl y (List.mem_cons_of_mem _ hy)) i1
    exact ⟨sl2, by rw [List.map_cons, forR, e1, rb_ok]; exact e2, i2⟩
theorem for_all {γ : Type} (f : γ → D) {body : D → Slots → AH → R Fl} (Inv : Slots → Prop) (p : γ → Bool) (r : D) : ∀ (xs : List γ) (sl : Slots), (∀ sl, ∀ x ∈ xs, Inv sl → (p x = true → ∃ sl', body (f x) sl h = .ok (.nx sl') h ∧ Inv sl') ∧ (p x = false → body (f x) sl h = .ok (.ret r) h)) → Inv sl →
    (xs.all p = true → ∃ sl', forR body (xs.map f) sl h = .ok (.nx sl') h ∧ Inv sl') ∧ (xs.all p = false → forR body (xs.map f) sl h = .ok (.ret r) h)
  | [], sl, _, i => ⟨fun _ => ⟨sl, rfl, i⟩, fun h => by simp at h⟩
  | x :: xs, sl, hb, i => by
    obtain ⟨h1, h2⟩ := hb sl x List.mem_cons_self i
    rw [List.all_cons]
    cases hp : p x with
    | false => exact ⟨fun h => by simp at h, fun _ => by rw [List.map_cons, forR, h2 hp, rb_ok]⟩
    | true =>
      obtain ⟨sl1, e1, i1⟩ := h1 hp
      obtain ⟨a1, a2⟩ := for_all f Inv p r xs sl1 (fun sl y hy => hb sl y (List.mem_cons_of_mem _ hy)) i1
      rw [Bool.true_and, List.map_cons, forR, e1, rb_ok]
      exact ⟨a1, a2⟩
end
end Ev

end
section
set_option linter.all false
set_option maxHeartbeats 1000000
/-! L3: sorting, first ones, by a strict order (plain Lean). -/
namespace Or
section
variable {α : Type}
def ins (le : α → α → Bool) (x : α) : List α → List α
  | [] => [x]
  | y :: ys => if le x y then x :: y :: ys else y :: ins le x ys
def srt (le : α → α → Bool) : List α → List α
  | [] => []
  | x :: xs => ins le x (srt le xs)
theorem ins_perm (le : α → α → Bool) (x : α) : ∀ l : List α, (ins le x l).Perm (x :: l)
  | [] => .refl _
  | y :: ys => by
    rw [ins]
    split
    · exact .refl _
    · exact ((ins_perm le x ys).cons y).trans (.swap x y ys)
theorem srt_perm (le : α → α → Bool) : ∀ l : List α, (srt le l).Perm l
  | [] => .refl _
  | x :: xs => (ins_perm le x _).trans ((srt_perm le xs).cons x)
theorem ins_pw {le : α → α → Bool} (tot : ∀ a b, le a b = true ∨ le b a = true) (tr : ∀ a b c, le a b = true → le b c = true → le a c = true) (x : α) : ∀ l : List α, l.Pairwise (fun a b => le a b = true) → (ins le x l).Pairwise fun a b => le a b = true
  | [], _ => by simp [ins]
  | y :: ys, h => by
    obtain ⟨h1, h2⟩ := List.pairwise_cons.mp h
    rw [ins]
    split
    · rename_i c
      refine List.pairwise_cons.mpr ⟨fun z hz => ?_, h⟩
      rcases List.mem_cons.mp hz with e | hz
      · rw [e]; exact c
      · exact tr _ _ _ c (h1 z hz)
    · rename_i c
      refine List.pairwise_cons.mpr ⟨fun z hz => ?_, ins_pw tot tr x ys h2⟩
      rcases List.mem_cons.mp ((ins_perm le x ys).mem_iff.mp hz) with e | hz
      · rw [e]; exact (tot x y).resolve_left c
      · exact h1 z hz
theorem srt_pw {le : α → α → Bool} (tot : ∀ a b, le a b = true ∨ le b a = true) (tr : ∀ a b c, le a b = true → le b c = true → le a c = true) : ∀ l : List α, (srt le l).Pairwise fun a b => le a b = true
  | [] => .nil
  | x :: xs => ins_pw tot tr x _ (srt_pw tot tr xs)
variable [DecidableEq α]
def dd : List α → List α
  | [] => []
  | x :: xs => x :: (dd xs).filter fun y => !decide (x = y)
theorem dd_mem {z : α} : ∀ {l : List α}, z ∈ dd l ↔ z ∈ l
  | [] => Iff.rfl
  | x :: xs => by
    simp only [dd, List.mem_cons, List.mem_filter, dd_mem (l := xs), Bool.not_eq_true', decide_eq_false_iff_not]
    by_cases e : z = x
    · simp [e]
    · simp only [e, false_or]
      exact ⟨fun h => h.1, fun h => ⟨h, fun q => e q.symm⟩⟩
theorem dd_nodup : ∀ l : List α, (dd l).Nodup
  | [] => .nil
  | x :: xs => by
    refine List.nodup_cons.mpr ⟨fun h => ?_, (dd_nodup xs).filter _⟩
    simpa using (List.mem_filter.mp h).2
theorem dd_len : ∀ l : List α, (dd l).length ≤ l.length
  | [] => Nat.le_refl _
  | x :: xs => by
    simp only [dd, List.length_cons]
    have := List.length_filter_le (fun y => !decide (x = y)) (dd xs)
    have := dd_len xs
    omega
/-- a strict order that is total -/
structure Lt (lt : α → α → Bool) : Prop where
  irr : ∀ a, lt a a = false
  tr : ∀ a b c, lt a b = true → lt b c = true → lt a c = true
  tri : ∀ a b, lt a b = true ∨ a = b ∨ lt b a = true
def leO (lt : α → α → Bool) (a b : α) : Bool := !lt b a
variable {lt : α → α → Bool}
theorem Lt.le_iff (o : Lt lt) {a b : α} : leO lt a b = true ↔ lt a b = true ∨ a = b := by
  unfold leO
  rw [Bool.not_eq_true']
  constructor
  · intro h
    rcases o.tri a b with c | c | c
    · exact .inl c
    · exact .inr c
    · rw [h] at c; cases c
  · rintro (h | h)
    · cases e : lt b a with
      | false => rfl
      | true => have := o.tr _ _ _ h e; rw [o.irr] at this; cases this
    · rw [h]; exact o.irr _
theorem Lt.tot (o : Lt lt) (a b : α) : leO lt a b = true ∨ leO lt b a = true := by
  rw [o.le_iff, o.le_iff]
  rcases o.tri a b with c | c | c
  · exact .inl (.inl c)
  · exact .inl (.inr c)
  · exact .inr (.inl c)
theorem Lt.ltr (o : Lt lt) (a b c : α) (h1 : leO lt a b = true) (h2 : leO lt b c = true) : leO lt a c = true := by
  rw [o.le_iff] at *
  rcases h1 with h1 | h1 <;> rcases h2 with h2 | h2
  · exact .inl (o.tr _ _ _ h1 h2)
  · exact .inl (h2 ▸ h1)
  · exact .inl (h1 ▸ h2)
  · exact .inr (h1.trans h2)
/-- ascending, each once -/
abbrev Asc (lt : α → α → Bool) (l : List α) : Prop := l.Pairwise fun a b => lt a b = true
theorem Asc.nodup (o : Lt lt) {l : List α} (h : Asc lt l) : l.Nodup := h.imp fun {a b} h e => by rw [e, o.irr] at h; cases h
theorem Asc.ext (o : Lt lt) {l m : List α} (hl : Asc lt l) (hm : Asc lt m) (e : ∀ z, z ∈ l ↔ z ∈ m) : l = m := by
  refine List.Perm.eq_of_pairwise (le := fun a b => lt a b = true) (fun a b _ _ h1 h2 => ?_) hl hm ((List.perm_ext_iff_of_nodup (hl.nodup o) (hm.nodup o)).mpr e)
  have := o.tr _ _ _ h1 h2
  rw [o.irr] at this; cases this
/-- sorted(set(..)) -/
def sset (lt : α → α → Bool) (l : List α) : List α := srt (leO lt) (dd l)
theorem srt_asc (o : Lt lt) {l : List α} (nd : l.Nodup) : Asc lt (srt (leO lt) l) := by
  have h := srt_pw o.tot o.ltr l
  have n : (srt (leO lt) l).Nodup := (srt_perm _ _).nodup_iff.mpr nd
  exact (h.and n).imp fun {a b} ⟨h1, h2⟩ => (o.le_iff.mp h1).resolve_right h2
theorem sset_asc (o : Lt lt) (l : List α) : Asc lt (sset lt l) := srt_asc o (dd_nodup l)
theorem sset_mem {l : List α} {z : α} : z ∈ sset lt l ↔ z ∈ l := ((srt_perm _ _).mem_iff).trans dd_mem
theorem sset_len (l : List α) : (sset lt l).length ≤ l.length := by
  unfold sset
  rw [(srt_perm _ _).length_eq]; exact dd_len l
theorem sset_self (o : Lt lt) {l : List α} (h : Asc lt l) : sset lt l = l := Asc.ext o (sset_asc o l) h fun _ => sset_mem
theorem sset_eq (o : Lt lt) {l : List α} : l = sset lt l ↔ Asc lt l := ⟨fun h => by rw [h]; exact sset_asc o l, fun h => (sset_self o h).symm⟩
/-- neighbours -/
def chain (lt : α → α → Bool) : List α → Bool
  | a :: b :: r => lt a b && chain lt (b :: r)
  | _ => true
theorem chain_asc (o : Lt lt) : ∀ l : List α, chain lt l = true ↔ Asc lt l
  | [] => by simp [chain, Asc]
  | [a] => by simp [chain, Asc]
  | a :: b :: r => by
    simp only [chain, Bool.and_eq_true]
    rw [chain_asc o (b :: r)]
    constructor
    · rintro ⟨h1, h2⟩
      refine List.pairwise_cons.mpr ⟨fun z hz => ?_, h2⟩
      rcases List.mem_cons.mp hz with e | hz
      · rw [e]; exact h1
      · exact o.tr _ _ _ h1 ((List.pairwise_cons.mp h2).1 z hz)
    · intro h
      obtain ⟨h1, h2⟩ := List.pairwise_cons.mp h
      exact ⟨h1 b List.mem_cons_self, h2⟩
end
/-! ### ints, lists of ints -/
def ltI (a b : Int) : Bool := decide (a < b)
theorem ordI : Lt ltI := ⟨fun a => by simp [ltI], fun a b c h1 h2 => by simp only [ltI, decide_eq_true_eq] at *; omega, fun a b => by simp only [ltI, decide_eq_true_eq]; omega⟩
def ltL : List Int → List Int → Bool
  | [], [] => false
  | [], _ :: _ => true
  | _ :: _, [] => false
  | x :: xs, y :: ys => if x = y then ltL xs ys else decide (x < y)
theorem ltL_irr : ∀ a, ltL a a = false
  | [] => rfl
  | x :: xs => by simp [ltL, ltL_irr xs]
theorem ltL_tr : ∀ a b c, ltL a b = true → ltL b c = true → ltL a c = true
  | [], [], c, h, _ => by simp [ltL] at h
  | [], _ :: _, [], _, h => by simp [ltL] at h
  | [], _ :: _, _ :: _, _, _ => rfl
  | _ :: _, [], c, h, _ => by simp [ltL] at h
  | _ :: _, _ :: _, [], _, h => by simp [ltL] at h
  | x :: xs, y :: ys, z :: zs, h1, h2 => by
    simp only [ltL] at h1 h2 ⊢
    by_cases e1 : x = y
    · by_cases e2 : y = z
      · rw [if_pos e1] at h1
        rw [if_pos e2] at h2
        rw [if_pos (e1.trans e2)]
        exact ltL_tr xs ys zs h1 h2
      · rw [if_neg e2] at h2
        rw [if_neg (by omega), e1]; exact h2
    · by_cases e2 : y = z
      · rw [if_neg e1] at h1
        rw [if_neg (by omega), ← e2]; exact h1
      · rw [if_neg e1] at h1
        rw [if_neg e2] at h2
        simp only [decide_eq_true_eq] at h1 h2
        rw [if_neg (by omega)]
        simp; omega
theorem ltL_tri : ∀ a b, ltL a b = true ∨ a = b ∨ ltL b a = true
  | [], [] => .inr (.inl rfl)
  | [], _ :: _ => .inl rfl
  | _ :: _, [] => .inr (.inr rfl)
  | x :: xs, y :: ys => by
    simp only [ltL]
    by_cases e : x = y
    · subst e
      rw [if_pos rfl, if_pos rfl]
      rcases ltL_tri xs ys with h | h | h
      · exact .inl h
      · exact .inr (.inl (by rw [h]))
      · exact .inr (.inr h)
    · rw [if_neg e, if_neg (fun z => e z.symm)]
      simp only [decide_eq_true_eq]
      have : x < y ∨ y < x := by omega
      rcases this with h | h
      · exact .inl h
      · exact .inr (.inr h)
theorem ordL : Lt ltL := ⟨ltL_irr, ltL_tr, ltL_tri⟩

/-! ### lots -/
abbrev Lot := List Int
/-- within -/
def sub (x y : Lot) : Bool := x.all fun i => y.contains i
theorem sub_iff {x y : Lot} : sub x y = true ↔ ∀ i ∈ x, i ∈ y := by simp [sub]
theorem sub_refl (x : Lot) : sub x x = true := sub_iff.mpr fun _ h => h
theorem sub_tr {x y z : Lot} (a : sub x y = true) (b : sub y z = true) : sub x z = true := sub_iff.mpr fun i h => sub_iff.mp b i (sub_iff.mp a i h)
theorem nodup_sub_len : ∀ {x y : Lot}, x.Nodup → (∀ i ∈ x, i ∈ y) → x.length ≤ y.length
  | [], _, _, _ => Nat.zero_le _
  | a :: x, y, n, h => by
    obtain ⟨n1, n2⟩ := List.nodup_cons.mp n
    have := nodup_sub_len (x := x) (y := y.erase a) n2 fun i hi => (List.mem_erase_of_ne (fun e : i = a => n1 (e ▸ hi))).mpr (h i (List.mem_cons_of_mem _ hi))
    have e := List.length_erase_of_mem (h a List.mem_cons_self)
    have p := List.length_pos_of_mem (h a List.mem_cons_self)
    simp only [List.length_cons]; omega
theorem sub_len {x y : Lot} (n : Asc ltI x) (h : sub x y = true) : x.length ≤ y.length := nodup_sub_len (n.nodup ordI) (sub_iff.mp h)
/-- within, as long: the same -/
theorem sub_eq {x y : Lot} (nx : Asc ltI x) (ny : Asc ltI y) (h : sub x y = true) (l : y.length ≤ x.length) : x = y := by
  refine Asc.ext ordI nx ny fun z => ⟨sub_iff.mp h z, fun hz => Classical.byContradiction fun c => ?_⟩
  have := nodup_sub_len (x := z :: x) (y := y) (List.nodup_cons.mpr ⟨c, nx.nodup ordI⟩) fun i hi => by
    rcases List.mem_cons.mp hi with e | hi
    · rw [e]; exact hz
    · exact sub_iff.mp h i hi
  simp only [List.length_cons] at this; omega
/-- the greatest ones: as the law takes them -/
def great (ls : List Lot) : List Lot := (sset ltL ls).filter fun x => (sset ltL ls).all fun y => decide (y = x) || !sub x y
theorem great_mem {ls : List Lot} {x : Lot} : x ∈ great ls ↔ x ∈ ls ∧ ∀ y ∈ ls, sub x y = true → y = x := by
  simp only [great, List.mem_filter, sset_mem, List.all_eq_true, Bool.or_eq_true, decide_eq_true_eq, Bool.not_eq_true']
  refine and_congr_right fun _ => ⟨fun h y hy s => ?_, fun h y hy => ?_⟩
  · rcases h y hy with e | e
    · exact e
    · rw [s] at e; cases e
  · cases e : sub x y with
    | false => exact .inr rfl
    | true => exact .inl (h y hy e)
theorem great_asc (ls : List Lot) : Asc ltL (great ls) := (sset_asc ordL ls).filter _
/-- .. as the program takes them -/
def keep (found : List Lot) (x : Lot) : List Lot := if found.any fun y => sub x y then found else found ++ [x]
def leLen (x y : Lot) : Bool := decide (y.length ≤ x.length)
def great2 (ls : List Lot) : List Lot := srt (leO ltL) ((srt leLen (sset ltL ls)).foldl keep [])
theorem keep_inv (ls : List Lot) (hl : ∀ x ∈ ls, Asc ltI x) : ∀ (done todo found : List Lot), (done ++ todo).Pairwise (fun a b => leLen a b = true) → (done ++ todo).Nodup → (∀ x, x ∈ done ++ todo → x ∈ ls) →
    found.Nodup → (∀ x, x ∈ found ↔ x ∈ done ∧ ∀ y ∈ done, sub x y = true → y = x) →
    (todo.foldl keep found).Nodup ∧ ∀ x, x ∈ todo.foldl keep found ↔ x ∈ done ++ todo ∧ ∀ y ∈ done ++ todo, sub x y = true → y = x
  | done, [], found, _, _, _, nf, hf => by simpa using ⟨nf, hf⟩
  | done, t :: todo, found, pw, nd, hs, nf, hf => by
    have e : done ++ t :: todo = (done ++ [t]) ++ todo := by simp
    rw [e] at pw nd hs ⊢
    have lt : ∀ y ∈ done, t.length ≤ y.length := fun y hy => by
      have := (List.pairwise_append.mp (List.pairwise_append.mp pw).1).2.2 y hy t (by simp)
      simpa [leLen] using this
    have tn : t ∉ done := fun h => (List.nodup_append.mp (List.nodup_append.mp nd).1).2.2 t h t (by simp) rfl
    have at_ : Asc ltI t := hl t (hs t (by simp))
    have ad : ∀ y ∈ done, Asc ltI y := fun y hy => hl y (hs y (by simp [hy]))
    -- a greater one is among the found ones
    have up : ∀ y ∈ done, ∃ z ∈ found, sub y z = true := by
      intro y hy
      -- the longest one around y
      have key : ∀ (m : Nat) (y : Lot), y ∈ done → (done.filter fun z => sub y z && !decide (z = y)).length ≤ m → ∃ z ∈ found, sub y z = true := by
        intro m
        induction m with
        | zero =>
          intro y hy h
          refine ⟨y, (hf y).mpr ⟨hy, fun z hz s => Classical.byContradiction fun c => ?_⟩, sub_refl y⟩
          have : z ∈ done.filter fun z => sub y z && !decide (z = y) := List.mem_filter.mpr ⟨hz, by simp [s, c]⟩
          have := List.length_pos_of_mem this
          omega
        | succ m ih =>
          intro y hy h
          by_cases c : ∀ z ∈ done, sub y z = true → z = y
          · exact ⟨y, (hf y).mpr ⟨hy, c⟩, sub_refl y⟩
          · obtain ⟨z, hz⟩ := Classical.not_forall.mp c
            obtain ⟨hz1, hz2⟩ := Classical.not_imp.mp hz
            obtain ⟨s, ne⟩ := Classical.not_imp.mp hz2
            have sm : (done.filter fun x => sub z x && !decide (x = z)).length < (done.filter fun x => sub y x && !decide (x = y)).length := by
              have ndd : (done.filter fun x => sub z x && !decide (x = z)).Nodup := ((List.nodup_append.mp (List.nodup_append.mp nd).1).1).filter _
              have sb : ∀ x ∈ z :: (done.filter fun x => sub z x && !decide (x = z)), x ∈ done.filter fun x => sub y x && !decide (x = y) := by
                intro x hx
                rcases List.mem_cons.mp hx with e | hx
                · rw [e]; exact List.mem_filter.mpr ⟨hz1, by simp [s, ne]⟩
                · obtain ⟨x1, x2⟩ := List.mem_filter.mp hx
                  simp only [Bool.and_eq_true, Bool.not_eq_true', decide_eq_false_iff_not] at x2
                  refine List.mem_filter.mpr ⟨x1, ?_⟩
                  simp only [Bool.and_eq_true, Bool.not_eq_true', decide_eq_false_iff_not]
                  refine ⟨sub_tr s x2.1, fun e => ?_⟩
                  subst e
                  exact x2.2 (sub_eq (ad _ x1) (ad _ hz1) s (sub_len (ad _ hz1) x2.1))
              have nz : z ∉ done.filter fun x => sub z x && !decide (x = z) := fun h => by simpa using (List.mem_filter.mp h).2
              have lens : ∀ {l m : List Lot}, l.Nodup → (∀ i ∈ l, i ∈ m) → l.length ≤ m.length := by
                intro l
                induction l with
                | nil => intro m _ _; exact Nat.zero_le _
                | cons a l ih2 =>
                  intro m n h
                  obtain ⟨n1, n2⟩ := List.nodup_cons.mp n
                  have := ih2 (m := m.erase a) n2 fun i hi => (List.mem_erase_of_ne (fun e : i = a => n1 (e ▸ hi))).mpr (h i (List.mem_cons_of_mem _ hi))
                  have e := List.length_erase_of_mem (h a List.mem_cons_self)
                  have p := List.length_pos_of_mem (h a List.mem_cons_self)
                  simp only [List.length_cons]; omega
              have := lens (List.nodup_cons.mpr ⟨nz, ndd⟩) sb
              simp only [List.length_cons] at this
              omega
            obtain ⟨u, u1, u2⟩ := ih z hz1 (by omega)
            exact ⟨u, u1, sub_tr s u2⟩
      exact key _ y hy (Nat.le_refl _)
    rw [List.foldl_cons]
    refine keep_inv ls hl (done ++ [t]) todo (keep found t) pw nd hs ?_ fun x => ?_
    · unfold keep
      split
      · exact nf
      · refine List.nodup_append.mpr ⟨nf, by simp, fun a ha b hb e => ?_⟩
        rw [List.mem_singleton.mp hb] at e
        exact tn (e ▸ ((hf a).mp ha).1)
    · have any_iff : (found.any fun y => sub t y) = true ↔ ∃ y ∈ done, sub t y = true := by
        rw [List.any_eq_true]
        constructor
        · rintro ⟨y, h1, h2⟩; exact ⟨y, ((hf y).mp h1).1, h2⟩
        · rintro ⟨y, h1, h2⟩
          obtain ⟨z, z1, z2⟩ := up y h1
          exact ⟨z, z1, sub_tr h2 z2⟩
      -- t around a done one is the same one
      have noup : ∀ y ∈ done, sub y t = true → y = t := fun y hy s => sub_eq (ad y hy) at_ s (lt y hy)
      unfold keep
      by_cases c : (found.any fun y => sub t y) = true
      · rw [if_pos c, hf]
        obtain ⟨y, y1, y2⟩ := any_iff.mp c
        constructor
        · rintro ⟨h1, h2⟩
          refine ⟨by simp [h1], fun z hz s => ?_⟩
          rcases List.mem_append.mp hz with hz | hz
          · exact h2 z hz s
          · rw [List.mem_singleton.mp hz] at s ⊢
            exact absurd (noup x h1 s ▸ h1) tn
        · rintro ⟨h1, h2⟩
          rcases List.mem_append.mp h1 with h1 | h1
          · exact ⟨h1, fun z hz s => h2 z (by simp [hz]) s⟩
          · rw [List.mem_singleton.mp h1] at h2 ⊢
            exact absurd (h2 y (by simp [y1]) y2 ▸ y1) tn
      · rw [if_neg c, List.mem_append, List.mem_singleton, hf]
        have none : ∀ y ∈ done, sub t y = true → False := fun y hy s => c (any_iff.mpr ⟨y, hy, s⟩)
        constructor
        · rintro (⟨h1, h2⟩ | h1)
          · refine ⟨by simp [h1], fun z hz s => ?_⟩
            rcases List.mem_append.mp hz with hz | hz
            · exact h2 z hz s
            · rw [List.mem_singleton.mp hz] at s ⊢
              exact (noup x h1 s).symm
          · subst h1
            refine ⟨by simp, fun z hz s => ?_⟩
            rcases List.mem_append.mp hz with hz | hz
            · exact (none z hz s).elim
            · exact List.mem_singleton.mp hz
        · rintro ⟨h1, h2⟩
          rcases List.mem_append.mp h1 with h1 | h1
          · exact .inl ⟨h1, fun z hz s => h2 z (by simp [hz]) s⟩
          · exact .inr (List.mem_singleton.mp h1)
theorem great_two {ls : List Lot} (hl : ∀ x ∈ ls, Asc ltI x) : great2 ls = great ls := by
  have p := srt_perm leLen (sset ltL ls)
  have pw : (srt leLen (sset ltL ls)).Pairwise fun a b => leLen a b = true := srt_pw (fun a b => by simp only [leLen, decide_eq_true_eq]; omega) (fun a b c => by simp only [leLen, decide_eq_true_eq]; omega) _
  obtain ⟨h1, h2⟩ := keep_inv ls hl [] (srt leLen (sset ltL ls)) [] (by simpa using pw) (by simpa using p.nodup_iff.mpr ((sset_asc ordL ls).nodup ordL)) (fun x hx => sset_mem.mp (p.mem_iff.mp (by simpa using hx))) .nil (fun x => by simp)
  refine Asc.ext ordL (srt_asc ordL h1) (great_asc ls) fun x => ?_
  unfold great2
  rw [(srt_perm _ _).mem_iff, h2, great_mem]
  have m : ∀ z, z ∈ [] ++ srt leLen (sset ltL ls) ↔ z ∈ ls := fun z => by rw [List.nil_append, p.mem_iff, sset_mem]
  constructor
  · rintro ⟨a, b⟩; exact ⟨(m x).mp a, fun y hy => b y ((m y).mpr hy)⟩
  · rintro ⟨a, b⟩; exact ⟨(m x).mpr a, fun y hy => b y ((m y).mp hy)⟩
end Or

end
section
set_option linter.all false
set_option maxHeartbeats 1000000
/-! L4: subsets, plain tasks (plain Lean). -/
namespace Or
/-- all sub-rows, as the program makes them -/
def subs {α : Type} (l : List α) : List (List α) := l.foldl (fun f o => f ++ f.map (· ++ [o])) [[]]
theorem subs_snoc {α : Type} (l : List α) (a : α) : subs (l ++ [a]) = subs l ++ (subs l).map (· ++ [a]) := by simp [subs]
theorem subs_mem {α : Type} (l : List α) : ∀ x : List α, x ∈ subs l ↔ x.Sublist l := by
  have key : ∀ (n : Nat) (l : List α), l.length = n → ∀ x : List α, x ∈ subs l ↔ x.Sublist l := by
    intro n
    induction n with
    | zero =>
      intro l hl x
      rw [List.length_eq_zero_iff.mp hl]
      simp [subs]
    | succ n ih =>
      intro l hl x
      obtain ⟨m, a, rfl⟩ : ∃ m a, l = m ++ [a] := ⟨l.dropLast, l.getLast (by intro h; simp [h] at hl), (List.dropLast_concat_getLast _).symm⟩
      have ih := ih m (by simpa using hl)
      rw [subs_snoc, List.mem_append, ih, List.mem_map]
      constructor
      · rintro (h | ⟨y, h, rfl⟩)
        · exact h.trans (List.sublist_append_left _ _)
        · exact ((ih y).mp h).append (List.Sublist.refl _)
      · intro h
        obtain ⟨y, z, rfl, h1, h2⟩ := List.sublist_append_iff.mp h
        cases h2 with
        | cons _ h2 =>
          cases h2
          rw [List.append_nil]; exact .inl h1
        | cons_cons _ h2 =>
          cases h2
          exact .inr ⟨y, (ih y).mpr h1, rfl⟩
  exact key _ l rfl
theorem subs_head {α : Type} (l : List α) : ∃ r, subs l = [] :: r ∧ ∀ x ∈ r, x ≠ [] := by
  have key : ∀ (l : List α) (f : List (List α)), (∃ r, f = [] :: r ∧ ∀ x ∈ r, x ≠ []) → ∃ r, l.foldl (fun f o => f ++ f.map (· ++ [o])) f = [] :: r ∧ ∀ x ∈ r, x ≠ [] := by
    intro l
    induction l with
    | nil => intro f h; exact h
    | cons a l ih =>
      rintro f ⟨r, rfl, h⟩
      refine ih _ ⟨r ++ ([] :: r).map (· ++ [a]), rfl, fun x hx => ?_⟩
      rcases List.mem_append.mp hx with hx | hx
      · exact h x hx
      · obtain ⟨y, _, rfl⟩ := List.mem_map.mp hx
        simp
  exact key l _ ⟨[], rfl, fun x hx => nomatch hx⟩
theorem subs_nodup {α : Type} {l : List α} (n : l.Nodup) : (subs l).Nodup := by
  have key : ∀ (k : Nat) (l : List α), l.length = k → l.Nodup → (subs l).Nodup := by
    intro k
    induction k with
    | zero => intro l hl _; rw [List.length_eq_zero_iff.mp hl]; simp [subs]
    | succ k ih =>
      intro l hl n
      obtain ⟨m, a, rfl⟩ : ∃ m a, l = m ++ [a] := ⟨l.dropLast, l.getLast (by intro h; simp [h] at hl), (List.dropLast_concat_getLast _).symm⟩
      obtain ⟨n1, _, n3⟩ := List.nodup_append.mp n
      have ih := ih m (by simpa using hl) n1
      rw [subs_snoc]
      refine List.nodup_append.mpr ⟨ih, List.pairwise_map.mpr (ih.imp fun h e => h (List.append_cancel_right e)), fun x hx y hy e => ?_⟩
      obtain ⟨z, _, rfl⟩ := List.mem_map.mp hy
      have := (subs_mem m x).mp hx
      rw [e] at this
      exact n3 a (this.subset (by simp)) a (by simp) rfl
  exact key _ l rfl n
theorem subs_len {α : Type} (l : List α) : (subs l).length = 2 ^ l.length := by
  have key : ∀ (k : Nat) (l : List α), l.length = k → (subs l).length = 2 ^ k := by
    intro k
    induction k with
    | zero => intro l hl; rw [List.length_eq_zero_iff.mp hl]; rfl
    | succ k ih =>
      intro l hl
      obtain ⟨m, a, rfl⟩ : ∃ m a, l = m ++ [a] := ⟨l.dropLast, l.getLast (by intro h; simp [h] at hl), (List.dropLast_concat_getLast _).symm⟩
      rw [subs_snoc, List.length_append, List.length_map, ih m (by simpa using hl)]
      omega
  exact key _ l rfl
/-- an ascending row within an ascending row is a sub-row -/
theorem sub_sublist : ∀ {x y : Lot}, Asc ltI x → Asc ltI y → sub x y = true → x.Sublist y
  | [], y, _, _, _ => List.nil_sublist y
  | a :: x, [], _, _, h => by simp [sub] at h
  | a :: x, b :: y, hx, hy, h => by
    obtain ⟨x1, x2⟩ := List.pairwise_cons.mp hx
    obtain ⟨y1, y2⟩ := List.pairwise_cons.mp hy
    rw [sub_iff] at h
    have tail : ∀ i ∈ x, i ≠ b → i ∈ y := fun i hi ne => by
      rcases List.mem_cons.mp (h i (List.mem_cons_of_mem _ hi)) with e | e
      · exact absurd e ne
      · exact e
    by_cases e : a = b
    · subst e
      refine (sub_sublist x2 y2 (sub_iff.mpr fun i hi => tail i hi fun e => ?_)).cons_cons a
      have := x1 i hi
      rw [e, ordI.irr] at this; cases this
    · have ay : a ∈ y := by
        rcases List.mem_cons.mp (h a List.mem_cons_self) with q | q
        · exact absurd q e
        · exact q
      have ba := y1 a ay
      refine (sub_sublist hx y2 (sub_iff.mpr fun i hi => ?_)).cons b
      rcases List.mem_cons.mp hi with q | q
      · rw [q]; exact ay
      · refine tail i q fun z => ?_
        have := ordI.tr _ _ _ ba (x1 i q)
        rw [z, ordI.irr] at this; cases this
theorem sublist_sub {x y : Lot} (h : x.Sublist y) : sub x y = true := sub_iff.mpr fun i hi => h.subset hi
theorem subs_asc {x y : Lot} (hy : Asc ltI y) : x ∈ subs y ↔ Asc ltI x ∧ sub x y = true := by
  rw [subs_mem]
  exact ⟨fun h => ⟨hy.sublist h, sublist_sub h⟩, fun h => sub_sublist h.1 hy h.2⟩

/-! ### plain tasks -/
abbrev Web := List Lot
abbrev Tk := List (Lot × Web)
def okLot (l : Lot) : Bool := !l.isEmpty && l.all (fun i => decide (0 ≤ i ∧ i ≤ 1000000)) && chain ltI l
theorem okLot_asc {l : Lot} (h : okLot l = true) : Asc ltI l := by
  simp only [okLot, Bool.and_eq_true] at h
  exact (chain_asc ordI l).mp h.2
def okWeb (w : Web) : Bool := decide (1 ≤ w.length ∧ w.length ≤ 40) && w.all okLot && decide (great w = w)
def keys (t : Tk) : List Lot := t.map (·.1)
def lies (w : Web) (x : Lot) : Bool := w.any fun y => sub x y
def maxL : List Lot → Int
  | [] => 0
  | x :: xs => (xs.map fun y => (y.length : Int)).foldl max (x.length : Int)
def closed (t : Tk) : Bool := (great (keys t)).all fun top => ((subs top).filter fun x => !x.isEmpty).all fun x => (keys t).contains x
def mono (t : Tk) : Bool := t.all fun p => t.all fun q => !sub p.1 q.1 || p.2.all fun x => lies q.2 x
def okT (t : Tk) : Bool := !t.isEmpty && t.all fun p => okLot p.1 && okWeb p.2
def few (t : Tk) : Bool := decide ((great (keys t)).length ≤ 12) && decide (maxL (great (keys t)) ≤ 6)
def good (t : Tk) : Bool := chain ltL (keys t) && few t && closed t && mono t
/-- rules[x] -/
def rule (t : Tk) (x : Lot) : Web := ((t.find? fun p => decide (p.1 = x)).map (·.2)).getD []
def less (x : Lot) (w : Int) : Lot := x.filter fun v => !decide (v = w)
/-- as the program asks -/
def widens (t : Tk) : Bool := t.all fun p => p.1.all fun w => (less p.1 w).isEmpty || (rule t (less p.1 w)).all fun x => lies p.2 x
theorem lies_tr {w v : Web} {x : Lot} (h1 : lies w x = true) (h2 : ∀ y ∈ w, lies v y = true) : lies v x = true := by
  obtain ⟨y, y1, y2⟩ := List.any_eq_true.mp h1
  obtain ⟨z, z1, z2⟩ := List.any_eq_true.mp (h2 y y1)
  exact List.any_eq_true.mpr ⟨z, z1, sub_tr y2 z2⟩
theorem rule_mem {t : Tk} {x : Lot} (h : x ∈ keys t) : (x, rule t x) ∈ t := by
  unfold rule
  cases e : t.find? fun p => decide (p.1 = x) with
  | none =>
    obtain ⟨p, hp, rfl⟩ := List.mem_map.mp h
    have := List.find?_eq_none.mp e p hp
    simp at this
  | some p =>
    have h1 := List.mem_of_find?_eq_some e
    have h2 := List.find?_some e
    rw [decide_eq_true_eq] at h2
    rw [← h2]; exact h1
theorem rule_eq {t : Tk} (n : (keys t).Nodup) {p : Lot × Web} (h : p ∈ t) : rule t p.1 = p.2 := by
  have h2 := rule_mem (List.mem_map.mpr ⟨p, h, rfl⟩ : p.1 ∈ keys t)
  obtain ⟨i, hi, e1⟩ := List.getElem_of_mem h
  obtain ⟨j, hj, e2⟩ := List.getElem_of_mem h2
  have pw := List.pairwise_iff_getElem.mp n
  have ki : (keys t)[i]'(by simpa [keys] using hi) = p.1 := by simp [keys, e1]
  have kj : (keys t)[j]'(by simpa [keys] using hj) = p.1 := by simp [keys, e2]
  rcases Nat.lt_trichotomy i j with c | c | c
  · exact absurd (ki.trans kj.symm) (pw i j _ _ c)
  · subst c; rw [e1] at e2; rw [e2]
  · exact absurd (kj.trans ki.symm) (pw j i _ _ c)
/-- each part of a lot of a closed task is one of its lots -/
theorem closed_key {t : Tk} (ok : okT t = true) (c : closed t = true) {x y : Lot} (hy : y ∈ keys t) (ax : Asc ltI x) (ne : x ≠ []) (s : sub x y = true) : x ∈ keys t := by
  have ascs : ∀ z ∈ keys t, Asc ltI z := fun z hz => by
    obtain ⟨p, hp, rfl⟩ := List.mem_map.mp hz
    simp only [okT, Bool.and_eq_true, List.all_eq_true] at ok
    exact okLot_asc (ok.2 p hp).1
  -- a greatest lot around y
  have top : ∀ (m : Nat) (y : Lot), y ∈ keys t → ((keys t).filter fun z => decide (y.length < z.length)).length ≤ m → ∃ z ∈ great (keys t), sub y z = true := by
    intro m
    induction m with
    | zero =>
      intro y hy h
      refine ⟨y, great_mem.mpr ⟨hy, fun z hz s => ?_⟩, sub_refl y⟩
      refine (sub_eq (ascs y hy) (ascs z hz) s ?_).symm
      refine Nat.le_of_not_lt fun l => ?_
      have := List.length_pos_of_mem (show z ∈ (keys t).filter (fun z => decide (y.length < z.length)) from List.mem_filter.mpr ⟨hz, decide_eq_true l⟩)
      omega
    | succ m ih =>
      intro y hy h
      by_cases q : y ∈ great (keys t)
      · exact ⟨y, q, sub_refl y⟩
      · rw [great_mem] at q
        have q : ∃ z ∈ keys t, sub y z = true ∧ z ≠ y := Classical.byContradiction fun n => q ⟨hy, fun z hz s => Classical.byContradiction fun e => n ⟨z, hz, s, e⟩⟩
        obtain ⟨z, z1, z2, z3⟩ := q
        have lt : y.length < z.length := Nat.lt_of_not_le fun l => z3 (sub_eq (ascs y hy) (ascs z z1) z2 l).symm
        have sm : ((keys t).filter fun x => decide (z.length < x.length)).length < ((keys t).filter fun x => decide (y.length < x.length)).length := by
          have e : (keys t).filter (fun x => decide (z.length < x.length)) = ((keys t).filter fun x => decide (y.length < x.length)).filter fun x => decide (z.length < x.length) := by
            rw [List.filter_filter]
            refine List.filter_congr fun x _ => ?_
            rw [Bool.eq_iff_iff, Bool.and_eq_true, decide_eq_true_eq, decide_eq_true_eq]
            omega
          rw [e]
          refine List.length_filter_lt_length_iff_exists.mpr ⟨z, List.mem_filter.mpr ⟨z1, decide_eq_true lt⟩, by simp⟩
        obtain ⟨u, u1, u2⟩ := ih z z1 (by omega)
        exact ⟨u, u1, sub_tr z2 u2⟩
  obtain ⟨z, z1, z2⟩ := top _ y hy (Nat.le_refl _)
  simp only [closed, List.all_eq_true] at c
  have az := ascs z (great_mem.mp z1).1
  have := c z z1 x (List.mem_filter.mpr ⟨(subs_asc az).mpr ⟨ax, sub_tr s z2⟩, by cases x <;> simp at ne ⊢⟩)
  simpa using this
theorem less_asc {x : Lot} (h : Asc ltI x) (w : Int) : Asc ltI (less x w) := h.filter _
theorem less_sub (x : Lot) (w : Int) : sub (less x w) x = true := sub_iff.mpr fun i hi => (List.mem_filter.mp hi).1
theorem widens_mono {t : Tk} (ok : okT t = true) (ch : chain ltL (keys t) = true) (c : closed t = true) : widens t = mono t := by
  have as := (chain_asc ordL _).mp ch
  have nd := as.nodup ordL
  have oks := ok
  simp only [okT, Bool.and_eq_true, List.all_eq_true] at oks
  have asc : ∀ p ∈ t, Asc ltI p.1 := fun p hp => okLot_asc (oks.2 p hp).1
  have key : ∀ p ∈ t, p.1 ∈ keys t := fun p hp => List.mem_map.mpr ⟨p, hp, rfl⟩
  rw [Bool.eq_iff_iff]
  constructor
  · intro h
    simp only [widens, List.all_eq_true, Bool.or_eq_true] at h
    -- by how much is taken away
    have go : ∀ (m : Nat) (p q : Lot × Web), p ∈ t → q ∈ t → sub p.1 q.1 = true → q.1.length ≤ m → ∀ x ∈ p.2, lies q.2 x = true := by
      intro m
      induction m with
      | zero =>
        intro p q hp hq _ l
        exfalso
        have := (oks.2 q hq).1
        simp only [okLot, Bool.and_eq_true] at this
        cases e : q.1 with
        | nil => simp [e] at this
        | cons _ _ => simp [e] at l
      | succ m ih =>
        intro p q hp hq s l x hx
        by_cases e : p.1 = q.1
        · have e2 : p.2 = q.2 := by rw [← rule_eq nd hp, ← rule_eq nd hq, e]
          rw [← e2]
          exact List.any_eq_true.mpr ⟨x, hx, sub_refl x⟩
        · -- a worth that p lacks
          have : ∃ w ∈ q.1, w ∉ p.1 := Classical.byContradiction fun n => e (Asc.ext ordI (asc p hp) (asc q hq) fun z => ⟨sub_iff.mp s z, fun hz => Classical.byContradiction fun c => n ⟨z, hz, c⟩⟩)
          obtain ⟨w, w1, w2⟩ := this
          have s1 : sub p.1 (less q.1 w) = true := sub_iff.mpr fun i hi => List.mem_filter.mpr ⟨sub_iff.mp s i hi, by
            have : i ≠ w := fun z => w2 (z ▸ hi)
            simp [this]⟩
          have ne : less q.1 w ≠ [] := fun z => by
            have := (oks.2 p hp).1
            rw [z] at s1
            cases e2 : p.1 with
            | nil => simp [okLot, e2] at this
            | cons _ _ => simp [sub, e2] at s1
          have kk := closed_key ok c (key q hq) (less_asc (asc q hq) w) ne (less_sub _ _)
          have ll : (less q.1 w).length < q.1.length := by
            refine List.length_filter_lt_length_iff_exists.mpr ⟨w, w1, by simp⟩
          have h1 := ih p (less q.1 w, rule t (less q.1 w)) hp (rule_mem kk) s1 (by show (less q.1 w).length ≤ m; omega) x hx
          have h2 := (h q hq w w1).resolve_left (by cases e3 : less q.1 w <;> simp [e3] at ne ⊢)
          exact lies_tr h1 h2
    simp only [mono, List.all_eq_true, Bool.or_eq_true, Bool.not_eq_true']
    intro p hp q hq
    cases s : sub p.1 q.1 with
    | false => exact .inl rfl
    | true => exact .inr (go _ p q hp hq s (Nat.le_refl _))
  · intro h
    simp only [mono, List.all_eq_true, Bool.or_eq_true, Bool.not_eq_true'] at h
    simp only [widens, List.all_eq_true, Bool.or_eq_true]
    intro p hp w hw
    by_cases ne : less p.1 w = []
    · exact .inl (by rw [ne]; rfl)
    · have kk := closed_key ok c (key p hp) (less_asc (asc p hp) w) ne (less_sub _ _)
      refine .inr fun x hx => ?_
      rcases h (less p.1 w, rule t (less p.1 w)) (rule_mem kk) p hp with z | z
      · have z : sub (less p.1 w) p.1 = false := z
        rw [less_sub] at z; cases z
      · exact z x hx
end Or

end
section
set_option linter.all false
set_option maxRecDepth 100000
set_option maxHeartbeats 1000000
/-! L5: lots, webs as data. -/
namespace Ev
open PySem Or
abbrev lotD (l : Lot) : D := .tup (l.map .int)
abbrev webD (w : Web) : D := .tup (w.map lotD)
abbrev ruleD (p : Lot × Web) : D := .tup [lotD p.1, webD p.2]
abbrev taskD (t : Tk) : D := .tup (t.map ruleD)
theorem eqvL_map {α : Type} [DecidableEq α] {f : α → D} (e : ∀ a b, eqv (f a) (f b) = decide (a = b)) : ∀ a b : List α, eqvL (a.map f) (b.map f) = decide (a = b)
  | [], [] => rfl
  | [], _ :: _ => rfl
  | _ :: _, [] => rfl
  | x :: xs, y :: ys => by
    rw [List.map_cons, List.map_cons, eqvL, e, eqvL_map e xs ys, Bool.eq_iff_iff, Bool.and_eq_true, decide_eq_true_eq, decide_eq_true_eq, decide_eq_true_eq]
    simp
@[simp] theorem eqv_int (a b : Int) : eqv (.int a) (.int b) = decide (a = b) := by simp only [eqv]; exact Bool.beq_eq_decide_eq a b
@[simp] theorem eqv_lot (a b : Lot) : eqv (lotD a) (lotD b) = decide (a = b) := by simp only [eqv]; exact eqvL_map eqv_int a b
@[simp] theorem eqv_web (a b : Web) : eqv (webD a) (webD b) = decide (a = b) := by simp only [eqv]; exact eqvL_map eqv_lot a b
theorem okL_map {α : Type} {f : α → D} {n : Nat} (e : ∀ a, okD n (f a) = true) : ∀ a : List α, okL n (a.map f) = true
  | [] => rfl
  | x :: xs => by rw [List.map_cons, okL, e, okL_map e xs]; rfl
@[simp] theorem okD_int (n : Nat) (a : Int) : okD n (.int a) = true := by cases n <;> rfl
@[simp] theorem okD_lot (n : Nat) (a : Lot) : okD (n + 1) (lotD a) = true := by simp only [okD]; exact okL_map (okD_int n) a
@[simp] theorem okD_web (n : Nat) (a : Web) : okD (n + 2) (webD a) = true := by simp only [okD]; exact okL_map (okD_lot n) a
@[simp] theorem okD_rule (n : Nat) (p : Lot × Web) : okD (n + 3) (ruleD p) = true := by
  have h1 := okD_lot (n + 1) p.1
  have h2 := okD_web n p.2
  show (okD (n + 2) (lotD p.1) && (okD (n + 2) (webD p.2) && true)) = true
  rw [h1, h2]; rfl
@[simp] theorem okD_task (n : Nat) (t : Tk) : okD (n + 4) (taskD t) = true := by simp only [okD]; exact okL_map (okD_rule n) t
theorem okK_lot (a : Lot) : okK (lotD a) = true := by
  have h : noLstL (a.map D.int) = true := by induction a with
    | nil => rfl
    | cons x xs ih => rw [List.map_cons, noLstL, ih]; rfl
  show (okD 8 (lotD a) && noLstL (a.map D.int)) = true
  rw [okD_lot 7, h]; rfl
theorem nltI (a b : Int) : decide (b < a) = !decide (a ≤ b) := by
  by_cases h : b < a
  · rw [decide_eq_true h, decide_eq_false (by omega)]; rfl
  · rw [decide_eq_false h, decide_eq_true (by omega)]; rfl
theorem nltN (a b : Nat) : decide (b < a) = !decide (a ≤ b) := by
  by_cases h : b < a
  · rw [decide_eq_true h, decide_eq_false (by omega)]; rfl
  · rw [decide_eq_false h, decide_eq_true (by omega)]; rfl
/-! order -/
theorem ltv_int (a b : Int) : ltv (.int a) (.int b) = ltI a b := rfl
theorem ltvL_ints : ∀ a b : Lot, ltvL (a.map .int) (b.map .int) = ltL a b
  | [], [] => rfl
  | [], _ :: _ => rfl
  | _ :: _, [] => rfl
  | x :: xs, y :: ys => by
    rw [List.map_cons, List.map_cons, ltvL, eqv_int, ltvL_ints xs ys, ltL]
    by_cases e : x = y
    · simp [e]
    · simp [e, ltv]
theorem ltv_lot (a b : Lot) : ltv (lotD a) (lotD b) = ltL a b := by simp only [ltv]; exact ltvL_ints a b
theorem insBy_map {α : Type} {f : α → D} {le : D → D → Bool} {le' : α → α → Bool} (e : ∀ a b, le (f a) (f b) = le' a b) (x : α) : ∀ l : List α, insBy le (f x) (l.map f) = (ins le' x l).map f
  | [] => rfl
  | y :: ys => by
    rw [List.map_cons, insBy, ins, e, insBy_map e x ys]
    split <;> rfl
theorem sortBy_map {α : Type} {f : α → D} {le : D → D → Bool} {le' : α → α → Bool} (e : ∀ a b, le (f a) (f b) = le' a b) : ∀ l : List α, sortBy le (l.map f) = (srt le' l).map f
  | [] => rfl
  | x :: xs => by rw [List.map_cons, sortBy, srt, sortBy_map e xs, insBy_map e]
theorem dedup_map {α : Type} [DecidableEq α] {f : α → D} (e : ∀ a b, eqv (f a) (f b) = decide (a = b)) : ∀ l : List α, dedup (l.map f) = (dd l).map f
  | [] => rfl
  | x :: xs => by
    rw [List.map_cons, dedup, dd, List.map_cons, dedup_map e xs, List.filter_map]
    congr 2
    refine List.filter_congr fun y _ => ?_
    show (!eqv (f x) (f y)) = _
    rw [e]
theorem leUp_int (a b : Int) : leUp (.int a) (.int b) = leO ltI a b := rfl
theorem leUp_lot (a b : Lot) : leUp (lotD a) (lotD b) = leO ltL a b := by unfold leUp leO; rw [ltv_lot]
/-! what the sort takes -/
theorem alike_ints : ∀ a b : Lot, alikeL (a.map .int) (b.map .int) = true
  | [], _ => by simp [alikeL]
  | _ :: _, [] => by simp [alikeL]
  | x :: xs, y :: ys => by rw [List.map_cons, List.map_cons, alikeL, alike_ints xs ys]; rfl
theorem pairs_map {α : Type} {f : α → D} {p : D → D → Bool} (e : ∀ a b, p (f a) (f b) = true) : ∀ l : List α, allPairs p (l.map f) = true
  | [] => rfl
  | x :: xs => by
    rw [List.map_cons, allPairs, e, pairs_map e xs]
    simp [e]
theorem okSort_ints (l : List Int) (h : l.length ≤ 100000) : okSort (l.map .int) = true := by
  have h1 : okL deep (l.map D.int) = true := okL_map (okD_int _) l
  have h2 : allPairs alike (l.map D.int) = true := pairs_map (fun _ _ => rfl) l
  have h3 : (l.map D.int).all notTupNon = true := by simp [notTupNon]
  have h4 : (l.map D.int).length ≤ line := by rw [List.length_map, mul_line]; omega
  unfold okSort
  rw [h1, h2, h3, decide_eq_true h4]
  simp
theorem okSort_lots (l : List Lot) (h : l.length ≤ 100000) (ne : ∀ x ∈ l, x ≠ []) : okSort (l.map lotD) = true := by
  have h1 : okL deep (l.map lotD) = true := okL_map (okD_lot 59) l
  have h2 : allPairs alike (l.map lotD) = true := pairs_map (fun a b => by simp only [alike]; exact alike_ints a b) l
  have h3 : (l.map lotD).all tupNe = true := by
    rw [List.all_eq_true]
    intro x hx
    obtain ⟨y, hy, rfl⟩ := List.mem_map.mp hx
    have := ne y hy
    cases y with
    | nil => exact absurd rfl this
    | cons _ _ => rfl
  have h4 : (l.map lotD).length ≤ line := by rw [List.length_map, mul_line]; omega
  unfold okSort
  rw [h1, h2, h3, decide_eq_true h4]
  simp
theorem sset_ints (l : List Int) (h : l.length < 4000) {d : D} (hd : seqs d = some (l.map .int)) : srtsetD d = some (.lst ((sset ltI l).map .int)) := by
  have e1 := dedup_map eqv_int l
  have e2 := dd_len l
  have h1 : okSet (l.map .int) = true := by
    have h4 : (l.map D.int).length ≤ line := by rw [List.length_map, mul_line]; omega
    have h5 : (l.map D.int).all isInt0 = true := by simp [isInt0]
    unfold okSet
    rw [decide_eq_true h4, h5, List.length_map, decide_eq_true h]
    simp
  unfold srtsetD
  rw [hd]
  simp only [Option.bind_some]
  rw [e1, h1, okSort_ints _ (by omega), sortBy_map leUp_int]
  rfl
theorem sset_lots (l : List Lot) (h : l.length < 1199) (ne : ∀ x ∈ l, x ≠ []) {d : D} (hd : seqs d = some (l.map lotD)) : srtsetD d = some (.lst ((sset ltL l).map lotD)) := by
  have e1 := dedup_map eqv_lot l
  have e2 := dd_len l
  have h1 : okSet (l.map lotD) = true := by
    have h4 : (l.map lotD).length ≤ line := by rw [List.length_map, mul_line]; omega
    have h5 : (l.map lotD).all isT = true := by simp [isT]
    have h6 : (l.map lotD).all okK = true := by simp only [List.all_map, List.all_eq_true]; intro x _; exact okK_lot x
    have h7 : (dedup (l.map lotD)).length < 1199 := by rw [e1, List.length_map]; omega
    unfold okSet
    rw [decide_eq_true h4, h5, h6, decide_eq_true h7]
    simp
  unfold srtsetD
  rw [hd]
  simp only [Option.bind_some]
  rw [e1, h1, okSort_lots _ (by omega) (fun x hx => ne x (dd_mem.mp hx)), sortBy_map leUp_lot]
  rfl
/-! by length, the longest first -/
theorem insKey_map {α : Type} {f : α → D × D} {le : D → D → Bool} {le' : α → α → Bool} (e : ∀ a b, le (f a).1 (f b).1 = le' a b) (x : α) : ∀ l : List α, insKey le (f x) (l.map f) = (ins le' x l).map f
  | [] => rfl
  | y :: ys => by
    rw [List.map_cons, insKey, ins, e, insKey_map e x ys]
    split <;> rfl
theorem sortKey_map {α : Type} {f : α → D × D} {le : D → D → Bool} {le' : α → α → Bool} (e : ∀ a b, le (f a).1 (f b).1 = le' a b) : ∀ l : List α, sortKey le (l.map f) = (srt le' l).map f
  | [] => rfl
  | x :: xs => by rw [List.map_cons, sortKey, srt, sortKey_map e xs, insKey_map e]
theorem keyEach_map {α : Type} {f : α → D} {k : α → D} {g : D → AH → R D} {h : AH} (e : ∀ a, g (f a) h = .ok (k a) h) : ∀ l : List α, keyEach g (l.map f) h = .ok (l.map fun a => (k a, f a)) h
  | [] => rfl
  | x :: xs => by rw [List.map_cons, keyEach, e, rb_ok, keyEach_map e xs]; rfl
def leShort (x y : Lot) : Bool := decide (x.length ≤ y.length)
theorem sortLen_down (F : Fs) (l : List Lot) (h : AH) (hl : l.length ≤ 100000) : sortK F .len true (l.map lotD) h = .ok (.lst ((srt leLen l).map lotD)) h := by
  unfold sortK
  simp only [if_true]
  rw [keyEach_map (k := fun a : Lot => D.int (a.length : Int)) (fun a => by simp [builtin]) l, rb_ok, if_pos (by rw [List.length_map, mul_line]; omega)]
  rw [sortKey_map (f := fun a : Lot => (D.int (a.length : Int), lotD a)) (le' := leLen) (fun a b => ?_) l, List.map_map]
  · rfl
  · show (!ltv (.int _) (.int _)) = decide _
    rw [ltv_int, ltI, nltI, Bool.not_not]
    simp
theorem sortLen_up (F : Fs) (l : List Lot) (h : AH) (hl : l.length ≤ 100000) : sortK F .len false (l.map lotD) h = .ok (.lst ((srt leShort l).map lotD)) h := by
  unfold sortK
  simp only [Bool.false_eq_true, if_false]
  rw [keyEach_map (k := fun a : Lot => D.int (a.length : Int)) (fun a => by simp [builtin]) l, rb_ok, if_pos (by rw [List.length_map, mul_line]; omega)]
  rw [sortKey_map (f := fun a : Lot => (D.int (a.length : Int), lotD a)) (le' := leShort) (fun a b => ?_) l, List.map_map]
  · rfl
  · show (!ltv (.int _) (.int _)) = decide _
    rw [ltv_int, ltI, nltI, Bool.not_not]
    simp
theorem sort_lots (F : Fs) (l : List Lot) (h : AH) (hl : l.length ≤ 100000) (ne : ∀ x ∈ l, x ≠ []) : sortK F .non false (l.map lotD) h = .ok (.lst ((srt (leO ltL) l).map lotD)) h := by
  unfold sortK
  simp only [Bool.false_eq_true, if_false]
  rw [okSort_lots l hl ne, sortBy_map leUp_lot]; rfl
theorem sort_ints (F : Fs) (l : List Int) (h : AH) (hl : l.length ≤ 100000) : sortK F .non false (l.map .int) h = .ok (.lst ((srt (leO ltI) l).map .int)) h := by
  unfold sortK
  simp only [Bool.false_eq_true, if_false]
  rw [okSort_ints l hl, sortBy_map leUp_int]; rfl
/-! comparisons -/
@[simp] theorem cmp_lt_int (a b : Int) : cmpop .lt (.int a) (.int b) = some (decide (a < b)) := by simp [cmpop, dLt, alike, notNon, ltv]
@[simp] theorem cmp_gt_int (a b : Int) : cmpop .gt (.int a) (.int b) = some (decide (b < a)) := by simp [cmpop, dLt, alike, notNon, ltv]
@[simp] theorem cmp_le_int (a b : Int) : cmpop .le (.int a) (.int b) = some (decide (a ≤ b)) := by simp only [cmpop, dLt, okD_int, alike, notNon, ltv, Bool.true_and, if_true, Option.map_some, nltI, Bool.not_not]
@[simp] theorem cmp_ge_int (a b : Int) : cmpop .ge (.int a) (.int b) = some (decide (b ≤ a)) := by simp only [cmpop, dLt, okD_int, alike, notNon, ltv, Bool.true_and, if_true, Option.map_some, nltI, Bool.not_not]
@[simp] theorem cmp_eq_int (a b : Int) : cmpop .eq (.int a) (.int b) = some (decide (a = b)) := by simp [cmpop, dEq]
@[simp] theorem cmp_ne_int (a b : Int) : cmpop .ne (.int a) (.int b) = some (!decide (a = b)) := by simp [cmpop, dEq]
@[simp] theorem cmp_lt_lot (a b : Lot) : cmpop .lt (lotD a) (lotD b) = some (ltL a b) := by
  have h1 := okD_lot 59 a
  have h2 := okD_lot 59 b
  have h3 : alike (lotD a) (lotD b) = true := by simp only [alike]; exact alike_ints a b
  simp only [cmpop, dLt]
  rw [show okD deep (lotD a) = true from h1, show okD deep (lotD b) = true from h2, h3, ltv_lot]; rfl
theorem dEq_of {x y : D} (h1 : okD deep x = true) (h2 : okD deep y = true) : dEq x y = some (eqv x y) := by unfold dEq; rw [h1, h2]; rfl
theorem in_ints (i : Int) (l : List Int) : ∀ d, (d = .tup (l.map .int) ∨ d = .lst (l.map .int)) → inD (.int i) d = some (l.contains i) := by
  have h1 : okL deep (l.map D.int) = true := okL_map (okD_int _) l
  have h2 : ((l.map D.int).any fun y => eqv y (.int i)) = l.contains i := by
    rw [List.any_map]
    induction l with
    | nil => rfl
    | cons x xs ih =>
      rw [List.any_cons, List.contains_cons, ih (okL_map (okD_int _) xs)]
      show (eqv (.int x) (.int i) || _) = _
      rw [eqv_int]
      congr 1
      rw [Bool.eq_iff_iff, decide_eq_true_eq, beq_iff_eq]
      exact ⟨Eq.symm, Eq.symm⟩
  rintro d (rfl | rfl) <;> simp only [inD, okD_int, h1, Bool.true_and, if_true, h2]
theorem in_lots (i : Lot) (l : List Lot) : ∀ d, (d = .tup (l.map lotD) ∨ d = .lst (l.map lotD)) → inD (lotD i) d = some (l.contains i) := by
  have h0 : okD deep (lotD i) = true := okD_lot 59 i
  have h1 : okL deep (l.map lotD) = true := okL_map (okD_lot 59) l
  have h2 : ((l.map lotD).any fun y => eqv y (lotD i)) = l.contains i := by
    clear h1
    rw [List.any_map]
    induction l with
    | nil => rfl
    | cons x xs ih =>
      rw [List.any_cons, List.contains_cons, ih]
      show (eqv (lotD x) (lotD i) || _) = _
      rw [eqv_lot]
      congr 1
      rw [Bool.eq_iff_iff, decide_eq_true_eq, beq_iff_eq]
      exact ⟨Eq.symm, Eq.symm⟩
  rintro d (rfl | rfl) <;> simp only [inD, h0, h1, Bool.true_and, if_true, h2]
end Ev

end
section
set_option maxRecDepth 100000
namespace Pg
open PySem Ev
def f_is_number : Fn := ⟨1, 1, [.ret (.and [(.isi (.var 0) .int), (.not (.isi (.var 0) .bool))])]⟩
def f_is_within : Fn := ⟨3, 3, [.ret (.and [(.call 0 [(.var 0)] []), (.chain .le .le (.var 1) (.var 0) (.var 2))])]⟩
def f_is_long : Fn := ⟨2, 2, [.ret (.and [(.isi (.var 0) .tuple), (.cmp .eq (.bi .len [(.var 0)]) (.var 1))])]⟩
def f_is_set_of_numbers : Fn := ⟨3, 6, [.ite (.or [(.not (.isi (.var 0) .tuple)), (.not (.bi .all [(.lc (.cl (.nm 5) (.var 0) [] (.yl (.call 1 [(.var 5), (.var 1), (.var 2)] []))))]))]) [.ret (.con (.bl false))] [], .ret (.bi .all [(.lc (.cl (.tp [3, 4]) (.zip (.var 0) (.cut (.var 0) (some (.con (.int 1))) none)) [] (.yl (.cmp .lt (.var 3) (.var 4)))))])]⟩
def f_tupled : Fn := ⟨1, 2, [.ite (.isi (.var 0) .listTuple) [.ret (.cast .tuple (.lc (.cl (.nm 1) (.var 0) [] (.yl (.call 4 [(.var 1)] [])))))] [], .ret (.var 0)]⟩
def f_subsets : Fn := ⟨1, 4, [.set 1 (.lst [(.tup [])]), .for (.nm 2) (.var 0) [.set 1 (.bin .add (.var 1) (.lc (.cl (.nm 3) (.var 1) [] (.yl (.bin .add (.var 3) (.tup [(.var 2)]))))))], .ret (.var 1)]⟩
def f_is_lot : Fn := ⟨1, 1, [.ret (.and [(.call 3 [(.var 0), (.con (.int 0)), (.glob 0)] []), (.cmp .ne (.var 0) (.tup []))])]⟩
def f_is_within_lot : Fn := ⟨2, 3, [.ret (.bi .all [(.lc (.cl (.nm 2) (.var 0) [] (.yl (.cmp .isin (.var 2) (.var 1)))))])]⟩
def f_greatest_among : Fn := ⟨1, 4, [.own 1 (.lst []), .for (.nm 2) (.srt (.srtset (.var 0)) .len (some true)) [.ite (.not (.bi .any [(.lc (.cl (.nm 3) (.bsl 1) [] (.yl (.call 7 [(.var 2), (.var 3)] []))))])) [.app (.sl 1) (.var 2)] []], .ret (.cast .tuple (.srt (.bs 1) .non none))]⟩
def f_is_answer_web : Fn := ⟨1, 2, [.ite (.or [(.not (.isi (.var 0) .tuple)), (.not (.chain .le .le (.con (.int 1)) (.bi .len [(.var 0)]) (.glob 3))), (.not (.bi .all [(.lc (.cl (.nm 1) (.var 0) [] (.yl (.call 6 [(.var 1)] []))))]))]) [.ret (.con (.bl false))] [], .ret (.cmp .eq (.call 8 [(.var 0)] []) (.var 0))]⟩
def f_lies_in : Fn := ⟨2, 3, [.ret (.bi .any [(.lc (.cl (.nm 2) (.var 0) [] (.yl (.call 7 [(.var 1), (.var 2)] []))))])]⟩
def f_lots_within : Fn := ⟨1, 2, [.ret (.lc (.cl (.nm 1) (.call 5 [(.var 0)] []) [(.cmp .ne (.var 1) (.tup []))] (.yl (.var 1))))]⟩
def f_is_plain_in : Fn := ⟨1, 7, [.ite (.or [(.not (.isi (.var 0) .tuple)), (.cmp .eq (.var 0) (.tup [])), (.not (.bi .all [(.lc (.cl (.nm 3) (.var 0) [] (.yl (.call 2 [(.var 3), (.con (.int 2))] []))))]))]) [.ret (.con (.bl false))] [], .ite (.not (.bi .all [(.lc (.cl (.nm 3) (.var 0) [] (.yl (.and [(.call 6 [(.sub (.var 3) (.con (.int 0)))] []), (.call 9 [(.sub (.var 3) (.con (.int 1)))] [])]))))])) [.ret (.con (.bl false))] [], .ite (.not (.bi .all [(.lc (.cl (.tp [5, 6]) (.zip (.var 0) (.cut (.var 0) (some (.con (.int 1))) none)) [] (.yl (.cmp .lt (.sub (.var 5) (.con (.int 0))) (.sub (.var 6) (.con (.int 0)))))))])) [.ret (.con (.bl false))] [], .tset [1, 2] (.tup [(.call 8 [(.lc (.cl (.nm 3) (.var 0) [] (.yl (.sub (.var 3) (.con (.int 0))))))] []), (.cast .dict (.var 0))]), .ite (.or [(.cmp .gt (.bi .len [(.var 1)]) (.glob 1)), (.cmp .gt (.bi .max [(.lc (.cl (.nm 3) (.var 1) [] (.yl (.bi .len [(.var 3)]))))]) (.glob 2))]) [.ret (.con (.bl false))] [], .ite (.not (.bi .all [(.lc (.cl (.nm 3) (.var 1) [] (.cl (.nm 4) (.call 11 [(.var 3)] []) [] (.yl (.cmp .isin (.var 4) (.var 2))))))])) [.ret (.con (.bl false))] [], .ret (.call 13 [(.var 2)] [])]⟩
def f_widens_in : Fn := ⟨1, 5, [.for (.nm 1) (.var 0) [.for (.nm 2) (.var 1) [.set 3 (.cast .tuple (.lc (.cl (.nm 4) (.var 1) [(.cmp .ne (.var 4) (.var 2))] (.yl (.var 4))))), .ite (.and [(.cmp .ne (.var 3) (.tup [])), (.not (.bi .all [(.lc (.cl (.nm 4) (.sub (.var 0) (.var 3)) [] (.yl (.call 10 [(.sub (.var 0) (.var 1)), (.var 4)] []))))]))]) [.ret (.con (.bl false))] []]], .ret (.con (.bl true))]⟩
def f_sure_plain : Fn := ⟨1, 2, [.set 1 (.call 4 [(.var 0)] []), .ite (.not (.call 12 [(.var 1)] [])) [.raise 0] [], .ret (.var 1)]⟩
def f_sure_lot_of : Fn := ⟨2, 5, [.set 2 (.call 4 [(.var 1)] []), .ite (.or [(.not (.call 6 [(.var 2)] [])), (.cmp .notin (.var 2) (.lc (.cl (.tp [3, 4]) (.var 0) [] (.yl (.var 3)))))]) [.raise 0] [], .ret (.var 2)]⟩
def f_is_plain_task : Fn := ⟨1, 1, [.ret (.call 12 [(.var 0)] [])]⟩
def f_plain_fits : Fn := ⟨3, 5, [.set 3 (.call 14 [(.var 0)] []), .set 4 (.call 15 [(.var 3), (.var 1)] []), .ret (.and [(.call 6 [(.var 2)] []), (.call 10 [(.sub (.cast .dict (.var 3)) (.var 4)), (.var 2)] [])])]⟩
def f__law_box : Fn := ⟨2, 3, [.set 2 (.ite (.cmp .lt (.var 1) (.bi .len [(.var 0)])) (.sub (.var 0) (.var 1)) (.con (.int 0))), .ret (.box (.lst [(.bin .mul (.bi .abs [(.var 2)]) (.bi .int [(.cmp .ge (.bi .abs [(.var 2)]) (.bin .pow (.con (.int 10)) (.con (.int 18))))])), (.bin .add (.bin .add (.bin .mod (.bi .int [(.var 2)]) (.con (.int 2305843009213693951))) (.bin .mul (.con (.int 39373)) (.var 1))) (.con (.int 8900000))), (.con (.int 0))]))]⟩
def f__law_take : Fn := ⟨2, 6, [.ite (.cmp .gt (.sub (.bx (.var 0)) (.con (.int 0))) (.con (.int 0))) [.set 5 (.bin .mod (.bi .int [(.sub (.bx (.var 0)) (.con (.int 0)))]) (.var 1)), .seti (.bx (.var 0)) (.con (.int 0)) (.bin .fdiv (.sub (.bx (.var 0)) (.con (.int 0))) (.var 1)), .ret (.var 5)] [], .seti (.bx (.var 0)) (.con (.int 2)) (.bin .add (.sub (.bx (.var 0)) (.con (.int 2))) (.con (.int 1))), .set 2 (.bin .mod (.bi .int [(.bin .mul (.bin .add (.sub (.bx (.var 0)) (.con (.int 1))) (.bin .mul (.con (.int 48271)) (.sub (.bx (.var 0)) (.con (.int 2))))) (.bin .add (.con (.int 39373)) (.sub (.bx (.var 0)) (.con (.int 2)))))]) (.con (.int 2147483647))), .set 3 (.bin .add (.bin .mod (.bi .int [(.var 2)]) (.con (.int 40009))) (.con (.int 7))), .set 4 (.bin .mod (.bi .int [(.bin .mul (.bin .add (.bin .add (.var 2) (.sub (.bx (.var 0)) (.con (.int 2)))) (.bin .fdiv (.sub (.bx (.var 0)) (.con (.int 1))) (.con (.int 1000003)))) (.var 3))]) (.con (.int 2147483629))), .ret (.bin .mod (.bi .int [(.bin .fdiv (.bin .mod (.bi .int [(.bin .add (.bin .mul (.var 4) (.con (.int 48271))) (.var 2))]) (.con (.int 2147483587))) (.con (.int 64)))]) (.var 1))]⟩
def f__law_cells : Fn := ⟨2, 6, [.own 2 (.or [(.cast .list (.cut (.var 0) none (some (.var 1)))), (.lst [(.con (.int 0))])]), .for (.tp [3, 4]) (.enum (.cut (.var 0) (some (.var 1)) (some (.con (.int 63))))) [.set 5 (.bin .mod (.bi .int [(.var 3)]) (.var 1)), .seti (.sl 2) (.var 5) (.bin .add (.sub (.bs 2) (.var 5)) (.bin .mul (.var 4) (.bin .add (.var 3) (.con (.int 2)))))], .frz 2, .ret (.var 2)]⟩
def f__law_of : Fn := ⟨2, 2, [.ret (.sub (.var 1) (.call 19 [(.var 0), (.bi .len [(.var 1)])] []))]⟩
def f__law_pick : Fn := ⟨3, 6, [.pset [(4, true), (5, true)] [(.cast .list (.var 1)), (.lst [])], .for (.nm 3) (.range [(.bi .min2 [(.bi .int [(.var 2)]), (.bi .len [(.bs 4)])])]) [.apppop (.sl 5) (.sl 4) (.call 19 [(.var 0), (.bi .len [(.bs 4)])] [])], .frz 5, .ret (.var 5)]⟩
def f__law_lists : Fn := ⟨1, 2, [.ret (.ite (.isi (.var 0) .listTuple) (.lc (.cl (.nm 1) (.var 0) [] (.yl (.call 23 [(.var 1)] [])))) (.var 0))]⟩
def f__law_same : Fn := ⟨2, 4, [.ite (.isi (.var 1) .listTuple) [.ite (.or [(.cmp .ne (.isi (.var 0) .list) (.isi (.var 1) .list)), (.cmp .ne (.isi (.var 0) .tuple) (.isi (.var 1) .tuple))]) [.ret (.con (.bl false))] [], .ret (.and [(.cmp .eq (.bi .len [(.var 0)]) (.bi .len [(.var 1)])), (.bi .all [(.lc (.cl (.tp [2, 3]) (.zip (.var 0) (.var 1)) [] (.yl (.call 24 [(.var 2), (.var 3)] []))))])])] [], .ite (.cmp .is_ (.var 1) (.con .non)) [.ret (.cmp .is_ (.var 0) (.con .non))] [], .ite (.isi (.var 1) .boolStr) [.ret (.and [(.cmp .eq (.isi (.var 0) .bool) (.isi (.var 1) .bool)), (.cmp .eq (.isi (.var 0) .str) (.isi (.var 1) .str)), (.cmp .eq (.var 0) (.var 1))])] [], .ret (.and [(.isi (.var 0) .int), (.not (.isi (.var 0) .bool)), (.cmp .eq (.var 0) (.var 1))])]⟩
def f__law_is_int : Fn := ⟨1, 1, [.ret (.and [(.isi (.var 0) .int), (.not (.isi (.var 0) .bool))])]⟩
def f__law_flat : Fn := ⟨1, 3, [.own 1 (.lst []), .for (.nm 2) (.var 0) [.ext (.sl 1) (.var 2)], .frz 1, .ret (.var 1)]⟩
def f__law_subsets : Fn := ⟨1, 4, [.set 1 (.lst [(.tup [])]), .for (.nm 2) (.var 0) [.set 1 (.bin .add (.var 1) (.lc (.cl (.nm 3) (.var 1) [] (.yl (.bin .add (.var 3) (.tup [(.var 2)]))))))], .ret (.srt (.cut (.var 1) (some (.con (.int 1))) none) .non none)]⟩
def f__law_greatest : Fn := ⟨1, 5, [.set 1 (.srtset (.var 0)), .ret (.cast .tuple (.lc (.cl (.nm 2) (.var 1) [(.cmp .eq (.lc (.cl (.nm 3) (.var 1) [(.and [(.cmp .ne (.var 3) (.var 2)), (.bi .all [(.lc (.cl (.nm 4) (.var 2) [] (.yl (.cmp .isin (.var 4) (.var 3)))))])])] (.yl (.con (.int 1))))) (.lst []))] (.yl (.var 2)))))]⟩
def f__law_some_lots : Fn := ⟨4, 5, [.ret (.lc (.cl (.nm 4) (.range [(.var 2)]) [] (.yl (.cast .tuple (.srt (.call 22 [(.var 0), (.var 1), (.bin .add (.con (.int 1)) (.call 19 [(.var 0), (.var 3)] []))] []) .non none)))))]⟩
def f__law_plain : Fn := ⟨3, 12, [.set 3 (.call 21 [(.var 0), (.lst [(.lst [(.var 1)]), (.lst [(.var 1)]), (.call 26 [(.lc (.cl (.nm 9) (.var 1) [] (.yl (.lc (.cl (.nm 10) (.var 1) [(.cmp .lt (.var 9) (.var 10))] (.yl (.tup [(.var 9), (.var 10)])))))))] []), (.lst [(.cut (.var 1) none (some (.con (.int 2)))), (.cut (.var 1) (some (.con (.int 1))) none)]), (.lst [(.cut (.var 1) none (some (.neg (.con (.int 1))))), (.cut (.var 1) (some (.neg (.con (.int 1)))) none)])])] []), .set 4 (.srtset (.call 26 [(.lc (.cl (.nm 8) (.var 3) [(.cmp .ne (.var 8) (.tup []))] (.yl (.call 27 [(.var 8)] []))))] [])), .own 5 (.dic []), .for (.nm 6) (.srt (.var 4) .len none) [.set 7 (.ite (.cmp .eq (.bi .len [(.var 6)]) (.con (.int 1))) (.call 29 [(.var 0), (.var 2), (.bin .add (.con (.int 1)) (.call 19 [(.var 0), (.con (.int 2))] [])), (.con (.int 2))] []) (.call 29 [(.var 0), (.var 2), (.call 19 [(.var 0), (.con (.int 3))] []), (.con (.int 3))] [])), .for (.nm 8) (.var 4) [.set 7 (.bin .add (.var 7) (.ite (.and [(.cmp .lt (.bi .len [(.var 8)]) (.bi .len [(.var 6)])), (.bi .all [(.lc (.cl (.nm 11) (.var 8) [] (.yl (.cmp .isin (.var 11) (.var 6)))))])]) (.cast .list (.sub (.bs 5) (.var 8))) (.lst [])))], .seti (.sl 5) (.var 6) (.call 28 [(.var 7)] [])], .ret (.cast .tuple (.lc (.cl (.nm 8) (.var 4) [] (.yl (.tup [(.var 8), (.sub (.bs 5) (.var 8))])))))]⟩
def f__law_is_lot : Fn := ⟨1, 2, [.ret (.and [(.isi (.var 0) .tuple), (.cmp .ne (.var 0) (.tup [])), (.bi .all [(.lc (.cl (.nm 1) (.var 0) [] (.yl (.and [(.call 25 [(.var 1)] []), (.chain .le .le (.con (.int 0)) (.var 1) (.bin .pow (.con (.int 10)) (.con (.int 6))))]))))]), (.cmp .eq (.cast .list (.var 0)) (.srtset (.var 0)))])]⟩
def f__law_within : Fn := ⟨2, 3, [.ret (.bi .all [(.lc (.cl (.nm 2) (.var 0) [] (.yl (.cmp .isin (.var 2) (.var 1)))))])]⟩
def f__law_is_plain : Fn := ⟨1, 11, [.ite (.or [(.not (.isi (.var 0) .tuple)), (.cmp .eq (.var 0) (.tup [])), (.bi .any [(.lc (.cl (.nm 5) (.var 0) [] (.yl (.or [(.not (.isi (.var 5) .tuple)), (.cmp .ne (.bi .len [(.var 5)]) (.con (.int 2)))]))))])]) [.ret (.con (.bl false))] [], .ite (.bi .any [(.lc (.cl (.nm 5) (.var 0) [] (.yl (.or [(.not (.call 31 [(.sub (.var 5) (.con (.int 0)))] [])), (.not (.isi (.sub (.var 5) (.con (.int 1))) .tuple)), (.cmp .eq (.sub (.var 5) (.con (.int 1))) (.tup [])), (.cmp .gt (.bi .len [(.sub (.var 5) (.con (.int 1)))]) (.con (.int 40)))]))))]) [.ret (.con (.bl false))] [], .ite (.or [(.bi .any [(.lc (.cl (.nm 5) (.var 0) [] (.yl (.bi .any [(.lc (.cl (.nm 9) (.sub (.var 5) (.con (.int 1))) [] (.yl (.not (.call 31 [(.var 9)] [])))))]))))]), (.bi .any [(.lc (.cl (.nm 5) (.var 0) [] (.yl (.cmp .ne (.call 28 [(.sub (.var 5) (.con (.int 1)))] []) (.sub (.var 5) (.con (.int 1)))))))])]) [.ret (.con (.bl false))] [], .set 1 (.lc (.cl (.nm 5) (.var 0) [] (.yl (.sub (.var 5) (.con (.int 0)))))), .set 2 (.call 28 [(.var 1)] []), .ite (.or [(.cmp .ne (.var 1) (.srtset (.var 1))), (.cmp .gt (.bi .len [(.var 2)]) (.con (.int 12))), (.cmp .gt (.bi .max [(.lc (.cl (.nm 5) (.var 2) [] (.yl (.bi .len [(.var 5)]))))]) (.con (.int 6)))]) [.ret (.con (.bl false))] [], .ite (.bi .any [(.lc (.cl (.nm 8) (.var 2) [] (.yl (.bi .any [(.lc (.cl (.nm 5) (.call 27 [(.var 8)] []) [] (.yl (.cmp .notin (.var 5) (.var 1)))))]))))]) [.ret (.con (.bl false))] [], .for (.tp [3, 4]) (.var 0) [.for (.tp [6, 7]) (.var 0) [.ite (.and [(.call 32 [(.var 3), (.var 6)] []), (.bi .any [(.lc (.cl (.nm 5) (.var 4) [] (.yl (.not (.bi .any [(.lc (.cl (.nm 10) (.var 7) [] (.yl (.call 32 [(.var 5), (.var 10)] []))))])))))])]) [.ret (.con (.bl false))] []]], .ret (.con (.bl true))]⟩
def f_law : Fn := ⟨1, 22, [.set 1 (.call 18 [(.call 20 [(.var 0), (.con (.int 1))] []), (.con (.int 0))] []), .for (.nm 2) (.range [(.con (.int 5))]) [.set 7 (.cast .tuple (.srt (.call 22 [(.var 1), (.cast .list (.range [(.con (.int 9))])), (.bin .add (.con (.int 2)) (.call 19 [(.var 1), (.con (.int 3))] []))] []) .non none)), .set 8 (.call 30 [(.var 1), (.var 7), (.cast .list (.range [(.bin .add (.con (.int 1)) (.call 19 [(.var 1), (.con (.int 6))] []))]))] []), .ite (.or [(.not (.call 24 [(.lst [(.call 16 [(.var 8)] []), (.call 16 [(.call 23 [(.var 8)] [])] []), (.call 16 [(.cast .list (.var 8))] [])]), (.lst [(.con (.bl true)), (.con (.bl false)), (.con (.bl false))])] [])), (.not (.call 33 [(.var 8)] []))]) [.ret (.con (.bl false))] [], .for (.nm 9) (.range [(.con (.int 10))]) [.set 12 (.call 19 [(.var 1), (.bi .len [(.var 8)])] []), .tset [17, 18] (.sub (.var 8) (.var 12)), .set 13 (.call 19 [(.var 1), (.bi .len [(.var 18)])] []), .set 14 (.cast .tuple (.srt (.call 22 [(.var 1), (.cast .list (.range [(.con (.int 9))])), (.con (.int 2))] []) .non none)), .set 6 (.lst [(.bin .add (.cut (.var 18) none (some (.var 13))) (.cut (.var 18) (some (.bin .add (.var 13) (.con (.int 1)))) none)), (.bin .add (.var 18) (.cut (.var 18) none (some (.con (.int 1))))), (.back (.var 18)), (.call 28 [(.bin .add (.var 18) (.tup [(.var 14)]))] []), (.tup []), (.bin .add (.bin .add (.cut (.var 18) none (some (.var 13))) (.tup [(.cast .list (.sub (.var 18) (.var 13)))])) (.cut (.var 18) (some (.bin .add (.var 13) (.con (.int 1)))) none))]), .set 6 (.bin .add (.var 6) (.lst [(.bin .add (.bin .add (.cut (.var 18) none (some (.var 13))) (.tup [(.back (.sub (.var 18) (.var 13)))])) (.cut (.var 18) (some (.bin .add (.var 13) (.con (.int 1)))) none)), (.bin .add (.bin .add (.cut (.var 18) none (some (.var 13))) (.tup [(.tup [])])) (.cut (.var 18) (some (.bin .add (.var 13) (.con (.int 1)))) none)), (.call 28 [(.bin .add (.var 18) (.tup [(.tup [(.bin .pow (.con (.int 10)) (.con (.int 6)))])]))] [])])), .set 6 (.bin .add (.var 6) (.lst [(.bin .add (.var 18) (.tup [(.tup [(.bin .add (.bin .pow (.con (.int 10)) (.con (.int 6))) (.con (.int 1)))])])), (.bin .add (.var 18) (.tup [(.tup [(.con (.bl true))])])), (.con .non)])), .set 15 (.lst [(.tup [(.var 17), (.call 21 [(.var 1), (.var 6)] [])]), (.tup [(.var 17), (.call 21 [(.var 1), (.var 6)] [])]), (.tup [(.var 17)]), (.var 17), (.tup [(.cast .list (.var 17)), (.var 18)]), (.tup [(.bin .add (.var 17) (.tup [(.con (.int 99))])), (.var 18)]), (.tup [(.tup []), (.var 18)])]), .set 16 (.bin .add (.bin .add (.cut (.var 8) none (some (.var 12))) (.tup [(.call 21 [(.var 1), (.var 15)] [])])) (.cut (.var 8) (some (.bin .add (.var 12) (.con (.int 1)))) none)), .set 16 (.call 21 [(.var 1), (.lst [(.var 16), (.var 16), (.var 16), (.bin .add (.cut (.var 8) none (some (.var 12))) (.cut (.var 8) (some (.bin .add (.var 12) (.con (.int 1)))) none)), (.back (.var 8)), (.bin .add (.var 8) (.cut (.var 8) (some (.neg (.con (.int 1)))) none))])] []), .ite (.not (.call 24 [(.call 16 [(.var 16)] []), (.call 33 [(.var 16)] [])] [])) [.ret (.con (.bl false))] []], .tset [17, 18] (.call 21 [(.var 1), (.var 8)] []), .set 10 (.bin .add (.srtset (.call 26 [(.lc (.cl (.nm 11) (.var 18) [] (.yl (.cast .list (.var 11)))))] [])) (.lst [(.con (.int 77))])), .for (.nm 11) (.bin .add (.call 29 [(.var 1), (.var 10), (.con (.int 5)), (.con (.int 3))] []) (.lst [(.sub (.var 18) (.con (.int 0)))])) [.set 19 (.bi .any [(.lc (.cl (.nm 21) (.var 18) [] (.yl (.call 32 [(.var 11), (.var 21)] []))))]), .ite (.not (.call 24 [(.lst [(.call 17 [(.var 8), (.var 17), (.var 11)] []), (.call 17 [(.var 11), (.cast .list (.var 17)), (.call 23 [(.var 8)] [])] [2, 1, 0]), (.call 17 [(.var 8), (.var 17), (.cast .list (.var 11))] [])]), (.lst [(.var 19), (.var 19), (.con (.bl false))])] [])) [.ret (.con (.bl false))] []], .ite (.not (.call 24 [(.lc (.cl (.nm 11) (.tup [(.tup []), (.con .non), (.bin .add (.sub (.var 18) (.con (.int 0))) (.sub (.var 18) (.con (.int 0)))), (.con (.int 3)), (.tup [(.con (.bl true))]), (.var 18)]) [] (.yl (.call 17 [(.var 8), (.var 17), (.var 11)] [])))), (.bin .mul (.lst [(.con (.bl false))]) (.con (.int 6)))] [])) [.ret (.con (.bl false))] []], .set 3 (.cast .tuple (.lc (.cl (.nm 11) (.call 27 [(.cast .tuple (.range [(.con (.int 6))]))] []) [] (.yl (.tup [(.var 11), (.tup [(.tup [(.con (.int 0))])])]))))), .set 4 (.cast .tuple (.lc (.cl (.nm 11) (.call 27 [(.cast .tuple (.range [(.con (.int 7))]))] []) [] (.yl (.tup [(.var 11), (.tup [(.tup [(.con (.int 0))])])]))))), .set 5 (.lst [(.call 16 [(.var 3)] []), (.call 16 [(.var 4)] []), (.call 16 [(.cast .tuple (.lc (.cl (.nm 12) (.range [(.con (.int 12))]) [] (.yl (.tup [(.tup [(.var 12)]), (.tup [(.tup [(.con (.int 0))])])])))))] []), (.call 16 [(.cast .tuple (.lc (.cl (.nm 12) (.range [(.con (.int 13))]) [] (.yl (.tup [(.tup [(.var 12)]), (.tup [(.tup [(.con (.int 0))])])])))))] [])]), .set 6 (.lc (.cl (.nm 20) (.tup [(.con (.int 40)), (.con (.int 41))]) [] (.yl (.cast .tuple (.lc (.cl (.nm 12) (.range [(.var 20)]) [] (.yl (.tup [(.var 12)])))))))), .set 5 (.bin .add (.var 5) (.lc (.cl (.nm 11) (.tup [(.tup []), (.con .non), (.tup [(.tup [(.con (.int 0))]), (.tup [(.tup [(.con (.int 0))])])]), (.tup [(.tup [(.tup [(.con (.int 0))]), (.tup [(.tup [(.con (.int 0))]), (.tup [(.con (.int 0)), (.con (.int 1))])])])]), (.tup [(.tup [(.tup [(.con (.int 0))]), (.sub (.var 6) (.con (.int 0)))])]), (.tup [(.tup [(.tup [(.con (.int 0))]), (.sub (.var 6) (.con (.int 1)))])]), (.con (.int 5))]) [] (.yl (.call 16 [(.var 11)] []))))), .ret (.call 24 [(.var 5), (.lst [(.con (.bl true)), (.con (.bl false)), (.con (.bl true)), (.con (.bl false)), (.con (.bl false)), (.con (.bl false)), (.con (.bl false)), (.con (.bl false)), (.con (.bl true)), (.con (.bl false)), (.con (.bl false))])] [])]⟩
def T : List Fn := [f_is_number, f_is_within, f_is_long, f_is_set_of_numbers, f_tupled, f_subsets, f_is_lot, f_is_within_lot, f_greatest_among, f_is_answer_web, f_lies_in, f_lots_within, f_is_plain_in, f_widens_in, f_sure_plain, f_sure_lot_of, f_is_plain_task, f_plain_fits, f__law_box, f__law_take, f__law_cells, f__law_of, f__law_pick, f__law_lists, f__law_same, f__law_is_int, f__law_flat, f__law_subsets, f__law_greatest, f__law_some_lots, f__law_plain, f__law_is_lot, f__law_within, f__law_is_plain, f_law]
def G : Gl := ⟨[.int 1000000, .int 12, .int 6, .int 40]⟩
def Ns : List (List Str) := [[("value" : Str)], [("value" : Str), ("least" : Str), ("most" : Str)], [("value" : Str), ("size" : Str)], [("value" : Str), ("least" : Str), ("most" : Str), ("one" : Str), ("other" : Str), ("own" : Str)], [("value" : Str), ("own" : Str)], [("row" : Str), ("found" : Str), ("own" : Str), ("its" : Str)], [("thing" : Str)], [("one" : Str), ("other" : Str), ("own" : Str)], [("lots" : Str), ("found" : Str), ("own" : Str), ("its" : Str)], [("thing" : Str), ("own" : Str)], [("web" : Str), ("lot" : Str), ("own" : Str)], [("lot" : Str), ("own" : Str)], [("value" : Str), ("greatest" : Str), ("rules" : Str), ("own" : Str), ("its" : Str), ("one" : Str), ("other" : Str)], [("rules" : Str), ("lot" : Str), ("worth" : Str), ("less" : Str), ("own" : Str)], [("value" : Str), ("own" : Str)], [("task" : Str), ("value" : Str), ("own" : Str), ("lot" : Str), ("_" : Str)], [("thing" : Str)], [("task" : Str), ("lot" : Str), ("thing" : Str), ("own" : Str), ("its" : Str)], [("script" : Str), ("k" : Str), ("bit_so" : Str)], [("tin" : Str), ("below_so" : Str), ("once_so" : Str), ("wide_so" : Str), ("twice_so" : Str), ("drawn_so" : Str)], [("script" : Str), ("most_so" : Str), ("cells_so" : Str), ("k" : Str), ("bit_so" : Str), ("at_so" : Str)], [("tin" : Str), ("goods_so" : Str)], [("tin" : Str), ("goods_so" : Str), ("count_so" : Str), ("lap" : Str), ("pool_so" : Str), ("found" : Str)], [("matter" : Str), ("bit" : Str)], [("got" : Str), ("due" : Str), ("mine" : Str), ("its" : Str)], [("k" : Str)], [("rows_so" : Str), ("found" : Str), ("own" : Str)], [("row_so" : Str), ("found" : Str), ("own" : Str), ("its" : Str)], [("lots_so" : Str), ("rows_so" : Str), ("own" : Str), ("its" : Str), ("bit_so" : Str)], [("tin" : Str), ("pool_so" : Str), ("count_so" : Str), ("size_so" : Str), ("lap" : Str)], [("tin" : Str), ("worths_so" : Str), ("pool_so" : Str), ("tops_so" : Str), ("lots_so" : Str), ("rules_so" : Str), ("lot_so" : Str), ("found" : Str), ("own" : Str), ("a" : Str), ("b" : Str), ("its" : Str)], [("own" : Str), ("its" : Str)], [("one" : Str), ("two" : Str), ("its" : Str)], [("own" : Str), ("lots_so" : Str), ("tops_so" : Str), ("near" : Str), ("web_so" : Str), ("its" : Str), ("far" : Str), ("wide_so" : Str), ("top_so" : Str), ("lot_so" : Str), ("row_so" : Str)], [("script" : Str), ("tin" : Str), ("lap" : Str), ("six_so" : Str), ("seven_so" : Str), ("got" : Str), ("webs_so" : Str), ("worths_so" : Str), ("task_so" : Str), ("turn" : Str), ("pool_so" : Str), ("own" : Str), ("k" : Str), ("j" : Str), ("more_so" : Str), ("rules_so" : Str), ("bent_so" : Str), ("near" : Str), ("web_so" : Str), ("due" : Str), ("n" : Str), ("its" : Str)]]
def fns : List (Str × List Str) := [(("is_number" : Str), [("value" : Str)]), (("is_within" : Str), [("value" : Str), ("least" : Str), ("most" : Str)]), (("is_long" : Str), [("value" : Str), ("size" : Str)]), (("is_set_of_numbers" : Str), [("value" : Str), ("least" : Str), ("most" : Str)]), (("tupled" : Str), [("value" : Str)]), (("subsets" : Str), [("row" : Str)]), (("is_lot" : Str), [("thing" : Str)]), (("is_within_lot" : Str), [("one" : Str), ("other" : Str)]), (("greatest_among" : Str), [("lots" : Str)]), (("is_answer_web" : Str), [("thing" : Str)]), (("lies_in" : Str), [("web" : Str), ("lot" : Str)]), (("lots_within" : Str), [("lot" : Str)]), (("is_plain_in" : Str), [("value" : Str)]), (("widens_in" : Str), [("rules" : Str)]), (("sure_plain" : Str), [("value" : Str)]), (("sure_lot_of" : Str), [("task" : Str), ("value" : Str)]), (("is_plain_task" : Str), [("thing" : Str)]), (("plain_fits" : Str), [("task" : Str), ("lot" : Str), ("thing" : Str)]), (("_law_box" : Str), [("script" : Str), ("k" : Str)]), (("_law_take" : Str), [("tin" : Str), ("below_so" : Str)]), (("_law_cells" : Str), [("script" : Str), ("most_so" : Str)]), (("_law_of" : Str), [("tin" : Str), ("goods_so" : Str)]), (("_law_pick" : Str), [("tin" : Str), ("goods_so" : Str), ("count_so" : Str)]), (("_law_lists" : Str), [("matter" : Str)]), (("_law_same" : Str), [("got" : Str), ("due" : Str)]), (("_law_is_int" : Str), [("k" : Str)]), (("_law_flat" : Str), [("rows_so" : Str)]), (("_law_subsets" : Str), [("row_so" : Str)]), (("_law_greatest" : Str), [("lots_so" : Str)]), (("_law_some_lots" : Str), [("tin" : Str), ("pool_so" : Str), ("count_so" : Str), ("size_so" : Str)]), (("_law_plain" : Str), [("tin" : Str), ("worths_so" : Str), ("pool_so" : Str)]), (("_law_is_lot" : Str), [("own" : Str)]), (("_law_within" : Str), [("one" : Str), ("two" : Str)]), (("_law_is_plain" : Str), [("own" : Str)]), (("law" : Str), [("script" : Str)])]
def kws : List (Nat × List Str × List Nat) := [(17, [("thing" : Str), ("lot" : Str), ("task" : Str)], [2, 1, 0])]
def gls : List Str := [("MOST_NUMBER" : Str), ("MOST_LOTS" : Str), ("MOST_WORTHS" : Str), ("MOST_ANSWERS" : Str)]
end Pg

end
section
set_option linter.all false
set_option maxRecDepth 100000
set_option maxHeartbeats 2000000
/-! L6: what the defs of the program answer (plain tasks). -/
namespace Ev
open PySem Or
/-- data: numbers, truth values, None, lists, tuples -/
def dat : Nat → D → Bool
  | _, .non | _, .bl _ | _, .int _ => true
  | n + 1, .tup xs => decide (xs.length ≤ 1000) && xs.all (dat n)
  | n + 1, .lst xs => decide (xs.length ≤ 1000) && xs.all (dat n)
  | _, _ => false
theorem dat_ok : ∀ (n : Nat) (d : D), dat n d = true → okD n d = true
  | n, .non, _ => by cases n <;> rfl
  | n, .bl _, _ => by cases n <;> rfl
  | n, .int _, _ => by cases n <;> rfl
  | n + 1, .tup xs, h => by
    simp only [dat, Bool.and_eq_true, List.all_eq_true] at h
    simp only [okD]
    have : ∀ ys : List D, (∀ y ∈ ys, dat n y = true) → okL n ys = true := by
      intro ys
      induction ys with
      | nil => intro _; rfl
      | cons y ys ih => intro hy; rw [okL, dat_ok n y (hy y List.mem_cons_self), ih fun z hz => hy z (List.mem_cons_of_mem _ hz)]; rfl
    exact this xs h.2
  | n + 1, .lst xs, h => by
    simp only [dat, Bool.and_eq_true, List.all_eq_true] at h
    simp only [okD]
    have : ∀ ys : List D, (∀ y ∈ ys, dat n y = true) → okL n ys = true := by
      intro ys
      induction ys with
      | nil => intro _; rfl
      | cons y ys ih => intro hy; rw [okL, dat_ok n y (hy y List.mem_cons_self), ih fun z hz => hy z (List.mem_cons_of_mem _ hz)]; rfl
    exact this xs h.2
  | n, .str _, h => by cases n <;> simp [dat] at h
  | n, .dic _ _, h => by cases n <;> simp [dat] at h
  | n, .ref _, h => by cases n <;> simp [dat] at h
  | n, .fn _, h => by cases n <;> simp [dat] at h
  | n, .exc _, h => by cases n <;> simp [dat] at h
  | n, .scr _, h => by cases n <;> simp [dat] at h
  | 0, .tup _, h => by simp [dat] at h
  | 0, .lst _, h => by simp [dat] at h
theorem okD_mono : ∀ (n m : Nat) (d : D), n ≤ m → okD n d = true → okD m d = true
  | n, m, .non, _, _ => by cases m <;> rfl
  | n, m, .bl _, _, _ => by cases m <;> rfl
  | n, m, .int _, _, _ => by cases m <;> rfl
  | n, m, .str _, _, h => by cases n <;> cases m <;> exact h
  | n + 1, m + 1, .tup xs, hl, h => by
    simp only [okD] at h ⊢
    have : ∀ ys : List D, okL n ys = true → okL m ys = true := by
      intro ys
      induction ys with
      | nil => intro _; rfl
      | cons y ys ih =>
        intro hy
        simp only [okL, Bool.and_eq_true] at hy ⊢
        exact ⟨okD_mono n m y (by omega) hy.1, ih hy.2⟩
    exact this xs h
  | n + 1, m + 1, .lst xs, hl, h => by
    simp only [okD] at h ⊢
    have : ∀ ys : List D, okL n ys = true → okL m ys = true := by
      intro ys
      induction ys with
      | nil => intro _; rfl
      | cons y ys ih =>
        intro hy
        simp only [okL, Bool.and_eq_true] at hy ⊢
        exact ⟨okD_mono n m y (by omega) hy.1, ih hy.2⟩
    exact this xs h
  | 0, m, .tup _, _, h => by simp [okD] at h
  | 0, m, .lst _, _, h => by simp [okD] at h
  | n, m, .dic _ _, _, h => by cases n <;> simp [okD] at h
  | n, m, .ref _, _, h => by cases n <;> simp [okD] at h
  | n, m, .fn _, _, h => by cases n <;> simp [okD] at h
  | n, m, .exc _, _, h => by cases n <;> simp [okD] at h
  | n, m, .scr _, _, h => by cases n <;> simp [okD] at h
  | n + 1, 0, .tup _, hl, _ => by omega
  | n + 1, 0, .lst _, hl, _ => by omega
theorem dat_deep {n : Nat} {d : D} (hn : n ≤ 60) (h : dat n d = true) : okD deep d = true := okD_mono n 60 d hn (dat_ok n d h)
def isNum : D → Bool
  | .int _ => true
  | _ => false
def isW (lo hi : Int) : D → Bool
  | .int i => decide (lo ≤ i ∧ i ≤ hi)
  | _ => false
def isSet (lo hi : Int) : D → Bool
  | .tup xs => match intsOf xs with
    | some l => l.all (fun i => decide (lo ≤ i ∧ i ≤ hi)) && chain ltI l
    | none => false
  | _ => false
def isLot : D → Bool
  | .tup xs => match intsOf xs with
    | some l => okLot l
    | none => false
  | _ => false
theorem intsOf_map : ∀ l : List Int, intsOf (l.map .int) = some l
  | [] => rfl
  | x :: xs => by rw [List.map_cons, intsOf, intsOf_map xs]; rfl
theorem intsOf_some : ∀ {xs : List D} {l : List Int}, intsOf xs = some l → xs = l.map .int
  | [], l, h => by cases h; rfl
  | .int i :: xs, l, h => by
    obtain ⟨m, e, rfl⟩ := Option.map_eq_some_iff.mp h
    rw [intsOf_some e]; rfl
  | .non :: _, _, h => by simp [intsOf] at h
  | .bl _ :: _, _, h => by simp [intsOf] at h
  | .str _ :: _, _, h => by simp [intsOf] at h
  | .tup _ :: _, _, h => by simp [intsOf] at h
  | .lst _ :: _, _, h => by simp [intsOf] at h
  | .dic _ _ :: _, _, h => by simp [intsOf] at h
  | .ref _ :: _, _, h => by simp [intsOf] at h
  | .fn _ :: _, _, h => by simp [intsOf] at h
  | .exc _ :: _, _, h => by simp [intsOf] at h
  | .scr _ :: _, _, h => by simp [intsOf] at h
theorem allW_ints {lo hi : Int} : ∀ {xs : List D}, xs.all (isW lo hi) = true → ∃ l : List Int, xs = l.map .int ∧ l.all (fun i => decide (lo ≤ i ∧ i ≤ hi)) = true
  | [], _ => ⟨[], rfl, rfl⟩
  | x :: xs, h => by
    rw [List.all_cons, Bool.and_eq_true] at h
    obtain ⟨l, rfl, h2⟩ := allW_ints h.2
    cases x <;> simp only [isW, Bool.false_eq_true, false_and] at h
    rename_i i
    exact ⟨i :: l, rfl, by rw [List.all_cons, h.1, h2]; rfl⟩
theorem allW_map (lo hi : Int) (l : List Int) : (l.map D.int).all (isW lo hi) = l.all fun i => decide (lo ≤ i ∧ i ≤ hi) := by rw [List.all_map]; rfl
theorem isSet_no {lo hi : Int} {xs : List D} (h : xs.all (isW lo hi) = false) : isSet lo hi (.tup xs) = false := by
  simp only [isSet]
  cases e : intsOf xs with
  | none => rfl
  | some l =>
    rw [intsOf_some e, allW_map] at h
    simp only [h, Bool.false_and]
theorem isSet_map (lo hi : Int) (l : List Int) : isSet lo hi (lotD l) = (l.all (fun i => decide (lo ≤ i ∧ i ≤ hi)) && chain ltI l) := by
  simp only [isSet, intsOf_map]
theorem isLot_set (d : D) : isLot d = (isSet 0 1000000 d && match d with | .tup (_ :: _) => true | _ => false) := by
  cases d <;> try rfl
  rename_i xs
  simp only [isLot, isSet]
  cases e : intsOf xs with
  | none => rfl
  | some l =>
    rw [intsOf_some e]
    cases l with
    | nil => rfl
    | cons i l => simp [okLot]
theorem cut_tail (xs : List D) : cutL xs (some 1) none = xs.drop 1 := by
  unfold cutL
  cases xs with
  | nil => rfl
  | cons x xs =>
    have : clipI (x :: xs).length 0 (some 1) = 1 := by simp [clipI]
    rw [this]
    show ((x :: xs).drop 1).take ((x :: xs).length - 1) = _
    simp
/-- neighbours, as the program takes them -/
theorem zip_chain {α : Type} {f : α → D} {p : D → Bool} {lt : α → α → Bool} (e : ∀ a b, p (.tup [f a, f b]) = lt a b) : ∀ l : List α, (zipL (l.map f) ((l.map f).drop 1)).all p = chain lt l
  | [] => rfl
  | [a] => rfl
  | a :: b :: r => by
    have ih := zip_chain e (b :: r)
    simp only [List.map_cons, List.drop_succ_cons, List.drop_zero] at ih ⊢
    rw [zipL, List.all_cons, e, ih]; rfl
theorem zip_mem {α : Type} {f : α → D} : ∀ {l m : List α} {x : D}, x ∈ zipL (l.map f) (m.map f) → ∃ a b, a ∈ l ∧ b ∈ m ∧ x = .tup [f a, f b]
  | [], _, x, h => by simp [zipL] at h
  | _ :: _, [], x, h => by simp [zipL] at h
  | a :: l, b :: m, x, h => by
    rw [List.map_cons, List.map_cons, zipL] at h
    rcases List.mem_cons.mp h with h | h
    · exact ⟨a, b, List.mem_cons_self, List.mem_cons_self, h⟩
    · obtain ⟨a', b', h1, h2, h3⟩ := zip_mem h
      exact ⟨a', b', List.mem_cons_of_mem _ h1, List.mem_cons_of_mem _ h2, h3⟩
theorem zipL_length : ∀ xs ys : List D, (zipL xs ys).length ≤ xs.length
  | [], _ => by simp [zipL]
  | _ :: _, [] => by simp [zipL]
  | x :: xs, y :: ys => by rw [zipL, List.length_cons, List.length_cons]; have := zipL_length xs ys; omega
def lt2 : D → Bool
  | .tup [.int a, .int b] => decide (a < b)
  | _ => false
end Ev
namespace Pg
open PySem Ev Or
theorem run_0 (n : Nat) (ds : List D) (h : AH) : runN G T (n + 1) 0 ds h = run1 (runN G T n) G f_is_number ds h := rfl
theorem run_1 (n : Nat) (ds : List D) (h : AH) : runN G T (n + 1) 1 ds h = run1 (runN G T n) G f_is_within ds h := rfl
theorem run_2 (n : Nat) (ds : List D) (h : AH) : runN G T (n + 1) 2 ds h = run1 (runN G T n) G f_is_long ds h := rfl
theorem run_3 (n : Nat) (ds : List D) (h : AH) : runN G T (n + 1) 3 ds h = run1 (runN G T n) G f_is_set_of_numbers ds h := rfl
theorem run_4 (n : Nat) (ds : List D) (h : AH) : runN G T (n + 1) 4 ds h = run1 (runN G T n) G f_tupled ds h := rfl
theorem run_5 (n : Nat) (ds : List D) (h : AH) : runN G T (n + 1) 5 ds h = run1 (runN G T n) G f_subsets ds h := rfl
theorem run_6 (n : Nat) (ds : List D) (h : AH) : runN G T (n + 1) 6 ds h = run1 (runN G T n) G f_is_lot ds h := rfl
theorem run_7 (n : Nat) (ds : List D) (h : AH) : runN G T (n + 1) 7 ds h = run1 (runN G T n) G f_is_within_lot ds h := rfl
theorem run_8 (n : Nat) (ds : List D) (h : AH) : runN G T (n + 1) 8 ds h = run1 (runN G T n) G f_greatest_among ds h := rfl
theorem run_9 (n : Nat) (ds : List D) (h : AH) : runN G T (n + 1) 9 ds h = run1 (runN G T n) G f_is_answer_web ds h := rfl
theorem run_10 (n : Nat) (ds : List D) (h : AH) : runN G T (n + 1) 10 ds h = run1 (runN G T n) G f_lies_in ds h := rfl
theorem run_11 (n : Nat) (ds : List D) (h : AH) : runN G T (n + 1) 11 ds h = run1 (runN G T n) G f_lots_within ds h := rfl
theorem run_12 (n : Nat) (ds : List D) (h : AH) : runN G T (n + 1) 12 ds h = run1 (runN G T n) G f_is_plain_in ds h := rfl
theorem run_13 (n : Nat) (ds : List D) (h : AH) : runN G T (n + 1) 13 ds h = run1 (runN G T n) G f_widens_in ds h := rfl
theorem run_14 (n : Nat) (ds : List D) (h : AH) : runN G T (n + 1) 14 ds h = run1 (runN G T n) G f_sure_plain ds h := rfl
theorem run_15 (n : Nat) (ds : List D) (h : AH) : runN G T (n + 1) 15 ds h = run1 (runN G T n) G f_sure_lot_of ds h := rfl
theorem run_16 (n : Nat) (ds : List D) (h : AH) : runN G T (n + 1) 16 ds h = run1 (runN G T n) G f_is_plain_task ds h := rfl
theorem run_17 (n : Nat) (ds : List D) (h : AH) : runN G T (n + 1) 17 ds h = run1 (runN G T n) G f_plain_fits ds h := rfl
@[simp] theorem g_0 : G.consts[0]? = some (.int 1000000) := rfl
@[simp] theorem g_1 : G.consts[1]? = some (.int 12) := rfl
@[simp] theorem g_2 : G.consts[2]? = some (.int 6) := rfl
@[simp] theorem g_3 : G.consts[3]? = some (.int 40) := rfl
theorem c_is_number {k : Nat} (n : Nat) (d : D) (h : AH) (hd : dat k d = true) : runN G T (n + 1) 0 [d] h = .ok (.bl (isNum d)) h := by
  rw [run_0]
  cases d <;> first
    | (cases k <;> simp [dat] at hd; done)
    | simp [run1, f_is_number, isI, isNum]
theorem c_is_within {k : Nat} (n : Nat) (d : D) (lo hi : Int) (h : AH) (hd : dat k d = true) : runN G T (n + 2) 1 [d, .int lo, .int hi] h = .ok (.bl (isW lo hi d)) h := by
  rw [run_1]
  have e := c_is_number n d h hd
  cases d <;> first
    | (cases k <;> simp [dat] at hd; done)
    | (simp [run1, f_is_within, e, isNum, isW]; done)
    | skip
  rename_i i
  simp only [isNum] at e
  simp [run1, f_is_within, e, isW]
  by_cases h1 : lo ≤ i <;> simp [h1]
theorem c_is_set {k : Nat} (n : Nat) (d : D) (lo hi : Int) (h : AH) (hd : dat k d = true) : runN G T (n + 3) 3 [d, .int lo, .int hi] h = .ok (.bl (isSet lo hi d)) h := by
  rw [run_3]
  cases d <;> first
    | (cases k <;> simp [dat] at hd; done)
    | (simp [run1, f_is_set_of_numbers, isI, isSet]; done)
    | skip
  rename_i xs
  cases k with
  | zero => simp [dat] at hd
  | succ k =>
    simp only [dat, Bool.and_eq_true, decide_eq_true_eq, List.all_eq_true] at hd
    have e1 : ev (runN G T (n + 2)) G (.lc (.cl (.nm 5) (.var 0) [] (.yl (.call 1 [(.var 5), (.var 1), (.var 2)] [])))) [some (.val (.tup xs)), some (.val (.int lo)), some (.val (.int hi)), none, none, none] h = .ok (.lst (xs.map fun x => .bl (isW lo hi x))) h :=
      lc1 (fun x => .bl (isW lo hi x)) rfl rfl (by omega) fun x hx => by
        have := c_is_within n x lo hi h (hd.2 x hx)
        simp [this]
    cases ha : xs.all (isW lo hi) with
    | false =>
      simp [run1, f_is_set_of_numbers, isI, e1, ha, isSet_no ha]
    | true =>
      obtain ⟨l, rfl, hl⟩ := allW_ints ha
      have e2 : ev (runN G T (n + 2)) G (.lc (.cl (.tp [3, 4]) (.zip (.var 0) (.cut (.var 0) (some (.con (.int 1))) none)) [] (.yl (.cmp .lt (.var 3) (.var 4))))) [some (.val (lotD l)), some (.val (.int lo)), some (.val (.int hi)), none, none, none] h = .ok (.lst ((zipL (l.map .int) ((l.map .int).drop 1)).map fun x => .bl (lt2 x))) h :=
        lc2t (d := .lst (zipL (l.map .int) ((l.map D.int).drop 1))) (fun x => .bl (lt2 x)) (by simp [-List.drop_one, optI, cutD, cut_tail, zipD]) rfl (by have := zipL_length (l.map .int) ((l.map D.int).drop 1); omega) fun x hx => by
          rw [← List.map_drop] at hx
          obtain ⟨a, b, _, _, rfl⟩ := zip_mem hx
          exact ⟨_, _, rfl, by simp [lt2]⟩
      simp only [lotD] at e2
      rw [isSet_map, hl]
      simp [-List.map_map, -List.all_map, -List.drop_one, run1, f_is_set_of_numbers, isI, e1, ha, e2, zip_chain (f := D.int) (p := lt2) (lt := ltI) (fun a b => rfl) l]
theorem eq_unit {xs : List D} (h : okD deep (.tup xs) = true) : dEq (.tup xs) (.tup []) = some xs.isEmpty := by
  rw [dEq_of h rfl]
  cases xs <;> rfl
theorem c_is_lot {k : Nat} (n : Nat) (d : D) (h : AH) (hk : k ≤ 60) (hd : dat k d = true) : runN G T (n + 4) 6 [d] h = .ok (.bl (isLot d)) h := by
  rw [run_6]
  have e := c_is_set n d 0 1000000 h hd
  have dd := dat_deep hk hd
  rw [isLot_set]
  simp [run1, f_is_lot, e]
  cases hs : isSet 0 1000000 d with
  | false => simp
  | true =>
    cases d <;> simp [isSet] at hs
    rename_i xs
    simp [cmpop, eq_unit dd]
    cases xs <;> rfl
end Pg

end
section
set_option linter.all false
set_option maxRecDepth 100000
set_option maxHeartbeats 4000000
/-! L7: what the defs of the program answer (plain tasks), on. -/
namespace Ev
open PySem Or
def dec {α : Type} (f : D → Option α) : List D → Option (List α)
  | [] => some []
  | x :: xs => (f x).bind fun a => (dec f xs).map (a :: ·)
theorem dec_some {α : Type} {f : D → Option α} {g : α → D} (e : ∀ d a, f d = some a → d = g a) : ∀ {xs : List D} {l : List α}, dec f xs = some l → xs = l.map g
  | [], l, h => by cases h; rfl
  | x :: xs, l, h => by
    obtain ⟨a, h1, h⟩ := Option.bind_eq_some_iff.mp h
    obtain ⟨m, h2, rfl⟩ := Option.map_eq_some_iff.mp h
    rw [List.map_cons, ← e _ _ h1, ← dec_some e h2]
theorem dec_map {α : Type} {f : D → Option α} {g : α → D} (e : ∀ a, f (g a) = some a) : ∀ l : List α, dec f (l.map g) = some l
  | [] => rfl
  | x :: xs => by rw [List.map_cons, dec, e, dec_map e xs]; rfl
def lotOf : D → Option Lot
  | .tup xs => intsOf xs
  | _ => none
def webOf : D → Option Web
  | .tup xs => dec lotOf xs
  | _ => none
def ruleOf : D → Option (Lot × Web)
  | .tup [a, b] => (lotOf a).bind fun l => (webOf b).map fun w => (l, w)
  | _ => none
def taskOf : D → Option Tk
  | .tup xs => dec ruleOf xs
  | _ => none
def isWeb (d : D) : Bool := match webOf d with
  | some w => okWeb w
  | none => false
def isPlain (d : D) : Bool := match taskOf d with
  | some t => okT t && good t
  | none => false
theorem lotOf_map (l : Lot) : lotOf (lotD l) = some l := intsOf_map l
theorem webOf_map (w : Web) : webOf (webD w) = some w := dec_map lotOf_map w
theorem ruleOf_map (p : Lot × Web) : ruleOf (ruleD p) = some p := by simp only [ruleOf, ruleD, lotOf_map, webOf_map]; rfl
theorem taskOf_map (t : Tk) : taskOf (taskD t) = some t := dec_map ruleOf_map t
theorem lotOf_some {d : D} {l : Lot} (h : lotOf d = some l) : d = lotD l := by
  cases d <;> simp only [lotOf, reduceCtorEq] at h
  rw [intsOf_some h]
theorem webOf_some {d : D} {w : Web} (h : webOf d = some w) : d = webD w := by
  cases d <;> simp only [webOf, reduceCtorEq] at h
  rw [dec_some (fun d a => lotOf_some) h]
theorem ruleOf_some {d : D} {p : Lot × Web} (h : ruleOf d = some p) : d = ruleD p := by
  unfold ruleOf at h
  split at h
  · obtain ⟨l, h1, h⟩ := Option.bind_eq_some_iff.mp h
    obtain ⟨w, h2, rfl⟩ := Option.map_eq_some_iff.mp h
    rw [lotOf_some h1, webOf_some h2]
  · cases h
theorem isLot_map (l : Lot) : isLot (lotD l) = okLot l := by simp only [isLot, intsOf_map]
theorem isLot_some {d : D} (h : isLot d = true) : ∃ l, d = lotD l ∧ okLot l = true := by
  cases d <;> simp only [isLot, Bool.false_eq_true] at h
  rename_i xs
  cases e : intsOf xs with
  | none => rw [e] at h; cases h
  | some l => rw [e] at h; exact ⟨l, by rw [intsOf_some e], h⟩
theorem all_lots : ∀ {xs : List D}, xs.all isLot = true → ∃ w : Web, xs = w.map lotD ∧ w.all okLot = true
  | [], _ => ⟨[], rfl, rfl⟩
  | x :: xs, h => by
    rw [List.all_cons, Bool.and_eq_true] at h
    obtain ⟨l, rfl, hl⟩ := isLot_some h.1
    obtain ⟨w, rfl, hw⟩ := all_lots h.2
    exact ⟨l :: w, rfl, by rw [List.all_cons, hl, hw]; rfl⟩
theorem isWeb_no {xs : List D} (h : xs.all isLot = false) : isWeb (.tup xs) = false := by
  unfold isWeb
  cases e : webOf (.tup xs) with
  | none => rfl
  | some w =>
    have ew := webOf_some e
    cases ew
    have e2 : (w.map lotD).all isLot = w.all okLot := by
      rw [List.all_map]
      congr 1
      funext x
      exact isLot_map x
    rw [e2] at h
    simp [okWeb, h]
theorem isWeb_len {xs : List D} (h : ¬ (1 ≤ xs.length ∧ xs.length ≤ 40)) : isWeb (.tup xs) = false := by
  unfold isWeb
  cases e : webOf (.tup xs) with
  | none => rfl
  | some w =>
    have ew := webOf_some e
    cases ew
    rw [List.length_map] at h
    simp only [okWeb, decide_eq_false h, Bool.false_and]
theorem isWeb_map (w : Web) : isWeb (webD w) = okWeb w := by unfold isWeb; rw [webOf_map]
theorem lots_ne {w : List Lot} (h : w.all okLot = true) : ∀ x ∈ w, x ≠ [] := fun x hx e => by
  have := List.all_eq_true.mp h x hx
  rw [e] at this
  simp [okLot] at this
theorem lots_asc {w : List Lot} (h : w.all okLot = true) : ∀ x ∈ w, Asc ltI x := fun x hx => okLot_asc (List.all_eq_true.mp h x hx)
/-! dicts of rules -/
theorem findK_lot (k : Lot) : ∀ ks : List Lot, findK (lotD k) (ks.map lotD) = ks.findIdx? fun x => decide (x = k)
  | [] => rfl
  | x :: xs => by
    rw [List.map_cons, findK, eqv_lot, findK_lot k xs, List.findIdx?_cons]
theorem fit_lots (k : Lot) (ks : List Lot) : fitK (lotD k) (ks.map lotD) = true := by
  unfold fitK
  rw [okK_lot]
  cases ks with
  | nil => rfl
  | cons _ _ => rfl
theorem dict_rules : ∀ (t : Tk) (ks : List Lot) (vs : List D), (ks ++ keys t).Nodup → ks.length = vs.length → ks.length + t.length ≤ 100000 → dictOf (t.map ruleD) (ks.map lotD) vs = some ((ks ++ keys t).map lotD, vs ++ t.map fun p => webD p.2)
  | [], ks, vs, _, _, _ => by simp [dictOf, keys]
  | p :: t, ks, vs, nd, hl, hz => by
    have e : ks ++ keys (p :: t) = (ks ++ [p.1]) ++ keys t := by simp [keys]
    rw [e] at nd ⊢
    have nf : ks.findIdx? (fun x => decide (x = p.1)) = none := by
      rw [List.findIdx?_eq_none_iff]
      intro x hx
      have := (List.nodup_append.mp (List.nodup_append.mp nd).1).2.2 x hx p.1 (by simp)
      simpa using this
    have pk : putK (ks.map lotD) vs (lotD p.1) (webD p.2) = ((ks ++ [p.1]).map lotD, vs ++ [webD p.2]) := by
      unfold putK
      rw [findK_lot, nf]
      simp
    simp only [List.length_cons] at hz
    rw [List.map_cons]
    show dictOf (.tup [lotD p.1, webD p.2] :: t.map ruleD) (ks.map lotD) vs = _
    unfold dictOf
    rw [fit_lots, if_pos (by rw [List.length_map, mul_line]; simp; omega), pk, dict_rules t (ks ++ [p.1]) (vs ++ [webD p.2]) nd (by simp [hl]) (by simp; omega)]
    simp
theorem cast_rules {t : Tk} (nd : (keys t).Nodup) (hz : t.length ≤ 100000) : castD .dict (taskD t) = some (.dic ((keys t).map lotD) (t.map fun p => webD p.2)) := by
  have h1 : (t.map ruleD).all keyT = true := by simp [keyT]
  have := dict_rules t [] [] (by simpa using nd) rfl (by simpa using hz)
  show (if ((t.map ruleD).all keyT && decide ((t.map ruleD).length ≤ line)) = true then (dictOf (t.map ruleD) [] []).map fun p => D.dic p.1 p.2 else none) = _
  rw [h1, decide_eq_true (by rw [List.length_map, mul_line]; omega)]
  have this : dictOf (t.map ruleD) [] [] = _ := this
  rw [this]
  rfl
theorem in_rules (t : Tk) (vs : List D) (k : Lot) : inD (lotD k) (.dic ((keys t).map lotD) vs) = some ((keys t).contains k) := by
  simp only [inD, fit_lots, if_true, findK_lot]
  congr 1
  rw [Bool.eq_iff_iff, List.contains_iff_mem]
  cases e : (keys t).findIdx? fun x => decide (x = k) with
  | none =>
    rw [List.findIdx?_eq_none_iff] at e
    simp only [Option.isSome_none, Bool.false_eq_true, false_iff]
    intro h
    have := e k h
    simp at this
  | some i =>
    obtain ⟨h1, h2, _⟩ := List.findIdx?_eq_some_iff_getElem.mp e
    simp only [Option.isSome_some, true_iff]
    rw [decide_eq_true_eq] at h2
    rw [← h2]; exact List.getElem_mem h1
theorem sub_rules {t : Tk} {k : Lot} (h : k ∈ keys t) : subD (.dic ((keys t).map lotD) (t.map fun p => webD p.2)) (lotD k) = some (webD (rule t k)) := by
  simp only [subD, fit_lots, if_true, findK_lot]
  have key : ∀ t : Tk, k ∈ keys t → ((keys t).findIdx? fun x => decide (x = k)).bind (fun j => (t.map fun p => webD p.2)[j]?) = some (webD (rule t k)) := by
    intro t
    induction t with
    | nil => intro h; simp [keys] at h
    | cons p t ih =>
      intro h
      simp only [keys, List.map_cons, List.findIdx?_cons]
      by_cases e : p.1 = k
      · simp [e, Or.rule]
      · have h2 : k ∈ keys t := by
          simp only [keys, List.map_cons, List.mem_cons] at h
          rcases h with h | h
          · exact absurd h.symm e
          · exact h
        have ih := ih h2
        have er : rule (p :: t) k = rule t k := by simp [Or.rule, e]
        rw [er, ← ih]
        simp only [e, decide_false, Bool.false_eq_true, if_false]
        simp only [keys]
        cases (t.map (·.1)).findIdx? fun x => decide (x = k) <;> simp
  exact key t h
end Ev
namespace Pg
open PySem Ev Or
theorem c_is_long {k : Nat} (n : Nat) (d : D) (h : AH) (hd : dat k d = true) : runN G T (n + 1) 2 [d, .int 2] h = .ok (.bl (match d with | .tup xs => decide (xs.length = 2) | _ => false)) h := by
  rw [run_2]
  cases d <;> first
    | (cases k <;> simp [dat] at hd; done)
    | (simp [run1, f_is_long, isI]; done)
    | (simp [run1, f_is_long, isI, builtin]; omega)
theorem c_within (n : Nat) (a b : Lot) (h : AH) (hl : a.length ≤ 5000) : runN G T (n + 1) 7 [lotD a, lotD b] h = .ok (.bl (sub a b)) h := by
  rw [run_7]
  have e1 : ev (runN G T n) G (.lc (.cl (.nm 2) (.var 0) [] (.yl (.cmp .isin (.var 2) (.var 1))))) [some (.val (lotD a)), some (.val (lotD b)), none] h = .ok (.lst (a.map fun i => .bl (b.contains i))) h :=
    lcm D.int (fun i => .bl (b.contains i)) rfl rfl (by omega) fun x hx => by simp [cmpop, in_ints x b _ (.inl rfl)]
  simp only [lotD] at e1
  simp [-List.map_map, -List.contains_eq_mem, run1, f_is_within_lot, e1, sub]
theorem c_lies (n : Nat) (w : Web) (x : Lot) (h : AH) (hl : w.length ≤ 5000) (hx : x.length ≤ 5000) : runN G T (n + 2) 10 [webD w, lotD x] h = .ok (.bl (lies w x)) h := by
  rw [run_10]
  have e1 : ev (runN G T (n + 1)) G (.lc (.cl (.nm 2) (.var 0) [] (.yl (.call 7 [(.var 1), (.var 2)] [])))) [some (.val (webD w)), some (.val (lotD x)), none] h = .ok (.lst (w.map fun y => .bl (sub x y))) h :=
    lcm lotD (fun y => .bl (sub x y)) rfl rfl (by omega) fun y hy => by
      have := c_within n x y h hx
      simp only [lotD] at this
      simp [this]
  simp only [webD, lotD] at e1
  simp [-List.map_map, run1, f_lies_in, e1, lies]
/-- found = found + [its + (own,) for its in found] -/
theorem subs_step (f : List Lot) (o : Int) : (f.map lotD ++ f.map fun y => lotD (y ++ [o])) = (f ++ f.map (· ++ [o])).map lotD := by simp
theorem subs_loop {F : Fs} (h : AH) (l0 : D) : ∀ (todo : List Int) (f : List Lot) (sl : Slots), f.length * 2 ^ todo.length ≤ 4096 → (∀ x ∈ f, x.length + todo.length ≤ 12) → (∃ c, sl = [some (.val l0), some (.val (.lst (f.map lotD))), c, none]) →
      ∃ sl', forR (fun d sl h => (R.opt h (setTg sl (.nm 2) d)).bind fun sl h => xcs F G [.set 1 (.bin .add (.var 1) (.lc (.cl (.nm 3) (.var 1) [] (.yl (.bin .add (.var 3) (.tup [(.var 2)]))))))] sl h) (todo.map .int) sl h = .ok (.nx sl') h ∧
        ∃ c, sl' = [some (.val l0), some (.val (.lst ((todo.foldl (fun f o => f ++ f.map (· ++ [o])) f).map lotD))), c, none] := by
    intro todo
    induction todo with
    | nil => intro f sl _ _ hs; exact ⟨sl, rfl, hs⟩
    | cons o todo ih =>
      rintro f sl hz hx ⟨c, rfl⟩
      have hz2 : f.length * 2 ^ todo.length * 2 ≤ 4096 := by
        rw [List.length_cons, Nat.pow_succ] at hz
        rw [Nat.mul_assoc]; exact hz
      have fl : f.length ≤ f.length * 2 ^ todo.length := Nat.le_mul_of_pos_right _ (Nat.pow_pos (by decide))
      have e1 : ev F G (.lc (.cl (.nm 3) (.var 1) [] (.yl (.bin .add (.var 3) (.tup [(.var 2)]))))) [some (.val l0), some (.val (.lst (f.map lotD))), some (.val (.int o)), none] h = .ok (.lst (f.map fun y => lotD (y ++ [o]))) h :=
        lcm lotD (fun y => lotD (y ++ [o])) rfl rfl (by omega) fun y hy => by
          have := hx y hy
          have lz : y.length + 1 ≤ line := by rw [mul_line]; omega
          simp [binop, lz]
      obtain ⟨sl', e2, i2⟩ := ih (f ++ f.map (· ++ [o])) [some (.val l0), some (.val (.lst ((f ++ f.map (· ++ [o])).map lotD))), some (.val (.int o)), none] (by
        rw [List.length_append, List.length_map, Nat.add_mul]; omega) (fun x hxm => by
        rcases List.mem_append.mp hxm with hxm | hxm
        · have := hx x hxm; simp only [List.length_cons] at this; omega
        · obtain ⟨y, hy, rfl⟩ := List.mem_map.mp hxm
          have := hx y hy; simp only [List.length_cons, List.length_append, List.length_nil] at this ⊢; omega) ⟨_, rfl⟩
      refine ⟨sl', ?_, i2⟩
      rw [List.map_cons, forR]
      have lz : f.length + f.length ≤ line := by rw [mul_line]; omega
      simp only [lotD] at e1
      simp only [setTg_nm, ro_some, rb_ok, setS_eq, xcs_s, xc_set, ev_bin, ev_var, getS_s, getS_0, List.set_cons_succ, List.set_cons_zero, e1, binop, List.length_map, lz, if_true, xcs_0]
      rw [← subs_step] at e2
      exact e2
theorem c_subsets (n : Nat) (l : Lot) (h : AH) (hl : l.length ≤ 12) : runN G T (n + 1) 5 [lotD l] h = .ok (.lst ((subs l).map lotD)) h := by
  rw [run_5]
  obtain ⟨sl', e2, c, rfl⟩ := subs_loop (F := runN G T n) h (lotD l) l [[]] [some (.val (lotD l)), some (.val (.lst (([[]] : List Lot).map lotD))), none, none] (by
    have : 2 ^ l.length ≤ 2 ^ 12 := Nat.pow_le_pow_right (by decide) hl
    simp; omega) (fun x hx => by simp at hx; simp [hx]; omega) ⟨_, rfl⟩
  simp [lotD, run1, f_subsets, items]
  simp [lotD] at e2
  rw [e2]
  simp [subs]
theorem c_lots_within (n : Nat) (l : Lot) (h : AH) (hl : l.length ≤ 12) : runN G T (n + 2) 11 [lotD l] h = .ok (.lst (((subs l).filter fun x => !x.isEmpty).map lotD)) h := by
  rw [run_11]
  have e0 := c_subsets n l h hl
  have ln : (subs l).length ≤ 4096 := by
    rw [subs_len]
    exact Nat.pow_le_pow_right (by decide) hl
  have e1 : ev (runN G T (n + 1)) G (.lc (.cl (.nm 1) (.call 5 [(.var 0)] []) [(.cmp .ne (.var 1) (.tup []))] (.yl (.var 1)))) [some (.val (lotD l)), none] h = .ok (.lst (((subs l).filter fun x => !x.isEmpty).map lotD)) h :=
    lcmf lotD (d := .lst ((subs l).map lotD)) (fun x => !x.isEmpty) lotD (by simp only [lotD] at e0; simp [e0]) rfl (by omega) (fun x hx => by
      have := eq_unit (xs := x.map D.int) (okD_lot 59 x)
      simp [cmpop, this]) (fun x hx _ => by simp)
  simp only [lotD] at e1
  simp [run1, f_lots_within, e1]
end Pg

end
section
set_option linter.all false
set_option maxRecDepth 100000
set_option maxHeartbeats 4000000
/-! L8: what is a plain task, by the program. -/
namespace Pg
open PySem Ev Or
theorem c_greatest (n : Nat) (d : D) (ls : List Lot) (h : AH) (hd : seqs d = some (ls.map lotD)) (ok : ls.all okLot = true) (hz : ls.length ≤ 1000) (hs : ∀ x ∈ ls, x.length ≤ 5000) : runN G T (n + 2) 8 [d] h = .ok (webD (great ls)) h := by
  rw [run_8, ← great_two (lots_asc ok)]
  have e0 := sset_lots ls (by omega) (lots_ne ok) hd
  have sl0 : (sset ltL ls).length ≤ 1000 := Nat.le_trans (sset_len ls) hz
  have p := srt_perm leLen (sset ltL ls)
  have e1 := sortLen_down (runN G T (n + 1)) (sset ltL ls) h (by omega)
  have mem : ∀ x ∈ srt leLen (sset ltL ls), x ∈ ls := fun x hx => sset_mem.mp (p.mem_iff.mp hx)
  -- the loop
  have loop := for_fold (h := h) lotD (body := fun d' sl h => (R.opt h (setTg sl (.nm 2) d')).bind fun sl h => xcs (runN G T (n + 1)) G [.ite (.not (.bi .any [(.lc (.cl (.nm 3) (.bsl 1) [] (.yl (.call 7 [(.var 2), (.var 3)] []))))])) [.app (.sl 1) (.var 2)] []] sl h)
    (fun (found : List Lot) sl => (∃ c, sl = [some (.val d), some (.own (.lst (found.map lotD))), c, none]) ∧ found.length ≤ 1000 ∧ (∀ x ∈ found, x ∈ ls) ∧ ∃ done todo, srt leLen (sset ltL ls) = done ++ todo ∧ found.length ≤ done.length ∧ (sl.length = 4)) keep
  have run : ∀ (todo done found : List Lot) (c : Option Cell), srt leLen (sset ltL ls) = done ++ todo → found.length ≤ done.length → (∀ x ∈ found, x ∈ ls) →
      ∃ c', forR (fun d' sl h => (R.opt h (setTg sl (.nm 2) d')).bind fun sl h => xcs (runN G T (n + 1)) G [.ite (.not (.bi .any [(.lc (.cl (.nm 3) (.bsl 1) [] (.yl (.call 7 [(.var 2), (.var 3)] []))))])) [.app (.sl 1) (.var 2)] []] sl h) (todo.map lotD) [some (.val d), some (.own (.lst (found.map lotD))), c, none] h
        = .ok (.nx [some (.val d), some (.own (.lst ((todo.foldl keep found).map lotD))), c', none]) h := by
    clear loop
    intro todo
    induction todo with
    | nil => intro done found c _ _ _; exact ⟨c, rfl⟩
    | cons x todo ih =>
      intro done found c hsp hlen hf
      have dl : done.length + (todo.length + 1) ≤ 1000 := by
        have := congrArg List.length hsp
        rw [p.length_eq, List.length_append, List.length_cons] at this
        omega
      have xl : x ∈ ls := mem x (by rw [hsp]; simp)
      have e2 : ev (runN G T (n + 1)) G (.lc (.cl (.nm 3) (.bsl 1) [] (.yl (.call 7 [(.var 2), (.var 3)] [])))) [some (.val d), some (.own (.lst (found.map lotD))), some (.val (lotD x)), none] h = .ok (.lst (found.map fun y => .bl (sub x y))) h :=
        lcm lotD (d := .lst (found.map lotD)) (fun y => .bl (sub x y)) (by simp [getOL]) rfl (by omega) fun y hy => by
          have := c_within n x y h (hs x xl)
          simp only [lotD] at this
          simp [this]
      rw [List.map_cons, forR]
      simp only [lotD] at e2
      obtain ⟨c', e3⟩ := ih (done ++ [x]) (keep found x) (some (.val (lotD x))) (by rw [hsp]; simp) (by unfold keep; split <;> simp <;> omega) (fun y hy => by
        unfold keep at hy
        split at hy
        · exact hf y hy
        · rcases List.mem_append.mp hy with hy | hy
          · exact hf y hy
          · rw [List.mem_singleton.mp hy]; exact xl)
      refine ⟨c', ?_⟩
      rw [List.foldl_cons]
      have lz : found.length < line := by rw [mul_line]; omega
      cases hk : found.any fun y => sub x y with
      | true =>
        have ek : keep found x = found := by unfold keep; rw [hk]; rfl
        rw [ek] at e3 ⊢
        simp [-List.map_map, lotD, e2, hk] at e3 ⊢
        exact e3
      | false =>
        have ek : keep found x = found ++ [x] := by unfold keep; rw [hk]; rfl
        rw [ek] at e3 ⊢
        simp [-List.map_map, lotD, e2, hk, atP, appOwn, lz, putP] at e3 ⊢
        exact e3
  obtain ⟨c', e3⟩ := run (srt leLen (sset ltL ls)) [] [] none rfl (Nat.le_refl _) (fun x hx => nomatch hx)
  have fl : ((srt leLen (sset ltL ls)).foldl keep []).length ≤ 1000 := by
    have : ∀ (todo found : List Lot), (todo.foldl keep found).length ≤ found.length + todo.length := by
      intro todo
      induction todo with
      | nil => intro f; simp
      | cons x todo ih =>
        intro f
        rw [List.foldl_cons]
        refine Nat.le_trans (ih _) ?_
        unfold keep
        split <;> simp <;> omega
    have := this (srt leLen (sset ltL ls)) []
    rw [p.length_eq] at this
    simp at this
    omega
  have fm : ∀ x ∈ (srt leLen (sset ltL ls)).foldl keep [], x ≠ [] := by
    have : ∀ (todo found : List Lot), (∀ x ∈ found, x ∈ ls) → (∀ x ∈ todo, x ∈ ls) → ∀ x ∈ todo.foldl keep found, x ∈ ls := by
      intro todo
      induction todo with
      | nil => intro f hf _ x hx; exact hf x hx
      | cons y todo ih =>
        intro f hf ht
        refine ih _ (fun x hx => ?_) fun x hx => ht x (List.mem_cons_of_mem _ hx)
        unfold keep at hx
        split at hx
        · exact hf x hx
        · rcases List.mem_append.mp hx with hx | hx
          · exact hf x hx
          · rw [List.mem_singleton.mp hx]; exact ht y List.mem_cons_self
    exact fun x hx => lots_ne ok x (this _ [] (fun _ h => nomatch h) mem x hx)
  have e4 := sort_lots (runN G T (n + 1)) _ h (show ((srt leLen (sset ltL ls)).foldl keep []).length ≤ 100000 by omega) fm
  simp only [great2, webD]
  simp [run1, f_greatest_among, e0, lstOf, items, D.own?] at e1 e3 ⊢
  rw [e1]
  simp
  rw [e3]
  simp [Own.d, lstOf, castD, seqs] at e4 ⊢
  rw [e4]
  simp [castD, seqs]
theorem c_is_web {k : Nat} (n : Nat) (d : D) (h : AH) (hk : k ≤ 60) (hd : dat k d = true) : runN G T (n + 5) 9 [d] h = .ok (.bl (isWeb d)) h := by
  rw [run_9]
  cases d <;> first
    | (cases k <;> simp [dat] at hd; done)
    | (simp [run1, f_is_answer_web, isI, isWeb, webOf]; done)
    | skip
  rename_i xs
  cases k with
  | zero => simp [dat] at hd
  | succ k =>
    simp only [dat, Bool.and_eq_true, decide_eq_true_eq, List.all_eq_true] at hd
    by_cases hl : 1 ≤ xs.length ∧ xs.length ≤ 40
    · have e1 : ev (runN G T (n + 4)) G (.lc (.cl (.nm 1) (.var 0) [] (.yl (.call 6 [(.var 1)] [])))) [some (.val (.tup xs)), none] h = .ok (.lst (xs.map fun x => .bl (isLot x))) h :=
        lcm id (fun x => .bl (isLot x)) rfl (by simp [items]) (by omega) fun x hx => by
          have := c_is_lot n x h (by omega) (hd.2 x hx)
          simp [this]
      have l1 : (1 : Int) ≤ (xs.length : Int) := by omega
      have l2 : (xs.length : Int) ≤ 40 := by omega
      cases ha : xs.all isLot with
      | false =>
        rw [isWeb_no ha]
        simp [run1, f_is_answer_web, isI, l1, l2, e1, ha]
      | true =>
        obtain ⟨w, rfl, hw⟩ := all_lots ha
        rw [List.length_map] at hl
        have e2 := c_greatest (n + 2) (webD w) w h rfl hw (by omega) (fun x hx => by
          have := hd.2 (lotD x) (List.mem_map.mpr ⟨x, hx, rfl⟩)
          cases k <;> simp [dat] at this
          omega)
        have e3 : cmpop .eq (webD (great w)) (webD w) = some (decide (great w = w)) := by
          show dEq _ _ = _
          rw [dEq_of (okD_web 58 _) (okD_web 58 _), eqv_web]
        rw [show D.tup (w.map lotD) = webD w from rfl, isWeb_map]
        simp only [webD] at e2 e3 e1 ⊢
        simp only [okWeb, decide_eq_true hl, hw, Bool.true_and]
        rw [List.length_map] at l1 l2
        simp [-List.map_map, -List.all_map, run1, f_is_answer_web, isI, l1, l2, e1, ha, e2, e3]
    · rw [isWeb_len hl]
      have : ¬ ((1 : Int) ≤ (xs.length : Int) ∧ (xs.length : Int) ≤ 40) := by omega
      by_cases l1 : (1 : Int) ≤ (xs.length : Int)
      · have l2 : ¬ (xs.length : Int) ≤ 40 := by omega
        simp [run1, f_is_answer_web, isI, l1, l2]
      · simp [run1, f_is_answer_web, isI, l1]
end Pg

end
section
set_option linter.all false
set_option maxRecDepth 100000
set_option maxHeartbeats 4000000
/-! L9: is_plain_in. -/
namespace Pg
open PySem Ev Or
theorem okT_parts {t : Tk} (ok : okT t = true) : (keys t).all okLot = true ∧ ∀ p ∈ t, okLot p.1 = true ∧ okWeb p.2 = true ∧ p.2.length ≤ 40 := by
  simp only [okT, Bool.and_eq_true, List.all_eq_true] at ok
  refine ⟨by simp only [keys, List.all_map, List.all_eq_true]; exact fun p hp => (ok.2 p hp).1, fun p hp => ⟨(ok.2 p hp).1, (ok.2 p hp).2, ?_⟩⟩
  have := (ok.2 p hp).2
  simp only [okWeb, Bool.and_eq_true, decide_eq_true_eq] at this
  exact this.1.1.2
theorem c_widens (n : Nat) (t : Tk) (h : AH) (ok : okT t = true) (ch : chain ltL (keys t) = true) (cl : closed t = true) (sz : ∀ p ∈ t, p.1.length ≤ 5000 ∧ ∀ x ∈ p.2, x.length ≤ 5000) :
    runN G T (n + 3) 13 [.dic ((keys t).map lotD) (t.map fun p => webD p.2)] h = .ok (.bl (widens t)) h := by
  rw [run_13]
  have nd : (keys t).Nodup := ((chain_asc ordL _).mp ch).nodup ordL
  obtain ⟨okk, okp⟩ := okT_parts ok
  -- one worth
  have inner : ∀ (p : Lot × Web), p ∈ t → ∀ sl : Slots, (∃ c2 c3, sl = [some (.val (.dic ((keys t).map lotD) (t.map fun p => webD p.2))), some (.val (lotD p.1)), c2, c3, none]) →
      ((p.1.all fun w => (less p.1 w).isEmpty || (rule t (less p.1 w)).all fun x => lies p.2 x) = true → ∃ sl', forR (fun d sl h => (R.opt h (setTg sl (.nm 2) d)).bind fun sl h => xcs (runN G T (n + 2)) G [.set 3 (.cast .tuple (.lc (.cl (.nm 4) (.var 1) [(.cmp .ne (.var 4) (.var 2))] (.yl (.var 4))))), .ite (.and [(.cmp .ne (.var 3) (.tup [])), (.not (.bi .all [(.lc (.cl (.nm 4) (.sub (.var 0) (.var 3)) [] (.yl (.call 10 [(.sub (.var 0) (.var 1)), (.var 4)] []))))]))]) [.ret (.con (.bl false))] []] sl h) (p.1.map .int) sl h = .ok (.nx sl') h ∧
        ∃ c2 c3, sl' = [some (.val (.dic ((keys t).map lotD) (t.map fun p => webD p.2))), some (.val (lotD p.1)), c2, c3, none]) ∧
      ((p.1.all fun w => (less p.1 w).isEmpty || (rule t (less p.1 w)).all fun x => lies p.2 x) = false → forR (fun d sl h => (R.opt h (setTg sl (.nm 2) d)).bind fun sl h => xcs (runN G T (n + 2)) G [.set 3 (.cast .tuple (.lc (.cl (.nm 4) (.var 1) [(.cmp .ne (.var 4) (.var 2))] (.yl (.var 4))))), .ite (.and [(.cmp .ne (.var 3) (.tup [])), (.not (.bi .all [(.lc (.cl (.nm 4) (.sub (.var 0) (.var 3)) [] (.yl (.call 10 [(.sub (.var 0) (.var 1)), (.var 4)] []))))]))]) [.ret (.con (.bl false))] []] sl h) (p.1.map .int) sl h = .ok (.ret (.bl false)) h) := by
    intro p hp sl hi
    refine for_all D.int (fun sl => ∃ c2 c3, sl = [some (.val (.dic ((keys t).map lotD) (t.map fun p => webD p.2))), some (.val (lotD p.1)), c2, c3, none]) _ _ _ sl ?_ hi
    rintro sl w hw ⟨c2, c3, rfl⟩
    obtain ⟨k1, k2, k3⟩ := okp p hp
    have pk : p.1 ∈ keys t := List.mem_map.mpr ⟨p, hp, rfl⟩
    have as := okLot_asc k1
    have e1 : ev (runN G T (n + 2)) G (.lc (.cl (.nm 4) (.var 1) [(.cmp .ne (.var 4) (.var 2))] (.yl (.var 4)))) [some (.val (.dic ((keys t).map lotD) (t.map fun p => webD p.2))), some (.val (lotD p.1)), some (.val (.int w)), c3, none] h = .ok (.lst ((less p.1 w).map .int)) h :=
      lcmf D.int (d := lotD p.1) (fun v => !decide (v = w)) D.int (by simp) rfl (by have := (sz p hp).1; omega) (fun v hv => by simp) (fun v hv _ => by simp)
    have e2 := eq_unit (xs := (less p.1 w).map D.int) (okD_lot 59 (less p.1 w))
    by_cases ne : less p.1 w = []
    · have q : ((less p.1 w).isEmpty || (rule t (less p.1 w)).all fun x => lies p.2 x) = true := by rw [ne]; rfl
      rw [ne] at e1 e2
      refine ⟨fun _ => ⟨_, ?_, some (.val (.int w)), some (.val (lotD [])), rfl⟩, fun z => by rw [q] at z; cases z⟩
      simp only [lotD] at e1 ⊢
      simp at e1 e2
      simp [e1, castD, seqs, cmpop, e2]
    · have kk := closed_key ok cl pk (less_asc as w) ne (less_sub _ _)
      have rm := rule_mem kk
      have e3 := sub_rules kk
      have e4 := sub_rules pk
      rw [rule_eq nd hp] at e4
      have e5 : ev (runN G T (n + 2)) G (.lc (.cl (.nm 4) (.sub (.var 0) (.var 3)) [] (.yl (.call 10 [(.sub (.var 0) (.var 1)), (.var 4)] [])))) [some (.val (.dic ((keys t).map lotD) (t.map fun p => webD p.2))), some (.val (lotD p.1)), some (.val (.int w)), some (.val (lotD (less p.1 w))), none] h = .ok (.lst ((rule t (less p.1 w)).map fun x => .bl (lies p.2 x))) h :=
        lcm lotD (d := webD (rule t (less p.1 w))) (fun x => .bl (lies p.2 x)) (by simp only [lotD, webD] at e3; simp [e3]) rfl (by have : (rule t (less p.1 w)).length ≤ 40 := (okp _ rm).2.2; omega) fun x hx => by
          have e6 := c_lies n p.2 x h (by omega) ((sz _ rm).2 x hx)
          simp only [lotD, webD] at e4 e6
          simp [-List.map_map, e4, e6]
      have le : ((less p.1 w).map D.int).isEmpty = false := by cases e : less p.1 w <;> simp [e] at ne ⊢
      have le2 : (less p.1 w).isEmpty = false := by cases e : less p.1 w <;> simp [e] at ne ⊢
      rw [le] at e2
      rw [le2, Bool.false_or]
      simp only [lotD, webD] at e1 e5 ⊢
      refine ⟨fun q => ⟨_, ?_, some (.val (.int w)), some (.val (lotD (less p.1 w))), rfl⟩, fun q => ?_⟩
      · simp [-List.map_map, e1, castD, seqs, cmpop, e2, e5, q]
      · simp [-List.map_map, e1, castD, seqs, cmpop, e2, e5, q]
  have outer := for_all (h := h) (fun p : Lot × Web => lotD p.1) (body := fun d sl h => (R.opt h (setTg sl (.nm 1) d)).bind fun sl h => xcs (runN G T (n + 2)) G [.for (.nm 2) (.var 1) [.set 3 (.cast .tuple (.lc (.cl (.nm 4) (.var 1) [(.cmp .ne (.var 4) (.var 2))] (.yl (.var 4))))), .ite (.and [(.cmp .ne (.var 3) (.tup [])), (.not (.bi .all [(.lc (.cl (.nm 4) (.sub (.var 0) (.var 3)) [] (.yl (.call 10 [(.sub (.var 0) (.var 1)), (.var 4)] []))))]))]) [.ret (.con (.bl false))] []]] sl h)
    (fun sl => ∃ c1 c2 c3, sl = [some (.val (.dic ((keys t).map lotD) (t.map fun p => webD p.2))), c1, c2, c3, none]) (fun p => p.1.all fun w => (less p.1 w).isEmpty || (rule t (less p.1 w)).all fun x => lies p.2 x) (.bl false) t [some (.val (.dic ((keys t).map lotD) (t.map fun p => webD p.2))), none, none, none, none] (by
      rintro sl p hp ⟨c1, c2, c3, rfl⟩
      obtain ⟨i1, i2⟩ := inner p hp [some (.val (.dic ((keys t).map lotD) (t.map fun p => webD p.2))), some (.val (lotD p.1)), c2, c3, none] ⟨c2, c3, rfl⟩
      refine ⟨fun q => ?_, fun q => ?_⟩
      · obtain ⟨sl', e, c2', c3', rfl⟩ := i1 q
        refine ⟨_, ?_, some (.val (lotD p.1)), c2', c3', rfl⟩
        rw [setTg_nm, ro_some, rb_ok, xcs_s, xc_for]
        simp only [setS_eq, List.set_cons_succ, List.set_cons_zero, ev_var, getS_s, getS_0, ro_some, rb_ok, items]
        rw [e]
        simp
      · have e := i2 q
        rw [setTg_nm, ro_some, rb_ok, xcs_s, xc_for]
        simp only [setS_eq, List.set_cons_succ, List.set_cons_zero, ev_var, getS_s, getS_0, ro_some, rb_ok, items]
        rw [e]
        simp) ⟨none, none, none, rfl⟩
  have km : (keys t).map lotD = t.map fun p => lotD p.1 := by simp [keys]
  have go : runN G T (n + 3) 13 [.dic ((keys t).map lotD) (t.map fun p => webD p.2)] h = (((forR (fun d sl h => (R.opt h (setTg sl (.nm 1) d)).bind fun sl h => xcs (runN G T (n + 2)) G [.for (.nm 2) (.var 1) [.set 3 (.cast .tuple (.lc (.cl (.nm 4) (.var 1) [(.cmp .ne (.var 4) (.var 2))] (.yl (.var 4))))), .ite (.and [(.cmp .ne (.var 3) (.tup [])), (.not (.bi .all [(.lc (.cl (.nm 4) (.sub (.var 0) (.var 3)) [] (.yl (.call 10 [(.sub (.var 0) (.var 1)), (.var 4)] []))))]))]) [.ret (.con (.bl false))] []]] sl h) ((keys t).map lotD) [some (.val (.dic ((keys t).map lotD) (t.map fun p => webD p.2))), none, none, none, none] h).bind fun x h => match x with | .nx sl => xcs (runN G T (n + 2)) G [.ret (.con (.bl true))] sl h | x => .ok x h).bind fun x h => match x with
      | .ret d => .ok d h
      | .nx _ => .ok .non h
      | _ => .bad) := rfl
  rw [← run_13, go, km]
  cases hw : widens t with
  | true =>
    obtain ⟨sl', e, _⟩ := outer.1 hw
    rw [km] at e
    rw [e]
    simp
  | false =>
    have e := outer.2 hw
    rw [km] at e
    rw [e]
    simp

theorem keep_grow : ∀ (todo found : List Lot), found.length ≤ (todo.foldl keep found).length
  | [], _ => Nat.le_refl _
  | x :: todo, found => by
    rw [List.foldl_cons]
    refine Nat.le_trans ?_ (keep_grow todo (keep found x))
    unfold keep
    split <;> simp
theorem great_ne {ls : List Lot} (ok : ∀ x ∈ ls, Asc ltI x) (ne : ls ≠ []) : great ls ≠ [] := by
  rw [← great_two ok]
  intro e
  have h := congrArg List.length e
  unfold great2 at h
  rw [(srt_perm _ _).length_eq] at h
  cases hs : srt leLen (sset ltL ls) with
  | nil =>
    have := (srt_perm leLen (sset ltL ls)).length_eq
    rw [hs] at this
    cases ls with
    | nil => exact ne rfl
    | cons x ls =>
      have m : x ∈ sset ltL (x :: ls) := sset_mem.mpr List.mem_cons_self
      have := List.length_pos_of_mem m
      simp at *
      omega
  | cons x r =>
    rw [hs, List.foldl_cons] at h
    have := keep_grow r (keep [] x)
    simp only [keep, List.any_nil, Bool.false_eq_true, if_false, List.nil_append, List.length_cons, List.length_nil] at this h
    omega
theorem bi_max (ls : List Lot) (ne : ls ≠ []) : builtin .max [.lst (ls.map fun x => .int (x.length : Int))] = some (.int (maxL ls)) := by
  cases ls with
  | nil => exact absurd rfl ne
  | cons x ls =>
    show (intsOf ((x :: ls).map fun x => .int (x.length : Int))).bind _ = _
    rw [ints_map]
    rfl
theorem max_le : ∀ (ls : List Int) (a : Int), (ls.foldl max a ≤ 6 → a ≤ 6 ∧ ∀ x ∈ ls, x ≤ 6)
  | [], a, h => ⟨h, fun x hx => nomatch hx⟩
  | y :: ls, a, h => by
    obtain ⟨h1, h2⟩ := max_le ls (max a y) h
    refine ⟨by omega, fun x hx => ?_⟩
    rcases List.mem_cons.mp hx with e | hx
    · rw [e]; omega
    · exact h2 x hx
theorem maxL_le {ls : List Lot} (h : maxL ls ≤ 6) : ∀ x ∈ ls, x.length ≤ 6 := by
  cases ls with
  | nil => intro x hx; cases hx
  | cons y ls =>
    obtain ⟨h1, h2⟩ := max_le _ _ h
    intro x hx
    rcases List.mem_cons.mp hx with e | hx
    · rw [e]; omega
    · have := h2 _ (List.mem_map.mpr ⟨x, hx, rfl⟩)
      omega
def lt0 : D → Bool
  | .tup [.tup [.tup a, _], .tup [.tup b, _]] => ltvL a b
  | _ => false
theorem c_plain_t (n : Nat) (t : Tk) (h : AH) (ok : okT t = true) (sz : t.length ≤ 1000 ∧ ∀ p ∈ t, p.1.length ≤ 5000 ∧ ∀ x ∈ p.2, x.length ≤ 5000)
    (d1 : dat 60 (taskD t) = true) : runN G T (n + 6) 12 [taskD t] h = .ok (.bl (good t)) h := by
  rw [run_12]
  obtain ⟨okk, okp⟩ := okT_parts ok
  have tne : t ≠ [] := by rintro rfl; simp [okT] at ok
  have ted : (t.map ruleD).isEmpty = false := by cases t <;> simp at tne ⊢
  have e0 := eq_unit (xs := t.map ruleD) (okD_task 56 t)
  rw [ted] at e0
  have e0 : cmpop .eq (taskD t) (.tup []) = some false := e0
  have dr : ∀ p ∈ t, dat 59 (ruleD p) = true := fun p hp => by
    have d1 := d1
    simp only [dat, Bool.and_eq_true, List.all_eq_true] at d1
    exact d1.2 _ (List.mem_map.mpr ⟨p, hp, rfl⟩)
  have dl : ∀ p ∈ t, dat 58 (lotD p.1) = true ∧ dat 58 (webD p.2) = true := fun p hp => by
    have := dr p hp
    simp only [ruleD, dat, Bool.and_eq_true, List.all_eq_true] at this
    exact ⟨this.2 _ (by simp), this.2 _ (by simp)⟩
  have e1 : ev (runN G T (n + 5)) G (.lc (.cl (.nm 3) (.var 0) [] (.yl (.call 2 [(.var 3), (.con (.int 2))] [])))) [some (.val (taskD t)), none, none, none, none, none, none] h = .ok (.lst (t.map fun _ => .bl true)) h :=
    lcm ruleD (fun _ => .bl true) rfl rfl (by omega) fun p hp => by
      have := c_is_long (n + 4) (ruleD p) h (dr p hp)
      simp only [ruleD, lotD, webD] at this ⊢
      simp [this]
  have e2 : ev (runN G T (n + 5)) G (.lc (.cl (.nm 3) (.var 0) [] (.yl (.and [(.call 6 [(.sub (.var 3) (.con (.int 0)))] []), (.call 9 [(.sub (.var 3) (.con (.int 1)))] [])])))) [some (.val (taskD t)), none, none, none, none, none, none] h = .ok (.lst (t.map fun _ => .bl true)) h :=
    lcm ruleD (fun _ => .bl true) rfl rfl (by omega) fun p hp => by
      have f1 := c_is_lot (n + 1) (lotD p.1) h (by decide) (dl p hp).1
      have f2 := c_is_web n (webD p.2) h (by decide) (dl p hp).2
      rw [isLot_map, (okp p hp).1] at f1
      rw [isWeb_map, (okp p hp).2.1] at f2
      simp only [ruleD, lotD, webD] at f1 f2 ⊢
      simp [subD, atI, ixOf, f1, f2]
  have zl : (zipL (t.map ruleD) ((t.map ruleD).drop 1)).length ≤ 1000 := by
    have := zipL_length (t.map ruleD) ((t.map ruleD).drop 1)
    rw [List.length_map] at this
    omega
  have e3 : ev (runN G T (n + 5)) G (.lc (.cl (.tp [5, 6]) (.zip (.var 0) (.cut (.var 0) (some (.con (.int 1))) none)) [] (.yl (.cmp .lt (.sub (.var 5) (.con (.int 0))) (.sub (.var 6) (.con (.int 0))))))) [some (.val (taskD t)), none, none, none, none, none, none] h = .ok (.lst ((zipL (t.map ruleD) ((t.map ruleD).drop 1)).map fun x => .bl (lt0 x))) h :=
    lc2t (d := .lst (zipL (t.map ruleD) ((t.map ruleD).drop 1))) (fun x => .bl (lt0 x)) (by simp [-List.drop_one, optI, cutD, cut_tail, zipD]) rfl (by omega) fun x hx => by
      rw [← List.map_drop] at hx
      obtain ⟨a, b, _, _, rfl⟩ := zip_mem hx
      have := cmp_lt_lot a.1 b.1
      refine ⟨_, _, rfl, ?_⟩
      simp only [lotD] at this
      simp [subD, atI, ixOf, this, lt0, ltvL_ints]
  have zc : (zipL (t.map ruleD) ((t.map ruleD).drop 1)).all lt0 = chain ltL (keys t) := by
    rw [zip_chain (f := ruleD) (p := lt0) (lt := fun a b => ltL a.1 b.1) (fun a b => by simp only [ruleD, lt0]; exact ltvL_ints a.1 b.1) t]
    clear e1 e2 e0 zl e3 dl dr okk okp d1 sz ok tne ted
    have : ∀ t : Tk, chain (fun a b : Lot × Web => ltL a.1 b.1) t = chain ltL (keys t) := by
      intro t
      induction t with
      | nil => rfl
      | cons p t ih =>
        cases t with
        | nil => rfl
        | cons q t => simp only [keys, List.map_cons, chain] at ih ⊢; rw [ih]
    exact this t
  have e4 : ev (runN G T (n + 5)) G (.lc (.cl (.nm 3) (.var 0) [] (.yl (.sub (.var 3) (.con (.int 0)))))) [some (.val (taskD t)), none, none, none, none, none, none] h = .ok (.lst ((keys t).map lotD)) h := by
    have := lcm (F := runN G T (n + 5)) (G := G) (sl := [some (.val (taskD t)), none, none, none, none, none, none]) (h := h) ruleD (i := 3) (it := .var 0) (e := .sub (.var 3) (.con (.int 0))) (d := taskD t) (xs := t) (fun p => lotD p.1) rfl rfl (by omega) fun p hp => by
      simp [subD, atI, ixOf]
    rw [this]
    simp [keys]
  have e5 := c_greatest (n + 3) (.lst ((keys t).map lotD)) (keys t) h rfl okk (by simp [keys]; omega) (fun x hx => by
    obtain ⟨p, hp, rfl⟩ := List.mem_map.mp hx
    exact (sz.2 p hp).1)
  cases hc : chain ltL (keys t) with
  | false =>
    rw [hc] at zc
    have q : good t = false := by simp [good, hc]
    rw [q]
    simp only [taskD, ruleD, webD, lotD] at e0 e1 e2 e3 zc ⊢
    simp [-List.map_map, -List.all_map, -List.drop_one, run1, f_is_plain_in, isI, e0, e1, e2, e3, zc]
  | true =>
    rw [hc] at zc
    have nd : (keys t).Nodup := ((chain_asc ordL _).mp hc).nodup ordL
    have e6 := cast_rules nd (by omega)
    have gne := great_ne (lots_asc okk) (by simp [keys]; exact tne)
    have gl : (great (keys t)).length ≤ 1000 := Nat.le_trans (List.length_filter_le _ _) (Nat.le_trans (sset_len _) (by simp [keys]; omega))
    have e7 : ev (runN G T (n + 5)) G (.lc (.cl (.nm 3) (.var 1) [] (.yl (.bi .len [(.var 3)])))) [some (.val (taskD t)), some (.val (webD (great (keys t)))), some (.val (.dic ((keys t).map lotD) (t.map fun p => webD p.2))), none, none, none, none] h = .ok (.lst ((great (keys t)).map fun x => .int (x.length : Int))) h :=
      lcm lotD (fun x => .int (x.length : Int)) rfl rfl (by omega) fun x hx => by simp
    have e8 := bi_max (great (keys t)) gne
    by_cases fw : few t = true
    · have fw2 := fw
      simp only [few, Bool.and_eq_true, decide_eq_true_eq] at fw2
      have tops := maxL_le fw2.2
      have e9 : ev (runN G T (n + 5)) G (.lc (.cl (.nm 3) (.var 1) [] (.cl (.nm 4) (.call 11 [(.var 3)] []) [] (.yl (.cmp .isin (.var 4) (.var 2)))))) [some (.val (taskD t)), some (.val (webD (great (keys t)))), some (.val (.dic ((keys t).map lotD) (t.map fun p => webD p.2))), none, none, none, none] h
          = .ok (.lst (((great (keys t)).flatMap fun top => (subs top).filter fun x => !x.isEmpty).map fun x => .bl ((keys t).contains x))) h := by
        have b := eb_clm (F := runN G T (n + 5)) (G := G) (h := h) lotD (sl := [some (.val (taskD t)), some (.val (webD (great (keys t)))), some (.val (.dic ((keys t).map lotD) (t.map fun p => webD p.2))), none, none, none, none]) (t := .nm 3) (it := .var 1) (b := .cl (.nm 4) (.call 11 [(.var 3)] []) [] (.yl (.cmp .isin (.var 4) (.var 2)))) (ifs := []) (d := webD (great (keys t))) (xs := great (keys t)) (fun _ => true) (fun top => ((subs top).filter fun x => !x.isEmpty).map fun x => .bl ((keys t).contains x)) rfl rfl fun top htop => by
          refine ⟨_, rfl, rfl, fun _ => ?_⟩
          have f1 := c_lots_within (n + 3) top h (by have := tops top htop; omega)
          have i := eb_clm (F := runN G T (n + 5)) (G := G) (h := h) lotD (sl := [some (.val (taskD t)), some (.val (webD (great (keys t)))), some (.val (.dic ((keys t).map lotD) (t.map fun p => webD p.2))), some (.val (lotD top)), none, none, none]) (t := .nm 4) (it := .call 11 [(.var 3)] []) (b := .yl (.cmp .isin (.var 4) (.var 2))) (ifs := []) (d := .lst (((subs top).filter fun x => !x.isEmpty).map lotD)) (xs := (subs top).filter fun x => !x.isEmpty) (fun _ => true) (fun x => [.bl ((keys t).contains x)]) (by simp only [lotD] at f1; simp [f1]) rfl fun x hx => by
            refine ⟨_, rfl, rfl, fun _ => eb_yl ?_⟩
            have := in_rules t (t.map fun p => webD p.2) x
            simp only [lotD, webD] at this
            simp [-List.map_map, -List.contains_eq_mem, cmpop, this, tgs, owns]
          simp only [if_true, flat_1] at i
          exact i
        simp only [if_true] at b
        rw [List.map_flatMap]
        refine ev_lcb b ?_
        rw [← List.map_flatMap, List.length_map]
        have : ∀ l : List Lot, (∀ x ∈ l, x.length ≤ 6) → (l.flatMap fun top => (subs top).filter fun x => !x.isEmpty).length ≤ l.length * 64 := by
          intro l
          induction l with
          | nil => intro _; simp
          | cons x l ih =>
            intro hx
            have h1 := ih fun y hy => hx y (List.mem_cons_of_mem _ hy)
            have h2 : ((subs x).filter fun x => !x.isEmpty).length ≤ 64 := by
              refine Nat.le_trans (List.length_filter_le _ _) ?_
              rw [subs_len]
              exact Nat.pow_le_pow_right (by decide) (hx x List.mem_cons_self)
            simp only [List.flatMap_cons, List.length_append, List.length_cons]
            omega
        have := this _ tops
        omega
      have cl : (((great (keys t)).flatMap fun top => (subs top).filter fun x => !x.isEmpty).all fun x => (keys t).contains x) = closed t := by
        rw [List.all_flatMap]; rfl
      have n1 : ¬ (12 : Int) < ((great (keys t)).length : Int) := by omega
      have n2 : ¬ (6 : Int) < maxL (great (keys t)) := by omega
      cases hcl : closed t with
      | false =>
        rw [hcl] at cl
        have q : good t = false := by simp [good, hcl]
        rw [q]
        simp only [taskD, ruleD, webD, lotD] at e0 e1 e2 e3 e4 e5 e6 e7 e8 e9 zc cl ⊢
        simp [-List.map_map, -List.all_map, -List.drop_one, -List.map_flatMap, -List.all_flatMap, -List.contains_eq_mem, run1, f_is_plain_in, isI, e0, e1, e2, e3, zc, e4, e5, e6, e7, e8, e9, n1, n2, cl]
      | true =>
        rw [hcl] at cl
        have e10 := c_widens (n + 2) t h ok hc hcl sz.2
        rw [widens_mono ok hc hcl] at e10
        have q : good t = mono t := by simp [good, hc, fw, hcl]
        rw [q]
        simp only [taskD, ruleD, webD, lotD] at e0 e1 e2 e3 e4 e5 e6 e7 e8 e9 e10 zc cl ⊢
        simp [-List.map_map, -List.all_map, -List.drop_one, -List.map_flatMap, -List.all_flatMap, -List.contains_eq_mem, run1, f_is_plain_in, isI, e0, e1, e2, e3, zc, e4, e5, e6, e7, e8, e9, n1, n2, cl, e10]
    · have q : good t = false := by simp only [good]; simp only [Bool.not_eq_true] at fw; rw [fw]; simp
      rw [q]
      have fw2 : (12 : Int) < ((great (keys t)).length : Int) ∨ (6 : Int) < maxL (great (keys t)) := by
        simp only [few, Bool.and_eq_true, decide_eq_true_eq] at fw
        omega
      simp only [taskD, ruleD, webD, lotD] at e0 e1 e2 e3 e4 e5 e6 e7 e8 zc ⊢
      by_cases n1 : (12 : Int) < ((great (keys t)).length : Int)
      · simp [-List.map_map, -List.all_map, -List.drop_one, run1, f_is_plain_in, isI, e0, e1, e2, e3, zc, e4, e5, e6, n1]
      · have n2 := fw2.resolve_left n1
        simp [-List.map_map, -List.all_map, -List.drop_one, run1, f_is_plain_in, isI, e0, e1, e2, e3, zc, e4, e5, e6, e7, e8, n1, n2]
end Pg

end
section
set_option linter.all false
set_option maxRecDepth 100000
set_option maxHeartbeats 4000000
/-! L10: what is a plain task, by the law's own looking. -/
namespace Pg
open PySem Ev Or
theorem run_25 (n : Nat) (ds : List D) (h : AH) : runN G T (n + 1) 25 ds h = run1 (runN G T n) G f__law_is_int ds h := rfl
theorem run_27 (n : Nat) (ds : List D) (h : AH) : runN G T (n + 1) 27 ds h = run1 (runN G T n) G f__law_subsets ds h := rfl
theorem run_28 (n : Nat) (ds : List D) (h : AH) : runN G T (n + 1) 28 ds h = run1 (runN G T n) G f__law_greatest ds h := rfl
theorem run_31 (n : Nat) (ds : List D) (h : AH) : runN G T (n + 1) 31 ds h = run1 (runN G T n) G f__law_is_lot ds h := rfl
theorem run_32 (n : Nat) (ds : List D) (h : AH) : runN G T (n + 1) 32 ds h = run1 (runN G T n) G f__law_within ds h := rfl
theorem run_33 (n : Nat) (ds : List D) (h : AH) : runN G T (n + 1) 33 ds h = run1 (runN G T n) G f__law_is_plain ds h := rfl
theorem c_law_int {k : Nat} (n : Nat) (d : D) (h : AH) (hd : dat k d = true) : runN G T (n + 1) 25 [d] h = .ok (.bl (isNum d)) h := by
  rw [run_25]
  cases d <;> first
    | (cases k <;> simp [dat] at hd; done)
    | simp [run1, f__law_is_int, isI, isNum]
theorem pow6 : binop .pow (.int 10) (.int 6) = some (.int 1000000) := rfl
theorem c_law_within (n : Nat) (a b : Lot) (h : AH) (hl : a.length ≤ 5000) : runN G T (n + 1) 32 [lotD a, lotD b] h = .ok (.bl (sub a b)) h := by
  rw [run_32]
  have e1 : ev (runN G T n) G (.lc (.cl (.nm 2) (.var 0) [] (.yl (.cmp .isin (.var 2) (.var 1))))) [some (.val (lotD a)), some (.val (lotD b)), none] h = .ok (.lst (a.map fun i => .bl (b.contains i))) h :=
    lcm D.int (fun i => .bl (b.contains i)) rfl rfl (by omega) fun x hx => by simp [cmpop, in_ints x b _ (.inl rfl)]
  simp only [lotD] at e1
  simp [-List.map_map, -List.contains_eq_mem, run1, f__law_within, e1, sub]
theorem c_law_lot {k : Nat} (n : Nat) (d : D) (h : AH) (hk : k ≤ 60) (hd : dat k d = true) : runN G T (n + 2) 31 [d] h = .ok (.bl (isLot d)) h := by
  rw [run_31]
  cases d <;> first
    | (cases k <;> simp [dat] at hd; done)
    | (simp [run1, f__law_is_lot, isI, isLot]; done)
    | skip
  rename_i xs
  have dd := dat_deep hk hd
  cases k with
  | zero => simp [dat] at hd
  | succ k =>
    simp only [dat, Bool.and_eq_true, decide_eq_true_eq, List.all_eq_true] at hd
    have e0 : cmpop .ne (.tup xs) (.tup []) = some (!xs.isEmpty) := by
      show (dEq _ _).map _ = _
      rw [eq_unit dd]; rfl
    have e1 : ev (runN G T (n + 1)) G (.lc (.cl (.nm 1) (.var 0) [] (.yl (.and [(.call 25 [(.var 1)] []), (.chain .le .le (.con (.int 0)) (.var 1) (.bin .pow (.con (.int 10)) (.con (.int 6))))])))) [some (.val (.tup xs)), none] h = .ok (.lst (xs.map fun x => .bl (isW 0 1000000 x))) h :=
      lcm id (fun x => .bl (isW 0 1000000 x)) rfl (by simp [items]) (by omega) fun x hx => by
        have hx := hd.2 x hx
        have e := c_law_int n x h hx
        cases x <;> first
          | (cases k <;> simp [dat] at hx; done)
          | (simp [e, isNum, isW]; done)
          | skip
        rename_i i _
        simp only [isNum] at e
        simp [e, isW, pow6]
        by_cases h1 : 0 ≤ i <;> simp [h1]
    cases he : xs.isEmpty with
    | true =>
      cases xs with
      | nil => simp [run1, f__law_is_lot, isI, e0, isLot, intsOf, okLot]
      | cons _ _ => simp at he
    | false =>
      rw [he] at e0
      cases ha : xs.all (isW 0 1000000) with
      | false =>
        have q : isLot (.tup xs) = false := by rw [isLot_set, isSet_no ha]; rfl
        rw [q]
        simp [run1, f__law_is_lot, isI, e0, e1, ha]
      | true =>
        obtain ⟨l, rfl, hl⟩ := allW_ints ha
        have e2 := sset_ints l (by have := hd.1; rw [List.length_map] at this; omega) (d := lotD l) rfl
        have e3 : cmpop .eq (.lst (l.map .int)) (.lst ((sset ltI l).map .int)) = some (decide (l = sset ltI l)) := by
          show dEq _ _ = _
          rw [dEq_of (show okD deep (.lst _) = true from okL_map (okD_int _) l) (show okD deep (.lst _) = true from okL_map (okD_int _) _)]
          simp only [eqv]
          rw [eqvL_map eqv_int]
        have q : isLot (lotD l) = decide (l = sset ltI l) := by
          rw [isLot_map]
          have ne : l.isEmpty = false := by simpa using he
          simp only [okLot, ne, hl]
          rw [Bool.eq_iff_iff, decide_eq_true_eq, sset_eq ordI, ← chain_asc ordI]
          simp
        rw [show D.tup (l.map .int) = lotD l from rfl, q]
        simp only [lotD] at e2 ⊢
        simp [-List.map_map, -List.all_map, run1, f__law_is_lot, isI, e0, e1, ha, castD, seqs, e2, e3]
theorem c_law_subsets (n : Nat) (l : Lot) (h : AH) (hl : l.length ≤ 12) : runN G T (n + 1) 27 [lotD l] h = .ok (.lst ((srt (leO ltL) ((subs l).drop 1)).map lotD)) h := by
  rw [run_27]
  obtain ⟨sl', e2, c, rfl⟩ := subs_loop (F := runN G T n) h (lotD l) l [[]] [some (.val (lotD l)), some (.val (.lst (([[]] : List Lot).map lotD))), none, none] (by
    have : 2 ^ l.length ≤ 2 ^ 12 := Nat.pow_le_pow_right (by decide) hl
    simp; omega) (fun x hx => by simp at hx; simp [hx]; omega) ⟨_, rfl⟩
  have ln : (subs l).length ≤ 4096 := by
    rw [subs_len]
    exact Nat.pow_le_pow_right (by decide) hl
  obtain ⟨r, er, hr⟩ := subs_head l
  have e3 := sort_lots (runN G T n) ((subs l).drop 1) h (by rw [List.length_drop]; omega) (fun x hx => hr x (by rw [er] at hx; simpa using hx))
  have e4 : cutL ((subs l).map lotD) (some 1) none = ((subs l).drop 1).map lotD := by rw [cut_tail, List.map_drop]
  have es : l.foldl (fun f o => f ++ f.map (· ++ [o])) [[]] = subs l := rfl
  rw [es] at e2
  simp [lotD, run1, f__law_subsets, items]
  simp [lotD] at e2
  rw [e2]
  rw [List.drop_one, List.map_tail] at e3 e4
  simp [optI, cutD, e4, lstOf, e3]
theorem okL_ones (l : List Lot) : okL 59 (l.map fun _ => D.int 1) = true := okL_map (fun _ => okD_int _ _) l
theorem c_law_greatest (n : Nat) (d : D) (ls : List Lot) (h : AH) (hd : seqs d = some (ls.map lotD)) (ok : ls.all okLot = true) (hz : ls.length ≤ 1000) (hs : ∀ x ∈ ls, x.length ≤ 5000) : runN G T (n + 1) 28 [d] h = .ok (webD (great ls)) h := by
  rw [run_28]
  have e0 := sset_lots ls (by omega) (lots_ne ok) hd
  have sl0 : (sset ltL ls).length ≤ 1000 := Nat.le_trans (sset_len ls) hz
  have e1 : ∀ x ∈ sset ltL ls, ev (runN G T n) G (.lc (.cl (.nm 3) (.var 1) [(.and [(.cmp .ne (.var 3) (.var 2)), (.bi .all [(.lc (.cl (.nm 4) (.var 2) [] (.yl (.cmp .isin (.var 4) (.var 3)))))])])] (.yl (.con (.int 1))))) [some (.val d), some (.val (.lst ((sset ltL ls).map lotD))), some (.val (lotD x)), none, none] h
      = .ok (.lst (((sset ltL ls).filter fun y => !decide (y = x) && sub x y).map fun _ => .int 1)) h := fun x hx =>
    lcmf lotD (d := .lst ((sset ltL ls).map lotD)) (fun y => !decide (y = x) && sub x y) (fun _ => .int 1) rfl rfl (by omega) (fun y hy => by
      have f1 : cmpop .ne (lotD y) (lotD x) = some (!decide (y = x)) := by
        show (dEq _ _).map _ = _
        rw [dEq_of (okD_lot 59 y) (okD_lot 59 x), eqv_lot]; rfl
      have f2 : ev (runN G T n) G (.lc (.cl (.nm 4) (.var 2) [] (.yl (.cmp .isin (.var 4) (.var 3))))) [some (.val d), some (.val (.lst ((sset ltL ls).map lotD))), some (.val (lotD x)), some (.val (lotD y)), none] h = .ok (.lst (x.map fun i => .bl (y.contains i))) h :=
        lcm D.int (fun i => .bl (y.contains i)) rfl rfl (by have := hs x (sset_mem.mp hx); omega) fun i hi => by simp [cmpop, in_ints i y _ (.inl rfl)]
      simp only [lotD] at f1 f2
      cases hq : decide (y = x) <;> simp [-List.map_map, -List.contains_eq_mem, f1, f2, hq, sub]) fun y hy _ => by simp
  have e2 : ev (runN G T n) G (.lc (.cl (.nm 2) (.var 1) [(.cmp .eq (.lc (.cl (.nm 3) (.var 1) [(.and [(.cmp .ne (.var 3) (.var 2)), (.bi .all [(.lc (.cl (.nm 4) (.var 2) [] (.yl (.cmp .isin (.var 4) (.var 3)))))])])] (.yl (.con (.int 1))))) (.lst []))] (.yl (.var 2)))) [some (.val d), some (.val (.lst ((sset ltL ls).map lotD))), none, none, none] h
      = .ok (.lst ((great ls).map lotD)) h := by
    refine lcmf lotD (d := .lst ((sset ltL ls).map lotD)) (fun x => (sset ltL ls).all fun y => decide (y = x) || !sub x y) lotD rfl rfl (by omega) (fun x hx => ?_) (fun x hx _ => by simp)
    have f1 := e1 x hx
    have f2 : cmpop .eq (.lst (((sset ltL ls).filter fun y => !decide (y = x) && sub x y).map fun _ => .int 1)) (.lst []) = some ((sset ltL ls).all fun y => decide (y = x) || !sub x y) := by
      show dEq _ _ = _
      rw [dEq_of (show okD deep (.lst _) = true from okL_ones _) rfl]
      simp only [eqv]
      congr 1
      have : ∀ l : List Lot, eqvL ((l.filter fun y => !decide (y = x) && sub x y).map fun _ => .int 1) [] = l.all fun y => decide (y = x) || !sub x y := by
        intro l
        induction l with
        | nil => rfl
        | cons y l ih =>
          rw [List.filter_cons, List.all_cons]
          by_cases c : y = x
          · simp [c, ih]
          · cases hs : sub x y
            · simp [c, hs, ih]
            · simp [c, hs, eqvL]
      exact this _
    simp only [lotD] at f1 ⊢
    simp [-List.map_map, f1, f2]
  simp only [lotD, webD] at e0 e2 ⊢
  simp [-List.map_map, run1, f__law_greatest, e0, e2, castD, seqs]
end Pg

end
section
set_option linter.all false
set_option maxRecDepth 100000
set_option maxHeartbeats 4000000
/-! L11: any thing: a plain task or none. -/
namespace Ev
open PySem Or
def pairP : D → Bool
  | .tup xs => decide (xs.length = 2)
  | _ => false
def isRule : D → Bool
  | .tup [a, b] => isLot a && isWeb b
  | _ => false
theorem plain_no {xs : List D} (p : D → Bool) (hp : ∀ q : Lot × Web, (okLot q.1 && okWeb q.2) = true → p (ruleD q) = true) (h : xs.all p = false) : isPlain (.tup xs) = false := by
  unfold isPlain
  cases e : taskOf (.tup xs) with
  | none => rfl
  | some t =>
    have ex : xs = t.map ruleD := dec_some (fun d a => ruleOf_some) e
    subst ex
    show (okT t && good t) = false
    have : okT t = false := by
      cases ho : okT t with
      | false => rfl
      | true =>
        simp only [okT, Bool.and_eq_true, List.all_eq_true] at ho
        have : (t.map ruleD).all p = true := by
          rw [List.all_eq_true]
          intro x hx
          obtain ⟨q, hq, rfl⟩ := List.mem_map.mp hx
          exact hp q (by rw [(ho.2 q hq).1, (ho.2 q hq).2]; rfl)
        rw [h] at this; cases this
    rw [this]; rfl
theorem all_rules : ∀ {xs : List D}, xs.all isRule = true → ∃ t : Tk, xs = t.map ruleD ∧ t.all (fun p => okLot p.1 && okWeb p.2) = true
  | [], _ => ⟨[], rfl, rfl⟩
  | x :: xs, h => by
    rw [List.all_cons, Bool.and_eq_true] at h
    obtain ⟨t, rfl, ht⟩ := all_rules h.2
    have h1 := h.1
    unfold isRule at h1
    split at h1
    · rename_i a b
      rw [Bool.and_eq_true] at h1
      obtain ⟨l, rfl, hl⟩ := isLot_some h1.1
      have h2 := h1.2
      unfold isWeb at h2
      cases e : webOf b with
      | none => rw [e] at h2; cases h2
      | some w =>
        rw [e] at h2
        have h2 : okWeb w = true := h2
        have eb := webOf_some e
        subst eb
        exact ⟨(l, w) :: t, rfl, by rw [List.all_cons, hl, h2, ht]; rfl⟩
    · cases h1
theorem pair_some {x : D} (h : pairP x = true) : ∃ a b, x = .tup [a, b] := by
  cases x <;> simp only [pairP, Bool.false_eq_true, decide_eq_true_eq] at h
  rename_i xs
  match xs, h with
  | [a, b], _ => exact ⟨a, b, rfl⟩
theorem isPlain_map (t : Tk) : isPlain (taskD t) = (okT t && good t) := by unfold isPlain; rw [taskOf_map]
theorem dat_sizes {t : Tk} (h : dat 60 (taskD t) = true) : t.length ≤ 1000 ∧ ∀ p ∈ t, p.1.length ≤ 5000 ∧ ∀ x ∈ p.2, x.length ≤ 5000 := by
  simp only [dat, Bool.and_eq_true, decide_eq_true_eq, List.all_eq_true, List.length_map] at h
  refine ⟨h.1, fun p hp => ?_⟩
  have := h.2 _ (List.mem_map.mpr ⟨p, hp, rfl⟩)
  simp only [ruleD, dat, Bool.and_eq_true, decide_eq_true_eq, List.all_eq_true] at this
  have h1 := this.2 (lotD p.1) (by simp)
  have h2 := this.2 (webD p.2) (by simp)
  simp only [dat, Bool.and_eq_true, decide_eq_true_eq, List.all_eq_true, List.length_map] at h1 h2
  refine ⟨by omega, fun x hx => ?_⟩
  have := h2.2 _ (List.mem_map.mpr ⟨x, hx, rfl⟩)
  simp only [dat, Bool.and_eq_true, decide_eq_true_eq, List.length_map] at this
  omega
theorem dat_pair {k : Nat} {a b : D} (h : dat (k + 1) (.tup [a, b]) = true) : dat k a = true ∧ dat k b = true := by
  simp only [dat, Bool.and_eq_true, List.all_eq_true] at h
  exact ⟨h.2 a (by simp), h.2 b (by simp)⟩
end Ev
namespace Pg
open PySem Ev Or
theorem c_plain (n : Nat) (d : D) (h : AH) (hd : dat 60 d = true) : runN G T (n + 6) 12 [d] h = .ok (.bl (isPlain d)) h := by
  cases d <;> first
    | (simp [dat] at hd; done)
    | (rw [run_12]; simp [run1, f_is_plain_in, isI, isPlain, taskOf]; done)
    | skip
  rename_i xs
  have hd0 := hd
  simp only [dat, Bool.and_eq_true, decide_eq_true_eq, List.all_eq_true] at hd
  have e0 : cmpop .eq (.tup xs) (.tup []) = some xs.isEmpty := eq_unit (dat_deep (Nat.le_refl _) hd0)
  cases he : xs.isEmpty with
  | true =>
    cases xs with
    | nil =>
      rw [run_12]
      simp [run1, f_is_plain_in, isI, e0, isPlain, taskOf, dec, okT]
    | cons _ _ => simp at he
  | false =>
    rw [he] at e0
    have e1 : ev (runN G T (n + 5)) G (.lc (.cl (.nm 3) (.var 0) [] (.yl (.call 2 [(.var 3), (.con (.int 2))] [])))) [some (.val (.tup xs)), none, none, none, none, none, none] h = .ok (.lst (xs.map fun x => .bl (pairP x))) h :=
      lcm id (fun x => .bl (pairP x)) rfl (by simp [items]) (by omega) fun x hx => by
        have := c_is_long (n + 4) x h (hd.2 x hx)
        simp [this, pairP]
        cases x <;> rfl
    cases hp : xs.all pairP with
    | false =>
      rw [plain_no pairP (fun q _ => rfl) hp, run_12]
      simp [run1, f_is_plain_in, isI, e0, e1, hp]
    | true =>
      cases hr : xs.all isRule with
      | true =>
        obtain ⟨t, rfl, ht⟩ := all_rules hr
        have ok : okT t = true := by
          unfold okT
          rw [ht]
          cases t <;> simp at he ⊢
        rw [show D.tup (t.map ruleD) = taskD t from rfl, isPlain_map, ok, Bool.true_and]
        exact c_plain_t n t h ok (dat_sizes hd0) hd0
      | false =>
        have e2 : ev (runN G T (n + 5)) G (.lc (.cl (.nm 3) (.var 0) [] (.yl (.and [(.call 6 [(.sub (.var 3) (.con (.int 0)))] []), (.call 9 [(.sub (.var 3) (.con (.int 1)))] [])])))) [some (.val (.tup xs)), none, none, none, none, none, none] h = .ok (.lst (xs.map fun x => .bl (isRule x))) h :=
          lcm id (fun x => .bl (isRule x)) rfl (by simp [items]) (by omega) fun x hx => by
            obtain ⟨a, b, rfl⟩ := pair_some (List.all_eq_true.mp hp x hx)
            have dx := dat_pair (hd.2 _ hx)
            have f1 := c_is_lot (n + 1) a h (by decide) dx.1
            have f2 := c_is_web n b h (by decide) dx.2
            simp [subD, atI, ixOf, f1, f2, isRule]
            cases isLot a <;> simp
        rw [plain_no isRule (fun q hq => by simp only [isRule, ruleD, isLot_map, isWeb_map]; exact hq) hr, run_12]
        simp [run1, f_is_plain_in, isI, e0, e1, hp, e2, hr]
theorem c_plain_task (n : Nat) (d : D) (h : AH) (hd : dat 60 d = true) : runN G T (n + 7) 16 [d] h = .ok (.bl (isPlain d)) h := by
  rw [run_16]
  simp [run1, f_is_plain_task, c_plain n d h hd]
end Pg

end
section
set_option linter.all false
set_option maxRecDepth 100000
set_option maxHeartbeats 8000000
/-! L12: any thing: a plain task or none, by the law's own looking. -/
namespace Ev
open PySem Or
def tupLen : D → Bool
  | .tup ys => decide (1 ≤ ys.length ∧ ys.length ≤ 40)
  | _ => false
def ruleA : D → Bool
  | .tup [a, b] => isLot a && tupLen b
  | _ => false
def lotsIn : D → Bool
  | .tup [_, .tup ys] => ys.all isLot
  | _ => false
end Ev
namespace Pg
open PySem Ev Or
/-- the two loops over rules -/
theorem mono_loop (n : Nat) (t : Tk) (h : AH) (sz : ∀ p ∈ t, p.1.length ≤ 5000 ∧ p.2.length ≤ 5000 ∧ ∀ x ∈ p.2, x.length ≤ 5000) (l1 l2 : Option Cell) :
    ∃ sl' : Slots, forR (fun d sl h => (R.opt h (setTg sl (.tp [3, 4]) d)).bind fun sl h => xcs (runN G T (n + 1)) G [.for (.tp [6, 7]) (.var 0) [.ite (.and [(.call 32 [(.var 3), (.var 6)] []), (.bi .any [(.lc (.cl (.nm 5) (.var 4) [] (.yl (.not (.bi .any [(.lc (.cl (.nm 10) (.var 7) [] (.yl (.call 32 [(.var 5), (.var 10)] []))))])))))])]) [.ret (.con (.bl false))] []]] sl h)
      (t.map ruleD) [some (.val (taskD t)), l1, l2, none, none, none, none, none, none, none, none] h = .ok (if mono t then .nx sl' else .ret (.bl false)) h := by
  have inner : ∀ p ∈ t, ∀ sl : Slots, (∃ c6 c7, sl = [some (.val (taskD t)), l1, l2, some (.val (lotD p.1)), some (.val (webD p.2)), none, c6, c7, none, none, none]) →
      ((t.all fun q => !sub p.1 q.1 || p.2.all fun x => lies q.2 x) = true → ∃ sl', forR (fun d sl h => (R.opt h (setTg sl (.tp [6, 7]) d)).bind fun sl h => xcs (runN G T (n + 1)) G [.ite (.and [(.call 32 [(.var 3), (.var 6)] []), (.bi .any [(.lc (.cl (.nm 5) (.var 4) [] (.yl (.not (.bi .any [(.lc (.cl (.nm 10) (.var 7) [] (.yl (.call 32 [(.var 5), (.var 10)] []))))])))))])]) [.ret (.con (.bl false))] []] sl h) (t.map ruleD) sl h = .ok (.nx sl') h ∧
        ∃ c6 c7, sl' = [some (.val (taskD t)), l1, l2, some (.val (lotD p.1)), some (.val (webD p.2)), none, c6, c7, none, none, none]) ∧
      ((t.all fun q => !sub p.1 q.1 || p.2.all fun x => lies q.2 x) = false → forR (fun d sl h => (R.opt h (setTg sl (.tp [6, 7]) d)).bind fun sl h => xcs (runN G T (n + 1)) G [.ite (.and [(.call 32 [(.var 3), (.var 6)] []), (.bi .any [(.lc (.cl (.nm 5) (.var 4) [] (.yl (.not (.bi .any [(.lc (.cl (.nm 10) (.var 7) [] (.yl (.call 32 [(.var 5), (.var 10)] []))))])))))])]) [.ret (.con (.bl false))] []] sl h) (t.map ruleD) sl h = .ok (.ret (.bl false)) h) := by
    intro p hp sl hi
    refine for_all ruleD (fun sl => ∃ c6 c7, sl = [some (.val (taskD t)), l1, l2, some (.val (lotD p.1)), some (.val (webD p.2)), none, c6, c7, none, none, none]) _ _ _ sl ?_ hi
    rintro sl q hq ⟨c6, c7, rfl⟩
    have f1 := c_law_within n p.1 q.1 h (sz p hp).1
    have f2 : ev (runN G T (n + 1)) G (.lc (.cl (.nm 5) (.var 4) [] (.yl (.not (.bi .any [(.lc (.cl (.nm 10) (.var 7) [] (.yl (.call 32 [(.var 5), (.var 10)] []))))]))))) [some (.val (taskD t)), l1, l2, some (.val (lotD p.1)), some (.val (webD p.2)), none, some (.val (lotD q.1)), some (.val (webD q.2)), none, none, none] h = .ok (.lst (p.2.map fun x => .bl (!lies q.2 x))) h :=
      lcm lotD (fun x => .bl (!lies q.2 x)) rfl rfl (by have := (sz p hp).2.1; omega) fun x hx => by
        have f3 : ev (runN G T (n + 1)) G (.lc (.cl (.nm 10) (.var 7) [] (.yl (.call 32 [(.var 5), (.var 10)] [])))) [some (.val (taskD t)), l1, l2, some (.val (lotD p.1)), some (.val (webD p.2)), some (.val (lotD x)), some (.val (lotD q.1)), some (.val (webD q.2)), none, none, none] h = .ok (.lst (q.2.map fun y => .bl (sub x y))) h :=
          lcm lotD (fun y => .bl (sub x y)) rfl rfl (by have := (sz q hq).2.1; omega) fun y hy => by
            have := c_law_within n x y h ((sz p hp).2.2 x hx)
            simp only [lotD] at this
            simp [this]
        simp only [lotD, webD] at f3
        simp [-List.map_map, f3, lies]
    have g : (p.2.any fun x => !lies q.2 x) = !(p.2.all fun x => lies q.2 x) := by simp [List.any_eq_not_all_not]
    simp only [lotD, webD, ruleD] at f1 f2 ⊢
    refine ⟨fun z => ⟨_, ?_, some (.val (lotD q.1)), some (.val (webD q.2)), rfl⟩, fun z => ?_⟩
    · cases s : sub p.1 q.1 with
      | false => simp [-List.map_map, f1, s]
      | true =>
        rw [s] at z
        have z : (p.2.all fun x => lies q.2 x) = true := by simpa using z
        rw [z] at g
        simp [-List.map_map, f1, s, f2, g]
    · cases s : sub p.1 q.1 with
      | false => rw [s] at z; simp at z
      | true =>
        rw [s] at z
        have z : (p.2.all fun x => lies q.2 x) = false := by simpa using z
        rw [z] at g
        simp [-List.map_map, f1, s, f2, g]
  have outer := for_all (h := h) ruleD (body := fun d sl h => (R.opt h (setTg sl (.tp [3, 4]) d)).bind fun sl h => xcs (runN G T (n + 1)) G [.for (.tp [6, 7]) (.var 0) [.ite (.and [(.call 32 [(.var 3), (.var 6)] []), (.bi .any [(.lc (.cl (.nm 5) (.var 4) [] (.yl (.not (.bi .any [(.lc (.cl (.nm 10) (.var 7) [] (.yl (.call 32 [(.var 5), (.var 10)] []))))])))))])]) [.ret (.con (.bl false))] []]] sl h)
    (fun sl => ∃ c3 c4 c6 c7, sl = [some (.val (taskD t)), l1, l2, c3, c4, none, c6, c7, none, none, none]) (fun p => t.all fun q => !sub p.1 q.1 || p.2.all fun x => lies q.2 x) (.bl false) t [some (.val (taskD t)), l1, l2, none, none, none, none, none, none, none, none] (by
      rintro sl p hp ⟨c3, c4, c6, c7, rfl⟩
      obtain ⟨i1, i2⟩ := inner p hp [some (.val (taskD t)), l1, l2, some (.val (lotD p.1)), some (.val (webD p.2)), none, c6, c7, none, none, none] ⟨c6, c7, rfl⟩
      refine ⟨fun q => ?_, fun q => ?_⟩
      · obtain ⟨sl', e, c6', c7', rfl⟩ := i1 q
        refine ⟨_, ?_, some (.val (lotD p.1)), some (.val (webD p.2)), c6', c7', rfl⟩
        rw [ruleD, setTg_2, ro_some, rb_ok, xcs_s, xc_for]
        simp only [setS_eq, List.set_cons_succ, List.set_cons_zero, ev_var, getS_s, getS_0, ro_some, rb_ok, items]
        rw [e]
        simp
      · have e := i2 q
        rw [ruleD, setTg_2, ro_some, rb_ok, xcs_s, xc_for]
        simp only [setS_eq, List.set_cons_succ, List.set_cons_zero, ev_var, getS_s, getS_0, ro_some, rb_ok, items]
        rw [e]
        simp) ⟨none, none, none, none, rfl⟩
  cases hm : mono t with
  | true =>
    obtain ⟨sl', e, _⟩ := outer.1 hm
    exact ⟨sl', e⟩
  | false => exact ⟨[], outer.2 hm⟩
theorem eqb {a b : Bool} (h : a = b) : a = b := h
theorem c_law_plain_t (n : Nat) (t : Tk) (h : AH) (ok : okT t = true) (d1 : dat 60 (taskD t) = true) : runN G T (n + 3) 33 [taskD t] h = .ok (.bl (good t)) h := by
  rw [run_33]
  obtain ⟨okk, okp⟩ := okT_parts ok
  have sz := dat_sizes d1
  have tne : t ≠ [] := by rintro rfl; simp [okT] at ok
  have ted : (t.map ruleD).isEmpty = false := by cases t <;> simp at tne ⊢
  have e0 := eq_unit (xs := t.map ruleD) (okD_task 56 t)
  rw [ted] at e0
  have e0 : cmpop .eq (taskD t) (.tup []) = some false := e0
  have dr : ∀ p ∈ t, dat 59 (ruleD p) = true := fun p hp => by
    have d1 := d1
    simp only [dat, Bool.and_eq_true, List.all_eq_true] at d1
    exact d1.2 _ (List.mem_map.mpr ⟨p, hp, rfl⟩)
  have dl : ∀ p ∈ t, dat 58 (lotD p.1) = true ∧ dat 58 (webD p.2) = true := fun p hp => dat_pair (dr p hp)
  have e1 : ev (runN G T (n + 2)) G (.lc (.cl (.nm 5) (.var 0) [] (.yl (.or [(.not (.isi (.var 5) .tuple)), (.cmp .ne (.bi .len [(.var 5)]) (.con (.int 2)))])))) [some (.val (taskD t)), none, none, none, none, none, none, none, none, none, none] h = .ok (.lst (t.map fun _ => .bl false)) h :=
    lcm ruleD (fun _ => .bl false) rfl rfl (by omega) fun p hp => by simp [isI]
  have e2 : ev (runN G T (n + 2)) G (.lc (.cl (.nm 5) (.var 0) [] (.yl (.or [(.not (.call 31 [(.sub (.var 5) (.con (.int 0)))] [])), (.not (.isi (.sub (.var 5) (.con (.int 1))) .tuple)), (.cmp .eq (.sub (.var 5) (.con (.int 1))) (.tup [])), (.cmp .gt (.bi .len [(.sub (.var 5) (.con (.int 1)))]) (.con (.int 40)))])))) [some (.val (taskD t)), none, none, none, none, none, none, none, none, none, none] h = .ok (.lst (t.map fun _ => .bl false)) h :=
    lcm ruleD (fun _ => .bl false) rfl rfl (by omega) fun p hp => by
      have f1 := c_law_lot n (lotD p.1) h (by decide) (dl p hp).1
      rw [isLot_map, (okp p hp).1] at f1
      have w1 := (okp p hp).2.1
      simp only [okWeb, Bool.and_eq_true, decide_eq_true_eq] at w1
      have wne : (p.2.map lotD).isEmpty = false := by
        cases hq : p.2 with
        | nil => rw [hq] at w1; simp at w1
        | cons _ _ => rfl
      have f2 := eq_unit (xs := p.2.map lotD) (okD_web 58 p.2)
      rw [wne] at f2
      have f2 : cmpop .eq (webD p.2) (.tup []) = some false := f2
      have f3 : ¬ (40 : Int) < (p.2.length : Int) := by omega
      simp only [ruleD, lotD, webD] at f1 f2 ⊢
      simp [subD, atI, ixOf, f1, isI, f2, f3]
  have e3 : ev (runN G T (n + 2)) G (.lc (.cl (.nm 5) (.var 0) [] (.yl (.bi .any [(.lc (.cl (.nm 9) (.sub (.var 5) (.con (.int 1))) [] (.yl (.not (.call 31 [(.var 9)] [])))))])))) [some (.val (taskD t)), none, none, none, none, none, none, none, none, none, none] h = .ok (.lst (t.map fun _ => .bl false)) h :=
    lcm ruleD (fun _ => .bl false) rfl rfl (by omega) fun p hp => by
      have w1 := (okp p hp).2.1
      simp only [okWeb, Bool.and_eq_true, decide_eq_true_eq, List.all_eq_true] at w1
      have f1 : ev (runN G T (n + 2)) G (.lc (.cl (.nm 9) (.sub (.var 5) (.con (.int 1))) [] (.yl (.not (.call 31 [(.var 9)] []))))) [some (.val (taskD t)), none, none, none, none, some (.val (ruleD p)), none, none, none, none, none] h = .ok (.lst (p.2.map fun _ => .bl false)) h :=
        lcm lotD (d := webD p.2) (fun _ => .bl false) (by simp [subD, atI, ixOf]) rfl (by omega) fun x hx => by
          have d2 := (dl p hp).2
          simp only [dat, Bool.and_eq_true, List.all_eq_true] at d2
          have f2 := c_law_lot n (lotD x) h (by decide) (d2.2 _ (List.mem_map.mpr ⟨x, hx, rfl⟩))
          rw [isLot_map, w1.1.2 x hx] at f2
          simp only [lotD] at f2
          simp [f2]
      simp only [ruleD, lotD, webD] at f1
      simp [-List.map_map, f1]
  have e4 : ev (runN G T (n + 2)) G (.lc (.cl (.nm 5) (.var 0) [] (.yl (.cmp .ne (.call 28 [(.sub (.var 5) (.con (.int 1)))] []) (.sub (.var 5) (.con (.int 1))))))) [some (.val (taskD t)), none, none, none, none, none, none, none, none, none, none] h = .ok (.lst (t.map fun _ => .bl false)) h :=
    lcm ruleD (fun _ => .bl false) rfl rfl (by omega) fun p hp => by
      have w1 := (okp p hp).2.1
      simp only [okWeb, Bool.and_eq_true, decide_eq_true_eq] at w1
      have f1 := c_law_greatest (n + 1) (webD p.2) p.2 h rfl w1.1.2 (by omega) (sz.2 p hp).2
      rw [w1.2] at f1
      have f2 : cmpop .ne (webD p.2) (webD p.2) = some false := by
        show (dEq _ _).map _ = _
        rw [dEq_of (okD_web 58 _) (okD_web 58 _), eqv_web]; simp
      simp only [ruleD, lotD, webD] at f1 f2 ⊢
      simp [-List.map_map, subD, atI, ixOf, f1, f2]
  have e5 : ev (runN G T (n + 2)) G (.lc (.cl (.nm 5) (.var 0) [] (.yl (.sub (.var 5) (.con (.int 0)))))) [some (.val (taskD t)), none, none, none, none, none, none, none, none, none, none] h = .ok (.lst ((keys t).map lotD)) h := by
    have := lcm (F := runN G T (n + 2)) (G := G) (sl := [some (.val (taskD t)), none, none, none, none, none, none, none, none, none, none]) (h := h) ruleD (i := 5) (it := .var 0) (e := .sub (.var 5) (.con (.int 0))) (d := taskD t) (xs := t) (fun p => lotD p.1) rfl rfl (by omega) fun p hp => by
      simp [subD, atI, ixOf]
    rw [this]
    simp [keys]
  have kz : (keys t).length ≤ 1000 := by simp [keys]; omega
  have e6 := c_law_greatest (n + 1) (.lst ((keys t).map lotD)) (keys t) h rfl okk kz (fun x hx => by
    obtain ⟨p, hp, rfl⟩ := List.mem_map.mp hx
    exact (sz.2 p hp).1)
  have e7 := sset_lots (keys t) (by omega) (lots_ne okk) (d := .lst ((keys t).map lotD)) rfl
  have e8 : cmpop .ne (.lst ((keys t).map lotD)) (.lst ((sset ltL (keys t)).map lotD)) = some (!chain ltL (keys t)) := by
    show (dEq _ _).map _ = _
    rw [dEq_of (show okD deep (.lst _) = true from okL_map (okD_lot 58) _) (show okD deep (.lst _) = true from okL_map (okD_lot 58) _)]
    simp only [eqv]
    rw [eqvL_map eqv_lot]
    have : decide (keys t = sset ltL (keys t)) = chain ltL (keys t) := by
      rw [Bool.eq_iff_iff, decide_eq_true_eq, sset_eq ordL, ← chain_asc ordL]
    rw [this]; rfl
  have gne := great_ne (lots_asc okk) (by simp [keys]; exact tne)
  have gl : (great (keys t)).length ≤ 1000 := Nat.le_trans (List.length_filter_le _ _) (Nat.le_trans (sset_len _) kz)
  have e9 : ev (runN G T (n + 2)) G (.lc (.cl (.nm 5) (.var 2) [] (.yl (.bi .len [(.var 5)])))) [some (.val (taskD t)), some (.val (.lst ((keys t).map lotD))), some (.val (webD (great (keys t)))), none, none, none, none, none, none, none, none] h = .ok (.lst ((great (keys t)).map fun x => .int (x.length : Int))) h :=
    lcm lotD (fun x => .int (x.length : Int)) rfl rfl (by omega) fun x hx => by simp
  have e10 := bi_max (great (keys t)) gne
  cases hc : chain ltL (keys t) with
  | false =>
    rw [hc] at e8
    have q : good t = false := by simp [good, hc]
    rw [q]
    simp only [taskD, ruleD, webD, lotD] at e0 e1 e2 e3 e4 e5 e6 e7 e8 ⊢
    simp [-List.map_map, -List.any_map, run1, f__law_is_plain, isI, e0, e1, e2, e3, e4, e5, e6, e7, e8]
  | true =>
    rw [hc] at e8
    by_cases fw : few t = true
    · have fw2 := fw
      simp only [few, Bool.and_eq_true, decide_eq_true_eq] at fw2
      have tops := maxL_le fw2.2
      have n1 : ¬ (12 : Int) < ((great (keys t)).length : Int) := by omega
      have n2 : ¬ (6 : Int) < maxL (great (keys t)) := by omega
      have e11 : ev (runN G T (n + 2)) G (.lc (.cl (.nm 8) (.var 2) [] (.yl (.bi .any [(.lc (.cl (.nm 5) (.call 27 [(.var 8)] []) [] (.yl (.cmp .notin (.var 5) (.var 1)))))])))) [some (.val (taskD t)), some (.val (.lst ((keys t).map lotD))), some (.val (webD (great (keys t)))), none, none, none, none, none, none, none, none] h
          = .ok (.lst ((great (keys t)).map fun top => .bl ((srt (leO ltL) ((subs top).drop 1)).any fun x => !(keys t).contains x))) h :=
        lcm lotD (fun top => .bl ((srt (leO ltL) ((subs top).drop 1)).any fun x => !(keys t).contains x)) rfl rfl (by omega) fun top htop => by
          have tl := tops top htop
          have f1 := c_law_subsets (n + 1) top h (by omega)
          have sl : (srt (leO ltL) ((subs top).drop 1)).length ≤ 4096 := by
            rw [(srt_perm _ _).length_eq, List.length_drop, subs_len]
            have : 2 ^ top.length ≤ 2 ^ 6 := Nat.pow_le_pow_right (by decide) tl
            omega
          have f2 : ev (runN G T (n + 2)) G (.lc (.cl (.nm 5) (.call 27 [(.var 8)] []) [] (.yl (.cmp .notin (.var 5) (.var 1))))) [some (.val (taskD t)), some (.val (.lst ((keys t).map lotD))), some (.val (webD (great (keys t)))), none, none, none, none, none, some (.val (lotD top)), none, none] h = .ok (.lst ((srt (leO ltL) ((subs top).drop 1)).map fun x => .bl (!(keys t).contains x))) h :=
            lcm lotD (d := .lst ((srt (leO ltL) ((subs top).drop 1)).map lotD)) (fun x => .bl (!(keys t).contains x)) (by simp only [lotD] at f1; simp [-List.drop_one, f1]) rfl (by omega) fun x hx => by
              have : cmpop .notin (lotD x) (.lst ((keys t).map lotD)) = some (!(keys t).contains x) := by
                show (inD _ _).map _ = _
                rw [in_lots x (keys t) _ (.inr rfl)]; rfl
              simp only [lotD] at this
              simp [-List.map_map, -List.contains_eq_mem, this]
          simp only [lotD, webD] at f2
          simp [-List.map_map, -List.drop_one, -List.contains_eq_mem, f2]
      have cl : ((great (keys t)).any fun top => (srt (leO ltL) ((subs top).drop 1)).any fun x => !(keys t).contains x) = !closed t := by
        have : closed t = (great (keys t)).all fun top => !((srt (leO ltL) ((subs top).drop 1)).any fun x => !(keys t).contains x) := by
          unfold closed
          rw [Bool.eq_iff_iff, List.all_eq_true, List.all_eq_true]
          refine forall_congr' fun top => forall_congr' fun _ => ?_
          rw [List.all_eq_true, Bool.not_eq_true', List.any_eq_false]
          obtain ⟨r, er, hr⟩ := subs_head top
          have m : ∀ x, x ∈ (subs top).filter (fun x => !x.isEmpty) ↔ x ∈ srt (leO ltL) ((subs top).drop 1) := fun x => by
            rw [(srt_perm _ _).mem_iff, er, List.mem_filter]
            simp only [List.drop_succ_cons, List.drop_zero, List.mem_cons]
            constructor
            · rintro ⟨h1, h2⟩
              rcases h1 with h1 | h1
              · rw [h1] at h2; simp at h2
              · exact h1
            · intro h1
              refine ⟨.inr h1, ?_⟩
              have := hr x h1
              cases x <;> simp at this ⊢
          refine forall_congr' fun x => ?_
          rw [m x]
          simp
        rw [this, List.any_eq_not_all_not]
      cases hcl : closed t with
      | false =>
        rw [hcl] at cl
        have q : good t = false := by simp [good, hcl]
        rw [q]
        simp only [taskD, ruleD, webD, lotD] at e0 e1 e2 e3 e4 e5 e6 e7 e8 e9 e11 cl ⊢
        simp [-List.map_map, -List.any_map, -List.drop_one, -List.contains_eq_mem, run1, f__law_is_plain, isI, e0, e1, e2, e3, e4, e5, e6, e7, e8, e9, e10, e11, cl, n1, n2]
      | true =>
        rw [hcl] at cl
        have q : good t = mono t := by simp [good, hc, fw, hcl]
        rw [q]
        obtain ⟨sl', e12⟩ := mono_loop (n + 1) t h (fun p hp => ⟨(sz.2 p hp).1, by have := (okp p hp).2.2; omega, (sz.2 p hp).2⟩) (some (.val (.lst ((keys t).map lotD)))) (some (.val (webD (great (keys t)))))
        simp only [taskD, ruleD, webD, lotD] at e0 e1 e2 e3 e4 e5 e6 e7 e8 e9 e11 cl ⊢
        simp only [taskD, ruleD, webD, lotD] at e12
        have e13 : xc (runN G T (n + 2)) G (.for (.tp [3, 4]) (.var 0) [.for (.tp [6, 7]) (.var 0) [.ite (.and [(.call 32 [(.var 3), (.var 6)] []), (.bi .any [(.lc (.cl (.nm 5) (.var 4) [] (.yl (.not (.bi .any [(.lc (.cl (.nm 10) (.var 7) [] (.yl (.call 32 [(.var 5), (.var 10)] []))))])))))])]) [.ret (.con (.bl false))] []]]) [some (.val (taskD t)), some (.val (.lst ((keys t).map lotD))), some (.val (webD (great (keys t)))), none, none, none, none, none, none, none, none] h = .ok (if mono t then .nx sl' else .ret (.bl false)) h := e12
        generalize hS : (S.for (.tp [3, 4]) (.var 0) [.for (.tp [6, 7]) (.var 0) [.ite (.and [(.call 32 [(.var 3), (.var 6)] []), (.bi .any [(.lc (.cl (.nm 5) (.var 4) [] (.yl (.not (.bi .any [(.lc (.cl (.nm 10) (.var 7) [] (.yl (.call 32 [(.var 5), (.var 10)] []))))])))))])]) [.ret (.con (.bl false))] []]]) = S8 at e13
        simp only [taskD, ruleD, webD, lotD] at e13
        simp only [run1, f__law_is_plain]
        rw [hS]
        cases hm : mono t with
        | true =>
          rw [hm] at e13
          simp only [if_true] at e13
          simp [-List.map_map, -List.any_map, -List.drop_one, -List.contains_eq_mem, isI, e0, e1, e2, e3, e4, e5, e6, e7, e8, e9, e10, e11, cl, n1, n2, e13]
        | false =>
          rw [hm] at e13
          simp only [Bool.false_eq_true, if_false] at e13
          simp [-List.map_map, -List.any_map, -List.drop_one, -List.contains_eq_mem, isI, e0, e1, e2, e3, e4, e5, e6, e7, e8, e9, e10, e11, cl, n1, n2, e13]
    · have q : good t = false := by simp only [good]; simp only [Bool.not_eq_true] at fw; rw [fw]; simp
      rw [q]
      have fw2 : (12 : Int) < ((great (keys t)).length : Int) ∨ (6 : Int) < maxL (great (keys t)) := by
        simp only [few, Bool.and_eq_true, decide_eq_true_eq] at fw
        omega
      simp only [taskD, ruleD, webD, lotD] at e0 e1 e2 e3 e4 e5 e6 e7 e8 e9 ⊢
      by_cases n1 : (12 : Int) < ((great (keys t)).length : Int)
      · simp [-List.map_map, -List.any_map, run1, f__law_is_plain, isI, e0, e1, e2, e3, e4, e5, e6, e7, e8, n1]
      · have n2 := fw2.resolve_left n1
        simp [-List.map_map, -List.any_map, run1, f__law_is_plain, isI, e0, e1, e2, e3, e4, e5, e6, e7, e8, e9, e10, n1, n2]
end Pg

end
section
set_option linter.all false
set_option maxRecDepth 100000
set_option maxHeartbeats 8000000
/-! L13: the law's own looking, at any thing. -/
namespace Pg
open PySem Ev Or
theorem rules_A : ∀ {xs : List D}, xs.all ruleA = true → xs.all lotsIn = true → ∃ t : Tk, xs = t.map ruleD ∧ ∀ p ∈ t, okLot p.1 = true ∧ p.2.all okLot = true ∧ 1 ≤ p.2.length ∧ p.2.length ≤ 40
  | [], _, _ => ⟨[], rfl, fun p hp => nomatch hp⟩
  | x :: xs, h, g => by
    rw [List.all_cons, Bool.and_eq_true] at h g
    obtain ⟨t, rfl, ht⟩ := rules_A h.2 g.2
    have h1 := h.1
    unfold ruleA at h1
    split at h1
    · rename_i a b
      rw [Bool.and_eq_true] at h1
      obtain ⟨l, rfl, hl⟩ := isLot_some h1.1
      have h2 := h1.2
      cases b <;> simp only [tupLen, Bool.false_eq_true, decide_eq_true_eq] at h2
      rename_i ys
      obtain ⟨w, rfl, hw⟩ := all_lots (show ys.all isLot = true from g.1)
      rw [List.length_map] at h2
      refine ⟨(l, w) :: t, rfl, fun p hp => ?_⟩
      rcases List.mem_cons.mp hp with e | hp
      · rw [e]; exact ⟨hl, hw, h2.1, h2.2⟩
      · exact ht p hp
    · cases h1
theorem c_law_plain (n : Nat) (d : D) (h : AH) (hd : dat 60 d = true) : runN G T (n + 3) 33 [d] h = .ok (.bl (isPlain d)) h := by
  cases d <;> first
    | (simp [dat] at hd; done)
    | (rw [run_33]; simp [run1, f__law_is_plain, isI, isPlain, taskOf]; done)
    | skip
  rename_i xs
  have hd0 := hd
  simp only [dat, Bool.and_eq_true, decide_eq_true_eq, List.all_eq_true] at hd
  have e0 : cmpop .eq (.tup xs) (.tup []) = some xs.isEmpty := eq_unit (dat_deep (Nat.le_refl _) hd0)
  cases he : xs.isEmpty with
  | true =>
    cases xs with
    | nil =>
      rw [run_33]
      simp [run1, f__law_is_plain, isI, e0, isPlain, taskOf, dec, okT]
    | cons _ _ => simp at he
  | false =>
    rw [he] at e0
    have e1 : ev (runN G T (n + 2)) G (.lc (.cl (.nm 5) (.var 0) [] (.yl (.or [(.not (.isi (.var 5) .tuple)), (.cmp .ne (.bi .len [(.var 5)]) (.con (.int 2)))])))) [some (.val (.tup xs)), none, none, none, none, none, none, none, none, none, none] h = .ok (.lst (xs.map fun x => .bl (!pairP x))) h :=
      lcm id (fun x => .bl (!pairP x)) rfl (by simp [items]) (by omega) fun x hx => by
        have hx := hd.2 x hx
        cases x <;> first
          | (simp [dat] at hx; done)
          | (simp [isI, pairP]; done)
          | skip
        rename_i ys _
        simp [isI, pairP]
        by_cases q : ys.length = 2 <;> simp [q]
        omega
    have any_not : ∀ (p : D → Bool), (xs.any fun x => !p x) = !xs.all p := fun p => by simp [List.any_eq_not_all_not]
    cases hp : xs.all pairP with
    | false =>
      rw [plain_no pairP (fun q _ => rfl) hp, run_33]
      have a1 := any_not pairP
      rw [hp] at a1
      simp [run1, f__law_is_plain, isI, e0, e1, a1]
    | true =>
      have a1 := any_not pairP
      rw [hp] at a1
      have e2 : ev (runN G T (n + 2)) G (.lc (.cl (.nm 5) (.var 0) [] (.yl (.or [(.not (.call 31 [(.sub (.var 5) (.con (.int 0)))] [])), (.not (.isi (.sub (.var 5) (.con (.int 1))) .tuple)), (.cmp .eq (.sub (.var 5) (.con (.int 1))) (.tup [])), (.cmp .gt (.bi .len [(.sub (.var 5) (.con (.int 1)))]) (.con (.int 40)))])))) [some (.val (.tup xs)), none, none, none, none, none, none, none, none, none, none] h = .ok (.lst (xs.map fun x => .bl (!ruleA x))) h :=
        lcm id (fun x => .bl (!ruleA x)) rfl (by simp [items]) (by omega) fun x hx => by
          obtain ⟨a, b, rfl⟩ := pair_some (List.all_eq_true.mp hp x hx)
          have dx := dat_pair (hd.2 _ hx)
          have f1 := c_law_lot n a h (by decide) dx.1
          cases ha : isLot a with
          | false =>
            rw [ha] at f1
            simp [subD, atI, ixOf, f1, ruleA, ha]
          | true =>
            rw [ha] at f1
            have db := dx.2
            cases b <;> first
              | (simp [dat] at db; done)
              | (simp [subD, atI, ixOf, f1, ruleA, ha, tupLen, isI]; done)
              | skip
            rename_i ys
            have f2 : cmpop .eq (.tup ys) (.tup []) = some ys.isEmpty := eq_unit (dat_deep (by decide) db)
            cases hy : ys.isEmpty with
            | true =>
              cases ys with
              | nil => simp [subD, atI, ixOf, f1, ruleA, ha, tupLen, isI, f2]
              | cons _ _ => simp at hy
            | false =>
              have h1 : 1 ≤ ys.length := by cases ys <;> simp at hy ⊢
              rw [hy] at f2
              simp [subD, atI, ixOf, f1, ruleA, ha, tupLen, isI, f2]
              by_cases q : ys.length ≤ 40
              · have : ¬ (40 : Int) < (ys.length : Int) := by omega
                simp [this, q]; omega
              · have : (40 : Int) < (ys.length : Int) := by omega
                simp [this, q]
      cases hA : xs.all ruleA with
      | false =>
        have a2 := any_not ruleA
        rw [hA] at a2
        rw [plain_no ruleA (fun q hq => by
          rw [Bool.and_eq_true] at hq
          have w1 := hq.2
          simp only [okWeb, Bool.and_eq_true, decide_eq_true_eq] at w1
          simp only [ruleA, ruleD, isLot_map, hq.1, tupLen, List.length_map, decide_eq_true w1.1.1, Bool.and_self]) hA, run_33]
        simp [run1, f__law_is_plain, isI, e0, e1, a1, e2, a2]
      | true =>
        have a2 := any_not ruleA
        rw [hA] at a2
        have e3 : ev (runN G T (n + 2)) G (.lc (.cl (.nm 5) (.var 0) [] (.yl (.bi .any [(.lc (.cl (.nm 9) (.sub (.var 5) (.con (.int 1))) [] (.yl (.not (.call 31 [(.var 9)] [])))))])))) [some (.val (.tup xs)), none, none, none, none, none, none, none, none, none, none] h = .ok (.lst (xs.map fun x => .bl (!lotsIn x))) h :=
          lcm id (fun x => .bl (!lotsIn x)) rfl (by simp [items]) (by omega) fun x hx => by
            obtain ⟨a, b, rfl⟩ := pair_some (List.all_eq_true.mp hp x hx)
            have dx := dat_pair (hd.2 _ hx)
            have hA := List.all_eq_true.mp hA _ hx
            simp only [ruleA, Bool.and_eq_true] at hA
            have hb := hA.2
            cases b <;> simp only [tupLen, Bool.false_eq_true, decide_eq_true_eq] at hb
            rename_i ys
            have db := dx.2
            simp only [dat, Bool.and_eq_true, decide_eq_true_eq, List.all_eq_true] at db
            have f1 : ev (runN G T (n + 2)) G (.lc (.cl (.nm 9) (.sub (.var 5) (.con (.int 1))) [] (.yl (.not (.call 31 [(.var 9)] []))))) [some (.val (.tup xs)), none, none, none, none, some (.val (.tup [a, .tup ys])), none, none, none, none, none] h = .ok (.lst (ys.map fun y => .bl (!isLot y))) h :=
              lcm id (d := .tup ys) (fun y => .bl (!isLot y)) (by simp [subD, atI, ixOf]) (by simp [items]) (by omega) fun y hy => by
                have f2 := c_law_lot n y h (by decide) (db.2 y hy)
                simp [f2]
            have g : (ys.any fun y => !isLot y) = !ys.all isLot := by simp [List.any_eq_not_all_not]
            simp [-List.map_map, f1, lotsIn, g]
        cases hL : xs.all lotsIn with
        | false =>
          have a3 := any_not lotsIn
          rw [hL] at a3
          rw [plain_no lotsIn (fun q hq => by
            rw [Bool.and_eq_true] at hq
            have w1 := hq.2
            simp only [okWeb, Bool.and_eq_true, decide_eq_true_eq] at w1
            show (q.2.map lotD).all isLot = true
            rw [List.all_map]
            rw [← w1.1.2]
            congr 1
            funext x
            exact isLot_map x) hL, run_33]
          simp [run1, f__law_is_plain, isI, e0, e1, a1, e2, a2, e3, a3]
        | true =>
          have a3 := any_not lotsIn
          rw [hL] at a3
          obtain ⟨t, rfl, ht⟩ := rules_A hA hL
          rw [show D.tup (t.map ruleD) = taskD t from rfl, isPlain_map]
          have sz := dat_sizes hd0
          cases hok : okT t with
          | true =>
            rw [Bool.true_and]
            exact c_law_plain_t n t h hok hd0
          | false =>
            rw [Bool.false_and, run_33]
            have e4 : ev (runN G T (n + 2)) G (.lc (.cl (.nm 5) (.var 0) [] (.yl (.cmp .ne (.call 28 [(.sub (.var 5) (.con (.int 1)))] []) (.sub (.var 5) (.con (.int 1))))))) [some (.val (taskD t)), none, none, none, none, none, none, none, none, none, none] h = .ok (.lst (t.map fun p => .bl (!decide (great p.2 = p.2)))) h :=
              lcm ruleD (fun p => .bl (!decide (great p.2 = p.2))) rfl rfl (by omega) fun p hp => by
                obtain ⟨t1, t2, t3, t4⟩ := ht p hp
                have f1 := c_law_greatest (n + 1) (webD p.2) p.2 h rfl t2 (by omega) (sz.2 p hp).2
                have f2 : cmpop .ne (webD (great p.2)) (webD p.2) = some (!decide (great p.2 = p.2)) := by
                  show (dEq _ _).map _ = _
                  rw [dEq_of (okD_web 58 _) (okD_web 58 _), eqv_web]; rfl
                simp only [ruleD, lotD, webD] at f1 f2 ⊢
                simp [-List.map_map, subD, atI, ixOf, f1, f2]
            have a4 : (t.any fun p => !decide (great p.2 = p.2)) = true := by
              cases q : t.any fun p => !decide (great p.2 = p.2) with
              | true => rfl
              | false =>
                exfalso
                have : okT t = true := by
                  unfold okT
                  have ne : t.isEmpty = false := by cases t <;> simp at he ⊢
                  rw [ne, Bool.not_false, Bool.true_and, List.all_eq_true]
                  intro p hp
                  obtain ⟨t1, t2, t3, t4⟩ := ht p hp
                  have := List.any_eq_false.mp q p hp
                  simp only [Bool.not_eq_true, Bool.not_eq_false', decide_eq_true_eq] at this
                  simp [t1, okWeb, t2, t3, t4, this]
                rw [hok] at this; cases this
            simp only [taskD, ruleD, webD, lotD] at e0 e1 e2 e3 e4 a1 a2 a3 ⊢
            simp [-List.map_map, -List.any_map, run1, f__law_is_plain, isI, e0, e1, a1, e2, a2, e3, a3, e4, a4]
end Pg

end
section
set_option linter.all false
set_option maxRecDepth 100000
set_option maxHeartbeats 4000000
/-! L14: lists for tuples, what is the same, what fits. -/
namespace Pg
open PySem Ev Or
theorem run_23 (n : Nat) (ds : List D) (h : AH) : runN G T (n + 1) 23 ds h = run1 (runN G T n) G f__law_lists ds h := rfl
theorem run_24 (n : Nat) (ds : List D) (h : AH) : runN G T (n + 1) 24 ds h = run1 (runN G T n) G f__law_same ds h := rfl
theorem run_26 (n : Nat) (ds : List D) (h : AH) : runN G T (n + 1) 26 ds h = run1 (runN G T n) G f__law_flat ds h := rfl
theorem t_int (n : Nat) (i : Int) (h : AH) : runN G T (n + 1) 4 [.int i] h = .ok (.int i) h := by
  rw [run_4]; simp [run1, f_tupled, isI]
theorem t_seq {α : Type} {f g : α → D} (n : Nat) (d : D) (ys : List α) (h : AH) (hd : d = .tup (ys.map f) ∨ d = .lst (ys.map f)) (hz : ys.length ≤ 16000000) (e : ∀ y ∈ ys, runN G T n 4 [f y] h = .ok (g y) h) : runN G T (n + 1) 4 [d] h = .ok (.tup (ys.map g)) h := by
  rw [run_4]
  have e1 : ev (runN G T n) G (.lc (.cl (.nm 1) (.var 0) [] (.yl (.call 4 [(.var 1)] [])))) [some (.val d), none] h = .ok (.lst (ys.map g)) h := by
    refine lcm f g (d := d) rfl ?_ hz fun y hy => by simp [e y hy]
    rcases hd with rfl | rfl <;> rfl
  rcases hd with rfl | rfl <;> simp [-List.map_map, run1, f_tupled, isI, e1, castD, seqs]
theorem l_int (n : Nat) (i : Int) (h : AH) : runN G T (n + 1) 23 [.int i] h = .ok (.int i) h := by
  rw [run_23]; simp [run1, f__law_lists, isI]
theorem l_seq {α : Type} {f g : α → D} (n : Nat) (ys : List α) (h : AH) (hz : ys.length ≤ 16000000) (e : ∀ y ∈ ys, runN G T n 23 [f y] h = .ok (g y) h) : runN G T (n + 1) 23 [.tup (ys.map f)] h = .ok (.lst (ys.map g)) h := by
  rw [run_23]
  have e1 : ev (runN G T n) G (.lc (.cl (.nm 1) (.var 0) [] (.yl (.call 23 [(.var 1)] [])))) [some (.val (.tup (ys.map f))), none] h = .ok (.lst (ys.map g)) h :=
    lcm f g rfl rfl hz fun y hy => by simp [e y hy]
  simp [-List.map_map, run1, f__law_lists, isI, e1]
/-- the same with lists -/
abbrev lotL (l : Lot) : D := .lst (l.map .int)
abbrev webL (w : Web) : D := .lst (w.map lotL)
abbrev ruleL (p : Lot × Web) : D := .lst [lotL p.1, webL p.2]
abbrev taskL (t : Tk) : D := .lst (t.map ruleL)
def Small (t : Tk) : Prop := t.length ≤ 1000 ∧ ∀ p ∈ t, p.1.length ≤ 1000 ∧ p.2.length ≤ 1000 ∧ ∀ x ∈ p.2, x.length ≤ 1000
theorem l_lot (n : Nat) (l : Lot) (h : AH) (hz : l.length ≤ 1000) : runN G T (n + 2) 23 [lotD l] h = .ok (lotL l) h := l_seq (n + 1) l h (by omega) fun i _ => l_int n i h
theorem l_web (n : Nat) (w : Web) (h : AH) (hz : w.length ≤ 1000) (hx : ∀ x ∈ w, x.length ≤ 1000) : runN G T (n + 3) 23 [webD w] h = .ok (webL w) h := l_seq (n + 2) w h (by omega) fun x hm => l_lot n x h (hx x hm)
theorem l_task (n : Nat) (t : Tk) (h : AH) (sm : Small t) : runN G T (n + 5) 23 [taskD t] h = .ok (taskL t) h := by
  refine l_seq (n + 4) t h (by have := sm.1; omega) fun p hp => ?_
  obtain ⟨s1, s2, s3⟩ := sm.2 p hp
  have := l_seq (f := fun b : Bool => if b then lotD p.1 else webD p.2) (g := fun b : Bool => if b then lotL p.1 else webL p.2) (n + 3) [true, false] h (by decide) (by
    intro b hb
    cases b with
    | true => exact l_lot (n + 1) p.1 h s1
    | false => exact l_web n p.2 h s2 s3)
  exact this
theorem t_lot (n : Nat) (l : Lot) (d : D) (h : AH) (hd : d = lotD l ∨ d = lotL l) (hz : l.length ≤ 1000) : runN G T (n + 2) 4 [d] h = .ok (lotD l) h := t_seq (n + 1) d l h hd (by omega) fun i _ => t_int n i h
theorem t_web (n : Nat) (w : Web) (h : AH) (hz : w.length ≤ 1000) (hx : ∀ x ∈ w, x.length ≤ 1000) : runN G T (n + 3) 4 [webD w] h = .ok (webD w) h := t_seq (n + 2) _ w h (.inl rfl) (by omega) fun x hm => t_lot n x _ h (.inl rfl) (hx x hm)
theorem t_webL (n : Nat) (w : Web) (h : AH) (hz : w.length ≤ 1000) (hx : ∀ x ∈ w, x.length ≤ 1000) : runN G T (n + 3) 4 [webL w] h = .ok (webD w) h := t_seq (n + 2) _ w h (.inr rfl) (by omega) fun x hm => t_lot n x _ h (.inr rfl) (hx x hm)
theorem t_task (n : Nat) (t : Tk) (h : AH) (sm : Small t) : runN G T (n + 5) 4 [taskD t] h = .ok (taskD t) h := by
  refine t_seq (n + 4) _ t h (.inl rfl) (by have := sm.1; omega) fun p hp => ?_
  obtain ⟨s1, s2, s3⟩ := sm.2 p hp
  have := t_seq (f := fun b : Bool => if b then lotD p.1 else webD p.2) (g := fun b : Bool => if b then lotD p.1 else webD p.2) (n + 3) (ruleD p) [true, false] h (.inl rfl) (by decide) (by
    intro b hb
    cases b with
    | true => exact t_lot (n + 1) p.1 _ h (.inl rfl) s1
    | false => exact t_web n p.2 h s2 s3)
  exact this
theorem t_taskL (n : Nat) (t : Tk) (h : AH) (sm : Small t) : runN G T (n + 5) 4 [taskL t] h = .ok (taskD t) h := by
  refine t_seq (n + 4) _ t h (.inr rfl) (by have := sm.1; omega) fun p hp => ?_
  obtain ⟨s1, s2, s3⟩ := sm.2 p hp
  have := t_seq (f := fun b : Bool => if b then lotL p.1 else webL p.2) (g := fun b : Bool => if b then lotD p.1 else webD p.2) (n + 3) (ruleL p) [true, false] h (.inr rfl) (by decide) (by
    intro b hb
    cases b with
    | true => exact t_lot (n + 1) p.1 _ h (.inr rfl) s1
    | false => exact t_webL n p.2 h s2 s3)
  exact this
/-! ### what is the same: truth values, lists of them -/
theorem same_b (n : Nat) (a b : Bool) (h : AH) : runN G T (n + 1) 24 [.bl a, .bl b] h = .ok (.bl (decide (a = b))) h := by
  rw [run_24]
  have e1 : cmpop .eq (.bl true) (.bl true) = some true := rfl
  have e2 : cmpop .eq (.bl a) (.bl b) = some (decide (a = b)) := by
    show dEq _ _ = _
    rw [dEq_of rfl rfl]
    cases a <;> cases b <;> rfl
  have e3 : cmpop .is_ (.bl b) .non = some false := rfl
  have e4 : cmpop .eq (.bl false) (.bl false) = some true := rfl
  simp [run1, f__law_same, isI, e1, e2, e3, e4]
theorem zip_map2 {α : Type} (f g : α → D) : ∀ xs ys : List α, zipL (xs.map f) (ys.map g) = (xs.zip ys).map fun p => .tup [f p.1, g p.2]
  | [], _ => by simp [zipL]
  | _ :: _, [] => by simp [zipL]
  | x :: xs, y :: ys => by simp [zipL, zip_map2 f g xs ys]
theorem same_bs (n : Nat) (as bs : List Bool) (h : AH) (hz : as.length ≤ 1000) : runN G T (n + 2) 24 [.lst (as.map .bl), .lst (bs.map .bl)] h = .ok (.bl (decide (as = bs))) h := by
  rw [run_24]
  have f1 : cmpop .ne (.bl true) (.bl true) = some false := rfl
  have f2 : cmpop .ne (.bl false) (.bl false) = some false := rfl
  have z : zipL (as.map .bl) (bs.map .bl) = (as.zip bs).map fun p => .tup [.bl p.1, .bl p.2] := zip_map2 D.bl D.bl as bs
  have e1 : ev (runN G T (n + 1)) G (.lc (.cl (.tp [2, 3]) (.zip (.var 0) (.var 1)) [] (.yl (.call 24 [(.var 2), (.var 3)] [])))) [some (.val (.lst (as.map .bl))), some (.val (.lst (bs.map .bl))), none, none] h = .ok (.lst ((as.zip bs).map fun p => .bl (decide (p.1 = p.2)))) h := by
    have b := eb_clm (F := runN G T (n + 1)) (G := G) (h := h) (fun p : Bool × Bool => D.tup [.bl p.1, .bl p.2]) (sl := [some (.val (.lst (as.map .bl))), some (.val (.lst (bs.map .bl))), none, none]) (t := .tp [2, 3]) (it := .zip (.var 0) (.var 1)) (b := .yl (.call 24 [(.var 2), (.var 3)] [])) (ifs := []) (d := .lst ((as.zip bs).map fun p => .tup [.bl p.1, .bl p.2])) (xs := as.zip bs) (fun _ => true) (fun p => [.bl (decide (p.1 = p.2))]) (by simp [zipD, z]) rfl fun p hp => by
      refine ⟨_, rfl, rfl, fun _ => eb_yl ?_⟩
      have := same_b n p.1 p.2 h
      simp [tgs, owns, this]
    simp only [if_true, flat_1] at b
    refine ev_lcb b ?_
    rw [List.length_map, List.length_zip]; omega
  by_cases hl : as.length = bs.length
  · have q : ((as.zip bs).all fun p => decide (p.1 = p.2)) = decide (as = bs) := by
      clear e1 z hz
      induction as generalizing bs with
      | nil => cases bs <;> simp at hl ⊢
      | cons a as ih =>
        cases bs with
        | nil => simp at hl
        | cons b bs =>
          have := ih bs (by simpa using hl)
          simp only [List.zip_cons_cons, List.all_cons, this]
          by_cases c : a = b <;> simp [c]
    simp [-List.map_map, run1, f__law_same, isI, f1, f2, hl, e1, q]
  · have q : as ≠ bs := fun z => hl (by rw [z])
    simp [-List.map_map, run1, f__law_same, isI, f1, f2, q]
    have : ¬ (as.length : Int) = (bs.length : Int) := by omega
    simp [this]
/-! ### what fits -/
theorem c_sure_plain (n : Nat) (t : Tk) (d : D) (h : AH) (hd : d = taskD t ∨ d = taskL t) (sm : Small t) (da : dat 60 (taskD t) = true) (ok : okT t = true) (gd : good t = true) : runN G T (n + 7) 14 [d] h = .ok (taskD t) h := by
  rw [run_14]
  have e1 : runN G T (n + 6) 4 [d] h = .ok (taskD t) h := by
    rcases hd with rfl | rfl
    · exact t_task (n + 1) t h sm
    · exact t_taskL (n + 1) t h sm
  have e2 := c_plain n (taskD t) h da
  rw [isPlain_map, ok, gd] at e2
  simp only [taskD] at e1 e2 ⊢
  simp [-List.map_map, run1, f_sure_plain, e1, e2]
theorem c_sure_lot (n : Nat) (t : Tk) (l : Lot) (d : D) (h : AH) (hd : d = lotD l ∨ d = lotL l) (hz : l.length ≤ 1000) (tz : t.length ≤ 1000) (hl : okLot l = true) (hk : l ∈ keys t) : runN G T (n + 5) 15 [taskD t, d] h = .ok (lotD l) h := by
  rw [run_15]
  have e1 := t_lot (n + 2) l d h hd hz
  have e2 := c_is_lot (k := 60) n (lotD l) h (by decide) (by simp [dat]; omega)
  rw [isLot_map, hl] at e2
  have e3 : ev (runN G T (n + 4)) G (.lc (.cl (.tp [3, 4]) (.var 0) [] (.yl (.var 3)))) [some (.val (taskD t)), some (.val d), some (.val (lotD l)), none, none] h = .ok (.lst ((keys t).map lotD)) h := by
    have b := eb_clm (F := runN G T (n + 4)) (G := G) (h := h) ruleD (sl := [some (.val (taskD t)), some (.val d), some (.val (lotD l)), none, none]) (t := .tp [3, 4]) (it := .var 0) (b := .yl (.var 3)) (ifs := []) (d := taskD t) (xs := t) (fun _ => true) (fun p => [lotD p.1]) rfl rfl fun p hp => by
      refine ⟨_, rfl, rfl, fun _ => eb_yl ?_⟩
      simp [tgs, owns]
    simp only [if_true, flat_1] at b
    rw [show (keys t).map lotD = t.map fun p => lotD p.1 by simp [keys]]
    exact ev_lcb b (by rw [List.length_map]; omega)
  have e4 : cmpop .notin (lotD l) (.lst ((keys t).map lotD)) = some false := by
    show (inD _ _).map _ = _
    rw [in_lots l (keys t) _ (.inr rfl)]
    have : (keys t).contains l = true := by simpa using hk
    rw [this]; rfl
  simp only [taskD, lotD] at e1 e2 e3 e4 ⊢
  simp [-List.map_map, run1, f_sure_lot_of, e1, e2, e3, e4]
theorem c_fits (n : Nat) (t : Tk) (l : Lot) (d1 d2 : D) (x : D) (h : AH) (hd1 : d1 = taskD t ∨ d1 = taskL t) (hd2 : d2 = lotD l ∨ d2 = lotL l) (sm : Small t) (da : dat 60 (taskD t) = true) (ok : okT t = true) (gd : good t = true) (hk : l ∈ keys t) (dx : dat 60 x = true) :
    runN G T (n + 8) 17 [d1, d2, x] h = .ok (.bl (match lotOf x with | some y => okLot y && lies (rule t l) y | none => false)) h := by
  rw [run_17]
  obtain ⟨p, hp, rfl⟩ := List.mem_map.mp hk
  obtain ⟨okk, okp⟩ := okT_parts ok
  have nd : (keys t).Nodup := by
    simp only [good, Bool.and_eq_true] at gd
    exact ((chain_asc ordL _).mp gd.1.1.1).nodup ordL
  have e1 := c_sure_plain n t d1 h hd1 sm da ok gd
  have e2 := c_sure_lot (n + 2) t p.1 d2 h hd2 (sm.2 p hp).1 sm.1 (okp p hp).1 hk
  have e3 := c_is_lot (n + 3) x h (by decide) dx
  cases hx : isLot x with
  | false =>
    rw [hx] at e3
    have q : (match lotOf x with | some y => okLot y && lies (rule t p.1) y | none => false) = false := by
      cases hl : lotOf x with
      | none => rfl
      | some y =>
        have := lotOf_some hl
        subst this
        rw [isLot_map] at hx
        simp [hx]
    rw [q]
    simp only [taskD, lotD] at e1 e2 ⊢
    simp [-List.map_map, run1, f_plain_fits, e1, e2, e3]
  | true =>
    rw [hx] at e3
    obtain ⟨y, rfl, hy⟩ := isLot_some hx
    have e4 := cast_rules nd (by have := sm.1; omega)
    have e5 := sub_rules hk
    rw [rule_eq nd hp] at e5
    have yl : y.length ≤ 1000 := by simp only [dat, Bool.and_eq_true, decide_eq_true_eq, List.length_map] at dx; exact dx.1
    have e6 := c_lies (n + 5) p.2 y h (by have := (sm.2 p hp).2.1; omega) (by omega)
    rw [lotOf_map]
    simp only [hy, Bool.true_and]
    rw [rule_eq nd hp]
    simp only [taskD, lotD, webD, ruleD] at e1 e2 e3 e4 e5 e6 ⊢
    simp [-List.map_map, run1, f_plain_fits, e1, e2, e3, e4, e5, e6]
theorem flat_loop {F : Fs} (h : AH) (l0 : D) : ∀ (todo : List (List D)) (acc : List D) (c : Option Cell), (acc ++ todo.flatten).length ≤ 1000000 →
    ∃ c', forR (fun d sl h => (R.opt h (setTg sl (.nm 2) d)).bind fun sl h => xcs F G [.ext (.sl 1) (.var 2)] sl h) (todo.map .lst) [some (.val l0), some (.own (.lst acc)), c] h = .ok (.nx [some (.val l0), some (.own (.lst (acc ++ todo.flatten))), c']) h
  | [], acc, c, _ => ⟨c, by simp [forR]⟩
  | x :: todo, acc, c, hz => by
    rw [List.flatten_cons, ← List.append_assoc] at hz
    obtain ⟨c', e⟩ := flat_loop (F := F) h l0 todo (acc ++ x) (some (.val (.lst x))) hz
    refine ⟨c', ?_⟩
    have lz : acc.length + x.length ≤ line := by rw [mul_line]; simp only [List.length_append] at hz; omega
    rw [List.map_cons, forR]
    simp [atP, extOwn, lz, putP] at e ⊢
    exact e
theorem c_flat (n : Nat) (rows : List (List D)) (h : AH) (hz : rows.flatten.length ≤ 1000000) : runN G T (n + 1) 26 [.lst (rows.map .lst)] h = .ok (.lst rows.flatten) h := by
  rw [run_26]
  obtain ⟨c', e⟩ := flat_loop (F := runN G T n) h (.lst (rows.map .lst)) rows [] none (by simpa using hz)
  rw [List.nil_append] at e
  have e2 : xc (runN G T n) G (.for (.nm 2) (.var 0) [.ext (.sl 1) (.var 2)]) [some (.val (.lst (rows.map .lst))), some (.own (.lst [])), none] h = .ok (.nx [some (.val (.lst (rows.map .lst))), some (.own (.lst rows.flatten)), c']) h := e
  generalize hS : (S.for (.nm 2) (.var 0) [.ext (.sl 1) (.var 2)]) = S8 at e2
  simp only [run1, f__law_flat]
  rw [hS]
  simp [D.own?, e2, Own.d]
end Pg

end
section
set_option linter.all false
set_option maxRecDepth 100000
set_option maxHeartbeats 4000000
/-! L15: the draws. -/
namespace Pg
open PySem Ev Or
theorem run_18 (n : Nat) (ds : List D) (h : AH) : runN G T (n + 1) 18 ds h = run1 (runN G T n) G f__law_box ds h := rfl
theorem run_19 (n : Nat) (ds : List D) (h : AH) : runN G T (n + 1) 19 ds h = run1 (runN G T n) G f__law_take ds h := rfl
theorem run_20 (n : Nat) (ds : List D) (h : AH) : runN G T (n + 1) 20 ds h = run1 (runN G T n) G f__law_cells ds h := rfl
theorem run_21 (n : Nat) (ds : List D) (h : AH) : runN G T (n + 1) 21 ds h = run1 (runN G T n) G f__law_of ds h := rfl
theorem run_22 (n : Nat) (ds : List D) (h : AH) : runN G T (n + 1) 22 ds h = run1 (runN G T n) G f__law_pick ds h := rfl
theorem run_29 (n : Nat) (ds : List D) (h : AH) : runN G T (n + 1) 29 ds h = run1 (runN G T n) G f__law_some_lots ds h := rfl
theorem run_30 (n : Nat) (ds : List D) (h : AH) : runN G T (n + 1) 30 ds h = run1 (runN G T n) G f__law_plain ds h := rfl
/-- the tin: its three numbers -/
abbrev tin (x y : Int) (z : Nat) : AH := [.box (.lst [.int x, .int y, .int z])]
/-- at most b draws have been made of the third -/
def Tin (b : Nat) (h : AH) : Prop := ∃ (x y : Int) (z : Nat), h = tin x y z ∧ z ≤ b
theorem Tin.mono {b c : Nat} {h : AH} (t : Tin b h) (l : b ≤ c) : Tin c h := by
  obtain ⟨x, y, z, e, q⟩ := t
  exact ⟨x, y, z, e, Nat.le_trans q l⟩
@[simp] theorem b_add (a b : Int) : binop .add (.int a) (.int b) = some (.int (a + b)) := rfl
theorem b_mul {a b : Int} (h : (small a || small b) = true) : binop .mul (.int a) (.int b) = some (.int (a * b)) := by simp only [binop]; rw [if_pos h]
theorem b_mod {a b : Int} (h : 0 < b) : binop .mod (.int a) (.int b) = some (.int (a % b)) := by simp only [binop]; rw [if_pos h]
theorem b_div {a b : Int} (h : 0 < b ∧ b < 1073741824) : binop .fdiv (.int a) (.int b) = some (.int (a / b)) := by simp only [binop]; rw [if_pos h]
@[simp] theorem bi_int (a : Int) : builtin .int [.int a] = some (.int a) := rfl
theorem small_of {a : Int} (h : -1000000000000000000 ≤ a ∧ a ≤ 1000000000000000000) : small a = true := by simp only [small, decide_eq_true_eq]; omega
theorem c_take (n b : Nat) (h : AH) (m : Int) (ti : Tin b h) (hb : b ≤ 1000000000) (m0 : 0 < m) (m1 : m ≤ 1000000) : ∃ (r : Int) (h' : AH), runN G T (n + 1) 19 [.ref 0, .int m] h = .ok (.int r) h' ∧ 0 ≤ r ∧ r < m ∧ Tin (b + 1) h' := by
  obtain ⟨x, y, z, rfl, hz⟩ := ti
  rw [run_19]
  have g0 : ∀ a b c : Int, subD (.lst [.int a, .int b, .int c]) (.int 0) = some (.int a) := fun _ _ _ => rfl
  have g1 : ∀ a b c : Int, subD (.lst [.int a, .int b, .int c]) (.int 1) = some (.int b) := fun _ _ _ => rfl
  have g2 : ∀ a b c : Int, subD (.lst [.int a, .int b, .int c]) (.int 2) = some (.int c) := fun _ _ _ => rfl
  have gb : ∀ (xs : List D), getB [.box (.lst xs)] (.ref 0) = some (.lst xs) := fun _ => rfl
  have s0 : ∀ (a b c : Int) (d : D), setOwn (.lst [.int a, .int b, .int c]) (.int 0) d = some (.lst [d, .int b, .int c]) := fun _ _ _ _ => rfl
  have s2 : ∀ (a b c : Int) (d : D), setOwn (.lst [.int a, .int b, .int c]) (.int 2) d = some (.lst [.int a, .int b, d]) := fun _ _ _ _ => rfl
  by_cases hx : 0 < x
  · refine ⟨x % m, tin (x / m) y z, ?_, Int.emod_nonneg _ (by omega), Int.emod_lt_of_pos _ m0, ⟨_, _, _, rfl, by omega⟩⟩
    simp [run1, f__law_take, gb, Own.d, g0, hx, b_mod m0, b_div ⟨m0, by omega⟩, atP, s0, putP]
  · have e1 : ∀ a : Int, binop .mul (.int a) (.int (39373 + ((z : Int) + 1))) = some (.int (a * (39373 + ((z : Int) + 1)))) := fun a => b_mul (by rw [small_of (a := 39373 + ((z : Int) + 1)) (by omega)]; simp)
    have e2 : ∀ a : Int, binop .mul (.int 48271) (.int a) = some (.int (48271 * a)) := fun a => b_mul (by rw [small_of (a := 48271) (by omega)]; simp)
    have e3 : ∀ a : Int, binop .mul (.int a) (.int 48271) = some (.int (a * 48271)) := fun a => b_mul (by rw [small_of (a := 48271) (by omega)]; simp)
    have e4 : ∀ a b : Int, binop .mul (.int a) (.int (b % 40009 + 7)) = some (.int (a * (b % 40009 + 7))) := fun a b => b_mul (by
      rw [small_of (a := b % 40009 + 7) (by omega)]; simp)
    have d1 : ∀ a : Int, binop .fdiv (.int a) (.int 1000003) = some (.int (a / 1000003)) := fun a => b_div (by omega)
    have d2 : ∀ a : Int, binop .fdiv (.int a) (.int 64) = some (.int (a / 64)) := fun a => b_div (by omega)
    have q1 : ∀ a : Int, binop .mod (.int a) (.int 2147483647) = some (.int (a % 2147483647)) := fun a => b_mod (by omega)
    have q2 : ∀ a : Int, binop .mod (.int a) (.int 40009) = some (.int (a % 40009)) := fun a => b_mod (by omega)
    have q3 : ∀ a : Int, binop .mod (.int a) (.int 2147483629) = some (.int (a % 2147483629)) := fun a => b_mod (by omega)
    have q4 : ∀ a : Int, binop .mod (.int a) (.int 2147483587) = some (.int (a % 2147483587)) := fun a => b_mod (by omega)
    have q5 : ∀ a : Int, binop .mod (.int a) (.int m) = some (.int (a % m)) := fun a => b_mod m0
    suffices w : ∃ r : Int, run1 (runN G T n) G f__law_take [.ref 0, .int m] (tin x y z) = .ok (.int (r % m)) (tin x y (z + 1)) by
      obtain ⟨r, w⟩ := w
      exact ⟨_, _, w, Int.emod_nonneg _ (by omega), Int.emod_lt_of_pos _ m0, ⟨_, _, _, rfl, by omega⟩⟩
    simp [run1, f__law_take, gb, Own.d, g0, g1, g2, hx, atP, s2, putP, e1, e2, e3, e4, d1, d2, q1, q2, q3, q4, q5]
    exact ⟨_, rfl⟩
/-- goods_so[ .. ] -/
theorem c_of (n b : Nat) (h : AH) (d : D) (ds : List D) (ti : Tin b h) (hb : b ≤ 1000000000) (hd : d = .tup ds ∨ d = .lst ds) (ne : ds ≠ []) (hz : ds.length ≤ 1000000) : ∃ (x : D) (h' : AH), runN G T (n + 2) 21 [.ref 0, d] h = .ok x h' ∧ x ∈ ds ∧ Tin (b + 1) h' := by
  have lp : 0 < ds.length := List.length_pos_iff.mpr ne
  obtain ⟨r, h', e, r0, r1, t'⟩ := c_take n b h ds.length ti hb (by omega) (by omega)
  have lt : r.toNat < ds.length := by omega
  refine ⟨ds[r.toNat], h', ?_, List.getElem_mem _, t'⟩
  rw [run_21]
  have q : atI ds r = some ds[r.toNat] := by simp [atI, ixOf, r0, r1, lt]
  rcases hd with rfl | rfl <;> simp [run1, f__law_of, e, subD, q]
theorem erase_perm {α : Type} : ∀ {l : List α} {i : Nat} (h : i < l.length), (l[i] :: l.eraseIdx i).Perm l
  | x :: l, 0, _ => .refl _
  | x :: l, i + 1, h => by
    have := erase_perm (l := l) (i := i) (by simpa using h)
    rw [List.getElem_cons_succ, List.eraseIdx_cons_succ]
    exact (List.Perm.swap _ _ _).trans (this.cons x)
theorem rangeL_len : ∀ (lo : Int) (k : Nat), (rangeL lo k).length = k
  | _, 0 => rfl
  | lo, k + 1 => by rw [rangeL, List.length_cons, rangeL_len (lo + 1) k]
theorem pick_loop (n : Nat) (g c : D) : ∀ (todo : List D) (b : Nat) (h : AH) (c0 : Option Cell) (pool found : List D), Tin b h → b + todo.length ≤ 1000000000 → todo.length ≤ pool.length → found.length + pool.length ≤ 1000000 →
    ∃ (found' pool' : List D) (c1 : Option Cell) (h' : AH), forR (fun d sl h => (R.opt h (setTg sl (.nm 3) d)).bind fun sl h => xcs (runN G T (n + 1)) G [.apppop (.sl 5) (.sl 4) (.call 19 [(.var 0), (.bi .len [(.bs 4)])] [])] sl h) todo [some (.val (.ref 0)), some (.val g), some (.val c), c0, some (.own (.lst pool)), some (.own (.lst found))] h
      = .ok (.nx [some (.val (.ref 0)), some (.val g), some (.val c), c1, some (.own (.lst pool')), some (.own (.lst found'))]) h' ∧ (found' ++ pool').Perm (found ++ pool) ∧ found'.length = found.length + todo.length ∧ Tin (b + todo.length) h' := by
  intro todo
  induction todo with
  | nil => intro b h c0 pool found ti _ _ _; exact ⟨found, pool, c0, h, rfl, .refl _, rfl, ti⟩
  | cons d todo ih =>
    intro b h c0 pool found ti hb hl hz
    rw [List.length_cons] at hb hl
    obtain ⟨r, h1, e, r0, r1, t1⟩ := c_take n b h pool.length ti (by omega) (by omega) (by omega)
    have lt : r.toNat < pool.length := by omega
    have le : (pool.eraseIdx r.toNat).length = pool.length - 1 := by rw [List.length_eraseIdx, if_pos lt]
    obtain ⟨found', pool', c1, h', e2, p2, l2, t2⟩ := ih (b + 1) h1 (some (.val d)) (pool.eraseIdx r.toNat) (found ++ [pool[r.toNat]]) t1 (by omega) (by omega) (by rw [List.length_append, le]; simp; omega)
    refine ⟨found', pool', c1, h', ?_, p2.trans ?_, by rw [l2, List.length_append, List.length_cons]; simp; omega, t2.mono (by rw [List.length_cons]; omega)⟩
    · rw [forR]
      have q : popOwn (.lst pool) (some (.int r)) = some (pool[r.toNat], .lst (pool.eraseIdx r.toNat)) := by
        have l1 : pool.length ≤ line := by rw [mul_line]; omega
        simp [popOwn, l1, ixOf, r0, r1, lt]
      have q2 : appOwn (.lst found) pool[r.toNat] = some (.lst (found ++ [pool[r.toNat]])) := by
        have l1 : found.length < line := by rw [mul_line]; omega
        simp [appOwn, l1]
      simp [xc, Own.d, e, atP, q, q2, putP] at e2 ⊢
      exact e2
    · rw [List.append_assoc]
      exact (erase_perm lt).append_left found
theorem c_pick (n b : Nat) (h : AH) (ds : List D) (c : Int) (ti : Tin b h) (hb : b + ds.length ≤ 1000000000) (hz : ds.length ≤ 1000000) (c0 : 0 ≤ c) :
    ∃ (found rest : List D) (h' : AH), runN G T (n + 2) 22 [.ref 0, .lst ds, .int c] h = .ok (.lst found) h' ∧ (found ++ rest).Perm ds ∧ found.length = min c.toNat ds.length ∧ Tin (b + ds.length) h' := by
  rw [run_22]
  obtain ⟨k, hk⟩ : ∃ k, k = min c.toNat ds.length := ⟨_, rfl⟩
  rw [← hk]
  have e0 : builtin .min2 [.int c, .int ds.length] = some (.int k) := by
    simp only [builtin]
    congr 2
    split <;> omega
  have e1 : rngD [.int k] = some (.lst (rangeL 0 k)) := by
    have : rngOk 0 k = true := by simp only [rngOk, decide_eq_true_eq]; omega
    simp [rngD, rgB, this]
  have le := rangeL_len 0 k
  obtain ⟨found', pool', c1, h', e2, p2, l2, t2⟩ := pick_loop n (.lst ds) (.int c) (rangeL 0 k) b h none ds [] ti (by rw [le]; omega) (by rw [le]; omega) (by simpa using hz)
  refine ⟨found', pool', h', ?_, by simpa using p2, by rw [l2, le]; simp, t2.mono (by rw [le]; omega)⟩
  have e3 : xc (runN G T (n + 1)) G (.for (.nm 3) (.range [(.bi .min2 [(.bi .int [(.var 2)]), (.bi .len [(.bs 4)])])]) [.apppop (.sl 5) (.sl 4) (.call 19 [(.var 0), (.bi .len [(.bs 4)])] [])]) [some (.val (.ref 0)), some (.val (.lst ds)), some (.val (.int c)), none, some (.own (.lst ds)), some (.own (.lst []))] h
      = .ok (.nx [some (.val (.ref 0)), some (.val (.lst ds)), some (.val (.int c)), c1, some (.own (.lst pool')), some (.own (.lst found'))]) h' := by
    have e4 : ev (runN G T (n + 1)) G (.range [(.bi .min2 [(.bi .int [(.var 2)]), (.bi .len [(.bs 4)])])]) [some (.val (.ref 0)), some (.val (.lst ds)), some (.val (.int c)), none, some (.own (.lst ds)), some (.own (.lst []))] h = .ok (.lst (rangeL 0 k)) h := by
      have q1 : ev (runN G T (n + 1)) G (.bi .int [(.var 2)]) [some (.val (.ref 0)), some (.val (.lst ds)), some (.val (.int c)), none, some (.own (.lst ds)), some (.own (.lst []))] h = .ok (.int c) h := rfl
      have q2 : ev (runN G T (n + 1)) G (.bi .len [(.bs 4)]) [some (.val (.ref 0)), some (.val (.lst ds)), some (.val (.int c)), none, some (.own (.lst ds)), some (.own (.lst []))] h = .ok (.int ds.length) h := rfl
      rw [ev_range, evs_s, ev_bi, evs_s, q1, rb_ok, evs_s, q2, rb_ok, evs_0, rb_ok, rb_ok, rb_ok, e0, ro_some, rb_ok, evs_0, rb_ok, rb_ok, e1, ro_some]
    rw [xc_for, e4, rb_ok]
    exact e2
  generalize hS : (S.for (.nm 3) (.range [(.bi .min2 [(.bi .int [(.var 2)]), (.bi .len [(.bs 4)])])]) [.apppop (.sl 5) (.sl 4) (.call 19 [(.var 0), (.bi .len [(.bs 4)])] [])]) = S8 at e3
  simp only [run1, f__law_pick]
  rw [hS]
  simp [castD, seqs, putAll, D.own?, e3, Own.d]
/-! ### the tin at first -/
theorem cells_loop {F : Fs} (h : AH) (s : D) : ∀ (todo : List Int) (k : Int) (c : Int) (a b e : Option Cell), 0 ≤ k → k + todo.length ≤ 1000 →
    ∃ (c' : Int) (a' b' e' : Option Cell), forR (fun d sl h => (R.opt h (setTg sl (.tp [3, 4]) d)).bind fun sl h => xcs F G [.set 5 (.bin .mod (.bi .int [(.var 3)]) (.var 1)), .seti (.sl 2) (.var 5) (.bin .add (.sub (.bs 2) (.var 5)) (.bin .mul (.var 4) (.bin .add (.var 3) (.con (.int 2)))))] sl h) (enumL k (todo.map .int)) [some (.val s), some (.val (.int 1)), some (.own (.lst [.int c])), a, b, e] h
      = .ok (.nx [some (.val s), some (.val (.int 1)), some (.own (.lst [.int c'])), a', b', e']) h
  | [], k, c, a, b, e, _, _ => ⟨c, a, b, e, rfl⟩
  | i :: todo, k, c, a, b, e, k0, hk => by
    rw [List.length_cons] at hk
    obtain ⟨c', a', b', e', q⟩ := cells_loop (F := F) h s todo (k + 1) (c + i * (k + 2)) (some (.val (.int k))) (some (.val (.int i))) (some (.val (.int 0))) (by omega) (by omega)
    refine ⟨c', a', b', e', ?_⟩
    rw [List.map_cons, enumL, forR]
    have e1 : binop .mod (.int k) (.int 1) = some (.int 0) := by rw [b_mod (by omega)]; simp
    have e2 : binop .mul (.int i) (.int (k + 2)) = some (.int (i * (k + 2))) := b_mul (by rw [small_of (a := k + 2) (by omega)]; simp)
    have e3 : subD (.lst [.int c]) (.int 0) = some (.int c) := rfl
    have e4 : ∀ d, setOwn (.lst [.int c]) (.int 0) d = some (.lst [d]) := fun _ => rfl
    simp [e1, e2, e3, e4, Own.d, atP, putP] at q ⊢
    exact q
theorem c_cells (n : Nat) (ns : List Int) (h : AH) (hl : ns.length ≤ 63) : ∃ c : Int, runN G T (n + 1) 20 [.scr (ns.map .int), .int 1] h = .ok (.lst [.int c]) h := by
  rw [run_20]
  cases ns with
  | nil => exact ⟨0, rfl⟩
  | cons i ns =>
    rw [List.length_cons] at hl
    have e1 : cutL ((i :: ns).map D.int) none (some 1) = [.int i] := by simp [cutL, clipI]
    have e2 : cutL ((i :: ns).map D.int) (some 1) (some 63) = ns.map .int := by
      have : ((i :: ns).map D.int).length = ns.length + 1 := by simp
      simp only [cutL, clipI]
      rw [this]
      have t1 : min (1 : Int).toNat (ns.length + 1) = 1 := by simp
      have t2 : min (63 : Int).toNat (ns.length + 1) = ns.length + 1 := by
        show min 63 _ = _
        omega
      simp only [show ¬ (1 : Int) < 0 by omega, show ¬ (63 : Int) < 0 by omega, if_false, t1, t2]
      rw [List.map_cons, List.drop_one, List.tail_cons, List.take_of_length_le (by simp)]
    obtain ⟨c', a', b', e', q⟩ := cells_loop (F := runN G T n) h (.scr ((i :: ns).map .int)) ns 0 i none none none (by omega) (by omega)
    refine ⟨c', ?_⟩
    generalize hS : ([.set 5 (.bin .mod (.bi .int [(.var 3)]) (.var 1)), .seti (.sl 2) (.var 5) (.bin .add (.sub (.bs 2) (.var 5)) (.bin .mul (.var 4) (.bin .add (.var 3) (.con (.int 2)))))] : List S) = S8 at q
    simp only [run1, f__law_cells]
    rw [hS]
    have tt : truth (.lst [.int i]) = some true := rfl
    have it : ∀ xs : List D, items (.lst xs) = some xs := fun _ => rfl
    generalize (i :: ns).map D.int = xs at e1 e2 q
    simp [optI, cutD, castD, seqs, e1, e2, tt, D.own?, enumD, it, q, Own.d]
theorem c_box (n : Nat) (c : Int) : ∃ h, runN G T (n + 1) 18 [.lst [.int c], .int 0] [] = .ok (.ref 0) h ∧ Tin 0 h := by
  rw [run_18]
  have e1 : builtin .abs [.int c] = some (.int (if c < 0 then -c else c)) := rfl
  have e2 : binop .pow (.int 10) (.int 18) = some (.int 1000000000000000000) := rfl
  have e3 : ∀ b : Bool, builtin .int [.bl b] = some (.int (if b then 1 else 0)) := fun _ => rfl
  have e4 : ∀ (a : Int) (b : Bool), binop .mul (.int a) (.int (if b = true then 1 else 0)) = some (.int (a * (if b then 1 else 0))) := fun a b => b_mul (by
    have : small (if b = true then 1 else 0) = true := by cases b <;> rfl
    rw [this]; simp)
  have e5 : ∀ a : Int, binop .mod (.int a) (.int 2305843009213693951) = some (.int (a % 2305843009213693951)) := fun a => b_mod (by omega)
  have e6 : binop .mul (.int 39373) (.int 0) = some (.int 0) := rfl
  have e7 : subD (.lst [.int c]) (.int 0) = some (.int c) := rfl
  generalize hA : (if c < 0 then -c else c) = A at e1
  suffices w : ∃ x y : Int, run1 (runN G T n) G f__law_box [.lst [.int c], .int 0] [] = .ok (.ref 0) (tin x y 0) by
    obtain ⟨x, y, w⟩ := w
    exact ⟨_, w, _, _, 0, rfl, Nat.le_refl _⟩
  simp only [run1, f__law_box]
  simp [e1, e2, e3, e5, e6, e7, D.own?]
  have e8 := e4 A (decide (1000000000000000000 ≤ A))
  simp at e8
  rw [e8]
  exact ⟨_, _, rfl⟩
end Pg

end
section
set_option linter.all false
set_option maxRecDepth 100000
set_option maxHeartbeats 4000000
/-! L16: some lots; more of what is greatest. -/
namespace Or
theorem great_idem (ls : List Lot) : great (great ls) = great ls := by
  refine Asc.ext ordL (great_asc _) (great_asc _) fun z => ?_
  rw [great_mem]
  refine ⟨fun h => h.1, fun h => ⟨h, fun y hy s => ?_⟩⟩
  exact (great_mem.mp h).2 y (great_mem.mp hy).1 s
theorem great_lies {ls : List Lot} (as : ∀ x ∈ ls, Asc ltI x) {x : Lot} (hx : x ∈ ls) : lies (great ls) x = true := by
  have top : ∀ (m : Nat) (y : Lot), y ∈ ls → (ls.filter fun z => decide (y.length < z.length)).length ≤ m → ∃ z ∈ great ls, sub y z = true := by
    intro m
    induction m with
    | zero =>
      intro y hy h
      refine ⟨y, great_mem.mpr ⟨hy, fun z hz s => ?_⟩, sub_refl y⟩
      refine (sub_eq (as y hy) (as z hz) s ?_).symm
      refine Nat.le_of_not_lt fun l => ?_
      have := List.length_pos_of_mem (show z ∈ ls.filter (fun z => decide (y.length < z.length)) from List.mem_filter.mpr ⟨hz, decide_eq_true l⟩)
      omega
    | succ m ih =>
      intro y hy h
      by_cases q : y ∈ great ls
      · exact ⟨y, q, sub_refl y⟩
      · rw [great_mem] at q
        have q : ∃ z ∈ ls, sub y z = true ∧ z ≠ y := Classical.byContradiction fun n => q ⟨hy, fun z hz s => Classical.byContradiction fun e => n ⟨z, hz, s, e⟩⟩
        obtain ⟨z, z1, z2, z3⟩ := q
        have lt : y.length < z.length := Nat.lt_of_not_le fun l => z3 (sub_eq (as y hy) (as z z1) z2 l).symm
        have sm : (ls.filter fun x => decide (z.length < x.length)).length < (ls.filter fun x => decide (y.length < x.length)).length := by
          have e : ls.filter (fun x => decide (z.length < x.length)) = (ls.filter fun x => decide (y.length < x.length)).filter fun x => decide (z.length < x.length) := by
            rw [List.filter_filter]
            refine List.filter_congr fun x _ => ?_
            rw [Bool.eq_iff_iff, Bool.and_eq_true, decide_eq_true_eq, decide_eq_true_eq]
            omega
          rw [e]
          exact List.length_filter_lt_length_iff_exists.mpr ⟨z, List.mem_filter.mpr ⟨z1, decide_eq_true lt⟩, by simp⟩
        obtain ⟨u, u1, u2⟩ := ih z z1 (by omega)
        exact ⟨u, u1, sub_tr z2 u2⟩
  obtain ⟨z, z1, z2⟩ := top _ x hx (Nat.le_refl _)
  exact List.any_eq_true.mpr ⟨z, z1, z2⟩
theorem nodup_len {α : Type} [DecidableEq α] : ∀ {x y : List α}, x.Nodup → (∀ i ∈ x, i ∈ y) → x.length ≤ y.length
  | [], _, _, _ => Nat.zero_le _
  | a :: x, y, n, h => by
    obtain ⟨n1, n2⟩ := List.nodup_cons.mp n
    have ha := h a List.mem_cons_self
    have := nodup_len (x := x) (y := y.erase a) n2 fun i hi => (List.mem_erase_of_ne (fun e : i = a => n1 (by rw [← e]; exact hi))).mpr (h i (List.mem_cons_of_mem _ hi))
    rw [List.length_erase_of_mem ha] at this
    have := List.length_pos_of_mem ha
    rw [List.length_cons]; omega
theorem max_of : ∀ (ls : List Int) (a : Int), a ≤ 6 → (∀ x ∈ ls, x ≤ 6) → ls.foldl max a ≤ 6
  | [], a, h, _ => h
  | x :: ls, a, h, hx => max_of ls (max a x) (by have := hx x List.mem_cons_self; omega) fun y hy => hx y (List.mem_cons_of_mem _ hy)
theorem maxL_of {ls : List Lot} (h : ∀ x ∈ ls, x.length ≤ 6) : maxL ls ≤ 6 := by
  cases ls with
  | nil => decide
  | cons x xs =>
    refine max_of _ _ (by have := h x List.mem_cons_self; omega) fun y hy => ?_
    obtain ⟨z, hz, rfl⟩ := List.mem_map.mp hy
    have := h z (List.mem_cons_of_mem _ hz)
    omega
end Or
namespace Pg
open PySem Ev Or
def unI : D → Int
  | .int i => i
  | _ => 0
/-- what is picked of numbers -/
theorem picked {found rest : List D} {pool : List Int} (p : (found ++ rest).Perm (pool.map D.int)) (nd : pool.Nodup) : ∃ x : Lot, found = x.map .int ∧ x.Nodup ∧ ∀ i ∈ x, i ∈ pool := by
  have e : (pool.map D.int).map unI = pool := by simp [unI, Function.comp_def]
  have q := p.map unI
  rw [e, List.map_append] at q
  have q2 := q.nodup_iff.mpr nd
  refine ⟨found.map unI, ?_, (List.nodup_append.mp q2).1, fun i hi => q.mem_iff.mp (List.mem_append_left _ hi)⟩
  rw [List.map_map]
  have : ∀ d ∈ found, (D.int ∘ unI) d = d := fun d hd => by
    obtain ⟨i, _, rfl⟩ := List.mem_map.mp (p.mem_iff.mp (List.mem_append_left _ hd))
    rfl
  conv => lhs; rw [← List.map_id found]
  exact (List.map_congr_left this).symm
theorem srt_ints {x : Lot} (nd : x.Nodup) : Asc ltI (srt (leO ltI) x) ∧ (∀ i, i ∈ srt (leO ltI) x ↔ i ∈ x) ∧ (srt (leO ltI) x).length = x.length :=
  ⟨srt_asc ordI nd, fun i => (srt_perm _ _).mem_iff, (srt_perm _ _).length_eq⟩
/-- tuple(sorted(_law_pick(tin, pool, c))) -/
theorem sorted_pick (n b : Nat) (h : AH) (pool : List Int) (c : Int) (ti : Tin b h) (hb : b ≤ 900000000) (hz : pool.length ≤ 90) (nd : pool.Nodup) (c0 : 0 ≤ c) :
    ∃ (x : Lot) (h' : AH), (((runN G T (n + 2) 22 [.ref 0, .lst (pool.map .int), .int c] h).bind fun d h => (R.opt h (lstOf d)).bind fun xs h => sortK (runN G T (n + 2)) .non false xs h).bind fun d h => R.opt h (castD .tuple d)) = .ok (lotD x) h' ∧
      Asc ltI x ∧ (∀ i ∈ x, i ∈ pool) ∧ x.length = min c.toNat pool.length ∧ Tin (b + 90) h' := by
  obtain ⟨found, rest, h', e, p, l, t⟩ := c_pick n b h (pool.map .int) c ti (by rw [List.length_map]; omega) (by rw [List.length_map]; omega) c0
  obtain ⟨x, rfl, x1, x2⟩ := picked p nd
  obtain ⟨s1, s2, s3⟩ := srt_ints x1
  rw [List.length_map, List.length_map] at l
  have e2 := sort_ints (runN G T (n + 2)) x h' (by omega)
  refine ⟨srt (leO ltI) x, h', ?_, s1, fun i hi => x2 i ((s2 i).mp hi), by rw [s3, l], t.mono (by rw [List.length_map]; omega)⟩
  rw [e, rb_ok]
  simp [lstOf, e2, castD, seqs]
/-- a lot that is drawn -/
def Drawn (pool : List Int) (s : Int) (x : Lot) : Prop := Asc ltI x ∧ x ≠ [] ∧ (∀ i ∈ x, i ∈ pool) ∧ (x.length : Int) ≤ s
abbrev oneE : E := .cast .tuple (.srt (.call 22 [(.var 0), (.var 1), (.bin .add (.con (.int 1)) (.call 19 [(.var 0), (.var 3)] []))] []) .non none)
theorem one_lot (n b : Nat) (h : AH) (pool : List Int) (k s : Int) (c : Option Cell) (ti : Tin b h) (hb : b ≤ 800000000) (hz : pool.length ≤ 90) (nd : pool.Nodup) (ne : pool ≠ []) (s0 : 0 < s) (s1 : s ≤ 1000) :
    ∃ (x : Lot) (h' : AH), ev (runN G T (n + 2)) G oneE [some (.val (.ref 0)), some (.val (.lst (pool.map .int))), some (.val (.int k)), some (.val (.int s)), c] h = .ok (lotD x) h' ∧ Drawn pool s x ∧ Tin (b + 100) h' := by
  obtain ⟨r, h1, e1, r0, r1, t1⟩ := c_take (n + 1) b h s ti (by omega) s0 (by omega)
  obtain ⟨x, h', e2, x1, x2, x3, t2⟩ := sorted_pick n (b + 1) h1 pool (1 + r) t1 (by omega) hz nd (by omega)
  have pl : 0 < pool.length := List.length_pos_iff.mpr ne
  refine ⟨x, h', ?_, ⟨x1, fun e => ?_, x2, by omega⟩, t2.mono (by omega)⟩
  · simp only [oneE, ev_cast, ev_srt, ev_call, evs_s, evs_0, ev_var, getS_0, getS_s, ro_some, rb_ok, ev_bin, ev_con, e1, b_add, Option.getD]
    exact e2
  · rw [e] at x3
    simp only [List.length_nil] at x3
    omega
theorem some_walk (n : Nat) (pool : List Int) (k s : Int) (c : Option Cell) (hz : pool.length ≤ 90) (nd : pool.Nodup) (ne : pool ≠ []) (s0 : 0 < s) (s1 : s ≤ 1000) : ∀ (todo : List D) (b : Nat) (h : AH) (acc : List D), Tin b h → b + 100 * todo.length ≤ 800000000 → acc.length + todo.length ≤ 1000 →
    ∃ (ls : List Lot) (h' : AH), walkR (fun d acc h => (R.opt h (setTg (wipeS [some (.val (.ref 0)), some (.val (.lst (pool.map .int))), some (.val (.int k)), some (.val (.int s)), c] (tgs (.nm 4) ++ owns (.yl oneE))) (.nm 4) d)).bind fun sl h => (evIfs (runN G T (n + 2)) G [] sl h).bind fun t h => if t then evB (runN G T (n + 2)) G (.yl oneE) sl acc h else .ok acc h) todo acc h
      = .ok (acc ++ ls.map lotD) h' ∧ ls.length = todo.length ∧ (∀ x ∈ ls, Drawn pool s x) ∧ Tin (b + 100 * todo.length) h' := by
  intro todo
  induction todo with
  | nil => intro b h acc ti _ _; exact ⟨[], h, by simp [walkR], rfl, fun x hx => (nomatch hx), ti⟩
  | cons d todo ih =>
    intro b h acc ti hb ha
    rw [List.length_cons] at hb ha
    obtain ⟨x, h1, e1, dx, t1⟩ := one_lot n b h pool k s (some (.val d)) ti (by omega) hz nd ne s0 s1
    obtain ⟨ls, h', e2, l2, d2, t2⟩ := ih (b + 100) h1 (acc ++ [lotD x]) t1 (by omega) (by simp; omega)
    refine ⟨x :: ls, h', ?_, by simp [l2], fun y hy => by
      rcases List.mem_cons.mp hy with rfl | hy
      · exact dx
      · exact d2 y hy, t2.mono (by rw [List.length_cons]; omega)⟩
    rw [walkR]
    have q : (R.opt h (setTg (wipeS [some (.val (.ref 0)), some (.val (.lst (pool.map .int))), some (.val (.int k)), some (.val (.int s)), c] (tgs (.nm 4) ++ owns (.yl oneE))) (.nm 4) d)) = .ok [some (.val (.ref 0)), some (.val (.lst (pool.map .int))), some (.val (.int k)), some (.val (.int s)), some (.val d)] h := rfl
    rw [q, rb_ok, evIfs_0, rb_ok, if_pos rfl]
    have q2 : evB (runN G T (n + 2)) G (.yl oneE) [some (.val (.ref 0)), some (.val (.lst (pool.map .int))), some (.val (.int k)), some (.val (.int s)), some (.val d)] acc h = .ok (acc ++ [lotD x]) h1 := by
      simp only [evB, e1, rb_ok]
      rw [if_pos (by rw [mul_line]; omega)]
    rw [q2, rb_ok, e2]
    simp
theorem rng_ok {k : Int} (k0 : 0 ≤ k) (k1 : k ≤ 1000000) : rngD [.int k] = some (.lst (rangeL 0 k.toNat)) := by
  have : rngOk 0 k = true := by simp only [rngOk, decide_eq_true_eq]; omega
  simp [rngD, rgB, this]
theorem c_some_lots (n b : Nat) (h : AH) (pool : List Int) (k s : Int) (ti : Tin b h) (hb : b ≤ 700000000) (hz : pool.length ≤ 90) (nd : pool.Nodup) (ne : pool ≠ []) (s0 : 0 < s) (s1 : s ≤ 1000) (k0 : 0 ≤ k) (k1 : k ≤ 1000) :
    ∃ (ls : List Lot) (h' : AH), runN G T (n + 3) 29 [.ref 0, .lst (pool.map .int), .int k, .int s] h = .ok (.lst (ls.map lotD)) h' ∧ ls.length = k.toNat ∧ (∀ x ∈ ls, Drawn pool s x) ∧ Tin (b + 100 * k.toNat) h' := by
  have le := rangeL_len 0 k.toNat
  obtain ⟨ls, h', e, l, d, t⟩ := some_walk n pool k s none hz nd ne s0 s1 (rangeL 0 k.toNat) b h [] ti (by rw [le]; omega) (by rw [le]; simp; omega)
  rw [le] at l t
  refine ⟨ls, h', ?_, l, d, t⟩
  have e2 : ev (runN G T (n + 2)) G (.lc (.cl (.nm 4) (.range [(.var 2)]) [] (.yl oneE))) [some (.val (.ref 0)), some (.val (.lst (pool.map .int))), some (.val (.int k)), some (.val (.int s)), none] h = .ok (.lst (ls.map lotD)) h' := by
    have q : ev (runN G T (n + 2)) G (.range [(.var 2)]) [some (.val (.ref 0)), some (.val (.lst (pool.map .int))), some (.val (.int k)), some (.val (.int s)), none] h = .ok (.lst (rangeL 0 k.toNat)) h := by
      rw [ev_range, evs_s, ev_var, getS_s, getS_s, getS_0, ro_some, rb_ok, evs_0, rb_ok, rb_ok, rng_ok k0 (by omega), ro_some]
    have q2 : evB (runN G T (n + 2)) G (.cl (.nm 4) (.range [(.var 2)]) [] (.yl oneE)) [some (.val (.ref 0)), some (.val (.lst (pool.map .int))), some (.val (.int k)), some (.val (.int s)), none] [] h = .ok (ls.map lotD) h' := by
      unfold evB
      rw [q, rb_ok]
      exact e
    show (evB _ _ _ _ _ _).bind _ = _
    rw [q2]; rfl
  rw [run_29]
  show (xcs (runN G T (n + 2)) G [.ret (.lc (.cl (.nm 4) (.range [(.var 2)]) [] (.yl oneE)))] [some (.val (.ref 0)), some (.val (.lst (pool.map .int))), some (.val (.int k)), some (.val (.int s)), none] h).bind _ = _
  rw [xcs_s, xc_ret, e2]; rfl
end Pg

end
section
set_option linter.all false
set_option maxRecDepth 100000
set_option maxHeartbeats 4000000
/-! L17: the tasks that the law makes: their lots. -/
namespace Or
theorem flat_len {α β : Type} {f : α → List β} {k : Nat} : ∀ {xs : List α}, (∀ x ∈ xs, (f x).length ≤ k) → (xs.flatMap f).length ≤ k * xs.length
  | [], _ => by simp
  | x :: xs, h => by
    have h1 := h x List.mem_cons_self
    have h2 := flat_len (xs := xs) fun y hy => h y (List.mem_cons_of_mem _ hy)
    rw [List.flatMap_cons, List.length_append, List.length_cons, Nat.mul_add]
    omega
def pairs (ws : Lot) : List Lot := ws.flatMap fun a => (ws.filter fun b => ltI a b).map fun b => [a, b]
def TopsOK (ws : Lot) (tops : List Lot) : Prop := tops.length ≤ 12 ∧ (∀ x ∈ tops, x.Sublist ws) ∧ ∃ x ∈ tops, x ≠ []
theorem pairs_ok {ws : Lot} (as : Asc ltI ws) (l1 : 2 ≤ ws.length) (l2 : ws.length ≤ 4) : TopsOK ws (pairs ws) := by
  refine ⟨?_, fun x hx => ?_, ?_⟩
  · have := flat_len (k := 3) (xs := ws) (f := fun a => (ws.filter fun b => ltI a b).map fun b => [a, b]) fun a ha => by
      have : (ws.filter fun b => ltI a b).length < ws.length := List.length_filter_lt_length_iff_exists.mpr ⟨a, ha, by simp [ltI]⟩
      rw [List.length_map]; omega
    unfold pairs
    omega
  · obtain ⟨a, ha, hx⟩ := List.mem_flatMap.mp hx
    obtain ⟨b, hb, rfl⟩ := List.mem_map.mp hx
    obtain ⟨hb, lt⟩ := List.mem_filter.mp hb
    exact sub_sublist (by simp [Asc, lt]) as (by simp [sub, ha, hb])
  · match ws, l1 with
    | a :: b :: r, _ =>
      have lt : ltI a b = true := (List.pairwise_cons.mp as).1 b List.mem_cons_self
      refine ⟨[a, b], List.mem_flatMap.mpr ⟨a, List.mem_cons_self, List.mem_map.mpr ⟨b, List.mem_filter.mpr ⟨by simp, lt⟩, rfl⟩⟩, by simp⟩
    | [], h => simp at h
    | [a], h => simp at h
/-- all lots of the tops -/
def LotsOK (tops lots : List Lot) : Prop := Asc ltL lots ∧ ∀ x, x ∈ lots ↔ x ≠ [] ∧ ∃ top ∈ tops, x.Sublist top
def lots0 (tops : List Lot) : List Lot := (tops.filter fun x => !x.isEmpty).flatMap fun x => srt (leO ltL) ((subs x).drop 1)
theorem subs_tail {x y : Lot} : y ∈ (subs x).drop 1 ↔ y ≠ [] ∧ y.Sublist x := by
  obtain ⟨r, e, hr⟩ := subs_head x
  have m := subs_mem x y
  rw [e] at m ⊢
  rw [List.drop_one, List.tail_cons, ← m, List.mem_cons]
  exact ⟨fun h => ⟨hr y h, .inr h⟩, fun ⟨h1, h2⟩ => h2.resolve_left h1⟩
theorem lots_ok (tops : List Lot) : LotsOK tops (sset ltL (lots0 tops)) := by
  refine ⟨sset_asc ordL _, fun x => ?_⟩
  rw [sset_mem, lots0, List.mem_flatMap]
  constructor
  · rintro ⟨top, ht, hx⟩
    rw [(srt_perm _ _).mem_iff, subs_tail] at hx
    exact ⟨hx.1, top, (List.mem_filter.mp ht).1, hx.2⟩
  · rintro ⟨ne, top, ht, hx⟩
    refine ⟨top, List.mem_filter.mpr ⟨ht, ?_⟩, ?_⟩
    · cases top with
      | nil => exact absurd (List.sublist_nil.mp hx) ne
      | cons a b => rfl
    · rw [(srt_perm _ _).mem_iff, subs_tail]; exact ⟨ne, hx⟩
theorem lots0_len {ws : Lot} {tops : List Lot} (t : TopsOK ws tops) (l2 : ws.length ≤ 4) : (lots0 tops).length ≤ 192 := by
  have := flat_len (k := 16) (xs := tops.filter fun x => !x.isEmpty) (f := fun x => srt (leO ltL) ((subs x).drop 1)) fun x hx => by
    have h1 := (t.2.1 x (List.mem_filter.mp hx).1).length_le
    have : 2 ^ x.length ≤ 2 ^ 4 := Nat.pow_le_pow_right (by decide) (by omega)
    rw [(srt_perm _ _).length_eq, List.length_drop, subs_len]
    omega
  have h3 := t.1
  exact Nat.le_trans this (Nat.le_trans (Nat.mul_le_mul_left 16 (List.length_filter_le _ _)) (by omega))
/-- what is known of the lots -/
structure Lots (ws : Lot) (tops lots : List Lot) : Prop where
  t : TopsOK ws tops
  l : LotsOK tops lots
  as : Asc ltI ws
  w : ∀ i ∈ ws, 0 ≤ i ∧ i ≤ 1000
  s : ws.length ≤ 4
theorem Lots.sub {ws : Lot} {tops lots : List Lot} (L : Lots ws tops lots) {x : Lot} (h : x ∈ lots) : x.Sublist ws := by
  obtain ⟨_, top, ht, hs⟩ := (L.l.2 x).mp h
  exact hs.trans (L.t.2.1 top ht)
theorem Lots.asc {ws : Lot} {tops lots : List Lot} (L : Lots ws tops lots) {x : Lot} (h : x ∈ lots) : Asc ltI x := L.as.sublist (L.sub h)
theorem Lots.len {ws : Lot} {tops lots : List Lot} (L : Lots ws tops lots) {x : Lot} (h : x ∈ lots) : x.length ≤ 4 := Nat.le_trans (L.sub h).length_le L.s
theorem Lots.ne {ws : Lot} {tops lots : List Lot} (L : Lots ws tops lots) {x : Lot} (h : x ∈ lots) : x ≠ [] := ((L.l.2 x).mp h).1
theorem Lots.ok {ws : Lot} {tops lots : List Lot} (L : Lots ws tops lots) {x : Lot} (h : x ∈ lots) : okLot x = true := by
  simp only [okLot, Bool.and_eq_true, List.all_eq_true, decide_eq_true_eq]
  refine ⟨⟨?_, fun i hi => ?_⟩, (chain_asc ordI x).mpr (L.asc h)⟩
  · have := L.ne h
    cases x with
    | nil => exact absurd rfl this
    | cons a b => rfl
  · have := L.w i ((L.sub h).subset hi); omega
theorem Lots.down {ws : Lot} {tops lots : List Lot} (L : Lots ws tops lots) {x y : Lot} (h : x ∈ lots) (s : y.Sublist x) (n : y ≠ []) : y ∈ lots := by
  obtain ⟨_, top, ht, hs⟩ := (L.l.2 x).mp h
  exact (L.l.2 y).mpr ⟨n, top, ht, s.trans hs⟩
theorem Lots.some {ws : Lot} {tops lots : List Lot} (L : Lots ws tops lots) : lots ≠ [] := by
  obtain ⟨x, hx, n⟩ := L.t.2.2
  intro e
  have := (L.l.2 x).mpr ⟨n, x, hx, .refl _⟩
  rw [e] at this; cases this
theorem Lots.few {ws : Lot} {tops lots : List Lot} (L : Lots ws tops lots) : lots.length ≤ 15 := by
  have h := nodup_len (x := lots) (y := (subs ws).drop 1) (L.l.1.nodup ordL) fun x hx => subs_tail.mpr ⟨L.ne hx, L.sub hx⟩
  rw [List.length_drop, subs_len] at h
  have : 2 ^ ws.length ≤ 2 ^ 4 := Nat.pow_le_pow_right (by decide) L.s
  omega
theorem Lots.great {ws : Lot} {tops lots : List Lot} (L : Lots ws tops lots) : ∀ x ∈ great lots, x ∈ tops := fun x hx => by
  obtain ⟨h1, h2⟩ := great_mem.mp hx
  obtain ⟨n, top, ht, hs⟩ := (L.l.2 x).mp h1
  have tn : top ≠ [] := fun e => n (List.sublist_nil.mp (e ▸ hs))
  have := h2 top ((L.l.2 top).mpr ⟨tn, top, ht, .refl _⟩) (sublist_sub hs)
  rw [← this]; exact ht
end Or
namespace Pg
open PySem Ev Or
/-- the tops -/
abbrev topsE : E := .call 21 [(.var 0), (.lst [(.lst [(.var 1)]), (.lst [(.var 1)]), (.call 26 [(.lc (.cl (.nm 9) (.var 1) [] (.yl (.lc (.cl (.nm 10) (.var 1) [(.cmp .lt (.var 9) (.var 10))] (.yl (.tup [(.var 9), (.var 10)])))))))] []), (.lst [(.cut (.var 1) none (some (.con (.int 2)))), (.cut (.var 1) (some (.con (.int 1))) none)]), (.lst [(.cut (.var 1) none (some (.neg (.con (.int 1))))), (.cut (.var 1) (some (.neg (.con (.int 1)))) none)])])] []
theorem cut_to (xs : List D) (k : Nat) (hk : k ≤ 1000) : cutL xs none (some k) = xs.take k := by
  simp only [cutL, clipI]
  rw [if_neg (by omega), List.drop_zero, Nat.sub_zero]
  by_cases c : k ≤ xs.length
  · rw [show (k : Int).toNat = k by omega, Nat.min_eq_left c]
  · rw [show (k : Int).toNat = k by omega, Nat.min_eq_right (by omega), List.take_of_length_le (Nat.le_refl _), List.take_of_length_le (by omega)]
theorem cut_last (xs : List D) : cutL xs none (some (-1)) = xs.take (xs.length - 1) := by
  simp only [cutL, clipI]
  rw [if_pos (by omega), List.drop_zero, Nat.sub_zero]
  congr 1; omega
theorem cut_lst (xs : List D) : cutL xs (some (-1)) none = xs.drop (xs.length - 1) := by
  simp only [cutL, clipI]
  rw [if_pos (by omega), show (-1 + (xs.length : Int)).toNat = xs.length - 1 by omega, List.take_of_length_le (by rw [List.length_drop]; omega)]
theorem tops_ev (n b : Nat) (h : AH) (ws : Lot) (pool : D) (ti : Tin b h) (hb : b ≤ 700000000) (as : Asc ltI ws) (l1 : 2 ≤ ws.length) (l2 : ws.length ≤ 4) :
    ∃ (tops : List Lot) (h' : AH), ev (runN G T (n + 2)) G topsE [some (.val (.ref 0)), some (.val (lotD ws)), some (.val pool), none, none, none, none, none, none, none, none, none] h = .ok (.lst (tops.map lotD)) h' ∧ TopsOK ws tops ∧ Tin (b + 1) h' := by
  have e1 : ev (runN G T (n + 2)) G (.call 26 [(.lc (.cl (.nm 9) (.var 1) [] (.yl (.lc (.cl (.nm 10) (.var 1) [(.cmp .lt (.var 9) (.var 10))] (.yl (.tup [(.var 9), (.var 10)])))))))] []) [some (.val (.ref 0)), some (.val (lotD ws)), some (.val pool), none, none, none, none, none, none, none, none, none] h = .ok (.lst ((pairs ws).map lotD)) h := by
    have q : ev (runN G T (n + 2)) G (.lc (.cl (.nm 9) (.var 1) [] (.yl (.lc (.cl (.nm 10) (.var 1) [(.cmp .lt (.var 9) (.var 10))] (.yl (.tup [(.var 9), (.var 10)]))))))) [some (.val (.ref 0)), some (.val (lotD ws)), some (.val pool), none, none, none, none, none, none, none, none, none] h = .ok (.lst (ws.map fun a => .lst ((ws.filter fun b => ltI a b).map fun b => lotD [a, b]))) h :=
      lcm D.int _ rfl rfl (by omega) fun a ha => lcmf D.int (fun b => ltI a b) (fun b => lotD [a, b]) rfl rfl (by omega) (fun b hb => by simp [ltI]) fun b hb _ => by simp
    have q2 : (ws.map fun a => D.lst ((ws.filter fun b => ltI a b).map fun b => lotD [a, b])) = (ws.map fun a => (ws.filter fun b => ltI a b).map fun b => lotD [a, b]).map .lst := by rw [List.map_map]; rfl
    have q3 : (ws.map fun a => (ws.filter fun b => ltI a b).map fun b => lotD [a, b]).flatten = (pairs ws).map lotD := by
      rw [pairs, List.map_flatMap, List.flatMap_def]
      simp [Function.comp_def]
    have q4 := c_flat (n + 1) (ws.map fun a => (ws.filter fun b => ltI a b).map fun b => lotD [a, b]) h (by rw [q3, List.length_map]; have := (pairs_ok as l1 l2).1; omega)
    rw [q3] at q4
    rw [ev_call, evs_s, q, rb_ok, evs_0, rb_ok, rb_ok, q2, q4]
  have c1 : cutL (ws.map D.int) none (some 2) = (ws.take 2).map .int := by have := cut_to (ws.map D.int) 2 (by omega); rw [List.map_take]; exact this
  have c2 : cutL (ws.map D.int) (some 1) none = (ws.drop 1).map .int := by rw [cut_tail, List.map_drop]
  have c3 : cutL (ws.map D.int) none (some (-1)) = (ws.take (ws.length - 1)).map .int := by rw [cut_last, List.map_take, List.length_map]
  have c4 : cutL (ws.map D.int) (some (-1)) none = (ws.drop (ws.length - 1)).map .int := by rw [cut_lst, List.map_drop, List.length_map]
  obtain ⟨x, h', e2, m, t⟩ := c_of n b h (.lst [.lst [lotD ws], .lst [lotD ws], .lst ((pairs ws).map lotD), .lst [lotD (ws.take 2), lotD (ws.drop 1)], .lst [lotD (ws.take (ws.length - 1)), lotD (ws.drop (ws.length - 1))]]) _ ti (by omega) (.inr rfl) (by simp) (by simp)
  have e3 : ev (runN G T (n + 2)) G topsE [some (.val (.ref 0)), some (.val (lotD ws)), some (.val pool), none, none, none, none, none, none, none, none, none] h = .ok x h' := by
    generalize hE : (E.call 26 [(.lc (.cl (.nm 9) (.var 1) [] (.yl (.lc (.cl (.nm 10) (.var 1) [(.cmp .lt (.var 9) (.var 10))] (.yl (.tup [(.var 9), (.var 10)])))))))] []) = E8 at e1
    unfold topsE
    rw [hE]
    have w : ∀ ds : List D, ds = [.lst [lotD ws], .lst [lotD ws], .lst ((pairs ws).map lotD), .lst [lotD (ws.take 2), lotD (ws.drop 1)], .lst [lotD (ws.take (ws.length - 1)), lotD (ws.drop (ws.length - 1))]] → runN G T (n + 2) 21 [.ref 0, .lst ds] h = .ok x h' := fun ds e => by rw [e]; exact e2
    simp only [ev_call, evs_s, evs_0, ev_var, getS_0, getS_s, ro_some, rb_ok, ev_lst, e1, ev_cut, evO_0, evO_s, ev_con, ev_neg, optI, Option.bind_some, cutD, c1, c2, c3, c4]
    exact w _ rfl
  have wne : ws ≠ [] := fun e => by rw [e] at l1; simp at l1
  have fin : ∃ tops : List Lot, x = .lst (tops.map lotD) ∧ TopsOK ws tops := by
    simp only [List.mem_cons, List.not_mem_nil, or_false] at m
    rcases m with rfl | rfl | rfl | rfl | rfl
    · exact ⟨[ws], rfl, by simp, by simp, ws, by simp, wne⟩
    · exact ⟨[ws], rfl, by simp, by simp, ws, by simp, wne⟩
    · exact ⟨pairs ws, rfl, pairs_ok as l1 l2⟩
    · refine ⟨[ws.take 2, ws.drop 1], rfl, by simp, fun x hx => ?_, ws.drop 1, by simp, fun e => ?_⟩
      · simp only [List.mem_cons, List.not_mem_nil, or_false] at hx
        rcases hx with rfl | rfl
        · exact List.take_sublist _ _
        · exact List.drop_sublist _ _
      · have := congrArg List.length e
        rw [List.length_drop] at this; simp at this; omega
    · refine ⟨[ws.take (ws.length - 1), ws.drop (ws.length - 1)], rfl, by simp, fun x hx => ?_, ws.drop (ws.length - 1), by simp, fun e => ?_⟩
      · simp only [List.mem_cons, List.not_mem_nil, or_false] at hx
        rcases hx with rfl | rfl
        · exact List.take_sublist _ _
        · exact List.drop_sublist _ _
      · have := congrArg List.length e
        rw [List.length_drop] at this; simp at this; omega
  obtain ⟨tops, rfl, ok⟩ := fin
  exact ⟨tops, h', e3, ok, t⟩
abbrev lotsE : E := .srtset (.call 26 [(.lc (.cl (.nm 8) (.var 3) [(.cmp .ne (.var 8) (.tup []))] (.yl (.call 27 [(.var 8)] []))))] [])
theorem lots_ev (n : Nat) (h : AH) (ws : Lot) (tops : List Lot) (pool : D) (tp : TopsOK ws tops) (l2 : ws.length ≤ 4) :
    ev (runN G T (n + 1)) G lotsE [some (.val (.ref 0)), some (.val (lotD ws)), some (.val pool), some (.val (.lst (tops.map lotD))), none, none, none, none, none, none, none, none] h = .ok (.lst ((sset ltL (lots0 tops)).map lotD)) h := by
  have tl : ∀ x ∈ tops, x.length ≤ 12 := fun x hx => Nat.le_trans (tp.2.1 x hx).length_le (by omega)
  have e1 : ev (runN G T (n + 1)) G (.lc (.cl (.nm 8) (.var 3) [(.cmp .ne (.var 8) (.tup []))] (.yl (.call 27 [(.var 8)] [])))) [some (.val (.ref 0)), some (.val (lotD ws)), some (.val pool), some (.val (.lst (tops.map lotD))), none, none, none, none, none, none, none, none] h
      = .ok (.lst ((tops.filter fun x => !x.isEmpty).map fun x => .lst ((srt (leO ltL) ((subs x).drop 1)).map lotD))) h :=
    lcmf lotD (fun x => !x.isEmpty) _ rfl rfl (by have := tp.1; omega) (fun x hx => by
      have := eq_unit (xs := x.map D.int) (okD_lot 59 x)
      simp [cmpop, this]) fun x hx _ => by
      have := c_law_subsets n x h (tl x hx)
      simp only [lotD] at this
      rw [List.drop_one] at this
      simp [this]
  have q2 : ((tops.filter fun x => !x.isEmpty).map fun x => D.lst ((srt (leO ltL) ((subs x).drop 1)).map lotD)) = ((tops.filter fun x => !x.isEmpty).map fun x => (srt (leO ltL) ((subs x).drop 1)).map lotD).map .lst := by rw [List.map_map]; rfl
  have q3 : ((tops.filter fun x => !x.isEmpty).map fun x => (srt (leO ltL) ((subs x).drop 1)).map lotD).flatten = (lots0 tops).map lotD := by
    rw [lots0, List.map_flatMap, List.flatMap_def]
  have ln := lots0_len tp l2
  have q4 := c_flat n ((tops.filter fun x => !x.isEmpty).map fun x => (srt (leO ltL) ((subs x).drop 1)).map lotD) h (by rw [q3, List.length_map]; omega)
  rw [q3] at q4
  have q5 := sset_lots (lots0 tops) (d := .lst ((lots0 tops).map lotD)) (by omega) (fun x hx => ((lots_ok tops).2 x).mp (sset_mem.mpr hx) |>.1) rfl
  rw [ev_srtset, ev_call, evs_s, e1, rb_ok, evs_0, rb_ok, rb_ok, q2, q4, rb_ok, q5, ro_some]
end Pg

end
section
set_option linter.all false
set_option maxRecDepth 100000
set_option maxHeartbeats 4000000
/-! L18: the tasks that the law makes: their webs. -/
namespace Or
/-- what shorter lots give -/
def gives (R : Tk) (x y : Lot) : List Lot := if decide (y.length < x.length) && sub y x then rule R y else []
def LotOK (pool : List Int) (x : Lot) : Prop := okLot x = true ∧ (∀ i ∈ x, i ∈ pool) ∧ x.length ≤ 3
structure WebsOK (pool : List Int) (R : Tk) (ds : List Lot) : Prop where
  n : ds.length ≤ 2 * R.length
  d : ∀ x ∈ ds, LotOK pool x
  ne : ∀ p ∈ R, p.2 ≠ []
  g : ∀ p ∈ R, great p.2 = p.2
  s : ∀ p ∈ R, ∀ x ∈ p.2, x ∈ ds
  m : ∀ p ∈ R, ∀ q ∈ R, p.1.length < q.1.length → sub p.1 q.1 = true → ∀ x ∈ p.2, lies q.2 x = true
theorem WebsOK.len {pool : List Int} {R : Tk} {ds : List Lot} (W : WebsOK pool R ds) (hR : R.length ≤ 15) : ∀ p ∈ R, p.2.length ≤ 30 := fun p hp => by
  have h1 : p.2.Nodup := by rw [← W.g p hp]; exact (great_asc _).nodup ordL
  have := nodup_len h1 (W.s p hp)
  have := W.n
  omega
theorem WebsOK.ok {pool : List Int} {R : Tk} {ds : List Lot} (W : WebsOK pool R ds) : ∀ p ∈ R, ∀ x ∈ p.2, LotOK pool x := fun p hp x hx => W.d x (W.s p hp x hx)
theorem gives_in {R : Tk} {x y z : Lot} (hy : y.length < x.length → y ∈ keys R) (h : z ∈ gives R x y) : ∃ p ∈ R, z ∈ p.2 := by
  unfold gives at h
  split at h
  · rename_i c
    rw [Bool.and_eq_true, decide_eq_true_eq] at c
    exact ⟨_, rule_mem (hy c.1), h⟩
  · cases h
theorem webs_step {ws : Lot} {tops lots : List Lot} (L : Lots ws tops lots) {pool : List Int} {R : Tk} {ds : List Lot} (W : WebsOK pool R ds) (hR : R.length ≤ 14) {x : Lot} (hx : x ∈ lots) (nd : (keys R).Nodup)
    (kin : ∀ y ∈ keys R, y ∈ lots) (kl : ∀ y ∈ keys R, y.length ≤ x.length) (hk : ∀ y ∈ lots, y.length < x.length → y ∈ keys R) (nx : x ∉ keys R) {ls : List Lot} (dr : ∀ y ∈ ls, LotOK pool y) (l2 : ls.length ≤ 2) (l1 : x.length = 1 → ls ≠ []) :
    (ls ++ lots.flatMap (gives R x)).all okLot = true ∧ (ls ++ lots.flatMap (gives R x)).length ≤ 1000 ∧ WebsOK pool (R ++ [(x, great (ls ++ lots.flatMap (gives R x)))]) (ds ++ ls) := by
  have fin : ∀ z ∈ ls ++ lots.flatMap (gives R x), z ∈ ds ++ ls := fun z hz => by
    rcases List.mem_append.mp hz with h | h
    · exact List.mem_append_right _ h
    · obtain ⟨y, hy, h⟩ := List.mem_flatMap.mp h
      obtain ⟨p, hp, h⟩ := gives_in (hk y hy) h
      exact List.mem_append_left _ (W.s p hp z h)
  have dok : ∀ z ∈ ds ++ ls, LotOK pool z := fun z hz => by
    rcases List.mem_append.mp hz with h | h
    · exact W.d z h
    · exact dr z h
  have ok : ∀ z ∈ ls ++ lots.flatMap (gives R x), okLot z = true := fun z hz => (dok z (fin z hz)).1
  have asc : ∀ z ∈ ls ++ lots.flatMap (gives R x), Asc ltI z := fun z hz => okLot_asc (ok z hz)
  have ne : ls ++ lots.flatMap (gives R x) ≠ [] := by
    by_cases c : x.length = 1
    · intro e; exact l1 c (List.append_eq_nil_iff.mp e).1
    · obtain ⟨i, r, hxr⟩ : ∃ i r, x = i :: r := by
        have := L.ne hx
        cases x with
        | nil => exact absurd rfl this
        | cons i r => exact ⟨i, r, rfl⟩
      have il : [i] ∈ lots := L.down hx (by rw [hxr]; simp) (by simp)
      have lt : ([i] : Lot).length < x.length := by rw [hxr] at c ⊢; simp at c ⊢; cases r <;> simp at c ⊢
      have ik := hk _ il lt
      have : ∃ z, z ∈ gives R x [i] := by
        unfold gives
        rw [decide_eq_true lt, show sub [i] x = true by simp [sub, hxr]]
        have := W.ne _ (rule_mem ik)
        obtain ⟨z, hz⟩ := List.exists_mem_of_ne_nil _ this
        exact ⟨z, hz⟩
      obtain ⟨z, hz⟩ := this
      intro e
      have : z ∈ ls ++ lots.flatMap (gives R x) := List.mem_append_right _ (List.mem_flatMap.mpr ⟨_, il, hz⟩)
      rw [e] at this; cases this
  refine ⟨List.all_eq_true.mpr ok, ?_, ?_⟩
  · have := flat_len (k := 30) (xs := lots) (f := gives R x) fun y hy => by
      unfold gives
      split
      · rename_i c
        rw [Bool.and_eq_true, decide_eq_true_eq] at c
        exact W.len (by omega) _ (rule_mem (hk y hy c.1))
      · simp
    have := L.few
    rw [List.length_append]; omega
  · have mem2 : ∀ {P : Lot × Web → Prop}, (∀ p ∈ R, P p) → P (x, great (ls ++ lots.flatMap (gives R x))) → ∀ p ∈ R ++ [(x, great (ls ++ lots.flatMap (gives R x)))], P p := fun h1 h2 p hp => by
      rcases List.mem_append.mp hp with h | h
      · exact h1 p h
      · rw [List.mem_singleton.mp h]; exact h2
    refine ⟨?_, dok, mem2 W.ne (Pg.great_ne asc ne), mem2 W.g (great_idem _), mem2 (fun p hp z hz => List.mem_append_left _ (W.s p hp z hz)) (fun z hz => fin z (great_mem.mp hz).1), mem2 (fun p hp => mem2 (W.m p hp) ?_) (mem2 ?_ ?_)⟩
    · have := W.n
      simp only [List.length_append, List.length_cons, List.length_nil]; omega
    · intro lt s z hz
      refine great_lies asc (List.mem_append_right _ (List.mem_flatMap.mpr ⟨p.1, ?_, ?_⟩))
      · exact kin p.1 (List.mem_map.mpr ⟨p, hp, rfl⟩)
      · unfold gives
        rw [decide_eq_true lt, s, rule_eq nd hp]; exact hz
    · intro q hq lt
      have := kl q.1 (List.mem_map.mpr ⟨q, hq, rfl⟩)
      simp only at lt
      omega
    · intro lt
      simp at lt
/-- the whole task -/
theorem webs_fin {ws : Lot} {tops lots : List Lot} (L : Lots ws tops lots) {pool : List Int} {R : Tk} {ds : List Lot} (W : WebsOK pool R ds) (nd : (keys R).Nodup) (hk : ∀ x, x ∈ keys R ↔ x ∈ lots) :
    okT (lots.map fun x => (x, rule R x)) = true ∧ good (lots.map fun x => (x, rule R x)) = true := by
  have hR : R.length ≤ 15 := by
    have := nodup_len nd fun x hx => (hk x).mp hx
    have := L.few
    simp only [keys, List.length_map] at *; omega
  have kk : keys (lots.map fun x => (x, rule R x)) = lots := by simp [keys, Function.comp_def]
  have rm : ∀ x ∈ lots, (x, rule R x) ∈ R := fun x hx => rule_mem ((hk x).mpr hx)
  have ok : okT (lots.map fun x => (x, rule R x)) = true := by
    simp only [okT, Bool.and_eq_true, List.all_eq_true]
    refine ⟨?_, fun p hp => ?_⟩
    · have := L.some
      cases lots with
      | nil => exact absurd rfl this
      | cons a b => rfl
    · obtain ⟨x, hx, rfl⟩ := List.mem_map.mp hp
      refine ⟨L.ok hx, ?_⟩
      have h1 := W.len hR _ (rm x hx)
      have h2 := W.ne _ (rm x hx)
      have h3 := W.g _ (rm x hx)
      have h4 := W.ok _ (rm x hx)
      simp only [okWeb, Bool.and_eq_true, decide_eq_true_eq, List.all_eq_true]
      simp only at h1 h2 h3 h4
      exact ⟨⟨⟨List.length_pos_iff.mpr h2, by omega⟩, fun y hy => (h4 y hy).1⟩, h3⟩
  refine ⟨ok, ?_⟩
  simp only [good, Bool.and_eq_true]
  rw [kk]
  refine ⟨⟨⟨(chain_asc ordL _).mpr L.l.1, ?_⟩, ?_⟩, ?_⟩
  · simp only [few, kk, Bool.and_eq_true, decide_eq_true_eq]
    refine ⟨?_, maxL_of fun x hx => ?_⟩
    · have := nodup_len ((great_asc lots).nodup ordL) L.great
      have := L.t.1
      omega
    · have := L.len (great_mem.mp hx).1; omega
  · simp only [closed, kk, List.all_eq_true]
    intro top ht x hx
    obtain ⟨h1, h2⟩ := List.mem_filter.mp hx
    have : x ∈ lots := L.down (great_mem.mp ht).1 ((subs_mem _ _).mp h1) (by cases x <;> simp at h2 ⊢)
    simpa using this
  · simp only [mono, List.all_eq_true, Bool.or_eq_true, Bool.not_eq_true']
    intro p hp q hq
    obtain ⟨x, hx, rfl⟩ := List.mem_map.mp hp
    obtain ⟨y, hy, rfl⟩ := List.mem_map.mp hq
    simp only
    cases s : sub x y with
    | false => exact .inl rfl
    | true =>
      refine .inr fun z hz => ?_
      by_cases lt : x.length < y.length
      · exact W.m _ (rm x hx) _ (rm y hy) lt s z hz
      · have e := sub_eq (L.asc hx) (L.asc hy) s (by omega)
        rw [← e]
        exact List.any_eq_true.mpr ⟨z, hz, sub_refl z⟩
end Or

end
section
set_option linter.all false
set_option maxRecDepth 100000
set_option maxHeartbeats 4000000
/-! L19: the tasks that the law makes: the walk. -/
namespace Pg
open PySem Ev Or
abbrev slp (ws pool tops lots : D) (R : Tk) (c6 c7 c8 : Option Cell) : Slots := [some (.val (.ref 0)), some (.val ws), some (.val pool), some (.val tops), some (.val lots), some (.own (.dic ((keys R).map lotD) (R.map fun p => webD p.2))), c6, c7, c8, none, none, none]
abbrev givE : E := .ite (.and [(.cmp .lt (.bi .len [(.var 8)]) (.bi .len [(.var 6)])), (.bi .all [(.lc (.cl (.nm 11) (.var 8) [] (.yl (.cmp .isin (.var 11) (.var 6)))))])]) (.cast .list (.sub (.bs 5) (.var 8))) (.lst [])
theorem giv_ev (F : Fs) (h : AH) (ws pool tops lots : D) (R : Tk) (x y : Lot) (c7 : Option Cell) (hy : y.length < x.length → y ∈ keys R) (ly : y.length ≤ 1000) :
    ev F G givE (slp ws pool tops lots R (some (.val (lotD x))) c7 (some (.val (lotD y)))) h = .ok (.lst ((gives R x y).map lotD)) h := by
  have e1 : ev F G (.cmp .lt (.bi .len [(.var 8)]) (.bi .len [(.var 6)])) (slp ws pool tops lots R (some (.val (lotD x))) c7 (some (.val (lotD y)))) h = .ok (.bl (decide (y.length < x.length))) h := by
    simp
  have e2 : ev F G (.lc (.cl (.nm 11) (.var 8) [] (.yl (.cmp .isin (.var 11) (.var 6))))) (slp ws pool tops lots R (some (.val (lotD x))) c7 (some (.val (lotD y)))) h = .ok (.lst (y.map fun i => .bl (x.contains i))) h :=
    lcm D.int (fun i => .bl (x.contains i)) rfl rfl (by omega) fun i hi => by simp [cmpop, in_ints i x _ (.inl rfl)]
  have e3 : ev F G (.bi .all [(.lc (.cl (.nm 11) (.var 8) [] (.yl (.cmp .isin (.var 11) (.var 6)))))]) (slp ws pool tops lots R (some (.val (lotD x))) c7 (some (.val (lotD y)))) h = .ok (.bl (sub y x)) h := by
    rw [ev_bi, evs_s, e2, rb_ok, evs_0, rb_ok, rb_ok, bi_all, ro_some]; rfl
  have e4 : y ∈ keys R → ev F G (.cast .list (.sub (.bs 5) (.var 8))) (slp ws pool tops lots R (some (.val (lotD x))) c7 (some (.val (lotD y)))) h = .ok (.lst ((rule R y).map lotD)) h := fun hk => by
    have q1 : ev F G (.bs 5) (slp ws pool tops lots R (some (.val (lotD x))) c7 (some (.val (lotD y)))) h = .ok (.dic ((keys R).map lotD) (R.map fun p => webD p.2)) h := rfl
    have q2 : ev F G (.var 8) (slp ws pool tops lots R (some (.val (lotD x))) c7 (some (.val (lotD y)))) h = .ok (lotD y) h := rfl
    rw [ev_cast, ev_sub, q1, rb_ok, q2, rb_ok, sub_rules hk, ro_some, rb_ok]; rfl
  unfold givE gives
  rw [ev_ite, ev_and, evAnd_s, e1, rb_ok, truth_bl, ro_some, rb_ok]
  by_cases c : y.length < x.length
  · rw [decide_eq_true c, if_pos rfl, evAnd_1, e3, rb_ok, truth_bl, ro_some, rb_ok, Bool.true_and]
    cases sub y x with
    | true => rw [if_pos rfl, if_pos rfl]; exact e4 (hy c)
    | false => rfl
  · rw [decide_eq_false c]; rfl
abbrev body8 : List S := [.set 7 (.bin .add (.var 7) givE)]
theorem inner_loop (F : Fs) (h : AH) (ws pool tops lots : D) (R : Tk) (x : Lot) (sz : ∀ p ∈ R, p.2.length ≤ 36) : ∀ (todo f : List Lot) (c8 : Option Cell), (∀ y ∈ todo, y.length < x.length → y ∈ keys R) → (∀ y ∈ todo, y.length ≤ 1000) → f.length + 36 * todo.length ≤ 100000 →
    ∃ c' : Option Cell, forR (fun d sl h => (Ev.R.opt h (setTg sl (.nm 8) d)).bind fun sl h => xcs F G body8 sl h) (todo.map lotD) (slp ws pool tops lots R (some (.val (lotD x))) (some (.val (.lst (f.map lotD)))) c8) h
      = .ok (.nx (slp ws pool tops lots R (some (.val (lotD x))) (some (.val (.lst ((f ++ todo.flatMap (gives R x)).map lotD)))) c')) h := by
  intro todo
  induction todo with
  | nil => intro f c8 _ _ _; exact ⟨c8, by simp [forR]⟩
  | cons y todo ih =>
    intro f c8 hy ly hz
    rw [List.length_cons] at hz
    have gl : (gives R x y).length ≤ 36 := by
      unfold gives
      split
      · rename_i c
        rw [Bool.and_eq_true, decide_eq_true_eq] at c
        exact sz _ (rule_mem (hy y List.mem_cons_self c.1))
      · simp
    obtain ⟨c', e⟩ := ih (f ++ gives R x y) (some (.val (lotD y))) (fun z hz => hy z (List.mem_cons_of_mem _ hz)) (fun z hz => ly z (List.mem_cons_of_mem _ hz)) (by rw [List.length_append]; omega)
    refine ⟨c', ?_⟩
    have e1 := giv_ev F h ws pool tops lots R x y (some (.val (.lst (f.map lotD)))) (hy y List.mem_cons_self) (ly y List.mem_cons_self)
    have e2 : binop .add (.lst (f.map lotD)) (.lst ((gives R x y).map lotD)) = some (.lst ((f ++ gives R x y).map lotD)) := by
      have : f.length + (gives R x y).length ≤ line := by rw [mul_line]; omega
      simp [binop, this]
    have e3 : xcs F G body8 (slp ws pool tops lots R (some (.val (lotD x))) (some (.val (.lst (f.map lotD)))) (some (.val (lotD y)))) h = .ok (.nx (slp ws pool tops lots R (some (.val (lotD x))) (some (.val (.lst ((f ++ gives R x y).map lotD)))) (some (.val (lotD y))))) h := by
      have q1 : ev F G (.var 7) (slp ws pool tops lots R (some (.val (lotD x))) (some (.val (.lst (f.map lotD)))) (some (.val (lotD y)))) h = .ok (.lst (f.map lotD)) h := rfl
      unfold body8
      rw [xcs_s, xc_set, ev_bin, q1, rb_ok, e1, rb_ok, e2, ro_some, rb_ok, rb_ok]
      rfl
    rw [List.map_cons, forR, setTg_nm, ro_some, rb_ok]
    rw [show setS (slp ws pool tops lots R (some (.val (lotD x))) (some (.val (.lst (f.map lotD)))) c8) 8 (lotD y) = slp ws pool tops lots R (some (.val (lotD x))) (some (.val (.lst (f.map lotD)))) (some (.val (lotD y))) from rfl, e3, rb_ok]
    rw [List.flatMap_cons, ← List.append_assoc]
    exact e
/-- rules_so[lot_so] = .. -/
theorem put_rules {R : Tk} {x : Lot} {w : Web} (nx : x ∉ keys R) (hz : R.length ≤ 1000) : setOwn (.dic ((keys R).map lotD) (R.map fun p => webD p.2)) (lotD x) (webD w) = some (.dic ((keys (R ++ [(x, w)])).map lotD) ((R ++ [(x, w)]).map fun p => webD p.2)) := by
  have h1 := fit_lots x (keys R)
  have h2 : findK (lotD x) ((keys R).map lotD) = none := by
    rw [findK_lot, List.findIdx?_eq_none_iff]
    intro y hy
    simp only [decide_eq_false_iff_not]
    exact fun e => nx (e ▸ hy)
  have h3 : ((keys R).map lotD).length < line := by rw [mul_line]; simp [keys]; omega
  simp only [setOwn, h1, h3, decide_true, Bool.and_self, if_true, putK, h2]
  simp [keys]
abbrev drawE : E := .ite (.cmp .eq (.bi .len [(.var 6)]) (.con (.int 1))) (.call 29 [(.var 0), (.var 2), (.bin .add (.con (.int 1)) (.call 19 [(.var 0), (.con (.int 2))] [])), (.con (.int 2))] []) (.call 29 [(.var 0), (.var 2), (.call 19 [(.var 0), (.con (.int 3))] []), (.con (.int 3))] [])
theorem draw_ev (n b : Nat) (h : AH) (ws tops lots : D) (pool : List Int) (R : Tk) (x : Lot) (c7 c8 : Option Cell) (ti : Tin b h) (hb : b ≤ 600000000) (hz : pool.length ≤ 90) (nd : pool.Nodup) (ne : pool ≠ []) (hp : ∀ i ∈ pool, 0 ≤ i ∧ i ≤ 1000) :
    ∃ (ls : List Lot) (h' : AH), ev (runN G T (n + 3)) G drawE (slp ws (.lst (pool.map .int)) tops lots R (some (.val (lotD x))) c7 c8) h = .ok (.lst (ls.map lotD)) h' ∧ (∀ y ∈ ls, LotOK pool y) ∧ ls.length ≤ 2 ∧ (x.length = 1 → ls ≠ []) ∧ Tin (b + 1000) h' := by
  have dl : ∀ {s : Int} {y : Lot}, s ≤ 3 → Drawn pool s y → LotOK pool y := fun {s y} hs d => by
    obtain ⟨d1, d2, d3, d4⟩ := d
    refine ⟨?_, d3, by omega⟩
    simp only [okLot, Bool.and_eq_true, List.all_eq_true, decide_eq_true_eq]
    refine ⟨⟨?_, fun i hi => ?_⟩, (chain_asc ordI y).mpr d1⟩
    · cases y with
      | nil => exact absurd rfl d2
      | cons a b => rfl
    · have := hp i (d3 i hi); omega
  have e0 : ev (runN G T (n + 3)) G (.cmp .eq (.bi .len [(.var 6)]) (.con (.int 1))) (slp ws (.lst (pool.map .int)) tops lots R (some (.val (lotD x))) c7 c8) h = .ok (.bl (decide ((x.length : Int) = 1))) h := by simp
  unfold drawE
  rw [ev_ite, e0, rb_ok, truth_bl, ro_some, rb_ok]
  by_cases c : (x.length : Int) = 1
  · obtain ⟨r, h1, e1, r0, r1, t1⟩ := c_take (n + 2) b h 2 ti (by omega) (by omega) (by omega)
    obtain ⟨ls, h', e2, l2, d2, t2⟩ := c_some_lots n (b + 1) h1 pool (1 + r) 2 t1 (by omega) hz nd ne (by omega) (by omega) (by omega) (by omega)
    refine ⟨ls, h', ?_, fun y hy => dl (by omega) (d2 y hy), by omega, fun _ e => ?_, t2.mono (by omega)⟩
    · rw [decide_eq_true c, if_pos rfl]
      simp only [ev_call, evs_s, evs_0, ev_var, getS_0, getS_s, ro_some, rb_ok, ev_bin, ev_con, e1, b_add]
      exact e2
    · rw [e] at l2
      simp only [List.length_nil] at l2
      omega
  · obtain ⟨r, h1, e1, r0, r1, t1⟩ := c_take (n + 2) b h 3 ti (by omega) (by omega) (by omega)
    obtain ⟨ls, h', e2, l2, d2, t2⟩ := c_some_lots n (b + 1) h1 pool r 3 t1 (by omega) hz nd ne (by omega) (by omega) (by omega) (by omega)
    refine ⟨ls, h', ?_, fun y hy => dl (by omega) (d2 y hy), by omega, fun q => absurd (by omega) c, t2.mono (by omega)⟩
    rw [decide_eq_false c]
    simp only [Bool.false_eq_true, if_false, ev_call, evs_s, evs_0, ev_var, getS_0, getS_s, ro_some, rb_ok, ev_bin, ev_con, e1, b_add]
    exact e2
abbrev body6 : List S := [.set 7 drawE, .for (.nm 8) (.var 4) body8, .seti (.sl 5) (.var 6) (.call 28 [(.var 7)] [])]
theorem outer_loop (n : Nat) (ws : D) (pool : List Int) (tops : D) (wsl : Lot) (topsl lots : List Lot) (L : Lots wsl topsl lots) (hz : pool.length ≤ 90) (nd : pool.Nodup) (ne : pool ≠ []) (hp : ∀ i ∈ pool, 0 ≤ i ∧ i ≤ 1000) :
    ∀ (todo : List Lot) (b : Nat) (h : AH) (R : Tk) (ds : List Lot) (c6 c7 c8 : Option Cell), Tin b h → b + 1000 * todo.length ≤ 600000000 → WebsOK pool R ds → (keys R ++ todo).Nodup → (keys R ++ todo).Pairwise (fun a b => leShort a b = true) → (∀ x, x ∈ keys R ++ todo ↔ x ∈ lots) →
      ∃ (R' : Tk) (ds' : List Lot) (c6' c7' c8' : Option Cell) (h' : AH), forR (fun d sl h => (Ev.R.opt h (setTg sl (.nm 6) d)).bind fun sl h => xcs (runN G T (n + 3)) G body6 sl h) (todo.map lotD) (slp ws (.lst (pool.map .int)) tops (.lst (lots.map lotD)) R c6 c7 c8) h
        = .ok (.nx (slp ws (.lst (pool.map .int)) tops (.lst (lots.map lotD)) R' c6' c7' c8')) h' ∧ WebsOK pool R' ds' ∧ (keys R').Nodup ∧ (∀ x, x ∈ keys R' ↔ x ∈ lots) ∧ Tin (b + 1000 * todo.length) h' := by
  intro todo
  induction todo with
  | nil =>
    intro b h R ds c6 c7 c8 ti _ W n1 _ m
    rw [List.append_nil] at n1
    simp only [List.append_nil] at m
    exact ⟨R, ds, c6, c7, c8, h, rfl, W, n1, m, ti⟩
  | cons x todo ih =>
    intro b h R ds c6 c7 c8 ti hb W n1 pw m
    rw [List.length_cons] at hb
    have hx : x ∈ lots := (m x).mp (by simp)
    obtain ⟨n2, n3, n4⟩ := List.nodup_append.mp n1
    obtain ⟨p2, p3, p4⟩ := List.pairwise_append.mp pw
    have nx : x ∉ keys R := fun q => n4 x q x (by simp) rfl
    have kin : ∀ y ∈ keys R, y ∈ lots := fun y hy => (m y).mp (List.mem_append_left _ hy)
    have kl : ∀ y ∈ keys R, y.length ≤ x.length := fun y hy => by
      have := p4 y hy x (by simp)
      simpa [leShort] using this
    have hk : ∀ y ∈ lots, y.length < x.length → y ∈ keys R := fun y hy lt => by
      rcases List.mem_append.mp ((m y).mpr hy) with q | q
      · exact q
      · exfalso
        rcases List.mem_cons.mp q with rfl | q
        · omega
        · have := (List.pairwise_cons.mp p3).1 y q
          simp only [leShort, decide_eq_true_eq] at this
          omega
    have rl : R.length ≤ 14 := by
      have := nodup_len n1 fun y hy => (m y).mp hy
      have := L.few
      simp only [keys, List.length_append, List.length_map, List.length_cons] at *
      omega
    obtain ⟨ls, h1, e1, d1, d2, d3, t1⟩ := draw_ev n b h ws tops (.lst (lots.map lotD)) pool R x c7 c8 ti (by omega) hz nd ne hp
    obtain ⟨w1, w2, w3⟩ := webs_step L W rl hx n2 kin kl hk nx d1 d2 d3
    obtain ⟨c8', e2⟩ := inner_loop (runN G T (n + 3)) h1 ws (.lst (pool.map .int)) tops (.lst (lots.map lotD)) R x (fun p hp => by have := W.len (by omega) p hp; omega) lots ls c8 hk (fun y hy => by have := L.len hy; omega) (by have := L.few; omega)
    have e3 := c_law_greatest (n + 2) (.lst ((ls ++ lots.flatMap (gives R x)).map lotD)) (ls ++ lots.flatMap (gives R x)) h1 rfl w1 w2 (fun y hy => by
      rcases List.mem_append.mp hy with q | q
      · have := (d1 y q).2.2; omega
      · obtain ⟨z, hz, q⟩ := List.mem_flatMap.mp q
        obtain ⟨p, hp, q⟩ := gives_in (hk z hz) q
        have := (W.ok p hp y q).2.2; omega)
    have e4 := put_rules (w := great (ls ++ lots.flatMap (gives R x))) nx (by omega)
    obtain ⟨R', ds', a6, a7, a8, h', e5, W', n', m', t'⟩ := ih (b + 1000) h1 (R ++ [(x, great (ls ++ lots.flatMap (gives R x)))]) (ds ++ ls) (some (.val (lotD x))) (some (.val (.lst ((ls ++ lots.flatMap (gives R x)).map lotD)))) c8' t1 (by omega) w3 (by simpa [keys] using n1) (by simpa [keys] using pw) (by simpa [keys] using m)
    refine ⟨R', ds', a6, a7, a8, h', ?_, W', n', m', t'.mono (by rw [List.length_cons]; omega)⟩
    have b1 : xcs (runN G T (n + 3)) G body6 (slp ws (.lst (pool.map .int)) tops (.lst (lots.map lotD)) R (some (.val (lotD x))) c7 c8) h = .ok (.nx (slp ws (.lst (pool.map .int)) tops (.lst (lots.map lotD)) (R ++ [(x, great (ls ++ lots.flatMap (gives R x)))]) (some (.val (lotD x))) (some (.val (.lst ((ls ++ lots.flatMap (gives R x)).map lotD)))) c8')) h1 := by
      unfold body6
      have q1 : ev (runN G T (n + 3)) G (.var 4) (slp ws (.lst (pool.map .int)) tops (.lst (lots.map lotD)) R (some (.val (lotD x))) (some (.val (.lst (ls.map lotD)))) c8) h1 = .ok (.lst (lots.map lotD)) h1 := rfl
      have q2 : setS (slp ws (.lst (pool.map .int)) tops (.lst (lots.map lotD)) R (some (.val (lotD x))) c7 c8) 7 (.lst (ls.map lotD)) = slp ws (.lst (pool.map .int)) tops (.lst (lots.map lotD)) R (some (.val (lotD x))) (some (.val (.lst (ls.map lotD)))) c8 := rfl
      rw [xcs_s, xc_set, e1, rb_ok, rb_ok, q2]
      simp only
      rw [xcs_s, xc_for, q1, rb_ok]
      rw [show Ev.R.opt h1 (items (.lst (lots.map lotD))) = Ev.R.ok (lots.map lotD) h1 from rfl, rb_ok, e2, rb_ok]
      simp only
      have q3 : ev (runN G T (n + 3)) G (.call 28 [(.var 7)] []) (slp ws (.lst (pool.map .int)) tops (.lst (lots.map lotD)) R (some (.val (lotD x))) (some (.val (.lst ((ls ++ lots.flatMap (gives R x)).map lotD)))) c8') h1 = .ok (webD (great (ls ++ lots.flatMap (gives R x)))) h1 := e3
      have q4 : ev (runN G T (n + 3)) G (.var 6) (slp ws (.lst (pool.map .int)) tops (.lst (lots.map lotD)) R (some (.val (lotD x))) (some (.val (.lst ((ls ++ lots.flatMap (gives R x)).map lotD)))) c8') h1 = .ok (lotD x) h1 := rfl
      have q5 : atP (runN G T (n + 3)) G (slp ws (.lst (pool.map .int)) tops (.lst (lots.map lotD)) R (some (.val (lotD x))) (some (.val (.lst ((ls ++ lots.flatMap (gives R x)).map lotD)))) c8') h1 (.sl 5) = .ok (.non, .dic ((keys R).map lotD) (R.map fun p => webD p.2)) h1 := rfl
      rw [xcs_s, xc_seti, q3, rb_ok, q4, rb_ok, q5, rb_ok]
      simp only
      rw [e4]
      rfl
    rw [List.map_cons, forR, setTg_nm, ro_some, rb_ok]
    rw [show setS (slp ws (.lst (pool.map .int)) tops (.lst (lots.map lotD)) R c6 c7 c8) 6 (lotD x) = slp ws (.lst (pool.map .int)) tops (.lst (lots.map lotD)) R (some (.val (lotD x))) c7 c8 from rfl, b1, rb_ok]
    exact e5
end Pg

end
section
set_option linter.all false
set_option maxRecDepth 100000
set_option maxHeartbeats 4000000
/-! L20: a task that the law makes is plain. -/
namespace Pg
open PySem Ev Or
/-- what is known of a task that the law made -/
structure Made (ws : Lot) (pool : List Int) (t : Tk) : Prop where
  ok : okT t = true
  gd : good t = true
  n : t.length ≤ 15
  ne : t ≠ []
  w : ∀ p ∈ t, 1 ≤ p.2.length ∧ p.2.length ≤ 30
  k : ∀ p ∈ t, p.1.length ≤ 4 ∧ ∀ i ∈ p.1, i ∈ ws
  x : ∀ p ∈ t, ∀ x ∈ p.2, LotOK pool x
theorem dat_lot (k : Nat) (l : Lot) (h : l.length ≤ 1000) : dat (k + 1) (lotD l) = true := by
  simp only [dat, Bool.and_eq_true, decide_eq_true_eq, List.all_eq_true, List.length_map]
  refine ⟨h, fun x hx => ?_⟩
  obtain ⟨i, _, rfl⟩ := List.mem_map.mp hx
  cases k <;> rfl
theorem dat_tup {k : Nat} {xs : List D} (h : xs.length ≤ 1000) (hx : ∀ x ∈ xs, dat k x = true) : dat (k + 1) (.tup xs) = true := by
  simp only [dat, Bool.and_eq_true, decide_eq_true_eq, List.all_eq_true]
  exact ⟨h, hx⟩
theorem dat_lst {k : Nat} {xs : List D} (h : xs.length ≤ 1000) (hx : ∀ x ∈ xs, dat k x = true) : dat (k + 1) (.lst xs) = true := by
  simp only [dat, Bool.and_eq_true, decide_eq_true_eq, List.all_eq_true]
  exact ⟨h, hx⟩
theorem dat_web (k : Nat) (w : Web) (h : w.length ≤ 1000) (hx : ∀ x ∈ w, x.length ≤ 1000) : dat (k + 2) (webD w) = true := by
  refine dat_tup (by simpa using h) fun d hd => ?_
  obtain ⟨y, hy, rfl⟩ := List.mem_map.mp hd
  exact dat_lot k y (hx y hy)
theorem dat_rule (k : Nat) (p : Lot × Web) (h : p.1.length ≤ 1000 ∧ p.2.length ≤ 1000 ∧ ∀ x ∈ p.2, x.length ≤ 1000) : dat (k + 3) (ruleD p) = true := by
  refine dat_tup (by simp) fun d hd => ?_
  simp only [List.mem_cons, List.not_mem_nil, or_false] at hd
  rcases hd with rfl | rfl
  · exact dat_lot (k + 1) _ h.1
  · exact dat_web k _ h.2.1 h.2.2
theorem dat_task (k : Nat) (t : Tk) (h : Small t) : dat (k + 4) (taskD t) = true := by
  refine dat_tup (by simpa using h.1) fun d hd => ?_
  obtain ⟨p, hp, rfl⟩ := List.mem_map.mp hd
  exact dat_rule k p (h.2 p hp)
theorem Made.small {ws : Lot} {pool : List Int} {t : Tk} (m : Made ws pool t) : Small t := by
  refine ⟨by have := m.n; omega, fun p hp => ⟨by have := (m.k p hp).1; omega, by have := (m.w p hp).2; omega, fun x hx => by have := (m.x p hp x hx).2.2; omega⟩⟩
theorem c_gen (n b : Nat) (h : AH) (ws : Lot) (pool : List Int) (ti : Tin b h) (hb : b ≤ 500000000) (as : Asc ltI ws) (l1 : 2 ≤ ws.length) (l2 : ws.length ≤ 4) (hw : ∀ i ∈ ws, 0 ≤ i ∧ i ≤ 1000) (hz : pool.length ≤ 90) (nd : pool.Nodup) (ne : pool ≠ []) (hp : ∀ i ∈ pool, 0 ≤ i ∧ i ≤ 1000) :
    ∃ (t : Tk) (h' : AH), runN G T (n + 4) 30 [.ref 0, lotD ws, .lst (pool.map .int)] h = .ok (taskD t) h' ∧ Made ws pool t ∧ Tin (b + 20000) h' := by
  obtain ⟨tops, h1, e1, tp, t1⟩ := tops_ev (n + 1) b h ws (.lst (pool.map .int)) ti (by omega) as l1 l2
  have e2 := lots_ev (n + 2) h1 ws tops (.lst (pool.map .int)) tp l2
  obtain ⟨lots, hl⟩ : ∃ lots, lots = sset ltL (lots0 tops) := ⟨_, rfl⟩
  have L : Lots ws tops lots := ⟨tp, by rw [hl]; exact lots_ok tops, as, hw, l2⟩
  rw [← hl] at e2
  have fw := L.few
  have e3 := sortLen_up (runN G T (n + 3)) lots h1 (by omega)
  have pm := srt_perm leShort lots
  have ln : (srt leShort lots).length = lots.length := pm.length_eq
  obtain ⟨R, ds, c6, c7, c8, h', e4, W, n', m', t'⟩ := outer_loop n (lotD ws) pool (.lst (tops.map lotD)) ws tops lots L hz nd ne hp (srt leShort lots) (b + 1) h1 [] [] none none none t1 (by omega)
    ⟨Nat.le_refl _, fun x hx => (nomatch hx), fun x hx => (nomatch hx), fun x hx => (nomatch hx), fun x hx => (nomatch hx), fun x hx => (nomatch hx)⟩
    (by simpa [keys] using pm.nodup_iff.mpr (L.l.1.nodup ordL))
    (by simpa [keys] using srt_pw (fun a b => by simp only [leShort, decide_eq_true_eq]; omega) (fun a b c => by simp only [leShort, decide_eq_true_eq]; omega) lots)
    (fun x => by simpa [keys] using pm.mem_iff)
  obtain ⟨ok, gd⟩ := webs_fin L W n' m'
  have hR : R.length ≤ 15 := by
    have := nodup_len n' fun x hx => (m' x).mp hx
    simp only [keys, List.length_map] at *; omega
  have rm : ∀ x ∈ lots, (x, rule R x) ∈ R := fun x hx => rule_mem ((m' x).mpr hx)
  refine ⟨lots.map fun x => (x, rule R x), h', ?_, ⟨ok, gd, by rw [List.length_map]; exact fw, ?_, ?_, ?_, ?_⟩, t'.mono (by omega)⟩
  · have q : ev (runN G T (n + 3)) G (.lc (.cl (.nm 8) (.var 4) [] (.yl (.tup [(.var 8), (.sub (.bs 5) (.var 8))])))) (slp (lotD ws) (.lst (pool.map .int)) (.lst (tops.map lotD)) (.lst (lots.map lotD)) R c6 c7 c8) h' = .ok (.lst (lots.map fun x => ruleD (x, rule R x))) h' :=
      lcm lotD (fun x => ruleD (x, rule R x)) rfl rfl (by omega) fun x hx => by
        have q1 : ev (runN G T (n + 3)) G (.bs 5) (slp (lotD ws) (.lst (pool.map .int)) (.lst (tops.map lotD)) (.lst (lots.map lotD)) R c6 c7 (some (.val (lotD x)))) h' = .ok (.dic ((keys R).map lotD) (R.map fun p => webD p.2)) h' := rfl
        have q2 : ev (runN G T (n + 3)) G (.var 8) (slp (lotD ws) (.lst (pool.map .int)) (.lst (tops.map lotD)) (.lst (lots.map lotD)) R c6 c7 (some (.val (lotD x)))) h' = .ok (lotD x) h' := rfl
        show ev (runN G T (n + 3)) G (.tup [(.var 8), (.sub (.bs 5) (.var 8))]) (slp (lotD ws) (.lst (pool.map .int)) (.lst (tops.map lotD)) (.lst (lots.map lotD)) R c6 c7 (some (.val (lotD x)))) h' = _
        rw [ev_tup, evs_s, q2, rb_ok, evs_s, ev_sub, q1, rb_ok, q2, rb_ok, sub_rules ((m' x).mpr hx), ro_some, rb_ok, evs_0, rb_ok, rb_ok, rb_ok]
    have fn : xcs (runN G T (n + 3)) G [.ret (.cast .tuple (.lc (.cl (.nm 8) (.var 4) [] (.yl (.tup [(.var 8), (.sub (.bs 5) (.var 8))])))))] (slp (lotD ws) (.lst (pool.map .int)) (.lst (tops.map lotD)) (.lst (lots.map lotD)) R c6 c7 c8) h' = .ok (.ret (taskD (lots.map fun x => (x, rule R x)))) h' := by
      rw [xcs_s, xc_ret, ev_cast, q, rb_ok]
      simp [castD, seqs, Function.comp_def]
    have lp : xcs (runN G T (n + 3)) G [.for (.nm 6) (.srt (.var 4) .len none) body6, .ret (.cast .tuple (.lc (.cl (.nm 8) (.var 4) [] (.yl (.tup [(.var 8), (.sub (.bs 5) (.var 8))])))))] (slp (lotD ws) (.lst (pool.map .int)) (.lst (tops.map lotD)) (.lst (lots.map lotD)) [] none none none) h1 = .ok (.ret (taskD (lots.map fun x => (x, rule R x)))) h' := by
      have q1 : ev (runN G T (n + 3)) G (.srt (.var 4) .len none) (slp (lotD ws) (.lst (pool.map .int)) (.lst (tops.map lotD)) (.lst (lots.map lotD)) [] none none none) h1 = .ok (.lst ((srt leShort lots).map lotD)) h1 := e3
      rw [xcs_s, xc_for, q1, rb_ok]
      rw [show Ev.R.opt h1 (items (.lst ((srt leShort lots).map lotD))) = Ev.R.ok ((srt leShort lots).map lotD) h1 from rfl, rb_ok, e4, rb_ok]
      exact fn
    rw [run_30]
    have bd : f__law_plain.body = [.set 3 topsE, .set 4 lotsE, .own 5 (.dic []), .for (.nm 6) (.srt (.var 4) .len none) body6, .ret (.cast .tuple (.lc (.cl (.nm 8) (.var 4) [] (.yl (.tup [(.var 8), (.sub (.bs 5) (.var 8))])))))] := rfl
    have e0 : xcs (runN G T (n + 3)) G f__law_plain.body [some (.val (.ref 0)), some (.val (lotD ws)), some (.val (.lst (pool.map .int))), none, none, none, none, none, none, none, none, none] h = .ok (.ret (taskD (lots.map fun x => (x, rule R x)))) h' := by
      rw [bd, xcs_s, xc_set, e1, rb_ok, rb_ok]
      simp only
      rw [show setS [some (.val (.ref 0)), some (.val (lotD ws)), some (.val (.lst (pool.map .int))), none, none, none, none, none, none, none, none, none] 3 (.lst (tops.map lotD)) = [some (.val (.ref 0)), some (.val (lotD ws)), some (.val (.lst (pool.map .int))), some (.val (.lst (tops.map lotD))), none, none, none, none, none, none, none, none] from rfl]
      rw [xcs_s, xc_set, e2, rb_ok, rb_ok]
      simp only
      rw [xcs_s, xc_own, ev_dic0, rb_ok]
      exact lp
    show (xcs (runN G T (n + 3)) G f__law_plain.body [some (.val (.ref 0)), some (.val (lotD ws)), some (.val (.lst (pool.map .int))), none, none, none, none, none, none, none, none, none] h).bind _ = _
    rw [e0]; rfl
  · have := L.some
    simpa using this
  · intro p hp
    obtain ⟨x, hx, rfl⟩ := List.mem_map.mp hp
    have h1 := W.len hR _ (rm x hx)
    have h2 := W.ne _ (rm x hx)
    exact ⟨List.length_pos_iff.mpr h2, h1⟩
  · intro p hp
    obtain ⟨x, hx, rfl⟩ := List.mem_map.mp hp
    exact ⟨L.len hx, fun i hi => (L.sub hx).subset hi⟩
  · intro p hp
    obtain ⟨x, hx, rfl⟩ := List.mem_map.mp hp
    exact W.ok _ (rm x hx)
end Pg

end
section
set_option linter.all false
set_option maxRecDepth 100000
set_option maxHeartbeats 4000000
/-! L21: a bent task; both answers agree. -/
namespace Pg
open PySem Ev Or
theorem gs_ne {sl : Slots} {i j : Nat} {c : Option Cell} (h : i ≠ j) : getS (sl.set i c) j = getS sl j := by
  unfold getS; rw [List.getElem?_set_ne h]
theorem gs_eq {sl : Slots} {i : Nat} {d : D} (h : i < sl.length) : getS (sl.set i (some (.val d))) i = some d := by
  unfold getS; rw [List.getElem?_set_self h]
theorem dat_mono : ∀ (n m : Nat) (d : D), n ≤ m → dat n d = true → dat m d = true
  | n, m, .non, _, _ => by cases m <;> rfl
  | n, m, .bl _, _, _ => by cases m <;> rfl
  | n, m, .int _, _, _ => by cases m <;> rfl
  | n + 1, m + 1, .tup xs, l, h => by
    simp only [dat, Bool.and_eq_true, List.all_eq_true] at h ⊢
    exact ⟨h.1, fun x hx => dat_mono n m x (by omega) (h.2 x hx)⟩
  | n + 1, m + 1, .lst xs, l, h => by
    simp only [dat, Bool.and_eq_true, List.all_eq_true] at h ⊢
    exact ⟨h.1, fun x hx => dat_mono n m x (by omega) (h.2 x hx)⟩
  | 0, _, .tup _, _, h => by simp [dat] at h
  | 0, _, .lst _, _, h => by simp [dat] at h
  | n + 1, 0, _, l, _ => by omega
  | 0, _, .str _, _, h => by simp [dat] at h
  | n + 1, _, .str _, _, h => by simp [dat] at h
  | 0, _, .dic _ _, _, h => by simp [dat] at h
  | n + 1, _, .dic _ _, _, h => by simp [dat] at h
  | 0, _, .ref _, _, h => by simp [dat] at h
  | n + 1, _, .ref _, _, h => by simp [dat] at h
  | 0, _, .fn _, _, h => by simp [dat] at h
  | n + 1, _, .fn _, _, h => by simp [dat] at h
  | 0, _, .exc _, _, h => by simp [dat] at h
  | n + 1, _, .exc _, _, h => by simp [dat] at h
  | 0, _, .scr _, _, h => by simp [dat] at h
  | n + 1, _, .scr _, _, h => by simp [dat] at h
section
variable (F : Fs) (sl : Slots)
/-- this tells a datum, after at most c draws -/
def GD (c k : Nat) (e : E) : Prop := ∀ (b : Nat) (h : AH), Tin b h → b + c ≤ 400000000 → ∃ (d : D) (h' : AH), ev F G e sl h = .ok d h' ∧ dat k d = true ∧ Tin (b + c) h'
def GT (c m k : Nat) (e : E) : Prop := ∀ (b : Nat) (h : AH), Tin b h → b + c ≤ 400000000 → ∃ (xs : List D) (h' : AH), ev F G e sl h = .ok (.tup xs) h' ∧ xs.length ≤ m ∧ (∀ x ∈ xs, dat k x = true) ∧ Tin (b + c) h'
def GL (c m k : Nat) (es : List E) : Prop := ∀ (b : Nat) (h : AH), Tin b h → b + c ≤ 400000000 → ∃ (xs : List D) (h' : AH), evs F G es sl h = .ok xs h' ∧ xs.length = m ∧ (∀ x ∈ xs, dat k x = true) ∧ Tin (b + c) h'
end
variable {F : Fs} {sl : Slots}
theorem gd_t {c m k : Nat} {e : E} (g : GT F sl c m k e) (hm : m ≤ 1000) : GD F sl c (k + 1) e := fun b h t hb => by
  obtain ⟨xs, h', e1, l, d, t'⟩ := g b h t hb
  exact ⟨_, h', e1, dat_tup (by omega) d, t'⟩
theorem gd_up {c k l : Nat} {e : E} (g : GD F sl c k e) (h : k ≤ l) : GD F sl c l e := fun b h0 t hb => by
  obtain ⟨d, h', e1, d1, t'⟩ := g b h0 t hb
  exact ⟨d, h', e1, dat_mono k l d h d1, t'⟩
theorem gt_up {c m k l : Nat} {e : E} (g : GT F sl c m k e) (h : k ≤ l) : GT F sl c m l e := fun b h0 t hb => by
  obtain ⟨xs, h', e1, l1, d, t'⟩ := g b h0 t hb
  exact ⟨xs, h', e1, l1, fun x hx => dat_mono k l x h (d x hx), t'⟩
theorem gd_con {k : Nat} {d : D} (hd : dat k d = true) : GD F sl 0 k (.con d) := fun b h t _ => ⟨d, h, rfl, hd, t⟩
theorem gd_var {k i : Nat} {d : D} (hs : getS sl i = some d) (hd : dat k d = true) : GD F sl 0 k (.var i) := fun b h t _ => ⟨d, h, by rw [ev_var, hs, ro_some], hd, t⟩
theorem gt_var {m k i : Nat} {xs : List D} (hs : getS sl i = some (.tup xs)) (hl : xs.length ≤ m) (hd : ∀ x ∈ xs, dat k x = true) : GT F sl 0 m k (.var i) := fun b h t _ => ⟨xs, h, by rw [ev_var, hs, ro_some], hl, hd, t⟩
theorem cut_sub (xs : List D) (a b : Option Int) : (cutL xs a b).Sublist xs := (List.take_sublist _ _).trans (List.drop_sublist _ _)
theorem gt_cut {c m k : Nat} {e : E} {lo hi : Option E} {a b : Option Int} (g : GT F sl c m k e) (h1 : ∀ h, (evOpt F G lo sl h) = .ok (a.map .int) h) (h2 : ∀ h, (evOpt F G hi sl h) = .ok (b.map .int) h) : GT F sl c m k (.cut e lo hi) := fun b0 h t hb => by
  obtain ⟨xs, h', e1, l, d, t'⟩ := g b0 h t hb
  have s := cut_sub xs a b
  refine ⟨cutL xs a b, h', ?_, Nat.le_trans s.length_le l, fun x hx => d x (s.subset hx), t'⟩
  rw [ev_cut, e1, rb_ok, h1, rb_ok, h2, rb_ok]
  cases a <;> cases b <;> rfl
theorem gt_add {c1 c2 m1 m2 k : Nat} {x y : E} (g1 : GT F sl c1 m1 k x) (g2 : GT F sl c2 m2 k y) (hm : m1 + m2 ≤ 1000) : GT F sl (c1 + c2) (m1 + m2) k (.bin .add x y) := fun b h t hb => by
  obtain ⟨xs, h1, e1, l1, d1, t1⟩ := g1 b h t (by omega)
  obtain ⟨ys, h2, e2, l2, d2, t2⟩ := g2 (b + c1) h1 t1 (by omega)
  refine ⟨xs ++ ys, h2, ?_, by rw [List.length_append]; omega, fun z hz => ?_, t2.mono (by omega)⟩
  · have : xs.length + ys.length ≤ line := by rw [mul_line]; omega
    rw [ev_bin, e1, rb_ok, e2, rb_ok]
    simp only [binop, this, if_true, ro_some]
  · rcases List.mem_append.mp hz with q | q
    · exact d1 z q
    · exact d2 z q
theorem gl_nil {k : Nat} : GL F sl 0 0 k [] := fun b h t _ => ⟨[], h, rfl, rfl, fun x hx => (nomatch hx), t⟩
theorem gl_cons {c1 c2 m k : Nat} {e : E} {es : List E} (g1 : GD F sl c1 k e) (g2 : GL F sl c2 m k es) : GL F sl (c1 + c2) (m + 1) k (e :: es) := fun b h t hb => by
  obtain ⟨x, h1, e1, d1, t1⟩ := g1 b h t (by omega)
  obtain ⟨ys, h2, e2, l2, d2, t2⟩ := g2 (b + c1) h1 t1 (by omega)
  refine ⟨x :: ys, h2, by rw [evs_s, e1, rb_ok, e2, rb_ok], by rw [List.length_cons, l2], fun z hz => ?_, t2.mono (by omega)⟩
  rcases List.mem_cons.mp hz with rfl | q
  · exact d1
  · exact d2 z q
theorem gt_tup {c m k : Nat} {es : List E} (g : GL F sl c m k es) : GT F sl c m k (.tup es) := fun b h t hb => by
  obtain ⟨ys, h2, e2, l2, d2, t2⟩ := g b h t hb
  exact ⟨ys, h2, by rw [ev_tup, e2, rb_ok], by omega, d2, t2⟩
theorem gt_back {c m k : Nat} {e : E} (g : GT F sl c m k e) : GT F sl c m k (.back e) := fun b h t hb => by
  obtain ⟨xs, h', e1, l, d, t'⟩ := g b h t hb
  exact ⟨xs.reverse, h', by rw [ev_back, e1]; rfl, by rw [List.length_reverse]; exact l, fun x hx => d x (List.mem_reverse.mp hx), t'⟩
theorem gd_list {c m k : Nat} {e : E} (g : GT F sl c m k e) (hm : m ≤ 1000) : GD F sl c (k + 1) (.cast .list e) := fun b h t hb => by
  obtain ⟨xs, h', e1, l, d, t'⟩ := g b h t hb
  exact ⟨.lst xs, h', by rw [ev_cast, e1]; rfl, dat_lst (by omega) d, t'⟩
/-- _law_of(tin, ..) -/
theorem gd_of {n c m k : Nat} {e : E} (ht : getS sl 1 = some (.ref 0)) (g : ∀ (b : Nat) (h : AH), Tin b h → b + c ≤ 400000000 → ∃ (xs : List D) (h' : AH), ev (runN G T (n + 2)) G e sl h = .ok (.lst xs) h' ∧ xs.length = m + 1 ∧ (∀ x ∈ xs, dat k x = true) ∧ Tin (b + c) h') (hm : m ≤ 100000) :
    GD (runN G T (n + 2)) sl (c + 1) k (.call 21 [(.var 1), e] []) := fun b h t hb => by
  obtain ⟨xs, h1, e1, l1, d1, t1⟩ := g b h t (by omega)
  obtain ⟨x, h2, e2, m2, t2⟩ := c_of n (b + c) h1 (.lst xs) xs t1 (by omega) (.inr rfl) (fun z => by rw [z] at l1; simp at l1) (by omega)
  refine ⟨x, h2, ?_, d1 x m2, t2.mono (by omega)⟩
  rw [ev_call, evs_s, ev_var, ht, ro_some, rb_ok, evs_s, e1, rb_ok, evs_0, rb_ok, rb_ok, rb_ok, e2]
theorem gl_lst {c m k : Nat} {es : List E} (g : GL F sl c m k es) : ∀ (b : Nat) (h : AH), Tin b h → b + c ≤ 400000000 → ∃ (xs : List D) (h' : AH), ev F G (.lst es) sl h = .ok (.lst xs) h' ∧ xs.length = m ∧ (∀ x ∈ xs, dat k x = true) ∧ Tin (b + c) h' := fun b h t hb => by
  obtain ⟨ys, h2, e2, l2, d2, t2⟩ := g b h t hb
  exact ⟨ys, h2, by rw [ev_lst, e2, rb_ok], l2, d2, t2⟩
theorem add_web (a b : Web) (h : a.length + b.length ≤ 1000) : binop .add (webD a) (webD b) = some (webD (a ++ b)) := by
  have : a.length + b.length ≤ line := by rw [mul_line]; omega
  simp [binop, this]
/-- what the law knows in a lap -/
structure In (t : Tk) (sl : Slots) : Prop where
  l : sl.length = 22
  t1 : getS sl 1 = some (.ref 0)
  t8 : getS sl 8 = some (taskD t)
theorem In.set {t : Tk} {sl : Slots} (I : In t sl) {i : Nat} {c : Option Cell} (h1 : i ≠ 1) (h8 : i ≠ 8) : In t (sl.set i c) :=
  ⟨by rw [List.length_set]; exact I.l, by rw [gs_ne h1]; exact I.t1, by rw [gs_ne h8]; exact I.t8⟩
abbrev turnB : List S := [.set 12 (.call 19 [(.var 1), (.bi .len [(.var 8)])] []), .tset [17, 18] (.sub (.var 8) (.var 12)), .set 13 (.call 19 [(.var 1), (.bi .len [(.var 18)])] []), .set 14 (.cast .tuple (.srt (.call 22 [(.var 1), (.cast .list (.range [(.con (.int 9))])), (.con (.int 2))] []) .non none)), .set 6 (.lst [(.bin .add (.cut (.var 18) none (some (.var 13))) (.cut (.var 18) (some (.bin .add (.var 13) (.con (.int 1)))) none)), (.bin .add (.var 18) (.cut (.var 18) none (some (.con (.int 1))))), (.back (.var 18)), (.call 28 [(.bin .add (.var 18) (.tup [(.var 14)]))] []), (.tup []), (.bin .add (.bin .add (.cut (.var 18) none (some (.var 13))) (.tup [(.cast .list (.sub (.var 18) (.var 13)))])) (.cut (.var 18) (some (.bin .add (.var 13) (.con (.int 1)))) none))]), .set 6 (.bin .add (.var 6) (.lst [(.bin .add (.bin .add (.cut (.var 18) none (some (.var 13))) (.tup [(.back (.sub (.var 18) (.var 13)))])) (.cut (.var 18) (some (.bin .add (.var 13) (.con (.int 1)))) none)), (.bin .add (.bin .add (.cut (.var 18) none (some (.var 13))) (.tup [(.tup [])])) (.cut (.var 18) (some (.bin .add (.var 13) (.con (.int 1)))) none)), (.call 28 [(.bin .add (.var 18) (.tup [(.tup [(.bin .pow (.con (.int 10)) (.con (.int 6)))])]))] [])])), .set 6 (.bin .add (.var 6) (.lst [(.bin .add (.var 18) (.tup [(.tup [(.bin .add (.bin .pow (.con (.int 10)) (.con (.int 6))) (.con (.int 1)))])])), (.bin .add (.var 18) (.tup [(.tup [(.con (.bl true))])])), (.con .non)])), .set 15 (.lst [(.tup [(.var 17), (.call 21 [(.var 1), (.var 6)] [])]), (.tup [(.var 17), (.call 21 [(.var 1), (.var 6)] [])]), (.tup [(.var 17)]), (.var 17), (.tup [(.cast .list (.var 17)), (.var 18)]), (.tup [(.bin .add (.var 17) (.tup [(.con (.int 99))])), (.var 18)]), (.tup [(.tup []), (.var 18)])]), .set 16 (.bin .add (.bin .add (.cut (.var 8) none (some (.var 12))) (.tup [(.call 21 [(.var 1), (.var 15)] [])])) (.cut (.var 8) (some (.bin .add (.var 12) (.con (.int 1)))) none)), .set 16 (.call 21 [(.var 1), (.lst [(.var 16), (.var 16), (.var 16), (.bin .add (.cut (.var 8) none (some (.var 12))) (.cut (.var 8) (some (.bin .add (.var 12) (.con (.int 1)))) none)), (.back (.var 8)), (.bin .add (.var 8) (.cut (.var 8) (some (.neg (.con (.int 1)))) none))])] []), .ite (.not (.call 24 [(.call 16 [(.var 16)] []), (.call 33 [(.var 16)] [])] [])) [.ret (.con (.bl false))] []]
theorem law_has : ∃ a b c d e f g i j k m o p q r s, f_law.body = a :: .for b c [d, e, f, .for (.nm 9) (.range [(.con (.int 10))]) turnB, g, i, j, k] :: [m, o, p, q, r, s] := by exact ⟨_, _, _, _, _, _, _, _, _, _, _, _, _, _, _, _, rfl⟩
end Pg

end
section
set_option linter.all false
set_option maxRecDepth 100000
set_option maxHeartbeats 4000000
/-! L22: one bent task. -/
namespace Pg
open PySem Ev Or
/-- this tells a list of m data -/
def GS (F : Fs) (sl : Slots) (c m k : Nat) (e : E) : Prop := ∀ (b : Nat) (h : AH), Tin b h → b + c ≤ 400000000 → ∃ (xs : List D) (h' : AH), ev F G e sl h = .ok (.lst xs) h' ∧ xs.length = m ∧ (∀ x ∈ xs, dat k x = true) ∧ Tin (b + c) h'
variable {F : Fs} {sl : Slots}
theorem gs_var {m k i : Nat} {xs : List D} (hs : getS sl i = some (.lst xs)) (hl : xs.length = m) (hd : ∀ x ∈ xs, dat k x = true) : GS F sl 0 m k (.var i) := fun b h t _ => ⟨xs, h, by rw [ev_var, hs, ro_some], hl, hd, t⟩
theorem gs_add {c1 c2 m1 m2 k : Nat} {x y : E} (g1 : GS F sl c1 m1 k x) (g2 : GS F sl c2 m2 k y) (hm : m1 + m2 ≤ 1000) : GS F sl (c1 + c2) (m1 + m2) k (.bin .add x y) := fun b h t hb => by
  obtain ⟨xs, h1, e1, l1, d1, t1⟩ := g1 b h t (by omega)
  obtain ⟨ys, h2, e2, l2, d2, t2⟩ := g2 (b + c1) h1 t1 (by omega)
  refine ⟨xs ++ ys, h2, ?_, by rw [List.length_append]; omega, fun z hz => ?_, t2.mono (by omega)⟩
  · have : xs.length + ys.length ≤ line := by rw [mul_line]; omega
    rw [ev_bin, e1, rb_ok, e2, rb_ok]
    simp only [binop, this, if_true, ro_some]
  · rcases List.mem_append.mp hz with q | q
    · exact d1 z q
    · exact d2 z q
theorem gl_s {c m k : Nat} {es : List E} (g : GL F sl c m k es) : GS F sl c m k (.lst es) := gl_lst g
theorem gd_web {e : E} {w : Web} (he : ∀ h, ev F G e sl h = .ok (webD w) h) (h1 : w.length ≤ 1000) (h2 : ∀ x ∈ w, x.length ≤ 1000) : GD F sl 0 2 e := fun b h t _ => ⟨_, h, he h, dat_web 0 w h1 h2, t⟩
/-- the numbers from 0 to 8 -/
def nine : List Int := [0, 1, 2, 3, 4, 5, 6, 7, 8]
theorem nine_ev (sl : Slots) (h : AH) : ev F G (.cast .list (.range [(.con (.int 9))])) sl h = .ok (.lst (nine.map .int)) h := rfl
theorem turn_draws (n b : Nat) (h : AH) {ws : Lot} {pool : List Int} {t : Tk} (M : Made ws pool t) {sl : Slots} (I : In t sl) (ti : Tin b h) (hb : b ≤ 300000000) (rest : List S) :
    ∃ (p : Lot × Web) (k j : Nat) (more : Lot) (sl' : Slots) (h' : AH), xcs (runN G T (n + 8)) G (.set 12 (.call 19 [(.var 1), (.bi .len [(.var 8)])] []) :: .tset [17, 18] (.sub (.var 8) (.var 12)) :: .set 13 (.call 19 [(.var 1), (.bi .len [(.var 18)])] []) :: .set 14 (.cast .tuple (.srt (.call 22 [(.var 1), (.cast .list (.range [(.con (.int 9))])), (.con (.int 2))] []) .non none)) :: rest) sl h
      = xcs (runN G T (n + 8)) G rest sl' h' ∧ In t sl' ∧ p ∈ t ∧ j < p.2.length ∧ okLot more = true ∧ more.length ≤ 9 ∧ getS sl' 12 = some (.int k) ∧ getS sl' 17 = some (lotD p.1) ∧ getS sl' 18 = some (webD p.2) ∧ getS sl' 13 = some (.int j) ∧ getS sl' 14 = some (lotD more) ∧ Tin (b + 100) h' := by
  have tl : 0 < t.length := List.length_pos_iff.mpr M.ne
  have tn := M.n
  obtain ⟨k, h1, e1, k0, k1, t1⟩ := c_take (n + 7) b h t.length ti (by omega) (by omega) (by omega)
  have kl : k.toNat < t.length := by omega
  obtain ⟨p, hp⟩ : ∃ p, p = t[k.toNat] := ⟨_, rfl⟩
  have pm : p ∈ t := by rw [hp]; exact List.getElem_mem _
  have pw := M.w p pm
  obtain ⟨j, h2, e2, j0, j1, t2⟩ := c_take (n + 7) (b + 1) h1 p.2.length t1 (by omega) (by omega) (by omega)
  obtain ⟨more, h3, e3, m1, m2, m3, t3⟩ := sorted_pick (n + 6) (b + 1 + 1) h2 nine 2 t2 (by omega) (by decide) (by decide) (by omega)
  have mk : okLot more = true := by
    simp only [okLot, Bool.and_eq_true, List.all_eq_true, decide_eq_true_eq]
    refine ⟨⟨?_, fun i hi => ?_⟩, (chain_asc ordI more).mpr m1⟩
    · cases more with
      | nil => simp [nine] at m3
      | cons a b => rfl
    · have := m2 i hi
      simp only [nine, List.mem_cons, List.not_mem_nil, or_false] at this
      omega
  have q1 : ev (runN G T (n + 8)) G (.call 19 [(.var 1), (.bi .len [(.var 8)])] []) sl h = .ok (.int k) h1 := by
    rw [ev_call, evs_s, ev_var, I.t1, ro_some, rb_ok, evs_s, ev_bi, evs_s, ev_var, I.t8, ro_some, rb_ok, evs_0, rb_ok, rb_ok, bi_len_t, ro_some, rb_ok, evs_0, rb_ok, rb_ok, rb_ok, List.length_map]
    exact e1
  have I1 : In t (setS sl 12 (.int k)) := I.set (by decide) (by decide)
  have s12 : getS (setS sl 12 (.int k)) 12 = some (.int k) := gs_eq (by rw [I.l]; decide)
  have q2 : ev (runN G T (n + 8)) G (.sub (.var 8) (.var 12)) (setS sl 12 (.int k)) h1 = .ok (ruleD p) h1 := by
    rw [ev_sub, ev_var, I1.t8, ro_some, rb_ok, ev_var, s12, ro_some, rb_ok]
    have : atI (t.map ruleD) k = some (ruleD p) := by simp [atI, ixOf, k0, k1, kl, hp]
    simp [subD, this]
  generalize hs1 : setS sl 12 (.int k) = sl1 at I1 s12 q2
  have I2 : In t (setS (setS sl1 17 (lotD p.1)) 18 (webD p.2)) := (I1.set (by decide) (by decide)).set (by decide) (by decide)
  have l2 := I2.l
  have a12 : getS (setS (setS sl1 17 (lotD p.1)) 18 (webD p.2)) 12 = some (.int k) := by simp [gs_ne, s12]
  have a17 : getS (setS (setS sl1 17 (lotD p.1)) 18 (webD p.2)) 17 = some (lotD p.1) := by rw [setS_eq, gs_ne (by decide)]; exact gs_eq (by rw [I1.l]; decide)
  have a18 : getS (setS (setS sl1 17 (lotD p.1)) 18 (webD p.2)) 18 = some (webD p.2) := gs_eq (by rw [setS_eq, List.length_set, I1.l]; decide)
  have st2 : xc (runN G T (n + 8)) G (.tset [17, 18] (.sub (.var 8) (.var 12))) sl1 h1 = .ok (.nx (setS (setS sl1 17 (lotD p.1)) 18 (webD p.2))) h1 := by
    rw [xc_tset, q2, rb_ok, setTg_2]; rfl
  generalize setS (setS sl1 17 (lotD p.1)) 18 (webD p.2) = sl2 at *
  have q3 : ev (runN G T (n + 8)) G (.call 19 [(.var 1), (.bi .len [(.var 18)])] []) sl2 h1 = .ok (.int j) h2 := by
    rw [ev_call, evs_s, ev_var, I2.t1, ro_some, rb_ok, evs_s, ev_bi, evs_s, ev_var, a18, ro_some, rb_ok, evs_0, rb_ok, rb_ok, bi_len_t, ro_some, rb_ok, evs_0, rb_ok, rb_ok, rb_ok, List.length_map]
    exact e2
  have I3 : In t (setS sl2 13 (.int j)) := I2.set (by decide) (by decide)
  have q4 : ev (runN G T (n + 8)) G (.cast .tuple (.srt (.call 22 [(.var 1), (.cast .list (.range [(.con (.int 9))])), (.con (.int 2))] []) .non none)) (setS sl2 13 (.int j)) h2 = .ok (lotD more) h3 := by
    rw [ev_cast, ev_srt, ev_call, evs_s, ev_var, I3.t1, ro_some, rb_ok, evs_s, nine_ev, rb_ok, evs_s, ev_con, rb_ok, evs_0, rb_ok, rb_ok, rb_ok, rb_ok]
    exact e3
  refine ⟨p, k.toNat, j.toNat, more, setS (setS sl2 13 (.int j)) 14 (lotD more), h3, ?_, I3.set (by decide) (by decide), pm, by omega, mk, by have : nine.length = 9 := rfl; omega, ?_, ?_, ?_, ?_, ?_, t3.mono (by omega)⟩
  · rw [xcs_s, xc_set, q1, rb_ok, rb_ok]
    simp only
    rw [hs1, xcs_s, st2, rb_ok]
    simp only
    rw [xcs_s, xc_set, q3, rb_ok, rb_ok]
    simp only
    rw [xcs_s, xc_set, q4, rb_ok, rb_ok]
  · simp only [setS_eq]; rw [gs_ne (by decide), gs_ne (by decide), a12]; congr 2; omega
  · simp only [setS_eq]; rw [gs_ne (by decide), gs_ne (by decide), a17]
  · simp only [setS_eq]; rw [gs_ne (by decide), gs_ne (by decide), a18]
  · simp only [setS_eq]; rw [gs_ne (by decide), gs_eq (by rw [I2.l]; decide)]; congr 2; omega
  · simp only [setS_eq]; rw [gs_eq (by rw [List.length_set, I2.l]; decide)]
/-- one set -/
theorem set_step {t : Tk} {sl : Slots} (I : In t sl) {n i c k : Nat} {e : E} {b : Nat} {h : AH} (g : GD (runN G T n) sl c k e) (ti : Tin b h) (hb : b + c ≤ 400000000) (h1 : i ≠ 1) (h8 : i ≠ 8) (hi : i < 22) (rest : List S) :
    ∃ (d : D) (h' : AH), xcs (runN G T n) G (.set i e :: rest) sl h = xcs (runN G T n) G rest (setS sl i d) h' ∧ In t (setS sl i d) ∧ getS (setS sl i d) i = some d ∧ dat k d = true ∧ Tin (b + c) h' := by
  obtain ⟨d, h', e1, d1, t1⟩ := g b h ti hb
  refine ⟨d, h', ?_, I.set h1 h8, gs_eq (by rw [I.l]; exact hi), d1, t1⟩
  rw [xcs_s, xc_set, e1, rb_ok, rb_ok]
theorem set_list {t : Tk} {sl : Slots} (I : In t sl) {n i c m k : Nat} {e : E} {b : Nat} {h : AH} (g : GS (runN G T n) sl c m k e) (ti : Tin b h) (hb : b + c ≤ 400000000) (h1 : i ≠ 1) (h8 : i ≠ 8) (hi : i < 22) (rest : List S) :
    ∃ (xs : List D) (h' : AH), xcs (runN G T n) G (.set i e :: rest) sl h = xcs (runN G T n) G rest (setS sl i (.lst xs)) h' ∧ In t (setS sl i (.lst xs)) ∧ getS (setS sl i (.lst xs)) i = some (.lst xs) ∧ xs.length = m ∧ (∀ x ∈ xs, dat k x = true) ∧ Tin (b + c) h' := by
  obtain ⟨d, h', e1, l1, d1, t1⟩ := g b h ti hb
  refine ⟨d, h', ?_, I.set h1 h8, gs_eq (by rw [I.l]; exact hi), l1, d1, t1⟩
  rw [xcs_s, xc_set, e1, rb_ok, rb_ok]
theorem set_tup {t : Tk} {sl : Slots} (I : In t sl) {n i c m k : Nat} {e : E} {b : Nat} {h : AH} (g : GT (runN G T n) sl c m k e) (ti : Tin b h) (hb : b + c ≤ 400000000) (h1 : i ≠ 1) (h8 : i ≠ 8) (hi : i < 22) (rest : List S) :
    ∃ (xs : List D) (h' : AH), xcs (runN G T n) G (.set i e :: rest) sl h = xcs (runN G T n) G rest (setS sl i (.tup xs)) h' ∧ In t (setS sl i (.tup xs)) ∧ getS (setS sl i (.tup xs)) i = some (.tup xs) ∧ xs.length ≤ m ∧ (∀ x ∈ xs, dat k x = true) ∧ Tin (b + c) h' := by
  obtain ⟨d, h', e1, l1, d1, t1⟩ := g b h ti hb
  refine ⟨d, h', ?_, I.set h1 h8, gs_eq (by rw [I.l]; exact hi), l1, d1, t1⟩
  rw [xcs_s, xc_set, e1, rb_ok, rb_ok]
end Pg

end
section
set_option linter.all false
set_option maxRecDepth 100000
set_option maxHeartbeats 4000000
/-! L23: both answers agree at a bent task. -/
namespace Pg
open PySem Ev Or
theorem gd_call28 {n : Nat} {sl : Slots} {a b : E} {w v : Web} (ha : ∀ h, ev (runN G T (n + 1)) G a sl h = .ok (webD w) h) (hb : ∀ h, ev (runN G T (n + 1)) G b sl h = .ok (webD v) h) (h1 : w.length + v.length ≤ 1000) (h2 : (w ++ v).all okLot = true) (h3 : ∀ x ∈ w ++ v, x.length ≤ 1000) :
    GD (runN G T (n + 1)) sl 0 2 (.call 28 [(.bin .add a b)] []) := gd_web (w := great (w ++ v)) (fun h => by
  rw [ev_call, evs_s, ev_bin, ha, rb_ok, hb, rb_ok, add_web w v (by omega), ro_some, rb_ok, evs_0, rb_ok, rb_ok]
  exact c_law_greatest n _ (w ++ v) h rfl h2 (by rw [List.length_append]; omega) fun x hx => by have := h3 x hx; omega) (by
  have : (great (w ++ v)).length ≤ (w ++ v).length := Nat.le_trans (List.length_filter_le _ _) (sset_len _)
  rw [List.length_append] at this; omega) fun x hx => h3 x (great_mem.mp hx).1
theorem turn (n b : Nat) (h : AH) {ws : Lot} {pool : List Int} {t : Tk} (M : Made ws pool t) {sl : Slots} (I : In t sl) (ti : Tin b h) (hb : b ≤ 300000000) :
    ∃ (sl' : Slots) (h' : AH), xcs (runN G T (n + 8)) G turnB sl h = .ok (.nx sl') h' ∧ In t sl' ∧ Tin (b + 200) h' := by
  have tn := M.n
  have td : ∀ d ∈ t.map ruleD, dat 3 d = true := fun d hd => by
    obtain ⟨p, hp, rfl⟩ := List.mem_map.mp hd
    exact dat_rule 0 p (M.small.2 p hp)
  obtain ⟨p, k, j, more, s1, h1, e1, I1, pm, jl, mk, ml, a12, a17, a18, a13, a14, t1⟩ := turn_draws n b h M I ti hb _
  unfold turnB
  rw [e1]
  have pw := M.w p pm
  have px := M.x p pm
  have pk := M.k p pm
  have xl : ∀ x ∈ p.2, x.length ≤ 1000 := fun x hx => by have := (px x hx).2.2; omega
  have wd : ∀ x ∈ p.2.map lotD, dat 1 x = true := fun d hd => by
    obtain ⟨x, hx, rfl⟩ := List.mem_map.mp hd
    exact dat_lot 0 x (xl x hx)
  have kd : ∀ x ∈ p.1.map D.int, dat 0 x = true := fun d hd => by
    obtain ⟨x, hx, rfl⟩ := List.mem_map.mp hd
    rfl
  -- parts that are told again and again
  have c13 : ∀ (sl : Slots), getS sl 13 = some (.int j) → ∀ h, evOpt (runN G T (n + 8)) G (some (.var 13)) sl h = .ok ((some (j : Int)).map .int) h := fun sl hs h => by rw [evO_s, ev_var, hs]; rfl
  have c13s : ∀ (sl : Slots), getS sl 13 = some (.int j) → ∀ h, evOpt (runN G T (n + 8)) G (some (.bin .add (.var 13) (.con (.int 1)))) sl h = .ok ((some ((j : Int) + 1)).map .int) h := fun sl hs h => by rw [evO_s, ev_bin, ev_var, hs]; rfl
  have c12 : ∀ (sl : Slots), getS sl 12 = some (.int k) → ∀ h, evOpt (runN G T (n + 8)) G (some (.var 12)) sl h = .ok ((some (k : Int)).map .int) h := fun sl hs h => by rw [evO_s, ev_var, hs]; rfl
  have c12s : ∀ (sl : Slots), getS sl 12 = some (.int k) → ∀ h, evOpt (runN G T (n + 8)) G (some (.bin .add (.var 12) (.con (.int 1)))) sl h = .ok ((some ((k : Int) + 1)).map .int) h := fun sl hs h => by rw [evO_s, ev_bin, ev_var, hs]; rfl
  have cn : ∀ (sl : Slots) h, evOpt (runN G T (n + 8)) G none sl h = .ok ((none : Option Int).map .int) h := fun sl h => rfl
  have c1 : ∀ (sl : Slots) h, evOpt (runN G T (n + 8)) G (some (.con (.int 1))) sl h = .ok ((some (1 : Int)).map .int) h := fun sl h => rfl
  have cm : ∀ (sl : Slots) h, evOpt (runN G T (n + 8)) G (some (.neg (.con (.int 1)))) sl h = .ok ((some (-1 : Int)).map .int) h := fun sl h => rfl
  have v18 : ∀ (sl : Slots), getS sl 18 = some (webD p.2) → GT (runN G T (n + 8)) sl 0 30 1 (.var 18) := fun sl hs => gt_var hs (by rw [List.length_map]; exact pw.2) wd
  have v17 : ∀ (sl : Slots), getS sl 17 = some (lotD p.1) → GT (runN G T (n + 8)) sl 0 4 0 (.var 17) := fun sl hs => gt_var hs (by rw [List.length_map]; exact pk.1) kd
  have w18 : ∀ (sl : Slots), getS sl 18 = some (webD p.2) → ∀ h, ev (runN G T (n + 8)) G (.var 18) sl h = .ok (webD p.2) h := fun sl hs h => by rw [ev_var, hs, ro_some]
  have xj : ∀ (sl : Slots), getS sl 18 = some (webD p.2) → getS sl 13 = some (.int j) → GT (runN G T (n + 8)) sl 0 3 0 (.sub (.var 18) (.var 13)) := fun sl h18 h13 b h t _ => by
    refine ⟨p.2[j].map .int, h, ?_, by rw [List.length_map]; exact (px _ (List.getElem_mem _)).2.2, fun x hx => ?_, t⟩
    · rw [ev_sub, ev_var, h18, ro_some, rb_ok, ev_var, h13, ro_some, rb_ok]
      have : atI (p.2.map lotD) j = some (lotD p.2[j]) := by
        have : (j : Int) < p.2.length := by omega
        simp [atI, ixOf, this, jl]
      simp only [subD, this, ro_some]
    · obtain ⟨i, _, rfl⟩ := List.mem_map.mp hx
      rfl
  have al : ∀ x : Lot, okLot x = true → (p.2 ++ [x]).all okLot = true := fun x hx => by
    rw [List.all_append]
    have : p.2.all okLot = true := List.all_eq_true.mpr fun y hy => (px y hy).1
    rw [this]; simp [hx]
  have all1 : ∀ x : Lot, x.length ≤ 1000 → ∀ y ∈ p.2 ++ [x], y.length ≤ 1000 := fun x hx y hy => by
    rcases List.mem_append.mp hy with q | q
    · exact xl y q
    · rw [List.mem_singleton.mp q]; exact hx
  -- webs_so
  obtain ⟨d6, h2, e2, I2, a6, l6, q6, t2⟩ := set_list I1 (i := 6) (gl_s
      (gl_cons (gd_t (gt_add (gt_cut (v18 s1 a18) (cn s1) (c13 s1 a13)) (gt_cut (v18 s1 a18) (c13s s1 a13) (cn s1)) (by decide)) (by decide))
      (gl_cons (gd_t (gt_add (v18 s1 a18) (gt_cut (v18 s1 a18) (cn s1) (c1 s1)) (by decide)) (by decide))
      (gl_cons (gd_t (gt_back (v18 s1 a18)) (by decide))
      (gl_cons (gd_call28 (n := n + 7) (w := p.2) (v := [more]) (w18 s1 a18) (fun h => by rw [ev_tup, evs_s, ev_var, a14, ro_some, rb_ok, evs_0, rb_ok, rb_ok]; rfl) (by rw [List.length_singleton]; omega) (al more mk) (all1 more (by omega)))
      (gl_cons (gd_t (gt_tup gl_nil) (by decide))
      (gl_cons (gd_t (gt_add (gt_add (gt_cut (v18 s1 a18) (cn s1) (c13 s1 a13)) (gt_tup (gl_cons (gd_list (xj s1 a18 a13) (by decide)) gl_nil)) (by decide)) (gt_cut (v18 s1 a18) (c13s s1 a13) (cn s1)) (by decide)) (by decide))
      gl_nil))))))) t1 (by omega) (by decide) (by decide) (by decide) _
  rw [e2]
  have b12 : getS (setS s1 6 (.lst d6)) 12 = some (.int k) := by rw [setS_eq, gs_ne (by decide)]; exact a12
  have b13 : getS (setS s1 6 (.lst d6)) 13 = some (.int j) := by rw [setS_eq, gs_ne (by decide)]; exact a13
  have b17 : getS (setS s1 6 (.lst d6)) 17 = some (lotD p.1) := by rw [setS_eq, gs_ne (by decide)]; exact a17
  have b18 : getS (setS s1 6 (.lst d6)) 18 = some (webD p.2) := by rw [setS_eq, gs_ne (by decide)]; exact a18
  generalize setS s1 6 (.lst d6) = s2 at *
  have mil : okLot [1000000] = true := by decide
  obtain ⟨d7, h3, e3, I3, a7, l7, q7, t3⟩ := set_list I2 (i := 6) (gs_add (gs_var (k := 2) a6 l6 q6) (gl_s
      (gl_cons (gd_t (gt_add (gt_add (gt_cut (v18 s2 b18) (cn s2) (c13 s2 b13)) (gt_tup (gl_cons (gd_t (gt_back (xj s2 b18 b13)) (by decide)) gl_nil)) (by decide)) (gt_cut (v18 s2 b18) (c13s s2 b13) (cn s2)) (by decide)) (by decide))
      (gl_cons (gd_t (gt_add (gt_add (gt_cut (v18 s2 b18) (cn s2) (c13 s2 b13)) (gt_tup (gl_cons (gd_t (gt_tup gl_nil) (by decide)) gl_nil)) (by decide)) (gt_cut (v18 s2 b18) (c13s s2 b13) (cn s2)) (by decide)) (by decide))
      (gl_cons (gd_call28 (n := n + 7) (b := .tup [(.tup [(.bin .pow (.con (.int 10)) (.con (.int 6)))])]) (w := p.2) (v := [[1000000]]) (w18 s2 b18) (fun h => rfl) (by rw [List.length_singleton]; omega) (al _ mil) (all1 _ (by decide)))
      gl_nil)))) (by decide)) t2 (by omega) (by decide) (by decide) (by decide) _
  rw [e3]
  have g12 : getS (setS s2 6 (.lst d7)) 12 = some (.int k) := by rw [setS_eq, gs_ne (by decide)]; exact b12
  have g17 : getS (setS s2 6 (.lst d7)) 17 = some (lotD p.1) := by rw [setS_eq, gs_ne (by decide)]; exact b17
  have g18 : getS (setS s2 6 (.lst d7)) 18 = some (webD p.2) := by rw [setS_eq, gs_ne (by decide)]; exact b18
  generalize setS s2 6 (.lst d7) = s3 at *
  have one7 : GD (runN G T (n + 8)) s3 0 0 (.bin .add (.bin .pow (.con (.int 10)) (.con (.int 6))) (.con (.int 1))) := fun b h t _ => ⟨.int 1000001, h, rfl, rfl, t⟩
  obtain ⟨d8, h4, e4, I4, a8, l8, q8, t4⟩ := set_list I3 (i := 6) (gs_add (gs_var (k := 2) a7 l7 q7) (gl_s
      (gl_cons (gd_t (gt_add (v18 s3 g18) (gt_tup (gl_cons (gd_t (gt_tup (gl_cons one7 gl_nil)) (by decide)) gl_nil)) (by decide)) (by decide))
      (gl_cons (gd_t (gt_add (v18 s3 g18) (gt_tup (gl_cons (gd_t (gt_tup (gl_cons (gd_con (k := 0) (d := .bl true) rfl) gl_nil)) (by decide)) gl_nil)) (by decide)) (by decide))
      (gl_cons (gd_con (k := 2) (d := .non) rfl) gl_nil)))) (by decide)) t3 (by omega) (by decide) (by decide) (by decide) _
  rw [e4]
  have m12 : getS (setS s3 6 (.lst d8)) 12 = some (.int k) := by rw [setS_eq, gs_ne (by decide)]; exact g12
  have m17 : getS (setS s3 6 (.lst d8)) 17 = some (lotD p.1) := by rw [setS_eq, gs_ne (by decide)]; exact g17
  have m18 : getS (setS s3 6 (.lst d8)) 18 = some (webD p.2) := by rw [setS_eq, gs_ne (by decide)]; exact g18
  generalize setS s3 6 (.lst d8) = s4 at *
  -- rules_so
  have of6 : GD (runN G T (n + 8)) s4 1 2 (.call 21 [(.var 1), (.var 6)] []) := gd_of (n := n + 6) (m := 11) I4.t1 (gs_var (k := 2) a8 l8 q8) (by decide)
  have x17 : GD (runN G T (n + 8)) s4 0 2 (.var 17) := gd_up (gd_t (v17 s4 m17) (by decide)) (by decide)
  have x18 : GD (runN G T (n + 8)) s4 0 2 (.var 18) := gd_t (v18 s4 m18) (by decide)
  obtain ⟨d9, h5, e5, I5, a9, l9, q9, t5⟩ := set_list I4 (i := 15) (gl_s (k := 3)
      (gl_cons (gd_t (gt_tup (gl_cons x17 (gl_cons of6 gl_nil))) (by decide))
      (gl_cons (gd_t (gt_tup (gl_cons x17 (gl_cons of6 gl_nil))) (by decide))
      (gl_cons (gd_t (gt_tup (gl_cons x17 gl_nil)) (by decide))
      (gl_cons (gd_up x17 (by decide))
      (gl_cons (gd_t (gt_tup (gl_cons (gd_up (gd_list (v17 s4 m17) (by decide)) (by decide)) (gl_cons x18 gl_nil))) (by decide))
      (gl_cons (gd_t (gt_tup (gl_cons (gd_up (gd_t (gt_add (v17 s4 m17) (gt_tup (gl_cons (gd_con (k := 0) (d := .int 99) rfl) gl_nil)) (by decide)) (by decide)) (by decide)) (gl_cons x18 gl_nil))) (by decide))
      (gl_cons (gd_t (gt_tup (gl_cons (gd_up (gd_t (gt_tup (k := 0) gl_nil) (by decide)) (by decide)) (gl_cons x18 gl_nil))) (by decide))
      gl_nil)))))))) t4 (by omega) (by decide) (by decide) (by decide) _
  rw [e5]
  have p12 : getS (setS s4 15 (.lst d9)) 12 = some (.int k) := by rw [setS_eq, gs_ne (by decide)]; exact m12
  generalize setS s4 15 (.lst d9) = s5 at *
  have v8 : ∀ (sl : Slots), In t sl → GT (runN G T (n + 8)) sl 0 15 3 (.var 8) := fun sl I => gt_var I.t8 (by rw [List.length_map]; exact tn) td
  have of15 : GD (runN G T (n + 8)) s5 1 3 (.call 21 [(.var 1), (.var 15)] []) := gd_of (n := n + 6) (m := 6) I5.t1 (gs_var (k := 3) a9 l9 q9) (by decide)
  obtain ⟨d10, h6, e6, I6, a10, l10, q10, t6⟩ := set_tup I5 (i := 16) (gt_add (gt_add (gt_cut (v8 s5 I5) (cn s5) (c12 s5 p12)) (gt_tup (gl_cons of15 gl_nil)) (by decide)) (gt_cut (v8 s5 I5) (c12s s5 p12) (cn s5)) (by decide)) t5 (by omega) (by decide) (by decide) (by decide) _
  rw [e6]
  have r12 : getS (setS s5 16 (.tup d10)) 12 = some (.int k) := by rw [setS_eq, gs_ne (by decide)]; exact p12
  generalize setS s5 16 (.tup d10) = s6 at *
  have x16 : GD (runN G T (n + 8)) s6 0 4 (.var 16) := gd_t (gt_var a10 l10 q10) (by decide)
  obtain ⟨d, h7, e7, I7, a11, q11, t7⟩ := set_step I6 (i := 16) (gd_of (n := n + 6) (k := 4) I6.t1 (gl_lst
      (gl_cons x16 (gl_cons x16 (gl_cons x16
      (gl_cons (gd_t (gt_add (gt_cut (v8 s6 I6) (cn s6) (c12 s6 r12)) (gt_cut (v8 s6 I6) (c12s s6 r12) (cn s6)) (by decide)) (by decide))
      (gl_cons (gd_t (gt_back (v8 s6 I6)) (by decide))
      (gl_cons (gd_t (gt_add (v8 s6 I6) (gt_cut (v8 s6 I6) (cm s6) (cn s6)) (by decide)) (by decide))
      gl_nil))))))) (by decide)) t6 (by omega) (by decide) (by decide) (by decide) _
  rw [e7]
  generalize setS s6 16 d = s7 at *
  have dd := dat_mono 4 60 d (by decide) q11
  have f1 := c_plain_task (n + 1) d h7 dd
  have f2 := c_law_plain (n + 5) d h7 dd
  have f3 := same_b (n + 7) (isPlain d) (isPlain d) h7
  refine ⟨s7, h7, ?_, I7, t7.mono (by omega)⟩
  rw [xcs_s, xc_ite, ev_not, ev_call, evs_s, ev_call, evs_s, ev_var, a11, ro_some, rb_ok, evs_0, rb_ok, rb_ok, f1, rb_ok, evs_s, ev_call, evs_s, ev_var, a11, ro_some, rb_ok, evs_0, rb_ok, rb_ok, f2, rb_ok, evs_0, rb_ok, rb_ok, rb_ok, f3]
  simp
end Pg

end
section
set_option linter.all false
set_option maxRecDepth 100000
set_option maxHeartbeats 4000000
/-! L24: one lap of the law. -/
namespace Pg
open PySem Ev Or
theorem turns (n : Nat) {ws : Lot} {pool : List Int} {t : Tk} (M : Made ws pool t) : ∀ (todo : List D) (b : Nat) (h : AH) (sl : Slots), In t sl → Tin b h → b + 200 * todo.length ≤ 300000000 →
    ∃ (sl' : Slots) (h' : AH), forR (fun d sl h => (R.opt h (setTg sl (.nm 9) d)).bind fun sl h => xcs (runN G T (n + 8)) G turnB sl h) todo sl h = .ok (.nx sl') h' ∧ In t sl' ∧ Tin (b + 200 * todo.length) h' := by
  intro todo
  induction todo with
  | nil => intro b h sl I ti _; exact ⟨sl, h, rfl, I, ti⟩
  | cons d todo ih =>
    intro b h sl I ti hb
    rw [List.length_cons] at hb
    obtain ⟨s1, h1, e1, I1, t1⟩ := turn n b h M (sl := setS sl 9 d) (I.set (by decide) (by decide)) ti (by omega)
    obtain ⟨s2, h2, e2, I2, t2⟩ := ih (b + 200) h1 s1 I1 t1 (by omega)
    refine ⟨s2, h2, ?_, I2, t2.mono (by rw [List.length_cons]; omega)⟩
    rw [forR, setTg_nm, ro_some, rb_ok, e1, rb_ok]
    exact e2
/-- the numbers from lo on -/
def upTo : Int → Nat → List Int
  | _, 0 => []
  | lo, k + 1 => lo :: upTo (lo + 1) k
theorem rangeL_ints : ∀ (lo : Int) (k : Nat), rangeL lo k = (upTo lo k).map .int
  | _, 0 => rfl
  | lo, k + 1 => by rw [rangeL, upTo, List.map_cons, rangeL_ints (lo + 1) k]
theorem ints_mem : ∀ {lo : Int} {k : Nat} {i : Int}, i ∈ upTo lo k → lo ≤ i ∧ i < lo + k
  | _, 0, _, h => nomatch h
  | lo, k + 1, i, h => by
    rcases List.mem_cons.mp h with rfl | h
    · omega
    · have := ints_mem h; omega
theorem ints_len : ∀ (lo : Int) (k : Nat), (upTo lo k).length = k
  | _, 0 => rfl
  | lo, k + 1 => by rw [upTo, List.length_cons, ints_len (lo + 1) k]
theorem ints_nodup : ∀ (lo : Int) (k : Nat), (upTo lo k).Nodup
  | _, 0 => .nil
  | lo, k + 1 => List.nodup_cons.mpr ⟨fun h => by have := ints_mem h; omega, ints_nodup (lo + 1) k⟩
/-- a rule of the task is at hand -/
structure InP (t : Tk) (p : Lot × Web) (sl : Slots) : Prop where
  i : In t sl
  p17 : getS sl 17 = some (lotD p.1)
  p18 : getS sl 18 = some (webD p.2)
theorem InP.set {t : Tk} {p : Lot × Web} {sl : Slots} (I : InP t p sl) {i : Nat} {c : Option Cell} (h1 : i ≠ 1) (h8 : i ≠ 8) (h17 : i ≠ 17) (h18 : i ≠ 18) : InP t p (sl.set i c) :=
  ⟨I.i.set h1 h8, by rw [gs_ne h17]; exact I.p17, by rw [gs_ne h18]; exact I.p18⟩
theorem Made.nd {ws : Lot} {pool : List Int} {t : Tk} (M : Made ws pool t) : (keys t).Nodup := by
  have gd := M.gd
  simp only [good, Bool.and_eq_true] at gd
  exact ((chain_asc ordL _).mp gd.1.1.1).nodup ordL
theorem dat_t {ws : Lot} {pool : List Int} {t : Tk} (M : Made ws pool t) : dat 60 (taskD t) = true := dat_mono 4 60 _ (by decide) (dat_task 0 t M.small)
/-- plain_fits(task, near, x) -/
def fitsD (p : Lot × Web) (x : D) : Bool := match lotOf x with
  | some y => okLot y && lies p.2 y
  | none => false
theorem made_fits (n : Nat) {ws : Lot} {pool : List Int} {t : Tk} (M : Made ws pool t) {p : Lot × Web} (hp : p ∈ t) (d1 d2 x : D) (h : AH) (hd1 : d1 = taskD t ∨ d1 = taskL t) (hd2 : d2 = lotD p.1 ∨ d2 = lotL p.1) (dx : dat 60 x = true) :
    runN G T (n + 8) 17 [d1, d2, x] h = .ok (.bl (fitsD p x)) h := by
  have e := c_fits n t p.1 d1 d2 x h hd1 hd2 M.small (dat_t M) M.ok M.gd (List.mem_map.mpr ⟨p, hp, rfl⟩) dx
  rw [rule_eq M.nd hp] at e
  exact e
abbrev bodyF : List S := [.set 19 (.bi .any [(.lc (.cl (.nm 21) (.var 18) [] (.yl (.call 32 [(.var 11), (.var 21)] []))))]), .ite (.not (.call 24 [(.lst [(.call 17 [(.var 8), (.var 17), (.var 11)] []), (.call 17 [(.var 11), (.cast .list (.var 17)), (.call 23 [(.var 8)] [])] [2, 1, 0]), (.call 17 [(.var 8), (.var 17), (.cast .list (.var 11))] [])]), (.lst [(.var 19), (.var 19), (.con (.bl false))])] [])) [.ret (.con (.bl false))] []]
theorem fit_one (n : Nat) (h : AH) {ws : Lot} {pool : List Int} {t : Tk} (M : Made ws pool t) {p : Lot × Web} (hp : p ∈ t) {sl : Slots} (I : InP t p sl) (x : Lot) (hx : okLot x = true) (lx : x.length ≤ 1000) :
    ∃ sl' : Slots, xcs (runN G T (n + 8)) G bodyF (setS sl 11 (lotD x)) h = .ok (.nx sl') h ∧ InP t p sl' := by
  have I1 : InP t p (setS sl 11 (lotD x)) := I.set (by decide) (by decide) (by decide) (by decide)
  have s11 : getS (setS sl 11 (lotD x)) 11 = some (lotD x) := gs_eq (by rw [I.i.l]; decide)
  generalize setS sl 11 (lotD x) = s1 at *
  have pw := M.w p hp
  have e1 : ev (runN G T (n + 8)) G (.lc (.cl (.nm 21) (.var 18) [] (.yl (.call 32 [(.var 11), (.var 21)] [])))) s1 h = .ok (.lst (p.2.map fun y => .bl (sub x y))) h :=
    lcm lotD (fun y => .bl (sub x y)) (by rw [ev_var, I1.p18, ro_some]) rfl (by omega) fun y hy => by
      have q1 : getS ((s1.set 21 none).set 21 (some (.val (lotD y)))) 11 = some (lotD x) := by rw [gs_ne (by decide), gs_ne (by decide)]; exact s11
      have q2 : getS ((s1.set 21 none).set 21 (some (.val (lotD y)))) 21 = some (lotD y) := gs_eq (by rw [List.length_set, I1.i.l]; decide)
      rw [ev_call, evs_s, ev_var, q1, ro_some, rb_ok, evs_s, ev_var, q2, ro_some, rb_ok, evs_0, rb_ok, rb_ok, rb_ok]
      exact c_law_within (n + 7) x y h (by omega)
  have e2 : ev (runN G T (n + 8)) G (.bi .any [(.lc (.cl (.nm 21) (.var 18) [] (.yl (.call 32 [(.var 11), (.var 21)] []))))]) s1 h = .ok (.bl (lies p.2 x)) h := by
    rw [ev_bi, evs_s, e1, rb_ok, evs_0, rb_ok, rb_ok, bi_any, ro_some]; rfl
  have I2 : InP t p (setS s1 19 (.bl (lies p.2 x))) := I1.set (by decide) (by decide) (by decide) (by decide)
  have u11 : getS (setS s1 19 (.bl (lies p.2 x))) 11 = some (lotD x) := by rw [setS_eq, gs_ne (by decide)]; exact s11
  have u19 : getS (setS s1 19 (.bl (lies p.2 x))) 19 = some (.bl (lies p.2 x)) := gs_eq (by rw [I1.i.l]; decide)
  have st : xc (runN G T (n + 8)) G (.set 19 (.bi .any [(.lc (.cl (.nm 21) (.var 18) [] (.yl (.call 32 [(.var 11), (.var 21)] []))))])) s1 h = .ok (.nx (setS s1 19 (.bl (lies p.2 x)))) h := by rw [xc_set, e2, rb_ok]
  generalize setS s1 19 (.bl (lies p.2 x)) = s2 at *
  have dl : dat 60 (lotD x) = true := dat_lot 59 x lx
  have dl2 : dat 60 (lotL x) = true := dat_lst (by simpa using lx) fun d hd => by
    obtain ⟨i, _, rfl⟩ := List.mem_map.mp hd
    rfl
  have fx : fitsD p (lotD x) = lies p.2 x := by unfold fitsD; rw [lotOf_map]; simp [hx]
  have f1 := made_fits n M hp (taskD t) (lotD p.1) (lotD x) h (.inl rfl) (.inl rfl) dl
  have f2 := made_fits n M hp (taskL t) (lotL p.1) (lotD x) h (.inr rfl) (.inr rfl) dl
  have f3 := made_fits n M hp (taskD t) (lotD p.1) (lotL x) h (.inl rfl) (.inl rfl) dl2
  rw [fx] at f1 f2
  rw [show fitsD p (lotL x) = false from rfl] at f3
  have f4 := l_task (n + 3) t h M.small
  have f5 := same_bs (n + 6) [lies p.2 x, lies p.2 x, false] [lies p.2 x, lies p.2 x, false] h (by simp)
  have g1 : ev (runN G T (n + 8)) G (.call 17 [(.var 8), (.var 17), (.var 11)] []) s2 h = .ok (.bl (lies p.2 x)) h := by
    rw [ev_call, evs_s, ev_var, I2.i.t8, ro_some, rb_ok, evs_s, ev_var, I2.p17, ro_some, rb_ok, evs_s, ev_var, u11, ro_some, rb_ok, evs_0, rb_ok, rb_ok, rb_ok, rb_ok]
    exact f1
  have g2 : ev (runN G T (n + 8)) G (.call 17 [(.var 11), (.cast .list (.var 17)), (.call 23 [(.var 8)] [])] [2, 1, 0]) s2 h = .ok (.bl (lies p.2 x)) h := by
    rw [ev_callk, evs_s, ev_var, u11, ro_some, rb_ok, evs_s, ev_cast, ev_var, I2.p17, ro_some, rb_ok, show castD .list (lotD p.1) = some (lotL p.1) from rfl, ro_some, rb_ok, evs_s, ev_call, evs_s, ev_var, I2.i.t8, ro_some, rb_ok, evs_0, rb_ok, rb_ok, f4, rb_ok, evs_0, rb_ok, rb_ok, rb_ok, rb_ok,
      show permD [lotD x, lotL p.1, taskL t] [2, 1, 0] = some [taskL t, lotL p.1, lotD x] from rfl, ro_some, rb_ok]
    exact f2
  have g3 : ev (runN G T (n + 8)) G (.call 17 [(.var 8), (.var 17), (.cast .list (.var 11))] []) s2 h = .ok (.bl false) h := by
    rw [ev_call, evs_s, ev_var, I2.i.t8, ro_some, rb_ok, evs_s, ev_var, I2.p17, ro_some, rb_ok, evs_s, ev_cast, ev_var, u11, ro_some, rb_ok, show castD .list (lotD x) = some (lotL x) from rfl, ro_some, rb_ok, evs_0, rb_ok, rb_ok, rb_ok, rb_ok]
    exact f3
  have g4 : ev (runN G T (n + 8)) G (.lst [(.var 19), (.var 19), (.con (.bl false))]) s2 h = .ok (.lst [.bl (lies p.2 x), .bl (lies p.2 x), .bl false]) h := by
    rw [ev_lst, evs_s, ev_var, u19, ro_some, rb_ok, evs_s, ev_var, u19, ro_some, rb_ok, evs_s, ev_con, rb_ok, evs_0, rb_ok, rb_ok, rb_ok, rb_ok]
  refine ⟨s2, ?_, I2⟩
  unfold bodyF
  rw [xcs_s, st, rb_ok]
  simp only
  rw [xcs_s, xc_ite, ev_not, ev_call, evs_s, ev_lst, evs_s, g1, rb_ok, evs_s, g2, rb_ok, evs_s, g3, rb_ok, evs_0, rb_ok, rb_ok, rb_ok, rb_ok, rb_ok, evs_s, g4, rb_ok, evs_0, rb_ok, rb_ok, rb_ok]
  simp only [List.map_cons, List.map_nil] at f5
  rw [f5]
  simp
theorem fit_loop (n : Nat) (h : AH) {ws : Lot} {pool : List Int} {t : Tk} (M : Made ws pool t) {p : Lot × Web} (hp : p ∈ t) : ∀ (todo : List Lot) (sl : Slots), InP t p sl → (∀ x ∈ todo, okLot x = true ∧ x.length ≤ 1000) →
    ∃ sl' : Slots, forR (fun d sl h => (R.opt h (setTg sl (.nm 11) d)).bind fun sl h => xcs (runN G T (n + 8)) G bodyF sl h) (todo.map lotD) sl h = .ok (.nx sl') h ∧ InP t p sl' := by
  intro todo
  induction todo with
  | nil => intro sl I _; exact ⟨sl, rfl, I⟩
  | cons x todo ih =>
    intro sl I hx
    obtain ⟨s1, e1, I1⟩ := fit_one n h M hp I x (hx x List.mem_cons_self).1 (hx x List.mem_cons_self).2
    obtain ⟨s2, e2, I2⟩ := ih s1 I1 fun y hy => hx y (List.mem_cons_of_mem _ hy)
    refine ⟨s2, ?_, I2⟩
    rw [List.map_cons, forR, setTg_nm, ro_some, rb_ok, e1, rb_ok]
    exact e2
abbrev sixE : E := .tup [(.tup []), (.con .non), (.bin .add (.sub (.var 18) (.con (.int 0))) (.sub (.var 18) (.con (.int 0)))), (.con (.int 3)), (.tup [(.con (.bl true))]), (.var 18)]
theorem six_false (n : Nat) (h : AH) {ws : Lot} {pool : List Int} {t : Tk} (M : Made ws pool t) {p : Lot × Web} (hp : p ∈ t) {sl : Slots} (I : InP t p sl) :
    ev (runN G T (n + 8)) G (.call 24 [(.lc (.cl (.nm 11) sixE [] (.yl (.call 17 [(.var 8), (.var 17), (.var 11)] [])))), (.bin .mul (.lst [(.con (.bl false))]) (.con (.int 6)))] []) sl h = .ok (.bl true) h := by
  have pw := M.w p hp
  obtain ⟨x0, r, hw⟩ : ∃ x0 r, p.2 = x0 :: r := by
    cases hq : p.2 with
    | nil => rw [hq] at pw; simp at pw
    | cons a b => exact ⟨a, b, rfl⟩
  have px := M.x p hp x0 (by rw [hw]; simp)
  have xd : x0.length ≤ 3 := px.2.2
  have x0n : x0 ≠ [] := fun e => by have := px.1; rw [e] at this; simp [okLot] at this
  have bad : okLot (x0 ++ x0) = false := by
    cases q : okLot (x0 ++ x0) with
    | false => rfl
    | true =>
      have a := (okLot_asc q).nodup ordI
      obtain ⟨_, _, c⟩ := List.nodup_append.mp a
      obtain ⟨z, hz⟩ := List.exists_mem_of_ne_nil _ x0n
      exact absurd rfl (c z hz z hz)
  have e1 : ev (runN G T (n + 8)) G sixE sl h = .ok (.tup [.tup [], .non, lotD (x0 ++ x0), .int 3, .tup [.bl true], webD p.2]) h := by
    have q0 : ev (runN G T (n + 8)) G (.sub (.var 18) (.con (.int 0))) sl h = .ok (lotD x0) h := by
      rw [ev_sub, ev_var, I.p18, ro_some, rb_ok, ev_con, rb_ok, hw]
      simp [subD, atI, ixOf]
    have q1 : ev (runN G T (n + 8)) G (.bin .add (.sub (.var 18) (.con (.int 0))) (.sub (.var 18) (.con (.int 0)))) sl h = .ok (lotD (x0 ++ x0)) h := by
      rw [ev_bin, q0, rb_ok, q0, rb_ok]
      have : x0.length + x0.length ≤ line := by rw [mul_line]; omega
      simp [binop, this]
    have q2 : ev (runN G T (n + 8)) G (.var 18) sl h = .ok (webD p.2) h := by rw [ev_var, I.p18, ro_some]
    unfold sixE
    rw [ev_tup, evs_s, ev_tup, evs_0, rb_ok, rb_ok, evs_s, ev_con, rb_ok, evs_s, q1, rb_ok, evs_s, ev_con, rb_ok, evs_s, ev_tup, evs_s, ev_con, rb_ok, evs_0, rb_ok, rb_ok, rb_ok, evs_s, q2, rb_ok, evs_0, rb_ok, rb_ok, rb_ok, rb_ok, rb_ok, rb_ok, rb_ok]
  have sm : ∀ x ∈ [D.tup [], .non, lotD (x0 ++ x0), .int 3, .tup [.bl true], webD p.2], dat 60 x = true ∧ fitsD p x = false := by
    intro x hx
    simp only [List.mem_cons, List.not_mem_nil, or_false] at hx
    rcases hx with rfl | rfl | rfl | rfl | rfl | rfl
    · exact ⟨rfl, rfl⟩
    · exact ⟨rfl, rfl⟩
    · refine ⟨dat_lot 59 _ (by rw [List.length_append]; omega), ?_⟩
      unfold fitsD
      rw [lotOf_map]
      simp only
      rw [bad]; rfl
    · exact ⟨rfl, rfl⟩
    · exact ⟨rfl, rfl⟩
    · refine ⟨dat_web 58 p.2 (by omega) (fun y hy => by have := (M.x p hp y hy).2.2; omega), ?_⟩
      rw [hw]; rfl
  have e2 : ev (runN G T (n + 8)) G (.lc (.cl (.nm 11) sixE [] (.yl (.call 17 [(.var 8), (.var 17), (.var 11)] [])))) sl h = .ok (.lst ([D.tup [], .non, lotD (x0 ++ x0), .int 3, .tup [.bl true], webD p.2].map fun _ => .bl false)) h :=
    lc1 (fun _ => .bl false) e1 rfl (by simp) fun x hx => by
      obtain ⟨d1, f1⟩ := sm x hx
      have J : InP t p ((sl.set 11 none).set 11 (some (.val x))) := (I.set (by decide) (by decide) (by decide) (by decide)).set (by decide) (by decide) (by decide) (by decide)
      have s11 : getS ((sl.set 11 none).set 11 (some (.val x))) 11 = some x := gs_eq (by rw [List.length_set, I.i.l]; decide)
      have f2 := made_fits n M hp (taskD t) (lotD p.1) x h (.inl rfl) (.inl rfl) d1
      rw [ev_call, evs_s, ev_var, J.i.t8, ro_some, rb_ok, evs_s, ev_var, J.p17, ro_some, rb_ok, evs_s, ev_var, s11, ro_some, rb_ok, evs_0, rb_ok, rb_ok, rb_ok, rb_ok, f2, f1]
  have e3 : ev (runN G T (n + 8)) G (.bin .mul (.lst [(.con (.bl false))]) (.con (.int 6))) sl h = .ok (.lst [.bl false, .bl false, .bl false, .bl false, .bl false, .bl false]) h := rfl
  have f5 := same_bs (n + 6) [false, false, false, false, false, false] [false, false, false, false, false, false] h (by simp)
  rw [ev_call, evs_s, e2, rb_ok, evs_s, e3, rb_ok, evs_0, rb_ok, rb_ok, rb_ok]
  exact f5
end Pg

end
section
set_option linter.all false
set_option maxRecDepth 100000
set_option maxHeartbeats 4000000
/-! L25: a lap. -/
namespace Pg
open PySem Ev Or
/-- the tin is at hand -/
structure In0 (sl : Slots) : Prop where
  l : sl.length = 22
  t1 : getS sl 1 = some (.ref 0)
theorem In0.set {sl : Slots} (I : In0 sl) {i : Nat} {c : Option Cell} (h1 : i ≠ 1) : In0 (sl.set i c) := ⟨by rw [List.length_set]; exact I.l, by rw [gs_ne h1]; exact I.t1⟩
theorem In.z {t : Tk} {sl : Slots} (I : In t sl) : In0 sl := ⟨I.l, I.t1⟩
abbrev wsE : E := .cast .tuple (.srt (.call 22 [(.var 1), (.cast .list (.range [(.con (.int 9))])), (.bin .add (.con (.int 2)) (.call 19 [(.var 1), (.con (.int 3))] []))] []) .non none)
theorem ws_ev (n b : Nat) (h : AH) {sl : Slots} (I : In0 sl) (ti : Tin b h) (hb : b ≤ 300000000) : ∃ (ws : Lot) (h' : AH), ev (runN G T (n + 8)) G wsE sl h = .ok (lotD ws) h' ∧ Asc ltI ws ∧ 2 ≤ ws.length ∧ ws.length ≤ 4 ∧ (∀ i ∈ ws, 0 ≤ i ∧ i ≤ 1000) ∧ Tin (b + 100) h' := by
  obtain ⟨r, h1, e1, r0, r1, t1⟩ := c_take (n + 7) b h 3 ti (by omega) (by omega) (by omega)
  obtain ⟨ws, h2, e2, w1, w2, w3, t2⟩ := sorted_pick (n + 6) (b + 1) h1 nine (2 + r) t1 (by omega) (by decide) (by decide) (by omega)
  have nl : nine.length = 9 := rfl
  refine ⟨ws, h2, ?_, w1, by omega, by omega, fun i hi => ?_, t2.mono (by omega)⟩
  · unfold wsE
    rw [ev_cast, ev_srt, ev_call, evs_s, ev_var, I.t1, ro_some, rb_ok, evs_s, nine_ev, rb_ok, evs_s, ev_bin, ev_con, rb_ok, ev_call, evs_s, ev_var, I.t1, ro_some, rb_ok, evs_s, ev_con, rb_ok, evs_0, rb_ok, rb_ok, rb_ok, e1, rb_ok, b_add, ro_some, rb_ok, evs_0, rb_ok, rb_ok, rb_ok, rb_ok]
    exact e2
  · have := w2 i hi
    simp only [nine, List.mem_cons, List.not_mem_nil, or_false] at this
    omega
abbrev taskE : E := .call 30 [(.var 1), (.var 7), (.cast .list (.range [(.bin .add (.con (.int 1)) (.call 19 [(.var 1), (.con (.int 6))] []))]))] []
/-- what the webs are made of -/
structure PoolOK (pool : List Int) : Prop where
  n : pool.length ≤ 6
  b : ∀ i ∈ pool, 0 ≤ i ∧ i < 77
theorem task_ev (n b : Nat) (h : AH) {sl : Slots} (I : In0 sl) {ws : Lot} (a7 : getS sl 7 = some (lotD ws)) (w1 : Asc ltI ws) (w2 : 2 ≤ ws.length) (w3 : ws.length ≤ 4) (w4 : ∀ i ∈ ws, 0 ≤ i ∧ i ≤ 1000) (ti : Tin b h) (hb : b ≤ 300000000) :
    ∃ (t : Tk) (pool : List Int) (h' : AH), ev (runN G T (n + 8)) G taskE sl h = .ok (taskD t) h' ∧ Made ws pool t ∧ PoolOK pool ∧ Tin (b + 30000) h' := by
  obtain ⟨r, h1, e1, r0, r1, t1⟩ := c_take (n + 7) b h 6 ti (by omega) (by omega) (by omega)
  have pb : ∀ i ∈ upTo 0 (1 + r).toNat, 0 ≤ i ∧ i < 77 := fun i hi => by have := ints_mem hi; omega
  have pl := ints_len 0 (1 + r).toNat
  obtain ⟨t, h2, e2, M, t2⟩ := c_gen (n + 4) (b + 1) h1 ws (upTo 0 (1 + r).toNat) t1 (by omega) w1 w2 w3 w4 (by omega) (ints_nodup _ _) (fun e => by rw [e] at pl; simp only [List.length_nil] at pl; omega) (fun i hi => by have := pb i hi; omega)
  refine ⟨t, _, h2, ?_, M, ⟨by omega, pb⟩, t2.mono (by omega)⟩
  have q : ev (runN G T (n + 8)) G (.cast .list (.range [(.bin .add (.con (.int 1)) (.call 19 [(.var 1), (.con (.int 6))] []))])) sl h = .ok (.lst ((upTo 0 (1 + r).toNat).map .int)) h1 := by
    rw [ev_cast, ev_range, evs_s, ev_bin, ev_con, rb_ok, ev_call, evs_s, ev_var, I.t1, ro_some, rb_ok, evs_s, ev_con, rb_ok, evs_0, rb_ok, rb_ok, rb_ok, e1, rb_ok, b_add, ro_some, rb_ok, evs_0, rb_ok, rb_ok, rng_ok (by omega) (by omega), ro_some, rb_ok, rangeL_ints]
    rfl
  unfold taskE
  rw [ev_call, evs_s, ev_var, I.t1, ro_some, rb_ok, evs_s, ev_var, a7, ro_some, rb_ok, evs_s, q, rb_ok, evs_0, rb_ok, rb_ok, rb_ok, rb_ok]
  exact e2
abbrev sureE : E := .or [(.not (.call 24 [(.lst [(.call 16 [(.var 8)] []), (.call 16 [(.call 23 [(.var 8)] [])] []), (.call 16 [(.cast .list (.var 8))] [])]), (.lst [(.con (.bl true)), (.con (.bl false)), (.con (.bl false))])] [])), (.not (.call 33 [(.var 8)] []))]
theorem sure_ev (n : Nat) (h : AH) {ws : Lot} {pool : List Int} {t : Tk} (M : Made ws pool t) {sl : Slots} (I : In t sl) : ev (runN G T (n + 8)) G sureE sl h = .ok (.bl false) h := by
  have tn := M.n
  have ip : isPlain (taskD t) = true := by rw [isPlain_map, M.ok, M.gd]; rfl
  have f1 := c_plain_task (n + 1) (taskD t) h (dat_t M)
  have dL : dat 60 (taskL t) = true := dat_lst (k := 59) (by rw [List.length_map]; omega) fun d hd => by
    obtain ⟨p, hp, rfl⟩ := List.mem_map.mp hd
    obtain ⟨s1, s2, s3⟩ := M.small.2 p hp
    refine dat_lst (k := 58) (by simp) fun d hd => ?_
    simp only [List.mem_cons, List.not_mem_nil, or_false] at hd
    rcases hd with rfl | rfl
    · refine dat_lst (k := 57) (by simpa using s1) fun d hd => ?_
      obtain ⟨i, _, rfl⟩ := List.mem_map.mp hd
      rfl
    · refine dat_lst (k := 57) (by simpa using s2) fun d hd => ?_
      obtain ⟨x, hx, rfl⟩ := List.mem_map.mp hd
      refine dat_lst (k := 56) (by simpa using s3 x hx) fun d hd => ?_
      obtain ⟨i, _, rfl⟩ := List.mem_map.mp hd
      rfl
  have f2 := c_plain_task (n + 1) (taskL t) h dL
  have dL2 : dat 60 (.lst (t.map ruleD)) = true := dat_lst (k := 59) (by rw [List.length_map]; omega) fun d hd => by
    obtain ⟨p, hp, rfl⟩ := List.mem_map.mp hd
    exact dat_rule 56 p (M.small.2 p hp)
  have f3 := c_plain_task (n + 1) (.lst (t.map ruleD)) h dL2
  have f4 := c_law_plain (n + 5) (taskD t) h (dat_t M)
  rw [ip] at f1 f4
  rw [show isPlain (taskL t) = false from rfl] at f2
  rw [show isPlain (.lst (t.map ruleD)) = false from rfl] at f3
  have f5 := l_task (n + 3) t h M.small
  have f6 := same_bs (n + 6) [true, false, false] [true, false, false] h (by simp)
  have q : ev (runN G T (n + 8)) G (.var 8) sl h = .ok (taskD t) h := by rw [ev_var, I.t8, ro_some]
  have g1 : ev (runN G T (n + 8)) G (.call 16 [(.var 8)] []) sl h = .ok (.bl true) h := by rw [ev_call, evs_s, q, rb_ok, evs_0, rb_ok, rb_ok]; exact f1
  have g2 : ev (runN G T (n + 8)) G (.call 16 [(.call 23 [(.var 8)] [])] []) sl h = .ok (.bl false) h := by rw [ev_call, evs_s, ev_call, evs_s, q, rb_ok, evs_0, rb_ok, rb_ok, f5, rb_ok, evs_0, rb_ok, rb_ok]; exact f2
  have g3 : ev (runN G T (n + 8)) G (.call 16 [(.cast .list (.var 8))] []) sl h = .ok (.bl false) h := by rw [ev_call, evs_s, ev_cast, q, rb_ok, show castD .list (taskD t) = some (.lst (t.map ruleD)) from rfl, ro_some, rb_ok, evs_0, rb_ok, rb_ok]; exact f3
  have g4 : ev (runN G T (n + 8)) G (.lst [(.con (.bl true)), (.con (.bl false)), (.con (.bl false))]) sl h = .ok (.lst [.bl true, .bl false, .bl false]) h := rfl
  have g5 : ev (runN G T (n + 8)) G (.call 33 [(.var 8)] []) sl h = .ok (.bl true) h := by rw [ev_call, evs_s, q, rb_ok, evs_0, rb_ok, rb_ok]; exact f4
  simp only [List.map_cons, List.map_nil] at f6
  unfold sureE
  rw [ev_or, evOr_s, ev_not, ev_call, evs_s, ev_lst, evs_s, g1, rb_ok, evs_s, g2, rb_ok, evs_s, g3, rb_ok, evs_0, rb_ok, rb_ok, rb_ok, rb_ok, rb_ok, evs_s, g4, rb_ok, evs_0, rb_ok, rb_ok, rb_ok, f6, rb_ok]
  rw [show truth (.bl (decide True)) = some true from rfl]
  show evOr (runN G T (n + 8)) G [(E.call 33 [E.var 8] []).not] sl h = _
  rw [evOr_1, ev_not, g5, rb_ok]
  rfl
abbrev poolE : E := .bin .add (.srtset (.call 26 [(.lc (.cl (.nm 11) (.var 18) [] (.yl (.cast .list (.var 11)))))] [])) (.lst [(.con (.int 77))])
theorem pool_ev (n : Nat) (h : AH) {ws : Lot} {pool : List Int} {t : Tk} (M : Made ws pool t) (P : PoolOK pool) {p : Lot × Web} (hp : p ∈ t) {sl : Slots} (I : InP t p sl) :
    ∃ q : List Int, ev (runN G T (n + 8)) G poolE sl h = .ok (.lst (q.map .int)) h ∧ q.Nodup ∧ q ≠ [] ∧ q.length ≤ 7 ∧ ∀ i ∈ q, 0 ≤ i ∧ i ≤ 77 := by
  have pw := M.w p hp
  have px := M.x p hp
  have fl : p.2.flatten.length ≤ 90 := by
    have := flat_len (k := 3) (xs := p.2) (f := id) fun x hx => (px x hx).2.2
    rw [List.flatMap_id] at this
    omega
  have fm : ∀ i ∈ p.2.flatten, i ∈ pool := fun i hi => by
    obtain ⟨x, hx, hi⟩ := List.mem_flatten.mp hi
    exact (px x hx).2.1 i hi
  have sn := (sset_asc ordI p.2.flatten).nodup ordI
  have sl7 := nodup_len sn fun i hi => fm i (sset_mem.mp hi)
  refine ⟨sset ltI p.2.flatten ++ [77], ?_, ?_, by simp, by rw [List.length_append]; have := P.n; simp; omega, fun i hi => ?_⟩
  · have e1 : ev (runN G T (n + 8)) G (.lc (.cl (.nm 11) (.var 18) [] (.yl (.cast .list (.var 11))))) sl h = .ok (.lst (p.2.map fun x => .lst (x.map .int))) h :=
      lcm lotD (fun x => .lst (x.map .int)) (by rw [ev_var, I.p18, ro_some]) rfl (by omega) fun x hx => by
        have s11 : getS ((sl.set 11 none).set 11 (some (.val (lotD x)))) 11 = some (lotD x) := gs_eq (by rw [List.length_set, I.i.l]; decide)
        rw [ev_cast, ev_var, s11, ro_some, rb_ok]; rfl
    have q2 : (p.2.map fun x => D.lst (x.map .int)) = (p.2.map fun x => x.map D.int).map .lst := by rw [List.map_map]; rfl
    have q3 : (p.2.map fun x => x.map D.int).flatten = p.2.flatten.map .int := by rw [List.map_flatten]
    have f1 := c_flat (n + 7) (p.2.map fun x => x.map D.int) h (by rw [q3, List.length_map]; omega)
    rw [q3] at f1
    have f2 := sset_ints p.2.flatten (d := .lst (p.2.flatten.map .int)) (by omega) rfl
    unfold poolE
    rw [ev_bin, ev_srtset, ev_call, evs_s, e1, rb_ok, evs_0, rb_ok, rb_ok, q2, f1, rb_ok, f2, ro_some, rb_ok]
    rw [show ev (runN G T (n + 8)) G (.lst [(.con (.int 77))]) sl h = .ok (.lst [.int 77]) h from rfl, rb_ok]
    have : (sset ltI p.2.flatten).length + 1 ≤ line := by rw [mul_line]; have := P.n; omega
    simp [binop, this]
  · refine List.nodup_append.mpr ⟨sn, by simp, fun a ha b hb e => ?_⟩
    rw [List.mem_singleton.mp hb] at e
    have := (P.b a (fm a (sset_mem.mp ha))).2
    omega
  · rcases List.mem_append.mp hi with q | q
    · have := P.b i (fm i (sset_mem.mp q)); omega
    · rw [List.mem_singleton.mp q]; omega
abbrev lapB : List S := [.set 7 wsE, .set 8 taskE, .ite sureE [.ret (.con (.bl false))] [], .for (.nm 9) (.range [(.con (.int 10))]) turnB, .tset [17, 18] (.call 21 [(.var 1), (.var 8)] []), .set 10 poolE, .for (.nm 11) (.bin .add (.call 29 [(.var 1), (.var 10), (.con (.int 5)), (.con (.int 3))] []) (.lst [(.sub (.var 18) (.con (.int 0)))])) bodyF,
  .ite (.not (.call 24 [(.lc (.cl (.nm 11) sixE [] (.yl (.call 17 [(.var 8), (.var 17), (.var 11)] [])))), (.bin .mul (.lst [(.con (.bl false))]) (.con (.int 6)))] [])) [.ret (.con (.bl false))] []]
theorem law_lap : ∃ m o p q r s, f_law.body = .set 1 (.call 18 [(.call 20 [(.var 0), (.con (.int 1))] []), (.con (.int 0))] []) :: .for (.nm 2) (.range [(.con (.int 5))]) lapB :: [m, o, p, q, r, s] := ⟨_, _, _, _, _, _, rfl⟩
theorem lap (n b : Nat) (h : AH) {sl : Slots} (I : In0 sl) (ti : Tin b h) (hb : b ≤ 200000000) : ∃ (sl' : Slots) (h' : AH), xcs (runN G T (n + 8)) G lapB sl h = .ok (.nx sl') h' ∧ In0 sl' ∧ Tin (b + 100000) h' := by
  obtain ⟨ws, h1, e1, w1, w2, w3, w4, t1⟩ := ws_ev n b h I ti (by omega)
  have I1 : In0 (setS sl 7 (lotD ws)) := I.set (by decide)
  have a7 : getS (setS sl 7 (lotD ws)) 7 = some (lotD ws) := gs_eq (by rw [I.l]; decide)
  obtain ⟨t, pool, h2, e2, M, P, t2⟩ := task_ev n (b + 100) h1 I1 a7 w1 w2 w3 w4 t1 (by omega)
  generalize hs1 : setS sl 7 (lotD ws) = s1 at *
  have J : In t (setS s1 8 (taskD t)) := ⟨by rw [setS_eq, List.length_set]; exact I1.l, by rw [setS_eq, gs_ne (by decide)]; exact I1.t1, gs_eq (by rw [I1.l]; decide)⟩
  generalize hs2 : setS s1 8 (taskD t) = s2 at *
  have e3 := sure_ev n h2 M J
  obtain ⟨s3, h3, e4, J3, t3⟩ := turns n M (rangeL 0 10) (b + 100 + 30000) h2 s2 J t2 (by rw [rangeL_len]; omega)
  rw [rangeL_len] at t3
  have tn := M.n
  obtain ⟨x, h4, e5, mx, t4⟩ := c_of (n + 6) (b + 100 + 30000 + 200 * 10) h3 (taskD t) (t.map ruleD) t3 (by omega) (.inl rfl) (fun e => M.ne (List.map_eq_nil_iff.mp e)) (by rw [List.length_map]; omega)
  obtain ⟨p, hp, rfl⟩ := List.mem_map.mp mx
  have pw := M.w p hp
  have K : InP t p (setS (setS s3 17 (lotD p.1)) 18 (webD p.2)) := ⟨(J3.set (by decide) (by decide)).set (by decide) (by decide), by rw [setS_eq, gs_ne (by decide)]; exact gs_eq (by rw [J3.l]; decide), gs_eq (by rw [setS_eq, List.length_set, J3.l]; decide)⟩
  have st : xc (runN G T (n + 8)) G (.tset [17, 18] (.call 21 [(.var 1), (.var 8)] [])) s3 h3 = .ok (.nx (setS (setS s3 17 (lotD p.1)) 18 (webD p.2))) h4 := by
    rw [xc_tset, ev_call, evs_s, ev_var, J3.t1, ro_some, rb_ok, evs_s, ev_var, J3.t8, ro_some, rb_ok, evs_0, rb_ok, rb_ok, rb_ok, e5, rb_ok, setTg_2]; rfl
  generalize setS (setS s3 17 (lotD p.1)) 18 (webD p.2) = s4 at *
  obtain ⟨q, e6, q1, q2, q3, q4⟩ := pool_ev n h4 M P hp K
  have K2 : InP t p (setS s4 10 (.lst (q.map .int))) := K.set (by decide) (by decide) (by decide) (by decide)
  have a10 : getS (setS s4 10 (.lst (q.map .int))) 10 = some (.lst (q.map .int)) := gs_eq (by rw [K.i.l]; decide)
  generalize hs5 : setS s4 10 (.lst (q.map .int)) = s5 at *
  obtain ⟨ls, h5, e7, l7, d7, t5⟩ := c_some_lots (n + 5) (b + 100 + 30000 + 200 * 10 + 1) h4 q 5 3 t4 (by omega) (by omega) q1 q2 (by omega) (by omega) (by omega) (by omega)
  obtain ⟨x0, r, hw⟩ : ∃ x0 r, p.2 = x0 :: r := by
    cases hq : p.2 with
    | nil => rw [hq] at pw; simp at pw
    | cons a b => exact ⟨a, b, rfl⟩
  have lok : ∀ x ∈ ls ++ [x0], okLot x = true ∧ x.length ≤ 1000 := fun x hx => by
    rcases List.mem_append.mp hx with z | z
    · obtain ⟨d1, d2, d3, d4⟩ := d7 x z
      refine ⟨?_, by omega⟩
      simp only [okLot, Bool.and_eq_true, List.all_eq_true, decide_eq_true_eq]
      refine ⟨⟨?_, fun i hi => ?_⟩, (chain_asc ordI x).mpr d1⟩
      · cases x with
        | nil => exact absurd rfl d2
        | cons a b => rfl
      · have := q4 i (d3 i hi); omega
    · rw [List.mem_singleton.mp z]
      have := M.x p hp x0 (by rw [hw]; simp)
      exact ⟨this.1, by have := this.2.2; omega⟩
  obtain ⟨s6, e8, K6⟩ := fit_loop n h5 M hp (ls ++ [x0]) s5 K2 lok
  have e9 := six_false n h5 M hp K6
  have it : ev (runN G T (n + 8)) G (.bin .add (.call 29 [(.var 1), (.var 10), (.con (.int 5)), (.con (.int 3))] []) (.lst [(.sub (.var 18) (.con (.int 0)))])) s5 h4 = .ok (.lst ((ls ++ [x0]).map lotD)) h5 := by
    have q0 : ev (runN G T (n + 8)) G (.sub (.var 18) (.con (.int 0))) s5 h5 = .ok (lotD x0) h5 := by
      rw [ev_sub, ev_var, K2.p18, ro_some, rb_ok, ev_con, rb_ok, hw]
      simp [subD, atI, ixOf]
    rw [ev_bin, ev_call, evs_s, ev_var, K2.i.t1, ro_some, rb_ok, evs_s, ev_var, a10, ro_some, rb_ok, evs_s, ev_con, rb_ok, evs_s, ev_con, rb_ok, evs_0, rb_ok, rb_ok, rb_ok, rb_ok, rb_ok, e7, rb_ok, ev_lst, evs_s, q0, rb_ok, evs_0, rb_ok, rb_ok, rb_ok]
    have : ls.length + 1 ≤ line := by rw [mul_line]; omega
    simp [binop, this]
  refine ⟨s6, h5, ?_, K6.i.z, t5.mono (by omega)⟩
  unfold lapB
  rw [xcs_s, xc_set, e1, rb_ok, rb_ok]
  simp only
  rw [hs1, xcs_s, xc_set, e2, rb_ok, rb_ok]
  simp only
  rw [hs2, xcs_s, xc_ite, e3, rb_ok, truth_bl, ro_some, rb_ok]
  simp only [Bool.false_eq_true, if_false, xcs_0, rb_ok]
  rw [xcs_s, xc_for, show ev (runN G T (n + 8)) G (.range [(.con (.int 10))]) s2 h2 = .ok (.lst (rangeL 0 10)) h2 from rfl, rb_ok, show R.opt h2 (items (.lst (rangeL 0 10))) = .ok (rangeL 0 10) h2 from rfl, rb_ok, e4, rb_ok]
  simp only
  rw [xcs_s, st, rb_ok]
  simp only
  rw [xcs_s, xc_set, e6, rb_ok, rb_ok]
  simp only
  rw [hs5, xcs_s, xc_for, it, rb_ok, show R.opt h5 (items (.lst ((ls ++ [x0]).map lotD))) = .ok ((ls ++ [x0]).map lotD) h5 from rfl, rb_ok, e8, rb_ok]
  simp only
  rw [xcs_s, xc_ite, ev_not, e9, rb_ok]
  rfl
theorem laps_all (n : Nat) : ∀ (todo : List D) (b : Nat) (h : AH) (sl : Slots), In0 sl → Tin b h → b + 100000 * todo.length ≤ 200000000 →
    ∃ (sl' : Slots) (h' : AH), forR (fun d sl h => (R.opt h (setTg sl (.nm 2) d)).bind fun sl h => xcs (runN G T (n + 8)) G lapB sl h) todo sl h = .ok (.nx sl') h' ∧ In0 sl' := by
  intro todo
  induction todo with
  | nil => intro b h sl I ti _; exact ⟨sl, h, rfl, I⟩
  | cons d todo ih =>
    intro b h sl I ti hb
    rw [List.length_cons] at hb
    obtain ⟨s1, h1, e1, I1, t1⟩ := lap n b h (sl := setS sl 2 d) (I.set (by decide)) ti (by omega)
    obtain ⟨s2, h2, e2, I2⟩ := ih (b + 100000) h1 s1 I1 t1 (by omega)
    refine ⟨s2, h2, ?_, I2⟩
    rw [forR, setTg_nm, ro_some, rb_ok, e1, rb_ok]
    exact e2
end Pg

end
section
set_option linter.all false
set_option maxRecDepth 100000
set_option maxHeartbeats 4000000
/-! L26: the fixed bounds; the law. -/
namespace Pg
open PySem Ev Or
def lots6 (n : Nat) : List Lot := srt (leO ltL) ((subs (upTo 0 n)).drop 1)
def task6 (n : Nat) : Tk := (lots6 n).map fun x => (x, [[0]])
def task12 (n : Nat) : Tk := (upTo 0 n).map fun k => ([k], [[0]])
def web40 (n : Nat) : Web := (upTo 0 n).map fun k => [k]
theorem b6 : (okT (task6 6) && good (task6 6)) = true := by decide +kernel
theorem b7 : (okT (task6 7) && good (task6 7)) = false := by decide +kernel
theorem b12 : (okT (task12 12) && good (task12 12)) = true := by decide +kernel
theorem b13 : (okT (task12 13) && good (task12 13)) = false := by decide +kernel
theorem b40 : (okT [([0], web40 40)] && good [([0], web40 40)]) = true := by decide +kernel
theorem b41 : (okT [([0], web40 41)] && good [([0], web40 41)]) = false := by decide +kernel
theorem b2 : (okT [([0], [[0], [0, 1]])] && good [([0], [[0], [0, 1]])]) = false := by decide +kernel
theorem s6 : (task6 6).length ≤ 1000 ∧ ∀ p ∈ task6 6, p.1.length ≤ 1000 ∧ p.2.length ≤ 1000 ∧ ∀ x ∈ p.2, x.length ≤ 1000 := by decide +kernel
theorem s7 : (task6 7).length ≤ 1000 ∧ ∀ p ∈ task6 7, p.1.length ≤ 1000 ∧ p.2.length ≤ 1000 ∧ ∀ x ∈ p.2, x.length ≤ 1000 := by decide +kernel
theorem s12 : (task12 12).length ≤ 1000 ∧ ∀ p ∈ task12 12, p.1.length ≤ 1000 ∧ p.2.length ≤ 1000 ∧ ∀ x ∈ p.2, x.length ≤ 1000 := by decide +kernel
theorem s13 : (task12 13).length ≤ 1000 ∧ ∀ p ∈ task12 13, p.1.length ≤ 1000 ∧ p.2.length ≤ 1000 ∧ ∀ x ∈ p.2, x.length ≤ 1000 := by decide +kernel
theorem d60 {t : Tk} (s : Small t) : dat 60 (taskD t) = true := dat_mono 4 60 _ (by decide) (dat_task 0 t s)
abbrev lotsE6 (k : Int) : E := .cast .tuple (.lc (.cl (.nm 11) (.call 27 [(.cast .tuple (.range [(.con (.int k))]))] []) [] (.yl (.tup [(.var 11), (.tup [(.tup [(.con (.int 0))])])]))))
theorem task6_ev (n k : Nat) (hk : k ≤ 7) {sl : Slots} (hl : sl.length = 22) (h : AH) : ev (runN G T (n + 8)) G (lotsE6 k) sl h = .ok (taskD (task6 k)) h := by
  have q0 : ev (runN G T (n + 8)) G (.cast .tuple (.range [(.con (.int k))])) sl h = .ok (lotD (upTo 0 k)) h := by
    rw [ev_cast, ev_range, evs_s, ev_con, rb_ok, evs_0, rb_ok, rb_ok, rng_ok (by omega) (by omega), ro_some, rb_ok, show (k : Int).toNat = k by omega, rangeL_ints]
    rfl
  have ln : (lots6 k).length ≤ 1000 := by
    unfold lots6
    rw [(srt_perm _ _).length_eq, List.length_drop, subs_len, ints_len]
    have : 2 ^ k ≤ 2 ^ 7 := Nat.pow_le_pow_right (by decide) hk
    omega
  have q1 : ev (runN G T (n + 8)) G (.call 27 [(.cast .tuple (.range [(.con (.int k))]))] []) sl h = .ok (.lst ((lots6 k).map lotD)) h := by
    rw [ev_call, evs_s, q0, rb_ok, evs_0, rb_ok, rb_ok]
    exact c_law_subsets (n + 7) (upTo 0 k) h (by rw [ints_len]; omega)
  have q2 : ev (runN G T (n + 8)) G (.lc (.cl (.nm 11) (.call 27 [(.cast .tuple (.range [(.con (.int k))]))] []) [] (.yl (.tup [(.var 11), (.tup [(.tup [(.con (.int 0))])])])))) sl h = .ok (.lst ((lots6 k).map fun x => ruleD (x, [[0]]))) h :=
    lcm lotD (fun x => ruleD (x, [[0]])) q1 rfl (by omega) fun x hx => by
      have s11 : getS ((sl.set 11 none).set 11 (some (.val (lotD x)))) 11 = some (lotD x) := gs_eq (by rw [List.length_set, hl]; decide)
      rw [ev_tup, evs_s, ev_var, s11, ro_some, rb_ok]
      rfl
  unfold lotsE6
  rw [ev_cast, q2, rb_ok]
  simp [castD, seqs, task6, Function.comp_def]
abbrev lotsE12 (k : Int) : E := .cast .tuple (.lc (.cl (.nm 12) (.range [(.con (.int k))]) [] (.yl (.tup [(.tup [(.var 12)]), (.tup [(.tup [(.con (.int 0))])])]))))
theorem task12_ev (F : Fs) (k : Nat) (hk : k ≤ 100) {sl : Slots} (hl : sl.length = 22) (h : AH) : ev F G (lotsE12 k) sl h = .ok (taskD (task12 k)) h := by
  have q1 : ev F G (.range [(.con (.int k))]) sl h = .ok (.lst ((upTo 0 k).map .int)) h := by
    rw [ev_range, evs_s, ev_con, rb_ok, evs_0, rb_ok, rb_ok, rng_ok (by omega) (by omega), ro_some, show (k : Int).toNat = k by omega, rangeL_ints]
  have q2 : ev F G (.lc (.cl (.nm 12) (.range [(.con (.int k))]) [] (.yl (.tup [(.tup [(.var 12)]), (.tup [(.tup [(.con (.int 0))])])])))) sl h = .ok (.lst ((upTo 0 k).map fun i => ruleD ([i], [[0]]))) h :=
    lcm D.int (fun i => ruleD ([i], [[0]])) q1 rfl (by rw [ints_len]; omega) fun x hx => by
      have s12 : getS ((sl.set 12 none).set 12 (some (.val (.int x)))) 12 = some (.int x) := gs_eq (by rw [List.length_set, hl]; decide)
      rw [ev_tup, evs_s, ev_tup, evs_s, ev_var, s12, ro_some, rb_ok]
      rfl
  unfold lotsE12
  rw [ev_cast, q2, rb_ok]
  simp [castD, seqs, task12, Function.comp_def]
abbrev websE : E := .lc (.cl (.nm 20) (.tup [(.con (.int 40)), (.con (.int 41))]) [] (.yl (.cast .tuple (.lc (.cl (.nm 12) (.range [(.var 20)]) [] (.yl (.tup [(.var 12)])))))))
theorem webs_ev (F : Fs) {sl : Slots} (hl : sl.length = 22) (h : AH) : ev F G websE sl h = .ok (.lst [webD (web40 40), webD (web40 41)]) h := by
  refine lcm (xs := [40, 41]) (fun k : Nat => .int k) (fun k => webD (web40 k)) rfl rfl (by simp) fun k hk => ?_
  have s20 : getS ((sl.set 20 none).set 20 (some (.val (.int k)))) 20 = some (.int k) := gs_eq (by rw [List.length_set, hl]; decide)
  have hl2 : ((sl.set 20 none).set 20 (some (.val (.int k)))).length = 22 := by rw [List.length_set, List.length_set, hl]
  generalize (sl.set 20 none).set 20 (some (.val (.int k))) = s at *
  have kb : k ≤ 41 := by simp only [List.mem_cons, List.not_mem_nil, or_false] at hk; omega
  have q1 : ev F G (.range [(.var 20)]) s h = .ok (.lst ((upTo 0 k).map .int)) h := by
    rw [ev_range, evs_s, ev_var, s20, ro_some, rb_ok, evs_0, rb_ok, rb_ok, rng_ok (by omega) (by omega), ro_some, show (k : Int).toNat = k by omega, rangeL_ints]
  have q2 : ev F G (.lc (.cl (.nm 12) (.range [(.var 20)]) [] (.yl (.tup [(.var 12)])))) s h = .ok (.lst ((upTo 0 k).map fun i => lotD [i])) h :=
    lcm D.int (fun i => lotD [i]) q1 rfl (by rw [ints_len]; omega) fun x hx => by
      have s12 : getS ((s.set 12 none).set 12 (some (.val (.int x)))) 12 = some (.int x) := gs_eq (by rw [List.length_set, hl2]; decide)
      rw [ev_tup, evs_s, ev_var, s12, ro_some, rb_ok]
      rfl
  rw [ev_cast, q2, rb_ok]
  simp [castD, seqs, web40, Function.comp_def]
abbrev sevE : E := .tup [(.tup []), (.con .non), (.tup [(.tup [(.con (.int 0))]), (.tup [(.tup [(.con (.int 0))])])]), (.tup [(.tup [(.tup [(.con (.int 0))]), (.tup [(.tup [(.con (.int 0))]), (.tup [(.con (.int 0)), (.con (.int 1))])])])]), (.tup [(.tup [(.tup [(.con (.int 0))]), (.sub (.var 6) (.con (.int 0)))])]), (.tup [(.tup [(.tup [(.con (.int 0))]), (.sub (.var 6) (.con (.int 1)))])]), (.con (.int 5))]
abbrev endB : List S := [.set 3 (lotsE6 6), .set 4 (lotsE6 7), .set 5 (.lst [(.call 16 [(.var 3)] []), (.call 16 [(.var 4)] []), (.call 16 [lotsE12 12] []), (.call 16 [lotsE12 13] [])]), .set 6 websE, .set 5 (.bin .add (.var 5) (.lc (.cl (.nm 11) sevE [] (.yl (.call 16 [(.var 11)] []))))),
  .ret (.call 24 [(.var 5), (.lst [(.con (.bl true)), (.con (.bl false)), (.con (.bl true)), (.con (.bl false)), (.con (.bl false)), (.con (.bl false)), (.con (.bl false)), (.con (.bl false)), (.con (.bl true)), (.con (.bl false)), (.con (.bl false))])] [])]
theorem law_all : f_law.body = .set 1 (.call 18 [(.call 20 [(.var 0), (.con (.int 1))] []), (.con (.int 0))] []) :: .for (.nm 2) (.range [(.con (.int 5))]) lapB :: endB := rfl
theorem sm40 (k : Nat) (h : k ≤ 1000) : Small [([0], web40 k)] := by
  refine ⟨by simp, fun p hp => ?_⟩
  rw [List.mem_singleton.mp hp]
  refine ⟨by simp, by simp [web40, ints_len]; exact h, fun x hx => ?_⟩
  obtain ⟨i, _, rfl⟩ := List.mem_map.mp hx
  simp
theorem end_ev (n : Nat) {sl : Slots} (I : In0 sl) (h : AH) : xcs (runN G T (n + 8)) G endB sl h = .ok (.ret (.bl true)) h := by
  have c (t : Tk) (s : Small t) (b : Bool) (e : (okT t && good t) = b) : runN G T (n + 8) 16 [taskD t] h = .ok (.bl b) h := by
    rw [← e, ← isPlain_map]
    exact c_plain_task (n + 1) (taskD t) h (d60 s)
  have c6 := c _ s6 _ b6
  have c7 := c _ s7 _ b7
  have c12 := c _ s12 _ b12
  have c13 := c _ s13 _ b13
  have q3 := task6_ev n 6 (by decide) I.l h
  have l3 : (setS sl 3 (taskD (task6 6))).length = 22 := by rw [setS_eq, List.length_set, I.l]
  have a3 : getS (setS sl 3 (taskD (task6 6))) 3 = some (taskD (task6 6)) := gs_eq (by rw [I.l]; decide)
  generalize hs1 : setS sl 3 (taskD (task6 6)) = s1 at *
  have q4 := task6_ev n 7 (by decide) l3 h
  have l4 : (setS s1 4 (taskD (task6 7))).length = 22 := by rw [setS_eq, List.length_set, l3]
  have a4 : getS (setS s1 4 (taskD (task6 7))) 4 = some (taskD (task6 7)) := gs_eq (by rw [l3]; decide)
  have a34 : getS (setS s1 4 (taskD (task6 7))) 3 = some (taskD (task6 6)) := by rw [setS_eq, gs_ne (by decide), a3]
  generalize hs2 : setS s1 4 (taskD (task6 7)) = s2 at *
  have q12 := task12_ev (runN G T (n + 8)) 12 (by decide) l4 h
  have q13 := task12_ev (runN G T (n + 8)) 13 (by decide) l4 h
  have e5 : ev (runN G T (n + 8)) G (.lst [(.call 16 [(.var 3)] []), (.call 16 [(.var 4)] []), (.call 16 [lotsE12 12] []), (.call 16 [lotsE12 13] [])]) s2 h = .ok (.lst [.bl true, .bl false, .bl true, .bl false]) h := by
    have g1 : ev (runN G T (n + 8)) G (.call 16 [(.var 3)] []) s2 h = .ok (.bl true) h := by rw [ev_call, evs_s, ev_var, a34, ro_some, rb_ok, evs_0, rb_ok, rb_ok, c6]
    have g2 : ev (runN G T (n + 8)) G (.call 16 [(.var 4)] []) s2 h = .ok (.bl false) h := by rw [ev_call, evs_s, ev_var, a4, ro_some, rb_ok, evs_0, rb_ok, rb_ok, c7]
    have g3 : ev (runN G T (n + 8)) G (.call 16 [lotsE12 12] []) s2 h = .ok (.bl true) h := by rw [ev_call, evs_s, show ev (runN G T (n + 8)) G (lotsE12 12) s2 h = _ from q12, rb_ok, evs_0, rb_ok, rb_ok, c12]
    have g4 : ev (runN G T (n + 8)) G (.call 16 [lotsE12 13] []) s2 h = .ok (.bl false) h := by rw [ev_call, evs_s, show ev (runN G T (n + 8)) G (lotsE12 13) s2 h = _ from q13, rb_ok, evs_0, rb_ok, rb_ok, c13]
    rw [ev_lst, evs_s, g1, rb_ok, evs_s, g2, rb_ok, evs_s, g3, rb_ok, evs_s, g4, rb_ok, evs_0, rb_ok, rb_ok, rb_ok, rb_ok, rb_ok]
  have l5 : (setS s2 5 (.lst [.bl true, .bl false, .bl true, .bl false])).length = 22 := by rw [setS_eq, List.length_set, l4]
  have a5 : getS (setS s2 5 (.lst [.bl true, .bl false, .bl true, .bl false])) 5 = some (.lst [.bl true, .bl false, .bl true, .bl false]) := gs_eq (by rw [l4]; decide)
  generalize hs3 : setS s2 5 (.lst [.bl true, .bl false, .bl true, .bl false]) = s3 at *
  have q6 := webs_ev (runN G T (n + 8)) l5 h
  have l6 : (setS s3 6 (.lst [webD (web40 40), webD (web40 41)])).length = 22 := by rw [setS_eq, List.length_set, l5]
  have a6 : getS (setS s3 6 (.lst [webD (web40 40), webD (web40 41)])) 6 = some (.lst [webD (web40 40), webD (web40 41)]) := gs_eq (by rw [l5]; decide)
  have a56 : getS (setS s3 6 (.lst [webD (web40 40), webD (web40 41)])) 5 = some (.lst [.bl true, .bl false, .bl true, .bl false]) := by rw [setS_eq, gs_ne (by decide), a5]
  generalize hs4 : setS s3 6 (.lst [webD (web40 40), webD (web40 41)]) = s4 at *
  have e7 : ev (runN G T (n + 8)) G sevE s4 h = .ok (.tup [.tup [], .non, .tup [lotD [0], .tup [lotD [0]]], taskD [([0], [[0], [0, 1]])], taskD [([0], web40 40)], taskD [([0], web40 41)], .int 5]) h := by
    have g1 : ev (runN G T (n + 8)) G (.sub (.var 6) (.con (.int 0))) s4 h = .ok (webD (web40 40)) h := by rw [ev_sub, ev_var, a6]; rfl
    have g2 : ev (runN G T (n + 8)) G (.sub (.var 6) (.con (.int 1))) s4 h = .ok (webD (web40 41)) h := by rw [ev_sub, ev_var, a6]; rfl
    have t0 : ev (runN G T (n + 8)) G (.tup [(.con (.int 0))]) s4 h = .ok (lotD [0]) h := rfl
    have k1 : ev (runN G T (n + 8)) G (.tup [(.tup [(.tup [(.con (.int 0))]), (.sub (.var 6) (.con (.int 0)))])]) s4 h = .ok (taskD [([0], web40 40)]) h := by
      rw [ev_tup, evs_s, ev_tup, evs_s, t0, rb_ok, evs_s, g1, rb_ok, evs_0, rb_ok, rb_ok, rb_ok, rb_ok, evs_0, rb_ok, rb_ok]; rfl
    have k2 : ev (runN G T (n + 8)) G (.tup [(.tup [(.tup [(.con (.int 0))]), (.sub (.var 6) (.con (.int 1)))])]) s4 h = .ok (taskD [([0], web40 41)]) h := by
      rw [ev_tup, evs_s, ev_tup, evs_s, t0, rb_ok, evs_s, g2, rb_ok, evs_0, rb_ok, rb_ok, rb_ok, rb_ok, evs_0, rb_ok, rb_ok]; rfl
    have k3 : ev (runN G T (n + 8)) G (.tup []) s4 h = .ok (.tup []) h := rfl
    have k4 : ev (runN G T (n + 8)) G (.tup [(.tup [(.con (.int 0))]), (.tup [(.tup [(.con (.int 0))])])]) s4 h = .ok (.tup [lotD [0], .tup [lotD [0]]]) h := rfl
    have k5 : ev (runN G T (n + 8)) G (.tup [(.tup [(.tup [(.con (.int 0))]), (.tup [(.tup [(.con (.int 0))]), (.tup [(.con (.int 0)), (.con (.int 1))])])])]) s4 h = .ok (taskD [([0], [[0], [0, 1]])]) h := rfl
    unfold sevE
    rw [ev_tup, evs_s, k3, rb_ok, evs_s, ev_con, rb_ok, evs_s, k4, rb_ok, evs_s, k5, rb_ok, evs_s, k1, rb_ok, evs_s, k2, rb_ok, evs_s, ev_con, rb_ok, evs_0, rb_ok, rb_ok, rb_ok, rb_ok, rb_ok, rb_ok, rb_ok, rb_ok]
  have e8 : ev (runN G T (n + 8)) G (.lc (.cl (.nm 11) sevE [] (.yl (.call 16 [(.var 11)] [])))) s4 h = .ok (.lst ([(D.tup [], false), (.non, false), (.tup [lotD [0], .tup [lotD [0]]], false), (taskD [([0], [[0], [0, 1]])], false), (taskD [([0], web40 40)], true), (taskD [([0], web40 41)], false), (.int 5, false)].map fun p => .bl p.2)) h := by
    refine lcm (fun p : D × Bool => p.1) (fun p => .bl p.2) e7 rfl (by simp) fun x hx => ?_
    have s11 : getS ((s4.set 11 none).set 11 (some (.val x.1))) 11 = some x.1 := gs_eq (by rw [List.length_set, l6]; decide)
    rw [ev_call, evs_s, ev_var, s11, ro_some, rb_ok, evs_0, rb_ok, rb_ok]
    simp only [List.mem_cons, List.not_mem_nil, or_false] at hx
    rcases hx with rfl | rfl | rfl | rfl | rfl | rfl | rfl
    · exact c_plain_task (n + 1) _ h rfl
    · exact c_plain_task (n + 1) _ h rfl
    · exact c_plain_task (n + 1) _ h rfl
    · exact c _ ⟨by decide, by decide⟩ _ b2
    · exact c _ (sm40 40 (by decide)) _ b40
    · exact c _ (sm40 41 (by decide)) _ b41
    · exact c_plain_task (n + 1) _ h rfl
  have e9 : ev (runN G T (n + 8)) G (.bin .add (.var 5) (.lc (.cl (.nm 11) sevE [] (.yl (.call 16 [(.var 11)] []))))) s4 h = .ok (.lst ([true, false, true, false, false, false, false, false, true, false, false].map .bl)) h := by
    rw [ev_bin, ev_var, a56, ro_some, rb_ok, e8, rb_ok]
    rfl
  have a55 : getS (setS s4 5 (.lst ([true, false, true, false, false, false, false, false, true, false, false].map .bl))) 5 = some (.lst ([true, false, true, false, false, false, false, false, true, false, false].map .bl)) := gs_eq (by rw [l6]; decide)
  generalize hs5 : setS s4 5 (.lst ([true, false, true, false, false, false, false, false, true, false, false].map .bl)) = s5 at *
  have e10 := same_bs (n + 6) [true, false, true, false, false, false, false, false, true, false, false] [true, false, true, false, false, false, false, false, true, false, false] h (by simp)
  have e11 : ev (runN G T (n + 8)) G (.lst [(.con (.bl true)), (.con (.bl false)), (.con (.bl true)), (.con (.bl false)), (.con (.bl false)), (.con (.bl false)), (.con (.bl false)), (.con (.bl false)), (.con (.bl true)), (.con (.bl false)), (.con (.bl false))]) s5 h = .ok (.lst ([true, false, true, false, false, false, false, false, true, false, false].map .bl)) h := rfl
  unfold endB
  rw [xcs_s, xc_set, show ev (runN G T (n + 8)) G (lotsE6 6) sl h = _ from q3, rb_ok, rb_ok]
  simp only
  rw [hs1, xcs_s, xc_set, show ev (runN G T (n + 8)) G (lotsE6 7) s1 h = _ from q4, rb_ok, rb_ok]
  simp only
  rw [hs2, xcs_s, xc_set, e5, rb_ok, rb_ok]
  simp only
  rw [hs3, xcs_s, xc_set, q6, rb_ok, rb_ok]
  simp only
  rw [hs4, xcs_s, xc_set, e9, rb_ok, rb_ok]
  simp only
  rw [hs5, xcs_s, xc_ret, ev_call, evs_s, ev_var, a55, ro_some, rb_ok, evs_s, e11, rb_ok, evs_0, rb_ok, rb_ok, rb_ok]
  rw [show runN G T (n + 8) 24 _ h = _ from e10]
  rfl
theorem run_34 (n : Nat) (ds : List D) (h : AH) : runN G T (n + 1) 34 ds h = run1 (runN G T n) G f_law ds h := rfl
theorem plain_n (n : Nat) (ns : List Int) (hl : ns.length ≤ 63) : ∃ h, runN G T (n + 9) 34 [.scr (ns.map .int)] [] = .ok (.bl true) h := by
  obtain ⟨c, e1⟩ := c_cells (n + 7) ns [] hl
  obtain ⟨h1, e2, t1⟩ := c_box (n + 7) c
  obtain ⟨sl0, hs0⟩ : ∃ sl0 : Slots, sl0 = some (.val (.scr (ns.map .int))) :: List.replicate 21 none := ⟨_, rfl⟩
  have l0 : sl0.length = 22 := by rw [hs0]; rfl
  have e3 : ev (runN G T (n + 8)) G (.call 18 [(.call 20 [(.var 0), (.con (.int 1))] []), (.con (.int 0))] []) sl0 [] = .ok (.ref 0) h1 := by
    have : getS sl0 0 = some (.scr (ns.map .int)) := by rw [hs0]; rfl
    rw [ev_call, evs_s, ev_call, evs_s, ev_var, this, ro_some, rb_ok, evs_s, ev_con, rb_ok, evs_0, rb_ok, rb_ok, rb_ok, e1, rb_ok, evs_s, ev_con, rb_ok, evs_0, rb_ok, rb_ok, rb_ok]
    exact e2
  have I : In0 (setS sl0 1 (.ref 0)) := ⟨by rw [setS_eq, List.length_set, l0], gs_eq (by rw [l0]; decide)⟩
  obtain ⟨s1, h2, e4, I1⟩ := laps_all n (rangeL 0 5) 0 h1 _ I t1 (by rw [rangeL_len]; omega)
  have e5 := end_ev n I1 h2
  have e6 : xcs (runN G T (n + 8)) G f_law.body sl0 [] = .ok (.ret (.bl true)) h2 := by
    rw [law_all, xcs_s, xc_set, e3, rb_ok, rb_ok]
    simp only
    rw [xcs_s, xc_for, show ev (runN G T (n + 8)) G (.range [(.con (.int 5))]) (setS sl0 1 (.ref 0)) h1 = .ok (.lst (rangeL 0 5)) h1 from rfl, rb_ok, show R.opt h1 (items (.lst (rangeL 0 5))) = .ok (rangeL 0 5) h1 from rfl, rb_ok, e4, rb_ok]
    exact e5
  refine ⟨h2, ?_⟩
  rw [run_34]
  show (xcs (runN G T (n + 8)) G f_law.body (some (.val (.scr (ns.map .int))) :: List.replicate 21 none) []).bind _ = _
  rw [← hs0, e6]
  rfl
theorem plain (ns : List Int) (hl : ns.length ≤ 63) : ∃ h, runN G T 60 34 [.scr (ns.map D.int)] [] = .ok (.bl true) h := plain_n 51 ns hl
end Pg

end
section
set_option Elab.async false
set_option linter.all false
set_option maxRecDepth 100000
set_option maxHeartbeats 0
namespace Hd
open PySem PySem.Spec PyProof.Rows L2
def top (i : Nat) : Stmt := PySem.Challenge.pw_looktasks_k53_whole_plain_tasks.main.body.getD i (.Pass ⟨0, 0, 0, 0⟩)
def gd (i : Nat) (n : Str) : He.DefD := ⟨(n, none), n, n, defArgs (top i), defBody (top i), defScope (top i), [], []⟩
def fn : List He.DefD := [gd 4 "is_number", gd 5 "is_within", gd 6 "is_long", gd 7 "is_set_of_numbers", gd 8 "tupled", gd 9 "subsets", gd 14 "is_lot", gd 15 "is_within_lot", gd 16 "greatest_among", gd 17 "is_answer_web", gd 18 "lies_in", gd 19 "lots_within", gd 20 "is_plain_in", gd 21 "widens_in", gd 22 "sure_plain", gd 23 "sure_lot_of", gd 24 "is_plain_task", gd 25 "plain_fits", gd 27 "_law_box", gd 28 "_law_take", gd 29 "_law_cells", gd 30 "_law_of", gd 31 "_law_pick", gd 32 "_law_lists", gd 33 "_law_same", gd 34 "_law_is_int", gd 35 "_law_flat", gd 36 "_law_subsets", gd 37 "_law_greatest", gd 38 "_law_some_lots", gd 39 "_law_plain", gd 40 "_law_is_lot", gd 41 "_law_within", gd 42 "_law_is_plain", gd 43 "law"]
def fa : List He.Fa := [.glo "is_number", .glo "is_within", .glo "is_long", .glo "is_set_of_numbers", .glo "tupled", .glo "subsets", .glo "is_lot", .glo "is_within_lot", .glo "greatest_among", .glo "is_answer_web", .glo "lies_in", .glo "lots_within", .glo "is_plain_in", .glo "widens_in", .glo "sure_plain", .glo "sure_lot_of", .glo "is_plain_task", .glo "plain_fits", .glo "_law_box", .glo "_law_take", .glo "_law_cells", .glo "_law_of", .glo "_law_pick", .glo "_law_lists", .glo "_law_same", .glo "_law_is_int", .glo "_law_flat", .glo "_law_subsets", .glo "_law_greatest", .glo "_law_some_lots", .glo "_law_plain", .glo "_law_is_lot", .glo "_law_within", .glo "_law_is_plain", .glo "law", .free "len", .free "abs", .free "int", .free "max", .free "min", .free "sum", .free "all", .free "any", .free "tuple", .free "list", .free "dict", .free "sorted", .free "set", .free "isinstance", .free "bool", .free "str", .free "range", .free "enumerate", .free "zip", .int "MOST_NUMBER" 1000000, .int "MOST_LOTS" 12, .int "MOST_WORTHS" 6, .int "MOST_ANSWERS" 40]
abbrev R : PySem.W.OpenRow := PySem.W.OpenLaw.row PySem.Challenge.rw_looktasks_k53_whole_plain_tasks
abbrev hk : PySem.W.Hook := He.hookD 4 fa fn
def ob (s : PySem.W.SharedT) : He.AlD := He.obsDG 4 fa fn (HandSHeadRun.getT s)
theorem ob_eq (s : PySem.W.SharedT) : ob s = hk.obs s.abs := He.obsDG_eq (HandSHeadRun.getT_eq s)
def loose : List Str := (["__name__", "is_number", "is_within", "is_long", "is_set_of_numbers", "tupled", "subsets", "is_lot", "is_within_lot", "greatest_among", "is_answer_web", "lies_in", "lots_within", "is_plain_in", "widens_in", "sure_plain", "sure_lot_of", "is_plain_task", "plain_fits", "_law_box", "_law_take", "_law_cells", "_law_of", "_law_pick", "_law_lists"] : List Str) ++ (["_law_same", "_law_is_int", "_law_flat", "_law_subsets", "_law_greatest", "_law_some_lots", "_law_plain", "_law_is_lot", "_law_within", "_law_is_plain", "Unfit", "MOST_ANSWERS", "MOST_LOTS", "MOST_NUMBER", "MOST_WORTHS"] : List Str)
theorem run (w : World) : HandSHeadRun.RunEq R (PySem.W.view R.prog [43]) hk ob 3000 loose w := by
  intro os
  kernel_rfl
def SX : Sd.Sx := ⟨Pg.fns, Pg.gls, Pg.kws⟩
/-- where the functions stand -/
def fad (mg : Str → Option Value) (k : Nat) : Option Addr := match Pg.fns[k]? with
  | some (x, _) => match mg x with
    | some (.ref a) => some a
    | _ => none
  | none => none
theorem kp_of {K : PySem.W.Frag} {x qual : Str} {params : Arguments} {body : List Stmt} {scope : Scope} {f : Addr} {fd : FuncData} {kws : List (Str × V)} {ps ks : List Str} {perm : List Nat} (F : FunD K x qual params body scope [] kws f fd)
    (h : ∀ (kV doc pm : Value) (an : Option Addr) (cdv ct : Value) (ws : List Value), ws.length = ks.length → ∃ zs, Ev.permD ws perm = some zs ∧ zs.length = ps.length ∧ bindArgs (PySem.W.fnOf x qual params body scope .none kV doc pm an cdv ct) ⟨[], ks.zip ws⟩ = pure (ps.zip zs)) : Sd.KP K fd ps ks perm := by
  obtain ⟨oc, od, dV, kV, doc, pm, an, cdv, ct, osl, rfl, lk, hcd, hD, hK⟩ := F.ex
  rcases hD with ⟨_, rfl⟩ | ⟨e, _⟩
  · intro s ws _ hl
    obtain ⟨zs, a, b, e⟩ := h kV doc pm an cdv ct ws hl
    exact ⟨zs, a, b, .of_eq e⟩
  · exact absurd rfl e
section
variable {P : Program} {w : World} {K : PySem.W.Frag} {h : Heap} {mg : Str → Option Value}
abbrev CC (P : Program) (w : World) (K : PySem.W.Frag) (mg : Str → Option Value) : Sd.Cn := ⟨P, w, K, fad mg⟩
theorem ck_0 : Sd.chkSs SX Pg.G 400 ⟨Pg.Ns.getD 0 [], defScope (top 4), fun _ => true⟩ Pg.f_is_number.body (defBody (top 4)) = true := by kernel_rfl
theorem dn_0 (X : K.In h) (G : h.Ns mainGlobals mg) (c : He.SaysD fa fn K) : Sd.Dn (CC P w K mg) mg SX Pg.G Pg.T 0 "is_number" ["value"] := by
  obtain ⟨fd, F⟩ := c.def_ 0 (d := gd 4 "is_number") rfl
  have e := He.glo_ok X G (c.fact 0 (f := .glo "is_number") rfl)
  have e2 : fad mg 0 = some (He.ga K "is_number") := by
    show (match mg "is_number" with | some (.ref a) => some a | _ => none) = _
    rw [e]
  refine ⟨_, fd, _, _, _, _, Pg.Ns.getD 0 [], Pg.f_is_number, 400, e, e2, F, F.bindsN fun _ _ _ _ _ _ us hl => match us, hl with | [_], _ => rfl, ⟨rfl, rfl, rfl, by decide +kernel, rfl, by decide +kernel, by decide +kernel⟩, rfl, rfl, rfl, ck_0, fun q hq hk => ?_⟩
  have hq : q ∈ Pg.kws := hq
  exfalso
  have : ∀ q ∈ Pg.kws, q.1 ≠ 0 := by decide
  exact this q hq hk
theorem ck_1 : Sd.chkSs SX Pg.G 400 ⟨Pg.Ns.getD 1 [], defScope (top 5), fun _ => true⟩ Pg.f_is_within.body (defBody (top 5)) = true := by kernel_rfl
theorem dn_1 (X : K.In h) (G : h.Ns mainGlobals mg) (c : He.SaysD fa fn K) : Sd.Dn (CC P w K mg) mg SX Pg.G Pg.T 1 "is_within" ["value", "least", "most"] := by
  obtain ⟨fd, F⟩ := c.def_ 1 (d := gd 5 "is_within") rfl
  have e := He.glo_ok X G (c.fact 1 (f := .glo "is_within") rfl)
  have e2 : fad mg 1 = some (He.ga K "is_within") := by
    show (match mg "is_within" with | some (.ref a) => some a | _ => none) = _
    rw [e]
  refine ⟨_, fd, _, _, _, _, Pg.Ns.getD 1 [], Pg.f_is_within, 400, e, e2, F, F.bindsN fun _ _ _ _ _ _ us hl => match us, hl with | [_, _, _], _ => rfl, ⟨rfl, rfl, rfl, by decide +kernel, rfl, by decide +kernel, by decide +kernel⟩, rfl, rfl, rfl, ck_1, fun q hq hk => ?_⟩
  have hq : q ∈ Pg.kws := hq
  exfalso
  have : ∀ q ∈ Pg.kws, q.1 ≠ 1 := by decide
  exact this q hq hk
theorem ck_2 : Sd.chkSs SX Pg.G 400 ⟨Pg.Ns.getD 2 [], defScope (top 6), fun _ => true⟩ Pg.f_is_long.body (defBody (top 6)) = true := by kernel_rfl
theorem dn_2 (X : K.In h) (G : h.Ns mainGlobals mg) (c : He.SaysD fa fn K) : Sd.Dn (CC P w K mg) mg SX Pg.G Pg.T 2 "is_long" ["value", "size"] := by
  obtain ⟨fd, F⟩ := c.def_ 2 (d := gd 6 "is_long") rfl
  have e := He.glo_ok X G (c.fact 2 (f := .glo "is_long") rfl)
  have e2 : fad mg 2 = some (He.ga K "is_long") := by
    show (match mg "is_long" with | some (.ref a) => some a | _ => none) = _
    rw [e]
  refine ⟨_, fd, _, _, _, _, Pg.Ns.getD 2 [], Pg.f_is_long, 400, e, e2, F, F.bindsN fun _ _ _ _ _ _ us hl => match us, hl with | [_, _], _ => rfl, ⟨rfl, rfl, rfl, by decide +kernel, rfl, by decide +kernel, by decide +kernel⟩, rfl, rfl, rfl, ck_2, fun q hq hk => ?_⟩
  have hq : q ∈ Pg.kws := hq
  exfalso
  have : ∀ q ∈ Pg.kws, q.1 ≠ 2 := by decide
  exact this q hq hk
theorem ck_3 : Sd.chkSs SX Pg.G 400 ⟨Pg.Ns.getD 3 [], defScope (top 7), fun _ => true⟩ Pg.f_is_set_of_numbers.body (defBody (top 7)) = true := by kernel_rfl
theorem dn_3 (X : K.In h) (G : h.Ns mainGlobals mg) (c : He.SaysD fa fn K) : Sd.Dn (CC P w K mg) mg SX Pg.G Pg.T 3 "is_set_of_numbers" ["value", "least", "most"] := by
  obtain ⟨fd, F⟩ := c.def_ 3 (d := gd 7 "is_set_of_numbers") rfl
  have e := He.glo_ok X G (c.fact 3 (f := .glo "is_set_of_numbers") rfl)
  have e2 : fad mg 3 = some (He.ga K "is_set_of_numbers") := by
    show (match mg "is_set_of_numbers" with | some (.ref a) => some a | _ => none) = _
    rw [e]
  refine ⟨_, fd, _, _, _, _, Pg.Ns.getD 3 [], Pg.f_is_set_of_numbers, 400, e, e2, F, F.bindsN fun _ _ _ _ _ _ us hl => match us, hl with | [_, _, _], _ => rfl, ⟨rfl, rfl, rfl, by decide +kernel, rfl, by decide +kernel, by decide +kernel⟩, rfl, rfl, rfl, ck_3, fun q hq hk => ?_⟩
  have hq : q ∈ Pg.kws := hq
  exfalso
  have : ∀ q ∈ Pg.kws, q.1 ≠ 3 := by decide
  exact this q hq hk
theorem ck_4 : Sd.chkSs SX Pg.G 400 ⟨Pg.Ns.getD 4 [], defScope (top 8), fun _ => true⟩ Pg.f_tupled.body (defBody (top 8)) = true := by kernel_rfl
theorem dn_4 (X : K.In h) (G : h.Ns mainGlobals mg) (c : He.SaysD fa fn K) : Sd.Dn (CC P w K mg) mg SX Pg.G Pg.T 4 "tupled" ["value"] := by
  obtain ⟨fd, F⟩ := c.def_ 4 (d := gd 8 "tupled") rfl
  have e := He.glo_ok X G (c.fact 4 (f := .glo "tupled") rfl)
  have e2 : fad mg 4 = some (He.ga K "tupled") := by
    show (match mg "tupled" with | some (.ref a) => some a | _ => none) = _
    rw [e]
  refine ⟨_, fd, _, _, _, _, Pg.Ns.getD 4 [], Pg.f_tupled, 400, e, e2, F, F.bindsN fun _ _ _ _ _ _ us hl => match us, hl with | [_], _ => rfl, ⟨rfl, rfl, rfl, by decide +kernel, rfl, by decide +kernel, by decide +kernel⟩, rfl, rfl, rfl, ck_4, fun q hq hk => ?_⟩
  have hq : q ∈ Pg.kws := hq
  exfalso
  have : ∀ q ∈ Pg.kws, q.1 ≠ 4 := by decide
  exact this q hq hk
theorem ck_5 : Sd.chkSs SX Pg.G 400 ⟨Pg.Ns.getD 5 [], defScope (top 9), fun _ => true⟩ Pg.f_subsets.body (defBody (top 9)) = true := by kernel_rfl
theorem dn_5 (X : K.In h) (G : h.Ns mainGlobals mg) (c : He.SaysD fa fn K) : Sd.Dn (CC P w K mg) mg SX Pg.G Pg.T 5 "subsets" ["row"] := by
  obtain ⟨fd, F⟩ := c.def_ 5 (d := gd 9 "subsets") rfl
  have e := He.glo_ok X G (c.fact 5 (f := .glo "subsets") rfl)
  have e2 : fad mg 5 = some (He.ga K "subsets") := by
    show (match mg "subsets" with | some (.ref a) => some a | _ => none) = _
    rw [e]
  refine ⟨_, fd, _, _, _, _, Pg.Ns.getD 5 [], Pg.f_subsets, 400, e, e2, F, F.bindsN fun _ _ _ _ _ _ us hl => match us, hl with | [_], _ => rfl, ⟨rfl, rfl, rfl, by decide +kernel, rfl, by decide +kernel, by decide +kernel⟩, rfl, rfl, rfl, ck_5, fun q hq hk => ?_⟩
  have hq : q ∈ Pg.kws := hq
  exfalso
  have : ∀ q ∈ Pg.kws, q.1 ≠ 5 := by decide
  exact this q hq hk
theorem ck_6 : Sd.chkSs SX Pg.G 400 ⟨Pg.Ns.getD 6 [], defScope (top 14), fun _ => true⟩ Pg.f_is_lot.body (defBody (top 14)) = true := by kernel_rfl
theorem dn_6 (X : K.In h) (G : h.Ns mainGlobals mg) (c : He.SaysD fa fn K) : Sd.Dn (CC P w K mg) mg SX Pg.G Pg.T 6 "is_lot" ["thing"] := by
  obtain ⟨fd, F⟩ := c.def_ 6 (d := gd 14 "is_lot") rfl
  have e := He.glo_ok X G (c.fact 6 (f := .glo "is_lot") rfl)
  have e2 : fad mg 6 = some (He.ga K "is_lot") := by
    show (match mg "is_lot" with | some (.ref a) => some a | _ => none) = _
    rw [e]
  refine ⟨_, fd, _, _, _, _, Pg.Ns.getD 6 [], Pg.f_is_lot, 400, e, e2, F, F.bindsN fun _ _ _ _ _ _ us hl => match us, hl with | [_], _ => rfl, ⟨rfl, rfl, rfl, by decide +kernel, rfl, by decide +kernel, by decide +kernel⟩, rfl, rfl, rfl, ck_6, fun q hq hk => ?_⟩
  have hq : q ∈ Pg.kws := hq
  exfalso
  have : ∀ q ∈ Pg.kws, q.1 ≠ 6 := by decide
  exact this q hq hk
theorem ck_7 : Sd.chkSs SX Pg.G 400 ⟨Pg.Ns.getD 7 [], defScope (top 15), fun _ => true⟩ Pg.f_is_within_lot.body (defBody (top 15)) = true := by kernel_rfl
theorem dn_7 (X : K.In h) (G : h.Ns mainGlobals mg) (c : He.SaysD fa fn K) : Sd.Dn (CC P w K mg) mg SX Pg.G Pg.T 7 "is_within_lot" ["one", "other"] := by
  obtain ⟨fd, F⟩ := c.def_ 7 (d := gd 15 "is_within_lot") rfl
  have e := He.glo_ok X G (c.fact 7 (f := .glo "is_within_lot") rfl)
  have e2 : fad mg 7 = some (He.ga K "is_within_lot") := by
    show (match mg "is_within_lot" with | some (.ref a) => some a | _ => none) = _
    rw [e]
  refine ⟨_, fd, _, _, _, _, Pg.Ns.getD 7 [], Pg.f_is_within_lot, 400, e, e2, F, F.bindsN fun _ _ _ _ _ _ us hl => match us, hl with | [_, _], _ => rfl, ⟨rfl, rfl, rfl, by decide +kernel, rfl, by decide +kernel, by decide +kernel⟩, rfl, rfl, rfl, ck_7, fun q hq hk => ?_⟩
  have hq : q ∈ Pg.kws := hq
  exfalso
  have : ∀ q ∈ Pg.kws, q.1 ≠ 7 := by decide
  exact this q hq hk
theorem ck_8 : Sd.chkSs SX Pg.G 400 ⟨Pg.Ns.getD 8 [], defScope (top 16), fun _ => true⟩ Pg.f_greatest_among.body (defBody (top 16)) = true := by kernel_rfl
theorem dn_8 (X : K.In h) (G : h.Ns mainGlobals mg) (c : He.SaysD fa fn K) : Sd.Dn (CC P w K mg) mg SX Pg.G Pg.T 8 "greatest_among" ["lots"] := by
  obtain ⟨fd, F⟩ := c.def_ 8 (d := gd 16 "greatest_among") rfl
  have e := He.glo_ok X G (c.fact 8 (f := .glo "greatest_among") rfl)
  have e2 : fad mg 8 = some (He.ga K "greatest_among") := by
    show (match mg "greatest_among" with | some (.ref a) => some a | _ => none) = _
    rw [e]
  refine ⟨_, fd, _, _, _, _, Pg.Ns.getD 8 [], Pg.f_greatest_among, 400, e, e2, F, F.bindsN fun _ _ _ _ _ _ us hl => match us, hl with | [_], _ => rfl, ⟨rfl, rfl, rfl, by decide +kernel, rfl, by decide +kernel, by decide +kernel⟩, rfl, rfl, rfl, ck_8, fun q hq hk => ?_⟩
  have hq : q ∈ Pg.kws := hq
  exfalso
  have : ∀ q ∈ Pg.kws, q.1 ≠ 8 := by decide
  exact this q hq hk
theorem ck_9 : Sd.chkSs SX Pg.G 400 ⟨Pg.Ns.getD 9 [], defScope (top 17), fun _ => true⟩ Pg.f_is_answer_web.body (defBody (top 17)) = true := by kernel_rfl
theorem dn_9 (X : K.In h) (G : h.Ns mainGlobals mg) (c : He.SaysD fa fn K) : Sd.Dn (CC P w K mg) mg SX Pg.G Pg.T 9 "is_answer_web" ["thing"] := by
  obtain ⟨fd, F⟩ := c.def_ 9 (d := gd 17 "is_answer_web") rfl
  have e := He.glo_ok X G (c.fact 9 (f := .glo "is_answer_web") rfl)
  have e2 : fad mg 9 = some (He.ga K "is_answer_web") := by
    show (match mg "is_answer_web" with | some (.ref a) => some a | _ => none) = _
    rw [e]
  refine ⟨_, fd, _, _, _, _, Pg.Ns.getD 9 [], Pg.f_is_answer_web, 400, e, e2, F, F.bindsN fun _ _ _ _ _ _ us hl => match us, hl with | [_], _ => rfl, ⟨rfl, rfl, rfl, by decide +kernel, rfl, by decide +kernel, by decide +kernel⟩, rfl, rfl, rfl, ck_9, fun q hq hk => ?_⟩
  have hq : q ∈ Pg.kws := hq
  exfalso
  have : ∀ q ∈ Pg.kws, q.1 ≠ 9 := by decide
  exact this q hq hk
theorem ck_10 : Sd.chkSs SX Pg.G 400 ⟨Pg.Ns.getD 10 [], defScope (top 18), fun _ => true⟩ Pg.f_lies_in.body (defBody (top 18)) = true := by kernel_rfl
theorem dn_10 (X : K.In h) (G : h.Ns mainGlobals mg) (c : He.SaysD fa fn K) : Sd.Dn (CC P w K mg) mg SX Pg.G Pg.T 10 "lies_in" ["web", "lot"] := by
  obtain ⟨fd, F⟩ := c.def_ 10 (d := gd 18 "lies_in") rfl
  have e := He.glo_ok X G (c.fact 10 (f := .glo "lies_in") rfl)
  have e2 : fad mg 10 = some (He.ga K "lies_in") := by
    show (match mg "lies_in" with | some (.ref a) => some a | _ => none) = _
    rw [e]
  refine ⟨_, fd, _, _, _, _, Pg.Ns.getD 10 [], Pg.f_lies_in, 400, e, e2, F, F.bindsN fun _ _ _ _ _ _ us hl => match us, hl with | [_, _], _ => rfl, ⟨rfl, rfl, rfl, by decide +kernel, rfl, by decide +kernel, by decide +kernel⟩, rfl, rfl, rfl, ck_10, fun q hq hk => ?_⟩
  have hq : q ∈ Pg.kws := hq
  exfalso
  have : ∀ q ∈ Pg.kws, q.1 ≠ 10 := by decide
  exact this q hq hk
theorem ck_11 : Sd.chkSs SX Pg.G 400 ⟨Pg.Ns.getD 11 [], defScope (top 19), fun _ => true⟩ Pg.f_lots_within.body (defBody (top 19)) = true := by kernel_rfl
theorem dn_11 (X : K.In h) (G : h.Ns mainGlobals mg) (c : He.SaysD fa fn K) : Sd.Dn (CC P w K mg) mg SX Pg.G Pg.T 11 "lots_within" ["lot"] := by
  obtain ⟨fd, F⟩ := c.def_ 11 (d := gd 19 "lots_within") rfl
  have e := He.glo_ok X G (c.fact 11 (f := .glo "lots_within") rfl)
  have e2 : fad mg 11 = some (He.ga K "lots_within") := by
    show (match mg "lots_within" with | some (.ref a) => some a | _ => none) = _
    rw [e]
  refine ⟨_, fd, _, _, _, _, Pg.Ns.getD 11 [], Pg.f_lots_within, 400, e, e2, F, F.bindsN fun _ _ _ _ _ _ us hl => match us, hl with | [_], _ => rfl, ⟨rfl, rfl, rfl, by decide +kernel, rfl, by decide +kernel, by decide +kernel⟩, rfl, rfl, rfl, ck_11, fun q hq hk => ?_⟩
  have hq : q ∈ Pg.kws := hq
  exfalso
  have : ∀ q ∈ Pg.kws, q.1 ≠ 11 := by decide
  exact this q hq hk
theorem ck_12 : Sd.chkSs SX Pg.G 400 ⟨Pg.Ns.getD 12 [], defScope (top 20), fun _ => true⟩ Pg.f_is_plain_in.body (defBody (top 20)) = true := by kernel_rfl
theorem dn_12 (X : K.In h) (G : h.Ns mainGlobals mg) (c : He.SaysD fa fn K) : Sd.Dn (CC P w K mg) mg SX Pg.G Pg.T 12 "is_plain_in" ["value"] := by
  obtain ⟨fd, F⟩ := c.def_ 12 (d := gd 20 "is_plain_in") rfl
  have e := He.glo_ok X G (c.fact 12 (f := .glo "is_plain_in") rfl)
  have e2 : fad mg 12 = some (He.ga K "is_plain_in") := by
    show (match mg "is_plain_in" with | some (.ref a) => some a | _ => none) = _
    rw [e]
  refine ⟨_, fd, _, _, _, _, Pg.Ns.getD 12 [], Pg.f_is_plain_in, 400, e, e2, F, F.bindsN fun _ _ _ _ _ _ us hl => match us, hl with | [_], _ => rfl, ⟨rfl, rfl, rfl, by decide +kernel, rfl, by decide +kernel, by decide +kernel⟩, rfl, rfl, rfl, ck_12, fun q hq hk => ?_⟩
  have hq : q ∈ Pg.kws := hq
  exfalso
  have : ∀ q ∈ Pg.kws, q.1 ≠ 12 := by decide
  exact this q hq hk
theorem ck_13 : Sd.chkSs SX Pg.G 400 ⟨Pg.Ns.getD 13 [], defScope (top 21), fun _ => true⟩ Pg.f_widens_in.body (defBody (top 21)) = true := by kernel_rfl
theorem dn_13 (X : K.In h) (G : h.Ns mainGlobals mg) (c : He.SaysD fa fn K) : Sd.Dn (CC P w K mg) mg SX Pg.G Pg.T 13 "widens_in" ["rules"] := by
  obtain ⟨fd, F⟩ := c.def_ 13 (d := gd 21 "widens_in") rfl
  have e := He.glo_ok X G (c.fact 13 (f := .glo "widens_in") rfl)
  have e2 : fad mg 13 = some (He.ga K "widens_in") := by
    show (match mg "widens_in" with | some (.ref a) => some a | _ => none) = _
    rw [e]
  refine ⟨_, fd, _, _, _, _, Pg.Ns.getD 13 [], Pg.f_widens_in, 400, e, e2, F, F.bindsN fun _ _ _ _ _ _ us hl => match us, hl with | [_], _ => rfl, ⟨rfl, rfl, rfl, by decide +kernel, rfl, by decide +kernel, by decide +kernel⟩, rfl, rfl, rfl, ck_13, fun q hq hk => ?_⟩
  have hq : q ∈ Pg.kws := hq
  exfalso
  have : ∀ q ∈ Pg.kws, q.1 ≠ 13 := by decide
  exact this q hq hk
theorem ck_14 : Sd.chkSs SX Pg.G 400 ⟨Pg.Ns.getD 14 [], defScope (top 22), fun _ => true⟩ Pg.f_sure_plain.body (defBody (top 22)) = true := by kernel_rfl
theorem dn_14 (X : K.In h) (G : h.Ns mainGlobals mg) (c : He.SaysD fa fn K) : Sd.Dn (CC P w K mg) mg SX Pg.G Pg.T 14 "sure_plain" ["value"] := by
  obtain ⟨fd, F⟩ := c.def_ 14 (d := gd 22 "sure_plain") rfl
  have e := He.glo_ok X G (c.fact 14 (f := .glo "sure_plain") rfl)
  have e2 : fad mg 14 = some (He.ga K "sure_plain") := by
    show (match mg "sure_plain" with | some (.ref a) => some a | _ => none) = _
    rw [e]
  refine ⟨_, fd, _, _, _, _, Pg.Ns.getD 14 [], Pg.f_sure_plain, 400, e, e2, F, F.bindsN fun _ _ _ _ _ _ us hl => match us, hl with | [_], _ => rfl, ⟨rfl, rfl, rfl, by decide +kernel, rfl, by decide +kernel, by decide +kernel⟩, rfl, rfl, rfl, ck_14, fun q hq hk => ?_⟩
  have hq : q ∈ Pg.kws := hq
  exfalso
  have : ∀ q ∈ Pg.kws, q.1 ≠ 14 := by decide
  exact this q hq hk
theorem ck_15 : Sd.chkSs SX Pg.G 400 ⟨Pg.Ns.getD 15 [], defScope (top 23), fun _ => true⟩ Pg.f_sure_lot_of.body (defBody (top 23)) = true := by kernel_rfl
theorem dn_15 (X : K.In h) (G : h.Ns mainGlobals mg) (c : He.SaysD fa fn K) : Sd.Dn (CC P w K mg) mg SX Pg.G Pg.T 15 "sure_lot_of" ["task", "value"] := by
  obtain ⟨fd, F⟩ := c.def_ 15 (d := gd 23 "sure_lot_of") rfl
  have e := He.glo_ok X G (c.fact 15 (f := .glo "sure_lot_of") rfl)
  have e2 : fad mg 15 = some (He.ga K "sure_lot_of") := by
    show (match mg "sure_lot_of" with | some (.ref a) => some a | _ => none) = _
    rw [e]
  refine ⟨_, fd, _, _, _, _, Pg.Ns.getD 15 [], Pg.f_sure_lot_of, 400, e, e2, F, F.bindsN fun _ _ _ _ _ _ us hl => match us, hl with | [_, _], _ => rfl, ⟨rfl, rfl, rfl, by decide +kernel, rfl, by decide +kernel, by decide +kernel⟩, rfl, rfl, rfl, ck_15, fun q hq hk => ?_⟩
  have hq : q ∈ Pg.kws := hq
  exfalso
  have : ∀ q ∈ Pg.kws, q.1 ≠ 15 := by decide
  exact this q hq hk
theorem ck_16 : Sd.chkSs SX Pg.G 400 ⟨Pg.Ns.getD 16 [], defScope (top 24), fun _ => true⟩ Pg.f_is_plain_task.body (defBody (top 24)) = true := by kernel_rfl
theorem dn_16 (X : K.In h) (G : h.Ns mainGlobals mg) (c : He.SaysD fa fn K) : Sd.Dn (CC P w K mg) mg SX Pg.G Pg.T 16 "is_plain_task" ["thing"] := by
  obtain ⟨fd, F⟩ := c.def_ 16 (d := gd 24 "is_plain_task") rfl
  have e := He.glo_ok X G (c.fact 16 (f := .glo "is_plain_task") rfl)
  have e2 : fad mg 16 = some (He.ga K "is_plain_task") := by
    show (match mg "is_plain_task" with | some (.ref a) => some a | _ => none) = _
    rw [e]
  refine ⟨_, fd, _, _, _, _, Pg.Ns.getD 16 [], Pg.f_is_plain_task, 400, e, e2, F, F.bindsN fun _ _ _ _ _ _ us hl => match us, hl with | [_], _ => rfl, ⟨rfl, rfl, rfl, by decide +kernel, rfl, by decide +kernel, by decide +kernel⟩, rfl, rfl, rfl, ck_16, fun q hq hk => ?_⟩
  have hq : q ∈ Pg.kws := hq
  exfalso
  have : ∀ q ∈ Pg.kws, q.1 ≠ 16 := by decide
  exact this q hq hk
theorem ck_17 : Sd.chkSs SX Pg.G 400 ⟨Pg.Ns.getD 17 [], defScope (top 25), fun _ => true⟩ Pg.f_plain_fits.body (defBody (top 25)) = true := by kernel_rfl
theorem dn_17 (X : K.In h) (G : h.Ns mainGlobals mg) (c : He.SaysD fa fn K) : Sd.Dn (CC P w K mg) mg SX Pg.G Pg.T 17 "plain_fits" ["task", "lot", "thing"] := by
  obtain ⟨fd, F⟩ := c.def_ 17 (d := gd 25 "plain_fits") rfl
  have e := He.glo_ok X G (c.fact 17 (f := .glo "plain_fits") rfl)
  have e2 : fad mg 17 = some (He.ga K "plain_fits") := by
    show (match mg "plain_fits" with | some (.ref a) => some a | _ => none) = _
    rw [e]
  refine ⟨_, fd, _, _, _, _, Pg.Ns.getD 17 [], Pg.f_plain_fits, 400, e, e2, F, F.bindsN fun _ _ _ _ _ _ us hl => match us, hl with | [_, _, _], _ => rfl, ⟨rfl, rfl, rfl, by decide +kernel, rfl, by decide +kernel, by decide +kernel⟩, rfl, rfl, rfl, ck_17, fun q hq hk => ?_⟩
  have hq : q ∈ Pg.kws := hq
  have : ∀ q ∈ Pg.kws, q.1 = 17 → q = (17, [("thing" : Str), ("lot" : Str), ("task" : Str)], [2, 1, 0]) := by decide
  rcases this q hq hk with e
  · subst e
    exact kp_of F fun kV doc pm an cdv ct ws hl => match ws, hl with | [w0, w1, w2], _ => ⟨[w2, w1, w0], rfl, rfl, rfl⟩
theorem ck_18 : Sd.chkSs SX Pg.G 400 ⟨Pg.Ns.getD 18 [], defScope (top 27), fun _ => true⟩ Pg.f__law_box.body (defBody (top 27)) = true := by kernel_rfl
theorem dn_18 (X : K.In h) (G : h.Ns mainGlobals mg) (c : He.SaysD fa fn K) : Sd.Dn (CC P w K mg) mg SX Pg.G Pg.T 18 "_law_box" ["script", "k"] := by
  obtain ⟨fd, F⟩ := c.def_ 18 (d := gd 27 "_law_box") rfl
  have e := He.glo_ok X G (c.fact 18 (f := .glo "_law_box") rfl)
  have e2 : fad mg 18 = some (He.ga K "_law_box") := by
    show (match mg "_law_box" with | some (.ref a) => some a | _ => none) = _
    rw [e]
  refine ⟨_, fd, _, _, _, _, Pg.Ns.getD 18 [], Pg.f__law_box, 400, e, e2, F, F.bindsN fun _ _ _ _ _ _ us hl => match us, hl with | [_, _], _ => rfl, ⟨rfl, rfl, rfl, by decide +kernel, rfl, by decide +kernel, by decide +kernel⟩, rfl, rfl, rfl, ck_18, fun q hq hk => ?_⟩
  have hq : q ∈ Pg.kws := hq
  exfalso
  have : ∀ q ∈ Pg.kws, q.1 ≠ 18 := by decide
  exact this q hq hk
theorem ck_19 : Sd.chkSs SX Pg.G 400 ⟨Pg.Ns.getD 19 [], defScope (top 28), fun _ => true⟩ Pg.f__law_take.body (defBody (top 28)) = true := by kernel_rfl
theorem dn_19 (X : K.In h) (G : h.Ns mainGlobals mg) (c : He.SaysD fa fn K) : Sd.Dn (CC P w K mg) mg SX Pg.G Pg.T 19 "_law_take" ["tin", "below_so"] := by
  obtain ⟨fd, F⟩ := c.def_ 19 (d := gd 28 "_law_take") rfl
  have e := He.glo_ok X G (c.fact 19 (f := .glo "_law_take") rfl)
  have e2 : fad mg 19 = some (He.ga K "_law_take") := by
    show (match mg "_law_take" with | some (.ref a) => some a | _ => none) = _
    rw [e]
  refine ⟨_, fd, _, _, _, _, Pg.Ns.getD 19 [], Pg.f__law_take, 400, e, e2, F, F.bindsN fun _ _ _ _ _ _ us hl => match us, hl with | [_, _], _ => rfl, ⟨rfl, rfl, rfl, by decide +kernel, rfl, by decide +kernel, by decide +kernel⟩, rfl, rfl, rfl, ck_19, fun q hq hk => ?_⟩
  have hq : q ∈ Pg.kws := hq
  exfalso
  have : ∀ q ∈ Pg.kws, q.1 ≠ 19 := by decide
  exact this q hq hk
theorem ck_20 : Sd.chkSs SX Pg.G 400 ⟨Pg.Ns.getD 20 [], defScope (top 29), fun _ => true⟩ Pg.f__law_cells.body (defBody (top 29)) = true := by kernel_rfl
theorem dn_20 (X : K.In h) (G : h.Ns mainGlobals mg) (c : He.SaysD fa fn K) : Sd.Dn (CC P w K mg) mg SX Pg.G Pg.T 20 "_law_cells" ["script", "most_so"] := by
  obtain ⟨fd, F⟩ := c.def_ 20 (d := gd 29 "_law_cells") rfl
  have e := He.glo_ok X G (c.fact 20 (f := .glo "_law_cells") rfl)
  have e2 : fad mg 20 = some (He.ga K "_law_cells") := by
    show (match mg "_law_cells" with | some (.ref a) => some a | _ => none) = _
    rw [e]
  refine ⟨_, fd, _, _, _, _, Pg.Ns.getD 20 [], Pg.f__law_cells, 400, e, e2, F, F.bindsN fun _ _ _ _ _ _ us hl => match us, hl with | [_, _], _ => rfl, ⟨rfl, rfl, rfl, by decide +kernel, rfl, by decide +kernel, by decide +kernel⟩, rfl, rfl, rfl, ck_20, fun q hq hk => ?_⟩
  have hq : q ∈ Pg.kws := hq
  exfalso
  have : ∀ q ∈ Pg.kws, q.1 ≠ 20 := by decide
  exact this q hq hk
theorem ck_21 : Sd.chkSs SX Pg.G 400 ⟨Pg.Ns.getD 21 [], defScope (top 30), fun _ => true⟩ Pg.f__law_of.body (defBody (top 30)) = true := by kernel_rfl
theorem dn_21 (X : K.In h) (G : h.Ns mainGlobals mg) (c : He.SaysD fa fn K) : Sd.Dn (CC P w K mg) mg SX Pg.G Pg.T 21 "_law_of" ["tin", "goods_so"] := by
  obtain ⟨fd, F⟩ := c.def_ 21 (d := gd 30 "_law_of") rfl
  have e := He.glo_ok X G (c.fact 21 (f := .glo "_law_of") rfl)
  have e2 : fad mg 21 = some (He.ga K "_law_of") := by
    show (match mg "_law_of" with | some (.ref a) => some a | _ => none) = _
    rw [e]
  refine ⟨_, fd, _, _, _, _, Pg.Ns.getD 21 [], Pg.f__law_of, 400, e, e2, F, F.bindsN fun _ _ _ _ _ _ us hl => match us, hl with | [_, _], _ => rfl, ⟨rfl, rfl, rfl, by decide +kernel, rfl, by decide +kernel, by decide +kernel⟩, rfl, rfl, rfl, ck_21, fun q hq hk => ?_⟩
  have hq : q ∈ Pg.kws := hq
  exfalso
  have : ∀ q ∈ Pg.kws, q.1 ≠ 21 := by decide
  exact this q hq hk
theorem ck_22 : Sd.chkSs SX Pg.G 400 ⟨Pg.Ns.getD 22 [], defScope (top 31), fun _ => true⟩ Pg.f__law_pick.body (defBody (top 31)) = true := by kernel_rfl
theorem dn_22 (X : K.In h) (G : h.Ns mainGlobals mg) (c : He.SaysD fa fn K) : Sd.Dn (CC P w K mg) mg SX Pg.G Pg.T 22 "_law_pick" ["tin", "goods_so", "count_so"] := by
  obtain ⟨fd, F⟩ := c.def_ 22 (d := gd 31 "_law_pick") rfl
  have e := He.glo_ok X G (c.fact 22 (f := .glo "_law_pick") rfl)
  have e2 : fad mg 22 = some (He.ga K "_law_pick") := by
    show (match mg "_law_pick" with | some (.ref a) => some a | _ => none) = _
    rw [e]
  refine ⟨_, fd, _, _, _, _, Pg.Ns.getD 22 [], Pg.f__law_pick, 400, e, e2, F, F.bindsN fun _ _ _ _ _ _ us hl => match us, hl with | [_, _, _], _ => rfl, ⟨rfl, rfl, rfl, by decide +kernel, rfl, by decide +kernel, by decide +kernel⟩, rfl, rfl, rfl, ck_22, fun q hq hk => ?_⟩
  have hq : q ∈ Pg.kws := hq
  exfalso
  have : ∀ q ∈ Pg.kws, q.1 ≠ 22 := by decide
  exact this q hq hk
theorem ck_23 : Sd.chkSs SX Pg.G 400 ⟨Pg.Ns.getD 23 [], defScope (top 32), fun _ => true⟩ Pg.f__law_lists.body (defBody (top 32)) = true := by kernel_rfl
theorem dn_23 (X : K.In h) (G : h.Ns mainGlobals mg) (c : He.SaysD fa fn K) : Sd.Dn (CC P w K mg) mg SX Pg.G Pg.T 23 "_law_lists" ["matter"] := by
  obtain ⟨fd, F⟩ := c.def_ 23 (d := gd 32 "_law_lists") rfl
  have e := He.glo_ok X G (c.fact 23 (f := .glo "_law_lists") rfl)
  have e2 : fad mg 23 = some (He.ga K "_law_lists") := by
    show (match mg "_law_lists" with | some (.ref a) => some a | _ => none) = _
    rw [e]
  refine ⟨_, fd, _, _, _, _, Pg.Ns.getD 23 [], Pg.f__law_lists, 400, e, e2, F, F.bindsN fun _ _ _ _ _ _ us hl => match us, hl with | [_], _ => rfl, ⟨rfl, rfl, rfl, by decide +kernel, rfl, by decide +kernel, by decide +kernel⟩, rfl, rfl, rfl, ck_23, fun q hq hk => ?_⟩
  have hq : q ∈ Pg.kws := hq
  exfalso
  have : ∀ q ∈ Pg.kws, q.1 ≠ 23 := by decide
  exact this q hq hk
theorem ck_24 : Sd.chkSs SX Pg.G 400 ⟨Pg.Ns.getD 24 [], defScope (top 33), fun _ => true⟩ Pg.f__law_same.body (defBody (top 33)) = true := by kernel_rfl
theorem dn_24 (X : K.In h) (G : h.Ns mainGlobals mg) (c : He.SaysD fa fn K) : Sd.Dn (CC P w K mg) mg SX Pg.G Pg.T 24 "_law_same" ["got", "due"] := by
  obtain ⟨fd, F⟩ := c.def_ 24 (d := gd 33 "_law_same") rfl
  have e := He.glo_ok X G (c.fact 24 (f := .glo "_law_same") rfl)
  have e2 : fad mg 24 = some (He.ga K "_law_same") := by
    show (match mg "_law_same" with | some (.ref a) => some a | _ => none) = _
    rw [e]
  refine ⟨_, fd, _, _, _, _, Pg.Ns.getD 24 [], Pg.f__law_same, 400, e, e2, F, F.bindsN fun _ _ _ _ _ _ us hl => match us, hl with | [_, _], _ => rfl, ⟨rfl, rfl, rfl, by decide +kernel, rfl, by decide +kernel, by decide +kernel⟩, rfl, rfl, rfl, ck_24, fun q hq hk => ?_⟩
  have hq : q ∈ Pg.kws := hq
  exfalso
  have : ∀ q ∈ Pg.kws, q.1 ≠ 24 := by decide
  exact this q hq hk
theorem ck_25 : Sd.chkSs SX Pg.G 400 ⟨Pg.Ns.getD 25 [], defScope (top 34), fun _ => true⟩ Pg.f__law_is_int.body (defBody (top 34)) = true := by kernel_rfl
theorem dn_25 (X : K.In h) (G : h.Ns mainGlobals mg) (c : He.SaysD fa fn K) : Sd.Dn (CC P w K mg) mg SX Pg.G Pg.T 25 "_law_is_int" ["k"] := by
  obtain ⟨fd, F⟩ := c.def_ 25 (d := gd 34 "_law_is_int") rfl
  have e := He.glo_ok X G (c.fact 25 (f := .glo "_law_is_int") rfl)
  have e2 : fad mg 25 = some (He.ga K "_law_is_int") := by
    show (match mg "_law_is_int" with | some (.ref a) => some a | _ => none) = _
    rw [e]
  refine ⟨_, fd, _, _, _, _, Pg.Ns.getD 25 [], Pg.f__law_is_int, 400, e, e2, F, F.bindsN fun _ _ _ _ _ _ us hl => match us, hl with | [_], _ => rfl, ⟨rfl, rfl, rfl, by decide +kernel, rfl, by decide +kernel, by decide +kernel⟩, rfl, rfl, rfl, ck_25, fun q hq hk => ?_⟩
  have hq : q ∈ Pg.kws := hq
  exfalso
  have : ∀ q ∈ Pg.kws, q.1 ≠ 25 := by decide
  exact this q hq hk
theorem ck_26 : Sd.chkSs SX Pg.G 400 ⟨Pg.Ns.getD 26 [], defScope (top 35), fun _ => true⟩ Pg.f__law_flat.body (defBody (top 35)) = true := by kernel_rfl
theorem dn_26 (X : K.In h) (G : h.Ns mainGlobals mg) (c : He.SaysD fa fn K) : Sd.Dn (CC P w K mg) mg SX Pg.G Pg.T 26 "_law_flat" ["rows_so"] := by
  obtain ⟨fd, F⟩ := c.def_ 26 (d := gd 35 "_law_flat") rfl
  have e := He.glo_ok X G (c.fact 26 (f := .glo "_law_flat") rfl)
  have e2 : fad mg 26 = some (He.ga K "_law_flat") := by
    show (match mg "_law_flat" with | some (.ref a) => some a | _ => none) = _
    rw [e]
  refine ⟨_, fd, _, _, _, _, Pg.Ns.getD 26 [], Pg.f__law_flat, 400, e, e2, F, F.bindsN fun _ _ _ _ _ _ us hl => match us, hl with | [_], _ => rfl, ⟨rfl, rfl, rfl, by decide +kernel, rfl, by decide +kernel, by decide +kernel⟩, rfl, rfl, rfl, ck_26, fun q hq hk => ?_⟩
  have hq : q ∈ Pg.kws := hq
  exfalso
  have : ∀ q ∈ Pg.kws, q.1 ≠ 26 := by decide
  exact this q hq hk
theorem ck_27 : Sd.chkSs SX Pg.G 400 ⟨Pg.Ns.getD 27 [], defScope (top 36), fun _ => true⟩ Pg.f__law_subsets.body (defBody (top 36)) = true := by kernel_rfl
theorem dn_27 (X : K.In h) (G : h.Ns mainGlobals mg) (c : He.SaysD fa fn K) : Sd.Dn (CC P w K mg) mg SX Pg.G Pg.T 27 "_law_subsets" ["row_so"] := by
  obtain ⟨fd, F⟩ := c.def_ 27 (d := gd 36 "_law_subsets") rfl
  have e := He.glo_ok X G (c.fact 27 (f := .glo "_law_subsets") rfl)
  have e2 : fad mg 27 = some (He.ga K "_law_subsets") := by
    show (match mg "_law_subsets" with | some (.ref a) => some a | _ => none) = _
    rw [e]
  refine ⟨_, fd, _, _, _, _, Pg.Ns.getD 27 [], Pg.f__law_subsets, 400, e, e2, F, F.bindsN fun _ _ _ _ _ _ us hl => match us, hl with | [_], _ => rfl, ⟨rfl, rfl, rfl, by decide +kernel, rfl, by decide +kernel, by decide +kernel⟩, rfl, rfl, rfl, ck_27, fun q hq hk => ?_⟩
  have hq : q ∈ Pg.kws := hq
  exfalso
  have : ∀ q ∈ Pg.kws, q.1 ≠ 27 := by decide
  exact this q hq hk
theorem ck_28 : Sd.chkSs SX Pg.G 400 ⟨Pg.Ns.getD 28 [], defScope (top 37), fun _ => true⟩ Pg.f__law_greatest.body (defBody (top 37)) = true := by kernel_rfl
theorem dn_28 (X : K.In h) (G : h.Ns mainGlobals mg) (c : He.SaysD fa fn K) : Sd.Dn (CC P w K mg) mg SX Pg.G Pg.T 28 "_law_greatest" ["lots_so"] := by
  obtain ⟨fd, F⟩ := c.def_ 28 (d := gd 37 "_law_greatest") rfl
  have e := He.glo_ok X G (c.fact 28 (f := .glo "_law_greatest") rfl)
  have e2 : fad mg 28 = some (He.ga K "_law_greatest") := by
    show (match mg "_law_greatest" with | some (.ref a) => some a | _ => none) = _
    rw [e]
  refine ⟨_, fd, _, _, _, _, Pg.Ns.getD 28 [], Pg.f__law_greatest, 400, e, e2, F, F.bindsN fun _ _ _ _ _ _ us hl => match us, hl with | [_], _ => rfl, ⟨rfl, rfl, rfl, by decide +kernel, rfl, by decide +kernel, by decide +kernel⟩, rfl, rfl, rfl, ck_28, fun q hq hk => ?_⟩
  have hq : q ∈ Pg.kws := hq
  exfalso
  have : ∀ q ∈ Pg.kws, q.1 ≠ 28 := by decide
  exact this q hq hk
theorem ck_29 : Sd.chkSs SX Pg.G 400 ⟨Pg.Ns.getD 29 [], defScope (top 38), fun _ => true⟩ Pg.f__law_some_lots.body (defBody (top 38)) = true := by kernel_rfl
theorem dn_29 (X : K.In h) (G : h.Ns mainGlobals mg) (c : He.SaysD fa fn K) : Sd.Dn (CC P w K mg) mg SX Pg.G Pg.T 29 "_law_some_lots" ["tin", "pool_so", "count_so", "size_so"] := by
  obtain ⟨fd, F⟩ := c.def_ 29 (d := gd 38 "_law_some_lots") rfl
  have e := He.glo_ok X G (c.fact 29 (f := .glo "_law_some_lots") rfl)
  have e2 : fad mg 29 = some (He.ga K "_law_some_lots") := by
    show (match mg "_law_some_lots" with | some (.ref a) => some a | _ => none) = _
    rw [e]
  refine ⟨_, fd, _, _, _, _, Pg.Ns.getD 29 [], Pg.f__law_some_lots, 400, e, e2, F, F.bindsN fun _ _ _ _ _ _ us hl => match us, hl with | [_, _, _, _], _ => rfl, ⟨rfl, rfl, rfl, by decide +kernel, rfl, by decide +kernel, by decide +kernel⟩, rfl, rfl, rfl, ck_29, fun q hq hk => ?_⟩
  have hq : q ∈ Pg.kws := hq
  exfalso
  have : ∀ q ∈ Pg.kws, q.1 ≠ 29 := by decide
  exact this q hq hk
theorem ck_30 : Sd.chkSs SX Pg.G 400 ⟨Pg.Ns.getD 30 [], defScope (top 39), fun _ => true⟩ Pg.f__law_plain.body (defBody (top 39)) = true := by kernel_rfl
theorem dn_30 (X : K.In h) (G : h.Ns mainGlobals mg) (c : He.SaysD fa fn K) : Sd.Dn (CC P w K mg) mg SX Pg.G Pg.T 30 "_law_plain" ["tin", "worths_so", "pool_so"] := by
  obtain ⟨fd, F⟩ := c.def_ 30 (d := gd 39 "_law_plain") rfl
  have e := He.glo_ok X G (c.fact 30 (f := .glo "_law_plain") rfl)
  have e2 : fad mg 30 = some (He.ga K "_law_plain") := by
    show (match mg "_law_plain" with | some (.ref a) => some a | _ => none) = _
    rw [e]
  refine ⟨_, fd, _, _, _, _, Pg.Ns.getD 30 [], Pg.f__law_plain, 400, e, e2, F, F.bindsN fun _ _ _ _ _ _ us hl => match us, hl with | [_, _, _], _ => rfl, ⟨rfl, rfl, rfl, by decide +kernel, rfl, by decide +kernel, by decide +kernel⟩, rfl, rfl, rfl, ck_30, fun q hq hk => ?_⟩
  have hq : q ∈ Pg.kws := hq
  exfalso
  have : ∀ q ∈ Pg.kws, q.1 ≠ 30 := by decide
  exact this q hq hk
theorem ck_31 : Sd.chkSs SX Pg.G 400 ⟨Pg.Ns.getD 31 [], defScope (top 40), fun _ => true⟩ Pg.f__law_is_lot.body (defBody (top 40)) = true := by kernel_rfl
theorem dn_31 (X : K.In h) (G : h.Ns mainGlobals mg) (c : He.SaysD fa fn K) : Sd.Dn (CC P w K mg) mg SX Pg.G Pg.T 31 "_law_is_lot" ["own"] := by
  obtain ⟨fd, F⟩ := c.def_ 31 (d := gd 40 "_law_is_lot") rfl
  have e := He.glo_ok X G (c.fact 31 (f := .glo "_law_is_lot") rfl)
  have e2 : fad mg 31 = some (He.ga K "_law_is_lot") := by
    show (match mg "_law_is_lot" with | some (.ref a) => some a | _ => none) = _
    rw [e]
  refine ⟨_, fd, _, _, _, _, Pg.Ns.getD 31 [], Pg.f__law_is_lot, 400, e, e2, F, F.bindsN fun _ _ _ _ _ _ us hl => match us, hl with | [_], _ => rfl, ⟨rfl, rfl, rfl, by decide +kernel, rfl, by decide +kernel, by decide +kernel⟩, rfl, rfl, rfl, ck_31, fun q hq hk => ?_⟩
  have hq : q ∈ Pg.kws := hq
  exfalso
  have : ∀ q ∈ Pg.kws, q.1 ≠ 31 := by decide
  exact this q hq hk
theorem ck_32 : Sd.chkSs SX Pg.G 400 ⟨Pg.Ns.getD 32 [], defScope (top 41), fun _ => true⟩ Pg.f__law_within.body (defBody (top 41)) = true := by kernel_rfl
theorem dn_32 (X : K.In h) (G : h.Ns mainGlobals mg) (c : He.SaysD fa fn K) : Sd.Dn (CC P w K mg) mg SX Pg.G Pg.T 32 "_law_within" ["one", "two"] := by
  obtain ⟨fd, F⟩ := c.def_ 32 (d := gd 41 "_law_within") rfl
  have e := He.glo_ok X G (c.fact 32 (f := .glo "_law_within") rfl)
  have e2 : fad mg 32 = some (He.ga K "_law_within") := by
    show (match mg "_law_within" with | some (.ref a) => some a | _ => none) = _
    rw [e]
  refine ⟨_, fd, _, _, _, _, Pg.Ns.getD 32 [], Pg.f__law_within, 400, e, e2, F, F.bindsN fun _ _ _ _ _ _ us hl => match us, hl with | [_, _], _ => rfl, ⟨rfl, rfl, rfl, by decide +kernel, rfl, by decide +kernel, by decide +kernel⟩, rfl, rfl, rfl, ck_32, fun q hq hk => ?_⟩
  have hq : q ∈ Pg.kws := hq
  exfalso
  have : ∀ q ∈ Pg.kws, q.1 ≠ 32 := by decide
  exact this q hq hk
theorem ck_33 : Sd.chkSs SX Pg.G 400 ⟨Pg.Ns.getD 33 [], defScope (top 42), fun _ => true⟩ Pg.f__law_is_plain.body (defBody (top 42)) = true := by kernel_rfl
theorem dn_33 (X : K.In h) (G : h.Ns mainGlobals mg) (c : He.SaysD fa fn K) : Sd.Dn (CC P w K mg) mg SX Pg.G Pg.T 33 "_law_is_plain" ["own"] := by
  obtain ⟨fd, F⟩ := c.def_ 33 (d := gd 42 "_law_is_plain") rfl
  have e := He.glo_ok X G (c.fact 33 (f := .glo "_law_is_plain") rfl)
  have e2 : fad mg 33 = some (He.ga K "_law_is_plain") := by
    show (match mg "_law_is_plain" with | some (.ref a) => some a | _ => none) = _
    rw [e]
  refine ⟨_, fd, _, _, _, _, Pg.Ns.getD 33 [], Pg.f__law_is_plain, 400, e, e2, F, F.bindsN fun _ _ _ _ _ _ us hl => match us, hl with | [_], _ => rfl, ⟨rfl, rfl, rfl, by decide +kernel, rfl, by decide +kernel, by decide +kernel⟩, rfl, rfl, rfl, ck_33, fun q hq hk => ?_⟩
  have hq : q ∈ Pg.kws := hq
  exfalso
  have : ∀ q ∈ Pg.kws, q.1 ≠ 33 := by decide
  exact this q hq hk
theorem ck_34 : Sd.chkSs SX Pg.G 400 ⟨Pg.Ns.getD 34 [], defScope (top 43), fun _ => true⟩ Pg.f_law.body (defBody (top 43)) = true := by kernel_rfl
theorem dn_34 (X : K.In h) (G : h.Ns mainGlobals mg) (c : He.SaysD fa fn K) : Sd.Dn (CC P w K mg) mg SX Pg.G Pg.T 34 "law" ["script"] := by
  obtain ⟨fd, F⟩ := c.def_ 34 (d := gd 43 "law") rfl
  have e := He.glo_ok X G (c.fact 34 (f := .glo "law") rfl)
  have e2 : fad mg 34 = some (He.ga K "law") := by
    show (match mg "law" with | some (.ref a) => some a | _ => none) = _
    rw [e]
  refine ⟨_, fd, _, _, _, _, Pg.Ns.getD 34 [], Pg.f_law, 400, e, e2, F, F.bindsN fun _ _ _ _ _ _ us hl => match us, hl with | [_], _ => rfl, ⟨rfl, rfl, rfl, by decide +kernel, rfl, by decide +kernel, by decide +kernel⟩, rfl, rfl, rfl, ck_34, fun q hq hk => ?_⟩
  have hq : q ∈ Pg.kws := hq
  exfalso
  have : ∀ q ∈ Pg.kws, q.1 ≠ 34 := by decide
  exact this q hq hk
theorem dns (X : K.In h) (G : h.Ns mainGlobals mg) (c : He.SaysD fa fn K) : ∀ (k : Nat) (x : Str) (ps : List Str), SX.fns[k]? = some (x, ps) → Sd.Dn (CC P w K mg) mg SX Pg.G Pg.T k x ps
  | 0, _, _, e => by cases e; exact dn_0 X G c
  | 1, _, _, e => by cases e; exact dn_1 X G c
  | 2, _, _, e => by cases e; exact dn_2 X G c
  | 3, _, _, e => by cases e; exact dn_3 X G c
  | 4, _, _, e => by cases e; exact dn_4 X G c
  | 5, _, _, e => by cases e; exact dn_5 X G c
  | 6, _, _, e => by cases e; exact dn_6 X G c
  | 7, _, _, e => by cases e; exact dn_7 X G c
  | 8, _, _, e => by cases e; exact dn_8 X G c
  | 9, _, _, e => by cases e; exact dn_9 X G c
  | 10, _, _, e => by cases e; exact dn_10 X G c
  | 11, _, _, e => by cases e; exact dn_11 X G c
  | 12, _, _, e => by cases e; exact dn_12 X G c
  | 13, _, _, e => by cases e; exact dn_13 X G c
  | 14, _, _, e => by cases e; exact dn_14 X G c
  | 15, _, _, e => by cases e; exact dn_15 X G c
  | 16, _, _, e => by cases e; exact dn_16 X G c
  | 17, _, _, e => by cases e; exact dn_17 X G c
  | 18, _, _, e => by cases e; exact dn_18 X G c
  | 19, _, _, e => by cases e; exact dn_19 X G c
  | 20, _, _, e => by cases e; exact dn_20 X G c
  | 21, _, _, e => by cases e; exact dn_21 X G c
  | 22, _, _, e => by cases e; exact dn_22 X G c
  | 23, _, _, e => by cases e; exact dn_23 X G c
  | 24, _, _, e => by cases e; exact dn_24 X G c
  | 25, _, _, e => by cases e; exact dn_25 X G c
  | 26, _, _, e => by cases e; exact dn_26 X G c
  | 27, _, _, e => by cases e; exact dn_27 X G c
  | 28, _, _, e => by cases e; exact dn_28 X G c
  | 29, _, _, e => by cases e; exact dn_29 X G c
  | 30, _, _, e => by cases e; exact dn_30 X G c
  | 31, _, _, e => by cases e; exact dn_31 X G c
  | 32, _, _, e => by cases e; exact dn_32 X G c
  | 33, _, _, e => by cases e; exact dn_33 X G c
  | 34, _, _, e => by cases e; exact dn_34 X G c
  | n + 35, _, _, e => by
    have : SX.fns.length ≤ n + 35 := by show 35 ≤ _; omega
    rw [List.getElem?_eq_none this] at e; cases e
theorem bls (X : K.In h) (G : h.Ns mainGlobals mg) (c : He.SaysD fa fn K) : ∀ x ∈ Sd.bnames, mg x = none := by
  intro x hx
  simp only [Sd.bnames, List.mem_cons, List.not_mem_nil, or_false] at hx
  rcases hx with rfl | rfl | rfl | rfl | rfl | rfl | rfl | rfl | rfl | rfl | rfl | rfl | rfl | rfl | rfl | rfl | rfl | rfl | rfl
  · exact He.free_ok X G (c.fact 35 (f := .free "len") rfl)
  · exact He.free_ok X G (c.fact 36 (f := .free "abs") rfl)
  · exact He.free_ok X G (c.fact 37 (f := .free "int") rfl)
  · exact He.free_ok X G (c.fact 38 (f := .free "max") rfl)
  · exact He.free_ok X G (c.fact 39 (f := .free "min") rfl)
  · exact He.free_ok X G (c.fact 40 (f := .free "sum") rfl)
  · exact He.free_ok X G (c.fact 41 (f := .free "all") rfl)
  · exact He.free_ok X G (c.fact 42 (f := .free "any") rfl)
  · exact He.free_ok X G (c.fact 43 (f := .free "tuple") rfl)
  · exact He.free_ok X G (c.fact 44 (f := .free "list") rfl)
  · exact He.free_ok X G (c.fact 45 (f := .free "dict") rfl)
  · exact He.free_ok X G (c.fact 46 (f := .free "sorted") rfl)
  · exact He.free_ok X G (c.fact 47 (f := .free "set") rfl)
  · exact He.free_ok X G (c.fact 48 (f := .free "isinstance") rfl)
  · exact He.free_ok X G (c.fact 49 (f := .free "bool") rfl)
  · exact He.free_ok X G (c.fact 50 (f := .free "str") rfl)
  · exact He.free_ok X G (c.fact 51 (f := .free "range") rfl)
  · exact He.free_ok X G (c.fact 52 (f := .free "enumerate") rfl)
  · exact He.free_ok X G (c.fact 53 (f := .free "zip") rfl)
theorem glss (X : K.In h) (G : h.Ns mainGlobals mg) (c : He.SaysD fa fn K) : ∀ (k : Nat) (x : Str) (d : Ev.D), SX.gls[k]? = some x → Pg.G.consts[k]? = some d → ∃ u v, mg x = some u ∧ RelV v u ∧ ∀ ρ FR, Sd.Rp (CC P w K mg) ρ FR d v
  | 0, _, _, e1, e2 => by
    cases e1; cases e2
    obtain ⟨t, e⟩ := He.int_ok X G (c.fact 54 (f := .int "MOST_NUMBER" 1000000) rfl)
    exact ⟨_, .int 1000000, e, ⟨t, rfl⟩, fun _ _ => .int _⟩
  | 1, _, _, e1, e2 => by
    cases e1; cases e2
    obtain ⟨t, e⟩ := He.int_ok X G (c.fact 55 (f := .int "MOST_LOTS" 12) rfl)
    exact ⟨_, .int 12, e, ⟨t, rfl⟩, fun _ _ => .int _⟩
  | 2, _, _, e1, e2 => by
    cases e1; cases e2
    obtain ⟨t, e⟩ := He.int_ok X G (c.fact 56 (f := .int "MOST_WORTHS" 6) rfl)
    exact ⟨_, .int 6, e, ⟨t, rfl⟩, fun _ _ => .int _⟩
  | 3, _, _, e1, e2 => by
    cases e1; cases e2
    obtain ⟨t, e⟩ := He.int_ok X G (c.fact 57 (f := .int "MOST_ANSWERS" 40) rfl)
    exact ⟨_, .int 40, e, ⟨t, rfl⟩, fun _ _ => .int _⟩
  | n + 4, _, _, e, _ => by
    have : SX.gls.length ≤ n + 4 := by show 4 ≤ _; omega
    rw [List.getElem?_eq_none this] at e; cases e
theorem rp_ints {C : Sd.Cn} {ρ : List Addr} {H : Hp} : ∀ ns : List Int, Sd.RpL C ρ H (ns.map Ev.D.int) (ns.map V.int)
  | [] => .nil
  | n :: ns => .cons (.int n) (rp_ints ns)
end
end Hd
open PySem PySem.W PySem.Calls PyProof.Rows
theorem PySem.Challenge.cw_looktasks_k53_whole_plain_tasks_holds : PySem.Challenge.rw_looktasks_k53_whole_plain_tasks.Holds := by
  w_on; o_law
  refine HandSHeadRun.head_any (r := OpenLaw.row PySem.Challenge.rw_looktasks_k53_whole_plain_tasks) (q := view (OpenLaw.row PySem.Challenge.rw_looktasks_k53_whole_plain_tasks).prog [43]) (H := Hd.hk) (ob := Hd.ob) (M := 3000) (loose := Hd.loose) (d := HandSHeadRun.topDef (OpenLaw.row PySem.Challenge.rw_looktasks_k53_whole_plain_tasks).prog 43) (kwd := []) Hd.ob_eq
    (by kernel_rfl) (fun s => by kernel_rfl) Hd.run (by kernel_rfl) (by kernel_rfl) (by kernel_rfl) (by rfl) (by first | assumption | decide +kernel) (by decide +kernel) ⟨rfl, rfl, rfl, rfl, rfl, by decide +kernel⟩ ?hw ?hc
  case hw => w_witness2
  case hc =>
    refine L2.walk_ofE (l := PySem.Challenge.rw_looktasks_k53_whole_plain_tasks) (n := 63) (k := 60) (x := "script") (CX := Sd.cx0) rfl (by decide) (by kernel_rfl) ⟨rfl, by decide, by decide⟩ ?F (fun _ _ _ _ z => z)
    intro w mg fa h Y G hmg0
    obtain ⟨K, KX, c⟩ := Y
    have hmg : mg ("law" : PySem.Str) = some (.ref fa) := by
      have e : (HandSHeadRun.topDef (OpenLaw.row PySem.Challenge.rw_looktasks_k53_whole_plain_tasks).prog 43).name = ("law" : PySem.Str) := by kernel_rfl
      rw [← e]
      exact hmg0
    obtain ⟨fd, F⟩ := c.def_ 34 (d := Hd.gd 43 "law") rfl
    have b := L2.FunD.bindsA (ps := ["script"]) F fun _ _ _ _ _ _ us hl => match us, hl with | [_], _ => rfl
    refine ⟨K, fd, Sd.spK (Hd.CC (PySem.Challenge.rw_looktasks_k53_whole_plain_tasks).prog w K mg) (Ev.runN Pg.G Pg.T 60) 34 1, KX, fun s v => b s [v] rfl, fun H a ns hl _ hS => ?_, fun base hb hg => ?_⟩
    · refine ⟨rfl, [], H, [], [.scr (ns.map Ev.D.int)], ⟨Sd.Sub.refl, rfl, List.nodup_nil, (fun a z => nomatch z), (fun n o z => by cases n <;> cases z)⟩, .cons (.scr hS (Hd.rp_ints ns)) .nil, ?_⟩
      obtain ⟨h2, e⟩ := Pg.plain ns hl
      rw [e]
      intro ρ' FR' H' v x rh r
      cases r
      rfl
    · have e := hmg.symm.trans (He.glo_ok KX G (c.fact 34 (f := .glo "law") rfl))
      cases e
      exact Sd.fn_ok (C := Hd.CC (PySem.Challenge.rw_looktasks_k53_whole_plain_tasks).prog w K mg) (base := base) (S := Hd.SX) (G := Pg.G) (T := Pg.T) (Hd.dns KX G c) (Hd.bls KX G c) (Hd.glss KX G c) 59 34 (N := Pg.Ns.getD 34 []) (f := Pg.f_law) (n := 400) F ⟨rfl, rfl, rfl, by decide +kernel, rfl, by decide +kernel, by decide +kernel⟩ rfl rfl rfl Hd.ck_34

end
