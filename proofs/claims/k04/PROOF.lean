import PyProof.Rows.All
import HandS.Iter
import KE.GoesEnum
import HandS.TupMul
import HandS.TupAny
import HandS.TupSets
import HandS.SortInts
import Wide.All
import OpenK.AllK
import Wide.FinOn
import HandS.Base
import HandS.Call
import HandS.List
import HandS.Comp
import HandS.Ends
import HandS.Exc
import HandS.Words
import HandS.Flow
import HandS.Wide
import HandS.Deep
import HandS.Dict
import HandS.Text
import HandS.IsInst
import HandS.CallSlots
import HandS.WordsExc
import HandS.Style
import HandS.TryOnly
import HandS.ExcOwn
import HandS.ExcIs
import HandS.Property
import HandS.Defaults
import HandS.Zip
import HandS.Rev
import HandS.IterVal
import HandS.DictComp
import HandS.Codes
import HandS.Star
import HandS.HeadHook2
import HandS.HeadHook4
import HandS.HeadEnd
import HandS.Head0
import HandS.Head1
import HandS.Head2
import HandS.HeadHook3
import PySem.Challenge.RW_settledcases_k04_neighbors_and_chains
set_option Elab.async false
set_option linter.all false
set_option maxRecDepth 100000
set_option maxHeartbeats 4000000
/-! PyD: plain data of Python programs, a small language over them, what it computes. Core Lean alone. -/
namespace Py

inductive D where
  | non
  | bool (b : Bool)
  | int (i : Int)
  | str (s : List Nat)
  | tup (xs : List D)
  | lst (xs : List D)
  | set (xs : List D)
  | dict (ks vs : List D)
  | obj (c : Nat) (fs : List D)
  | exc (c : Nat) (fs : List D)
  | scr (ns : List Int)
  deriving Inhabited

/-- a value, an exception (class, fields), or nothing known -/
inductive R (α : Type) where
  | ok (a : α)
  | ex (c : Nat) (fs : List D)
  | no

namespace R
def bind {α β : Type} : R α → (α → R β) → R β
  | .ok a, f => f a
  | .ex c fs, _ => .ex c fs
  | .no, _ => .no
def map {α β : Type} (f : α → β) : R α → R β
  | .ok a => .ok (f a)
  | .ex c fs => .ex c fs
  | .no => .no
/-- exceptions are not let out -/
def calm {α : Type} : R α → R α
  | .ok a => .ok a
  | _ => .no
end R
@[simp] theorem bind_ok {α β : Type} {a : α} {f : α → R β} : (R.ok a).bind f = f a := rfl
@[simp] theorem bind_ex {α β : Type} {c fs} {f : α → R β} : (R.ex c fs : R α).bind f = .ex c fs := rfl
@[simp] theorem bind_no {α β : Type} {f : α → R β} : (R.no : R α).bind f = .no := rfl
@[simp] theorem map_ok {α β : Type} {a : α} {f : α → β} : (R.ok a).map f = .ok (f a) := rfl
@[simp] theorem map_ex {α β : Type} {c fs} {f : α → β} : (R.ex c fs : R α).map f = .ex c fs := rfl
@[simp] theorem map_no {α β : Type} {f : α → β} : (R.no : R α).map f = .no := rfl

abbrev Sem := List D → R D
def cap : Nat := 100000

/-! ### equality of data as Python has it -/
mutual
def D.eq : D → D → Bool
  | .non, .non => true
  | .bool a, .bool b => a == b
  | .bool a, .int j => (if a then 1 else 0) == j
  | .int i, .bool b => i == (if b then 1 else 0)
  | .int i, .int j => i == j
  | .str a, .str b => a == b
  | .tup xs, .tup ys => D.eqs xs ys
  | .lst xs, .lst ys => D.eqs xs ys
  | _, _ => false
def D.eqs : List D → List D → Bool
  | [], [] => true
  | x :: xs, y :: ys => D.eq x y && D.eqs xs ys
  | _, _ => false
end
mutual
/-- data that == is told of: None, bools, ints, texts, tuples, lists, n deep at most -/
def D.good (n : Nat) : D → Bool
  | .non => true
  | .bool _ => true
  | .int _ => true
  | .str s => s.all fun c => decide (c < 55296)
  | .tup xs => decide (0 < n) && D.goods (n - 1) xs
  | .lst xs => decide (0 < n) && D.goods (n - 1) xs
  | _ => false
def D.goods (n : Nat) : List D → Bool
  | [] => true
  | x :: xs => D.good n x && D.goods n xs
end

def D.flat : D → Bool
  | .non => true
  | .bool _ => true
  | .int _ => true
  | .str _ => true
  | _ => false

def eqD (a b : D) : R Bool := if a.good 8 && b.good 8 then .ok (D.eq a b) else .no

/-! ### operators -/
inductive BOp | add | sub | mul | fdiv | mod | pow
  deriving DecidableEq
inductive COp | eq | ne | lt | le | gt | ge | is | isn | inn | nin
  deriving DecidableEq

def mulOk (i j : Int) : Bool := decide (i.natAbs < 2 ^ 64) || decide (j.natAbs < 2 ^ 64)

def repD (xs : List D) (n : Int) : List D := (List.replicate n.toNat xs).flatten

def binD : BOp → D → D → R D
  | .add, .int i, .int j => .ok (.int (i + j))
  | .add, .str s, .str t => if s.length + t.length ≤ cap then .ok (.str (s ++ t)) else .no
  | .add, .tup s, .tup t => if s.length + t.length ≤ cap then .ok (.tup (s ++ t)) else .no
  | .add, .lst s, .lst t => if s.length + t.length ≤ cap then .ok (.lst (s ++ t)) else .no
  | .sub, .int i, .int j => .ok (.int (i - j))
  | .mul, .int i, .int j => if mulOk i j then .ok (.int (i * j)) else .no
  | .mul, .lst s, .int n => if n ≤ (cap : Int) ∧ -(cap : Int) ≤ n ∧ s.length * n.toNat ≤ cap then .ok (.lst (repD s n)) else .no
  | .mul, .tup s, .int n => if -1000 ≤ n ∧ n ≤ 1000 ∧ s.length ≤ 1000 ∧ s ≠ [] then .ok (.tup (repD s n)) else .no
  | .fdiv, .int i, .int j => if 0 < j ∧ j < 1073741824 then .ok (.int (i / j)) else .no
  | .mod, .int i, .int j => if 0 < j then .ok (.int (i % j)) else .no
  | .pow, .int i, .int j => if 0 ≤ j ∧ j ≤ 1000000 ∧ i.natAbs < 2 ^ 64 then .ok (.int (i ^ j.toNat)) else .no
  | _, _, _ => .no

def negD : D → R D
  | .int i => .ok (.int (-i))
  | _ => .no

/-- the i-th of n, as Python counts -/
def ixN (n : Nat) (i : Int) : Option Nat :=
  if 0 ≤ i then (if i < n then some i.toNat else none) else if -(n : Int) ≤ i then some (i + n).toNat else none
def atI {α : Type} (xs : List α) (i : Int) : Option α := (ixN xs.length i).bind fun j => xs[j]?

def lookD : List D → List D → D → Option D
  | k :: ks, v :: vs, x => if D.eq k x then some v else lookD ks vs x
  | _, _, _ => none

def ofO : Option D → R D
  | some d => .ok d
  | none => .no

/-- a key of a dict: an int, a text, a tuple of such -/
def keyF : D → Bool
  | .int _ => true
  | .str _ => true
  | _ => false
def keyD : D → Bool
  | .int _ => true
  | .str _ => true
  | .tup xs => xs.all keyF
  | _ => false
def isTup : D → Bool
  | .tup _ => true
  | _ => false
/-- x is a key of the kind of ks, which aren't none -/
def dictOk (ks : List D) (x : D) : Bool := !ks.isEmpty && (if isTup x then keyD x && ks.all isTup else keyF x && ks.all keyF)

def idxD : D → D → R D
  | .tup xs, .int i => ofO (atI xs i)
  | .lst xs, .int i => ofO (atI xs i)
  | .scr ns, .int i => ofO ((atI ns i).map D.int)
  | .str s, .int i => if s.length ≤ cap then ofO ((atI s i).map fun c => D.str [c]) else .no
  | .dict ks vs, k => if dictOk ks k then ofO (lookD ks vs k) else .no
  | _, _ => .no

def sIx (n d : Nat) : Option Int → Nat
  | none => d
  | some i => if i < 0 then (i + (n : Int)).toNat else min i.toNat n
def cutL {α : Type} (xs : List α) (lo hi : Option Int) : List α :=
  (xs.drop (sIx xs.length 0 lo)).take (sIx xs.length xs.length hi - sIx xs.length 0 lo)

def partI : D → R (Option Int)
  | .int i => .ok (some i)
  | _ => .no

def sliceD (lo hi : Option Int) : D → R D
  | .tup xs => .ok (.tup (cutL xs lo hi))
  | .lst xs => .ok (.lst (cutL xs lo hi))
  | .str s => if s.length ≤ cap then .ok (.str (cutL s lo hi)) else .no
  | _ => .no

def revD : D → R D
  | .lst xs => .ok (.lst xs.reverse)
  | _ => .no

def isInt : D → Option Int
  | .int i => some i
  | _ => none
def allInts : List D → Option (List Int)
  | [] => some []
  | x :: xs => match isInt x, allInts xs with
    | some i, some r => some (i :: r)
    | _, _ => none
def isBool : D → Option Bool
  | .bool b => some b
  | _ => none
def allBools : List D → Option (List Bool)
  | [] => some []
  | x :: xs => match isBool x, allBools xs with
    | some i, some r => some (i :: r)
    | _, _ => none

def infixAt (s t : List Nat) : Bool := match t with
  | [] => s.isPrefixOf []
  | c :: r => s.isPrefixOf (c :: r) || infixAt s r

def inD (x : D) : D → R Bool
  | .tup xs => if x.good 8 && D.goods 8 xs then .ok (xs.any fun z => D.eq z x) else .no
  | .lst xs => if x.good 8 && D.goods 8 xs then .ok (xs.any fun z => D.eq z x) else .no
  | .str t => match x with
    | .str [c] => .ok (t.contains c)
    | _ => .no
  | .dict ks _ => if dictOk ks x then .ok (ks.any fun z => D.eq z x) else .no
  | _ => .no

def cmpD : COp → D → D → R Bool
  | .lt, .int i, .int j => .ok (decide (i < j))
  | .le, .int i, .int j => .ok (decide (i ≤ j))
  | .gt, .int i, .int j => .ok (decide (j < i))
  | .ge, .int i, .int j => .ok (decide (j ≤ i))
  | .eq, a, b => eqD a b
  | .ne, a, b => (eqD a b).map not
  | .is, a, .non => .ok (match a with
    | .non => true
    | _ => false)
  | .isn, a, .non => .ok (match a with
    | .non => false
    | _ => true)
  | .inn, a, b => inD a b
  | .nin, a, b => (inD a b).map not
  | _, _, _ => .no

def truth : D → R Bool
  | .non => .ok false
  | .bool b => .ok b
  | .int i => .ok (i != 0)
  | .str s => if s.length ≤ cap then .ok (!s.isEmpty) else .no
  | .tup xs => .ok (!xs.isEmpty)
  | .lst xs => .ok (!xs.isEmpty)
  | _ => .no

/-! ### built-ins -/
inductive Bi | len | int | abs | max | min | sum | tuple | list | any | all | str | sorted
  deriving DecidableEq

def maxI : List Int → Int
  | [] => 0
  | [x] => x
  | x :: xs => max x (maxI xs)
def minI : List Int → Int
  | [] => 0
  | [x] => x
  | x :: xs => min x (minI xs)

/-- tuples of ints -/
def tupI : D → Option (List Int)
  | .tup ds => allInts ds
  | _ => none
def allTups : List D → Option (List (List Int))
  | [] => some []
  | x :: xs => match tupI x, allTups xs with
    | some i, some r => some (i :: r)
    | _, _ => none
def lexLt : List Int → List Int → Bool
  | x :: xs, y :: ys => decide (x < y) || (decide (x = y) && lexLt xs ys)
  | [], _ :: _ => true
  | _, _ => false
def insT (x : List Int) : List (List Int) → List (List Int)
  | [] => [x]
  | y :: ys => if lexLt y x then y :: insT x ys else x :: y :: ys
def sortT : List (List Int) → List (List Int)
  | [] => []
  | x :: xs => insT x (sortT xs)
def insI (x : Int) : List Int → List Int
  | [] => [x]
  | y :: ys => if y < x then y :: insI x ys else x :: y :: ys
def sortI : List Int → List Int
  | [] => []
  | x :: xs => insI x (sortI xs)
def nubT : List (List Int) → List (List Int)
  | [] => []
  | x :: xs => if xs.contains x then nubT xs else x :: nubT xs
def sameLen : List (List Int) → Bool
  | [] => true
  | t :: ts => decide (0 < t.length) && ((t :: ts).all fun u => u.length == t.length && u.all fun i => decide (0 ≤ i))
def tupD (t : List Int) : D := .tup (t.map D.int)
def sortedD (xs : List D) : R D := match allInts xs with
  | some ns => .ok (.lst ((sortI ns).map D.int))
  | none => match allTups xs with
    | some ts => if sameLen ts && decide (ts.length < 64) then .ok (.lst ((sortT ts).map tupD)) else .no
    | none => .no
/-- sorted(set(xs)) -/
def ssetD (xs : List D) : R D := match allTups xs with
  | some ts => if sameLen ts && decide (ts.length < 64) then .ok (.lst ((sortT (nubT ts)).map tupD)) else .no
  | none => .no

def biD : Bi → List D → R D
  | .len, [.str s] => if s.length ≤ cap then .ok (.int s.length) else .no
  | .len, [.tup s] => .ok (.int s.length)
  | .len, [.lst s] => .ok (.int s.length)
  | .len, [.scr s] => .ok (.int s.length)
  | .int, [.int i] => .ok (.int i)
  | .int, [.bool b] => .ok (.int (if b then 1 else 0))
  | .abs, [.int i] => .ok (.int (if i < 0 then -i else i))
  | .max, [.int i, .int j] => .ok (.int (if j > i then j else i))
  | .min, [.int i, .int j] => .ok (.int (if j < i then j else i))
  | .max, [.lst xs] => match allInts xs with
    | some ns => if 0 < ns.length then .ok (.int (maxI ns)) else .no
    | none => .no
  | .min, [.lst xs] => match allInts xs with
    | some ns => if 0 < ns.length then .ok (.int (minI ns)) else .no
    | none => .no
  | .sum, [.lst xs] => match allInts xs with
    | some ns => .ok (.int ns.sum)
    | none => .no
  | .sum, [.tup xs] => match allInts xs with
    | some ns => .ok (.int ns.sum)
    | none => .no
  | .sorted, [.lst xs] => sortedD xs
  | .any, [.lst xs] => match allBools xs with
    | some ns => .ok (.bool (ns.any id))
    | none => .no
  | .all, [.lst xs] => match allBools xs with
    | some ns => .ok (.bool (ns.all id))
    | none => .no
  | .tuple, [.lst xs] => .ok (.tup xs)
  | .tuple, [.tup xs] => .ok (.tup xs)
  | .list, [.lst xs] => .ok (.lst xs)
  | .list, [.tup xs] => .ok (.lst xs)
  | _, _ => .no

/-- types as isinstance has them; exc: a class of exceptions, those beneath it, all that are known -/
inductive Ty | int | bool | str | tuple | list | exc (x : String) (cs al : List Nat)
def tyD : Ty → D → R Bool
  | .exc _ cs al, .exc c [] => if al.contains c then .ok (cs.contains c) else .no
  | .exc _ _ _, _ => .no
  | t, d => match d with
    | .non => .ok false
    | .bool _ => .ok (match t with
      | .int => true
      | .bool => true
      | _ => false)
    | .int _ => .ok (match t with
      | .int => true
      | _ => false)
    | .str _ => .ok (match t with
      | .str => true
      | _ => false)
    | .tup _ => .ok (match t with
      | .tuple => true
      | _ => false)
    | .lst _ => .ok (match t with
      | .list => true
      | _ => false)
    | _ => .no

/-! ### operations: calls, attributes, methods -/
def look {α : Type} (c : Nat) : List (Nat × α) → Option α
  | [] => none
  | (k, a) :: r => if k = c then some a else look c r
inductive Op where
  /-- sorted(set(x)) -/
  | sset
  /-- e.x: a field; by the class: its place -/
  | fld (x : String) (tab : List (Nat × Nat))
  /-- e.x: a constant of the class -/
  | con (x : String) (tab : List (Nat × D))
  | prop (x : String) (tab : List (Nat × Sem))
  | meth (x : String) (tab : List (Nat × Sem × List D))
  /-- x(..), x an own class, the c-th -/
  | mk (x : String) (c : Nat) (f : Sem) (dd : List D)
  /-- s.count(t) -/
  | count
  /-- s.join(xs) -/
  | join
  /-- str(n) -/
  | strI
  /-- s.split(t) -/
  | split
/-- the figures of an int -/
def intD (i : Int) : List Nat := (toString i).toList.map Char.toNat
def allStrs : List D → Option (List (List Nat))
  | [] => some []
  | .str s :: xs => (match allStrs xs with
    | some r => some (s :: r)
    | none => none)
  | _ => none
def joinL (s : List Nat) : List (List Nat) → List Nat
  | [] => []
  | [x] => x
  | x :: xs => x ++ s ++ joinL s xs
/-- parts of t between the sign c -/
def splitC (c : Nat) : List Nat → List (List Nat)
  | [] => [[]]
  | x :: xs => if x = c then [] :: splitC c xs else (match splitC c xs with
    | y :: ys => (x :: y) :: ys
    | [] => [[x]])
def opD : Op → List D → R D
  | .sset, [.lst xs] => ssetD xs
  | .fld _ tab, [.obj c fs] => (match look c tab with
    | some k => ofO fs[k]?
    | none => .no)
  | .con _ tab, [.obj c _] => ofO (look c tab)
  | .prop _ tab, [.obj c fs] => (match look c tab with
    | some f => (f [.obj c fs]).calm
    | none => .no)
  | .meth _ tab, .obj c fs :: as => (match look c tab with
    | some (f, dd) => f (.obj c fs :: as ++ dd)
    | none => .no)
  | .mk _ _ f dd, as => f (as ++ dd)
  | .count, [.str s, .str [c]] => .ok (.int (s.count c))
  | .join, [.str s, .lst xs] => (match allStrs xs with
    | some r => if (joinL s r).length ≤ 1000 ∧ r.length ≤ 1000 ∧ s.length ≤ 1000 then .ok (.str (joinL s r)) else .no
    | none => .no)
  | .strI, [.int i] => if i.natAbs < 2 ^ 90 then .ok (.str (intD i)) else .no
  | .split, [.str s, .str [c]] => if s.length ≤ 1000 ∧ c < 256 then .ok (.lst ((splitC c s).map D.str)) else .no
  | _, _ => .no
/-- the arguments raise nothing -/
def Op.calm : Op → Bool
  | .meth _ _ => true
  | .count => true
  | .join => true
  | .split => true
  | _ => false
/-- what is walked -/
inductive IOp where
  | zip | enum | str | rev
  /-- an own object whose __iter__ walks a field: its place -/
  | own (tab : List (Nat × Nat))
def zipD : List D → List D → List D
  | x :: xs, y :: ys => .tup [x, y] :: zipD xs ys
  | _, _ => []
def enumD : Nat → List D → List D
  | _, [] => []
  | i, x :: xs => .tup [.int i, x] :: enumD (i + 1) xs
def iopD : IOp → List D → R (List D)
  | .zip, [.tup xs, .tup ys] => .ok (zipD xs ys)
  | .zip, [.lst xs, .lst ys] => .ok (zipD xs ys)
  | .enum, [.lst xs] => .ok (enumD 0 xs)
  | .enum, [.tup xs] => .ok (enumD 0 xs)
  | .str, [.str s] => if s.length ≤ cap then .ok (s.map fun c => .str [c]) else .no
  | .rev, [.lst xs] => .ok xs.reverse
  | .own tab, [.obj c fs] => (match look c tab with
    | some k => (match fs[k]? with
      | some (.lst xs) => .ok xs
      | some (.tup xs) => .ok xs
      | _ => .no)
    | none => .no)
  | _, _ => .no
/-- x in o, o an own object -/
def inO (neg : Bool) (tab : List (Nat × Sem)) (x : D) : D → R Bool
  | .obj c fs => (match look c tab with
    | some f => (match f [.obj c fs, x] with
      | .ok (.bool b) => .ok (if neg then !b else b)
      | _ => .no)
    | none => .no)
  | _ => .no

/-! ### the language -/
/-- where a value is put -/
inductive Pat | v (i : Nat) | tup (ps : List Pat)
section
variable {α : Type} (put : Nat → D → α → α)
mutual
/-- a pattern takes a value -/
def bindG : Pat → D → α → R α
  | .v i, d, a => .ok (put i d a)
  | .tup ps, d, a => match d with
    | .tup ds => bindGs ps ds a
    | _ => .no
def bindGs : List Pat → List D → α → R α
  | [], ds, a => match ds with
    | [] => .ok a
    | _ => .no
  | p :: ps, ds, a => match ds with
    | d :: ds => (bindG p d a).bind fun b => bindGs ps ds b
    | [] => .no
end
end
mutual
/-- the slots of a pattern -/
def Pat.ix : Pat → List Nat
  | .v i => [i]
  | .tup ps => Pat.ixs ps
def Pat.ixs : List Pat → List Nat
  | [] => []
  | p :: ps => p.ix ++ Pat.ixs ps
end

mutual
inductive E where
  | v (i : Nat)
  | non | tt | ff
  | int (i : Int)
  | str (s : List Nat)
  | glob (x : String) (d : D)
  | bin (o : BOp) (a b : E)
  | neg (a : E)
  | cmp (o : COp) (a b : E)
  | chain (o o' : COp) (a b c : E)
  | not (a : E)
  /-- and (true), or (false) -/
  | ands (o : Bool) (es : Es)
  | ife (t a b : E)
  | tup (es : Es) | lst (es : Es)
  | idx (a b : E)
  | slice (a : E) (lo hi : EO)
  /-- a[::-1], a list -/
  | rev (a : E)
  /-- a def of the text: its name, what it computes, the defaults that are used -/
  | call (x : String) (s : Sem) (dd : List D) (es : Es)
  | bi (f : Bi) (es : Es)
  | isin (e : E) (t : Ty)
  /-- [e for p in it if c]; own: the names of the block with their slots -/
  | lc (own : List (String × Nat)) (p : Pat) (it : It) (c : EO) (e : E)
  /-- [e for p in it if c for q in jt if d] -/
  | lc2 (own : List (String × Nat)) (p : Pat) (it : It) (c : EO) (own2 : List Nat) (q : Pat) (jt : It) (d : EO) (e : E)
  /-- {a: b for p in it if c} -/
  | dc (own : List (String × Nat)) (p : Pat) (it : It) (c : EO) (a b : E)
  | op (o : Op) (es : Es)
  | ino (neg : Bool) (tab : List (Nat × Sem)) (a b : E)
  /-- self.x while self (slot 0, of the class c) is being made -/
  | selfF (x : String) (c k : Nat)
inductive EO where
  | none | some (e : E)
inductive Es where
  | nil | cons (e : E) (es : Es)
inductive It where
  | seq (e : E)
  | range (a : E)
  | range2 (a b : E)
  | op (o : IOp) (es : Es)
end

def It.rng : It → Bool
  | .range _ => true
  | .range2 _ _ => true
  | _ => false

/-- the slots' values; me: the object in slot 0 that is being made -/
structure Env where
  l : List (Option D)
  me : Option (Nat × List D)
def Env.get (env : Env) (i : Nat) : R D := match env.l[i]? with
  | some (some d) => .ok d
  | _ => .no

def wipeD (env : Env) : List Nat → Env
  | [] => env
  | v :: vs => ⟨(wipeD env vs).l.set v none, if v = 0 then none else (wipeD env vs).me⟩

def putE (i : Nat) (d : D) (env : Env) : Env := ⟨env.l.set i (some d), if i = 0 then none else env.me⟩
def Env.mine (env : Env) (c k : Nat) : R D := match env.me with
  | some (c', fs) => if c' = c then ofO fs[k]? else .no
  | none => .no

def seqD : D → R (List D)
  | .tup xs => .ok xs
  | .lst xs => .ok xs
  | .scr ns => .ok (ns.map D.int)
  | _ => .no

def rangeD (lo hi : Int) : List D := (List.range (hi - lo).toNat).map fun (i : Nat) => D.int (lo + (i : Int))
def bigI : Int := 4000000000000000000

/-- the items of a comprehension: each turn gives an item, or none -/
def compD : List D → (D → R (Option D)) → R (List D)
  | [], _ => .ok []
  | x :: xs, f => match f x with
    | .ok o => (compD xs f).bind fun r => .ok (match o with
      | some d => d :: r
      | none => r)
    | _ => .no

/-- .. each turn gives items -/
def compD2 : List D → (D → R (List D)) → R (List D)
  | [], _ => .ok []
  | x :: xs, f => match f x with
    | .ok o => (compD2 xs f).bind fun r => .ok (o ++ r)
    | _ => .no
def lenL (r : List D) : R D := if r.length ≤ cap then .ok (.lst r) else .no
/-- d[k] = v -/
def putKV (k v : D) (ks vs : List D) : List D × List D := if ks.any (fun z => D.eq z k) then (ks, List.zipWith (fun x y => if D.eq x k then v else y) ks vs) else (ks ++ [k], vs ++ [v])
/-- the pairs of a dict's comprehension, the keys tuples -/
def compP : List D → (D → R (Option (D × D))) → List D → List D → R (List D × List D)
  | [], _, ks, vs => if ks.isEmpty || decide (cap < ks.length) then .no else .ok (ks, vs)
  | x :: xs, f, ks, vs => match f x with
    | .ok (some (k, v)) => if isTup k && keyD k then compP xs f (putKV k v ks vs).1 (putKV k v ks vs).2 else .no
    | .ok none => compP xs f ks vs
    | _ => .no
def dictP (p : List D × List D) : D := .dict p.1 p.2

mutual
def ev (env : Env) : E → R D
  | .v i => env.get i
  | .non => .ok .non
  | .tt => .ok (.bool true)
  | .ff => .ok (.bool false)
  | .int i => .ok (.int i)
  | .str s => .ok (.str s)
  | .glob _ d => .ok d
  | .bin o a b => (ev env a).bind fun x => (ev env b).bind fun y => binD o x y
  | .neg a => (ev env a).bind negD
  | .cmp o a b => (ev env a).bind fun x => (ev env b).bind fun y => (cmpD o x y).map D.bool
  | .chain o o' a b c => (ev env a).bind fun x => (ev env b).bind fun y => (cmpD o x y).bind fun t =>
      if t then (ev env c).bind fun z => (cmpD o' y z).map D.bool else .ok (.bool false)
  | .not a => (ev env a).bind fun x => (truth x).map fun t => D.bool (!t)
  | .ands o es => eva env o es
  | .ife t a b => (ev env t).bind fun x => (truth x).bind fun t => if t then ev env a else ev env b
  | .tup es => (evs env es).map D.tup
  | .lst es => (evs env es).map D.lst
  | .idx a b => (ev env a).bind fun x => (ev env b).bind fun y => idxD x y
  | .slice a lo hi => (ev env a).bind fun x => (evo env lo).bind fun l => (evo env hi).bind fun h => sliceD l h x
  | .rev a => (ev env a).bind revD
  | .call _ s dd es => (evs env es).bind fun xs => s (xs ++ dd)
  | .bi f es => (evs env es).bind (biD f)
  | .isin e t => (ev env e).bind fun x => (tyD t x).map D.bool
  | .lc own p it c e => (evi env it).bind fun xs => (compD xs fun x =>
      (bindG putE p x (wipeD env (own.map (·.2)))).bind fun env' => (evc env' c).bind fun t =>
        if t then (ev env' e).map some else .ok none).map D.lst
  | .lc2 own p it c own2 q jt d e => (evi env it).bind fun xs => (compD2 xs fun x =>
      (bindG putE p x (wipeD env (own.map (·.2)))).bind fun env1 => (evc env1 c).bind fun t =>
        if t then (evi env1 jt).bind fun ys => compD ys fun y =>
          (bindG putE q y (wipeD env1 own2)).bind fun env2 => (evc env2 d).bind fun t =>
            if t then (ev env2 e).map some else .ok none
        else .ok []).bind lenL
  | .dc own p it c a b => (evi env it).bind fun xs => (compP xs (fun x =>
      (bindG putE p x (wipeD env (own.map (·.2)))).bind fun env' => (evc env' c).bind fun t =>
        if t then (ev env' a).bind fun k => (ev env' b).map fun v => some (k, v) else .ok none) [] []).map dictP
  | .op o es => (if o.calm then (evs env es).calm else evs env es).bind (opD o)
  | .ino neg tab a b => (ev env a).bind fun x => (ev env b).bind fun y => (inO neg tab x y).map D.bool
  | .selfF _ c k => env.mine c k
def eva (env : Env) (o : Bool) : Es → R D
  | .nil => .no
  | .cons e es => match es with
    | .nil => ev env e
    | .cons _ _ => (ev env e).bind fun x => (truth x).bind fun t => if t = o then eva env o es else .ok x
def evo (env : Env) : EO → R (Option Int)
  | .none => .ok none
  | .some e => (ev env e).bind partI
def evc (env : Env) : EO → R Bool
  | .none => .ok true
  | .some e => (ev env e).bind truth
def evs (env : Env) : Es → R (List D)
  | .nil => .ok []
  | .cons e es => (ev env e).bind fun x => (evs env es).map fun xs => x :: xs
def evi (env : Env) : It → R (List D)
  | .seq e => (ev env e).bind seqD
  | .range a => (ev env a).bind fun x => match x with
    | .int n => if n ≤ (cap : Int) ∧ -bigI ≤ n then .ok (rangeD 0 n) else .no
    | _ => .no
  | .range2 a b => (ev env a).bind fun x => (ev env b).bind fun y => match x, y with
    | .int m, .int n => if -bigI ≤ m ∧ m ≤ bigI ∧ -bigI ≤ n ∧ n ≤ bigI ∧ n - m ≤ (cap : Int) then .ok (rangeD m n) else .no
    | _, _ => .no
  | .op o es => (evs env es).bind (iopD o)
end

/-! ### statements -/
/-- a name's slot: nothing, a value that stays as it is, a container that this frame alone holds (k levels deep) -/
inductive Sl | u | v (d : D) | o (k : Nat) (d : D)
@[simp] def Sl.rd : Sl → Option D
  | .u => none
  | .v d => some d
  | .o _ d => some d
@[simp] def Sl.fr : Sl → Option D
  | .v d => some d
  | _ => none
abbrev St := List Sl
/-- what an expression may read: all (its value must be a scalar then), or what stays as it is -/
def meS (st : St) : Option (Nat × List D) := match st[(0 : Nat)]? with
  | some (.o 2 (.obj c fs)) => some (c, fs)
  | _ => none
def envS (m : Bool) (st : St) : Env := ⟨st.map (if m then Sl.rd else Sl.fr), meS st⟩

inductive Cf where
  | nx (st : St) | bk (st : St) | ct (st : St)
  | rt (d : D) | ex (c : Nat) (fs : List D) (st : St) | no

def D.scalar : D → Bool
  | .non => true
  | .bool _ => true
  | .int _ => true
  | .str _ => true
  | _ => false
mutual
/-- a scalar, a tuple of such: it names no list -/
def D.kept : D → Bool
  | .non => true
  | .bool _ => true
  | .int _ => true
  | .str _ => true
  | .tup xs => D.kepts xs
  | _ => false
def D.kepts : List D → Bool
  | [] => true
  | x :: xs => D.kept x && D.kepts xs
end
def okM (m : Bool) (d : D) : Bool := !m || d.kept

def putP (i : Nat) (d : D) (st : St) : St := st.set i (.v d)
def bindP (p : Pat) (d : D) (st : St) : R St := bindG putP p d st

/-- further statements -/
inductive SOp where
  /-- x.f = e, x the object in slot i, of the class c, that the frame alone holds; f its k-th field -/
  | setF (m : Bool) (i c k : Nat) (f : String) (e : E)
  /-- x.reverse(), x.clear() -/
  | revL (i : Nat) | clrL (i : Nat)
mutual
inductive S where
  /-- p = e -/
  | asg (m : Bool) (p : Pat) (e : E)
  /-- x = e, e a new list -/
  | asgN (m : Bool) (i : Nat) (e : E)
  | aug (i : Nat) (o : BOp) (e : E)
  | expr (e : E)
  | app (m : Bool) (i : Nat) (e : E)
  | setI (m : Bool) (i : Nat) (j e : E)
  | ret (e : E)
  /-- return of a new list: an expression, the list that slot i alone holds -/
  | retN (e : E) | retO (i : Nat)
  | ifs (c : E) (a b : Ss)
  | forr (p : Pat) (it : It) (b : Ss)
  | whil (c : E) (b : Ss)
  | brk | cont | pass
  /-- raise x('..'), c its class -/
  | raise (x : String) (c : Nat)
  /-- raise x(..), x an own class that keeps its arguments as fields -/
  | raiseF (x : String) (c : Nat) (es : Es)
  | frz (i : Nat)
  | op (o : SOp)
  /-- try: b, except x as (slot i): h; cs: the classes beneath x, al: all that are known -/
  | tri (b : Ss) (x : String) (cs al : List Nat) (i : Option Nat) (h : Ss)
inductive Ss where
  | nil | cons (s : S) (ss : Ss)
end

mutual
/-- no caught exception within -/
def D.noexc : D → Bool
  | .exc _ _ => false
  | .tup xs => D.noexcs xs
  | .lst xs => D.noexcs xs
  | .obj _ xs => D.noexcs xs
  | .set xs => D.noexcs xs
  | .dict ks vs => D.noexcs ks && D.noexcs vs
  | _ => true
def D.noexcs : List D → Bool
  | [] => true
  | x :: xs => D.noexc x && D.noexcs xs
end
def Sl.noexc : Sl → Bool
  | .u => true
  | .v d => d.noexc
  | .o _ d => d.noexc

/-- a for loop over items -/
def forD : List D → (D → St → Cf) → St → Cf
  | [], _, st => .nx st
  | x :: xs, f, st => match f x st with
    | .nx st' => forD xs f st'
    | .ct st' => forD xs f st'
    | .bk st' => .nx st'
    | r => r
/-- a while loop of at most so many turns -/
def whileD : Nat → (St → R Bool) → (St → Cf) → St → Cf
  | 0, _, _, _ => .no
  | n + 1, c, f, st => match c st with
    | .ok true => (match f st with
      | .nx st' => whileD n c f st'
      | .ct st' => whileD n c f st'
      | .bk st' => .nx st'
      | r => r)
    | .ok false => .nx st
    | .ex c fs => .ex c fs st
    | .no => .no

/-- a value, then what follows; st: the slots at an exception -/
def R.cf {α : Type} (st : St) : R α → (α → Cf) → Cf
  | .ok a, f => f a
  | .ex c fs, _ => .ex c fs st
  | .no, _ => .no
/-- an expression as a test -/
def evt (env : Env) (e : E) : R Bool := (ev env e).bind truth

def frzS : Option Sl → Sl
  | some (.o _ d) => .v d
  | some x => x
  | none => .u
/-- the list that slot i alone holds, then what follows -/
def ownL (st : St) (i : Nat) (k : List D → Cf) : Cf := match st[i]? with
  | some (.o 1 (.lst ds)) => k ds
  | _ => .no
def newS (m : Bool) (st : St) (i : Nat) (d : D) : Cf := match d with
  | .lst ds => if i < st.length ∧ (m = true → D.kepts ds = true) then .nx (st.set i (.o 1 d)) else .no
  | _ => .no
def retL : D → Cf
  | .lst ds => .rt (.lst ds)
  | _ => .no
/-- an index of a list's, to be stored at -/
def atS (n : Nat) (d : D) (k : Nat → Cf) : Cf := match d with
  | .int i => (match ixN n i with
    | some j => k j
    | none => .no)
  | _ => .no

/-- the slots as an except suite finds them, what comes out of it -/
def catchS (i : Option Nat) (c : Nat) (fs : List D) (st : St) : St := match i with
  | some i => st.set i (.v (.exc c fs))
  | none => st
def dropS (i : Option Nat) (st : St) : St := match i with
  | some i => st.set i .u
  | none => st
def catchD (i : Option Nat) : Cf → Cf
  | .nx st => if (dropS i st).all Sl.noexc then .nx (dropS i st) else .no
  | .rt d => if d.noexc then .rt d else .no
  | _ => .no

/-- the object that slot i alone holds, then what follows -/
def ownO (st : St) (i c : Nat) (k : List D → Cf) : Cf := match st[i]? with
  | some (.o 2 (.obj c' fs)) => if c' = c then k fs else .no
  | _ => .no
def runO (st : St) : SOp → Cf
  | .setF m i c k _ e => ownO st i c fun fs => (ev (envS m st) e).cf st fun d => if okM m d then
      (if k < fs.length then .nx (st.set i (.o 2 (.obj c (fs.set k d)))) else if k = fs.length then .nx (st.set i (.o 2 (.obj c (fs ++ [d])))) else .no) else .no
  | .revL i => ownL st i fun ds => .nx (st.set i (.o 1 (.lst ds.reverse)))
  | .clrL i => ownL st i fun _ => .nx (st.set i (.o 1 (.lst [])))
mutual
def run (st : St) : S → Cf
  | .asg m p e => (ev (envS m st) e).cf st fun d => if okM m d then (bindP p d st).cf st Cf.nx else .no
  | .asgN m i e => (ev (envS m st) e).cf st (newS m st i)
  | .aug i o e => (Env.get (envS true st) i).cf st fun x => (ev (envS true st) e).cf st fun y => (binD o x y).cf st fun z =>
      if z.scalar then .nx (st.set i (.v z)) else .no
  | .expr e => (ev (envS true st) e).cf st fun _ => .nx st
  | .app m i e => ownL st i fun ds => (ev (envS m st) e).cf st fun d => if okM m d && decide (ds.length < cap) then .nx (st.set i (.o 1 (.lst (ds ++ [d])))) else .no
  | .setI m i j e => ownL st i fun ds => (ev (envS m st) e).cf st fun d => if okM m d then (ev (envS true st) j).cf st fun k => atS ds.length k fun n => .nx (st.set i (.o 1 (.lst (ds.set n d)))) else .no
  | .ret e => (ev (envS true st) e).cf st fun d => .rt d
  | .retN e => (ev (envS true st) e).cf st retL
  | .retO i => ownL st i fun ds => .rt (.lst ds)
  | .ifs c a b => (evt (envS true st) c).cf st fun t => if t then runs st a else runs st b
  | .forr p it b => (evi (envS it.rng st) it).cf st fun xs => forD xs (fun x st => (bindP p x st).cf st fun st' => runs st' b) st
  | .whil c b => whileD cap (fun st => evt (envS true st) c) (fun st => runs st b) st
  | .brk => .bk st
  | .cont => .ct st
  | .pass => .nx st
  | .raise _ c => .ex c [] st
  | .raiseF _ c es => (evs (envS true st) es).cf st fun ds => if ds.all D.scalar && !ds.isEmpty then .ex c ds st else .no
  | .frz i => .nx (st.set i (frzS st[i]?))
  | .op o => runO st o
  | .tri b _ cs al i h => match runs st b with
    | .ex c fs st1 => if al.contains c then (if cs.contains c then catchD i (runs (catchS i c fs st1) h) else .ex c fs st1) else .no
    | r => r
def runs (st : St) : Ss → Cf
  | .nil => .nx st
  | .cons s ss => match run st s with
    | .nx st' => runs st' ss
    | r => r
end

/-- a def: its slots, its parameters, its body -/
def startS (n : Nat) (as : List D) : St := as.map Sl.v ++ List.replicate (n - as.length) .u
def fin : Cf → R D
  | .nx _ => .ok .non
  | .rt d => .ok d
  | .ex c fs _ => .ex c fs
  | _ => .no
def defD (n k : Nat) (b : Ss) : Sem := fun as => if as.length = k then fin (runs (startS n as) b) else .no
/-- def f(a, .., *v): k parameters ahead of the tuple -/
def defS (n k : Nat) (b : Ss) : Sem := fun as => if k ≤ as.length ∧ as.length ≤ 1000 then defD n (k + 1) b (as.take k ++ [.tup (as.drop k)]) else .no
/-- a def that hands back a new list -/
def defN (n k : Nat) (b : Ss) : Sem := fun as => match defD n k b as with
  | .ok (.lst l) => .ok (.lst l)
  | .ok _ => .no
  | r => r
/-- a def that calls itself -/
def itD (n k : Nat) (b : Sem → Ss) : Nat → Sem
  | 0 => fun _ => .no
  | m + 1 => defD n k (b (itD n k b m))
/-- an own class's __init__: the object is made; nf: its fields -/
def startI (n c : Nat) (as : List D) : St := .o 2 (.obj c []) :: (as.map Sl.v ++ List.replicate (n - (as.length + 1)) .u)
def finI (c nf : Nat) : Cf → R D
  | .nx st => (match st[(0 : Nat)]? with
    | some (.o 2 (.obj c' fs)) => if c' = c ∧ fs.length = nf then .ok (.obj c fs) else .no
    | _ => .no)
  | .ex c fs _ => .ex c fs
  | _ => .no
def initD (n k c nf : Nat) (b : Ss) : Sem := fun as => if as.length + 1 = k then finI c nf (runs (startI n c as) b) else .no
end Py

namespace Py
open PySem PySem.Spec PyProof.Rows L2

/-! ### enumerate of a list, a tuple -/
set_option maxHeartbeats 1000000 in
theorem meets_enumB {v : Value} {o : Obj} {H : Heap → Prop} (B : Begins v o H) :
    Meets (Builtin.«enumerate.__new__» ⟨[.type "enumerate", v], []⟩) (fun _ R s => H s.heap ∧
      R (.ok (.ret (.ref (s.heap.push o).objs.size))) { s with heap := (s.heap.push o).push { cls := .type "enumerate", data := .fields #[.none, .bool false, .ref s.heap.objs.size, rawInt 0, .none, .none] } }) :=
  .of_wp fun prog w A R s h => by
    obtain ⟨hp, g, d, tk, os⟩ := s; obtain ⟨h1, h⟩ := h
    have hsub := sub_enumerate
    have q1 : ∀ {A' : Around} {E : Value → Shared → Prop} {Q : Value → Shared → Prop}, Q (.ref hp.objs.size) ⟨hp.push o, g, d, tk, os⟩ → wpAny (model prog w) A' (pyIter v) Q E ⟨hp, g, d, tk, os⟩ :=
      fun q => B.iter prog w _ _ ⟨hp, g, d, tk, os⟩ _ h1 q
    wp_walk using q1
    refine wpAny_stack_any fun st => wpAny_pure ?_
    split
    · rename_i c _ _ _ _ _
      cases (c == Value.type "enumerate")
      · wp_walk using q1
        exact ⟨_, rfl, h⟩
      · wp_walk using q1
        exact ⟨_, rfl, h⟩
    · wp_walk using q1
      exact ⟨_, rfl, h⟩
theorem call_enumB {prog : Program} {w : World} {A : Around} {E : Value → Shared → Prop} {s : Shared} {v : Value} {o : Obj} {H : Heap → Prop} {Q : Value → Shared → Prop} (B : Begins v o H) (h1 : H s.heap)
    (h : ∀ h', IsEnum h' (s.heap.objs.size + 1) s.heap.objs.size 0 .none → h'.get? s.heap.objs.size = some o → h'.objs.size = s.heap.objs.size + 2 → (∀ b o, s.heap.get? b = some o → h'.get? b = some o) → Q (.ref (s.heap.objs.size + 1)) { s with heap := h' }) :
    wpAny (model prog w) A (call (.type "enumerate") [v]) Q E s := by
  refine callType_new F.called_enumerate (by decide) (F.typeCall_enumerate_1 _) (F.newCall_enumerate_1 _) (fun obj => F.args_object_init_2 obj _) F.entry_enumerate_new (meets_enumB B) ⟨h1, ?_⟩
  have hz : (s.heap.push o).objs.size = s.heap.objs.size + 1 := Heap.size_push ..
  show _ ∧ _
  rw [hz]
  have he : IsEnum ((s.heap.push o).push { cls := .type "enumerate", data := .fields #[.none, .bool false, .ref s.heap.objs.size, rawInt 0, .none, .none] }) (s.heap.objs.size + 1) s.heap.objs.size 0 .none := by
    have := Heap.get?_push_size (s.heap.push o) (o := { cls := .type "enumerate", data := .fields #[.none, .bool false, .ref s.heap.objs.size, rawInt 0, .none, .none] }) rfl
    rw [hz] at this
    exact this
  exact ⟨⟨_, he, rfl⟩, h _ he (Heap.get?_push_of_some _ (Heap.get?_push_size _ B.free)) (by rw [Heap.size_push, hz]) fun b o x => Heap.get?_push_of_some _ (Heap.get?_push_of_some _ x)⟩
/-- the tuple at a, of n items, each item in a new pair -/
def IteT (K : PySem.W.Frag) (a : Addr) (n : Nat) : L2.It :=
  ⟨fun i H => ∃ (xs : List V) (x : V), SqT K H a xs ∧ xs[i]? = some x ∧ xs.length = n, fun i H v H' => ∃ T x, v = .ref T ∧ H T = none ∧ H' = upd H T (.tup [.int (i : Nat), x]) ∧ ∀ xs, SqT K H a xs → xs[i]? = some x, fun i H => ∃ xs : List V, SqT K H a xs ∧ xs.length = n ∧ n ≤ i⟩
theorem turn_enumT {P : Program} {w : World} {K : PySem.W.Frag} {elts : List Expr} {kk : Nat} {tpos : Pos} {n : Nat} (a e it : Addr) (hai : a ≠ it) (hae : e ≠ a) :
    Turn P w K (.Tuple elts kk tpos) (IteT K a n) [e, it] e (fun i h => (∃ old, IsEnum h e it ((i : Nat) : Int) old) ∧ h.IsTupleIter it a i ∧ e ≠ it ∧ i ≤ n) where
  mem := by simp
  obj := fun i h st b hb => by
    obtain ⟨⟨old, he⟩, ⟨o, ho, hc, hd⟩, _, _⟩ := st
    have e' : b = e ∨ b = it := by simpa using hb
    rcases e' with z | z
    · rw [z]; exact ⟨_, he, fun v q => nomatch q⟩
    · rw [z]; exact ⟨o, ho, fun v q => by rw [hd] at q; cases q⟩
  keep := fun i h h' st k => let ⟨⟨old, he⟩, hi, hne, hin⟩ := st; ⟨⟨old, k e (by simp) _ he⟩, hi.at fun o q => k it (by simp) o q, hne, hin⟩
  item := by
    intro X hP hw hK hc i pins s σ H E I hf st hg
    subst hP hw hK
    obtain ⟨⟨old, he⟩, hit, hne, hin⟩ := st
    obtain ⟨xs, x, hq, hx, hxn⟩ := hg
    obtain ⟨its, rv, p, hz⟩ := I.tuple hq
    have p : s.heap.IsTuple a its.toArray := p
    obtain ⟨u, hu, ru⟩ := rv.get hx
    have hel : e < s.heap.objs.size := Heap.lt_size he
    have hil : it < s.heap.objs.size := by obtain ⟨_, q, _⟩ := hit; exact Heap.lt_size q
    have hlt : i < its.toArray.size := by
      have := (List.getElem?_eq_some_iff.mp hu).1
      simpa using this
    have hh : X.A.in1.handled = none := I.ok.hd hc
    refine wpAny_pyNext_enum_itemC (Draws.tuple hh it a hai its.toArray) he ⟨hit, p⟩ hlt hne (by simp; exact ⟨hne, hae⟩) fun x' h' tk hx' ho hst hT hsz hk => ?_
    obtain ⟨hit', hp'⟩ := hst
    have ex : u = x' := by
      have h1 : its.toArray[i]? = some x' := hx'
      rw [List.getElem?_toArray, hu] at h1
      exact Option.some.inj h1
    subst ex
    refine ⟨_, rfl, wpAny_letOwnedTupleGo_enum (s := { s with heap := h', toks := tk + 1 }) ho fun h'' he' sb => ?_⟩
    have hT2 : h''.get? s.heap.objs.size = some { cls := .type "tuple", data := .seq #[.int i tk, u] } := (sb.2 _ (Nat.ne_of_gt hel)).trans hT
    have new : ObjOk X.prog X.w (upd H s.heap.objs.size (.tup [.int (i : Nat), x])) h'' s.heap.objs.size (.tup [.int (i : Nat), x]) :=
      ⟨by show 2 ≤ sizeLine; decide, [.int i tk, u], .cons ⟨_, rfl⟩ (.cons ru .nil), ⟨_, hT2, rfl, _, rfl⟩⟩
    have I1 : Inv X pins σ (upd H s.heap.objs.size (.tup [.int (i : Nat), x])) { s with heap := h'', toks := tk + 1 } :=
      I.turnedNew (ch := [e, it]) (fun b ob hb q => (sb.2 b (fun z => hb (by simp [z]))).trans (hk b ob (fun z => hb (by simp [z])) (fun z => hb (by simp [z])) q)) hf (Nat.le_refl _) new
    refine ⟨.ref s.heap.objs.size, _, I1, rfl, ⟨_, x, rfl, I.hok.fresh (Nat.le_refl _), rfl, fun ys hy => by rw [I.tuple_inj hy hq]; exact hx⟩, ⟨⟨u, ?_⟩, hit'.at fun o q => (sb.2 it (Ne.symm hne)).trans q, hne, by have := (List.getElem?_eq_some_iff.mp hx).1; omega⟩, fun b hb => ?_⟩
    · have e1 : ((i + 1 : Nat) : Int) = (i : Int) + 1 := by omega
      rw [e1]; exact he'
    · have hb' : b < s.heap.objs.size := by
        have e' : b = e ∨ b = it := by simpa using hb
        rcases e' with z | z
        · rw [z]; exact hel
        · rw [z]; exact hil
      rw [upd_ne (Nat.ne_of_lt hb')]
      exact (hf b hb).1
  done := by
    intro X hP hw hK hc i pins s σ H E I hf st hg
    subst hP hw hK
    obtain ⟨⟨old, he⟩, hit, hne, hin⟩ := st
    obtain ⟨xs, hq, hxn, hx⟩ := hg
    obtain ⟨its, rv, p, hz⟩ := I.tuple hq
    have p : s.heap.IsTuple a its.toArray := p
    obtain ⟨f0, f1, f2, f3, f4, f5⟩ := hf it (by simp)
    have hl := rv.length
    have hh : X.A.in1.handled = none := I.ok.hd hc
    have en : i = its.toArray.size := by
      simp
      omega
    exact wpAny_pyNext_enum_endD (Draws.tuple hh it a hai its.toArray) he ⟨by rw [← en]; exact hit, p⟩ fun h' eb => ⟨rfl, I.turned (t' := s.toks) (fun b o hb q => eb b o hb q) f0 f1 f3 f4 f5⟩
  self := fun A i s Q E st h => let ⟨⟨_, he⟩, _⟩ := st; wpAny_pyIter_enum he h
def iEnumA (K : PySem.W.Frag) (ta : TA) : TI := fun σ H R => ta σ H fun vs H1 => ∃ a xs, vs = [.ref a] ∧ ((SqL K H1 a xs ∧ R (Ite K a) H1) ∨ (SqT K H1 a xs ∧ R (IteT K a xs.length) H1))
theorem pi_enumA {X : Cx} {e : Expr} {ta : TA} {p pos tpos : Pos} {elts : List Expr} {kk : Nat} (hg : Gl X "enumerate") (hm : X.mg "enumerate" = none) (ha : PA X [e] ta) (hs : starEach [e] X.env = [(false, eval e X.env)]) :
    PI X (.Tuple elts kk tpos) (.Call (.Name "enumerate" p) [e] [] pos) (iEnumA X.K ta) := by
  refine ⟨fun pins s σ H R I h => ?_⟩
  refine Call_ (ld_blt I hg hm PyProof.Rows.boot_enumerate (PyProof.Rows.callWith_type1 (thn (ha.run pos pins s σ H _ I h) fun us s1 ⟨vs, H1, I1, r1, q1⟩ => ?_) hs rfl))
  obtain ⟨a, xs, ex, q1⟩ := q1
  subst ex
  cases r1 with
  | cons r rr =>
    cases rr
    cases r
    have fresh : ∀ b, b ∈ [s1.heap.objs.size + 1, s1.heap.objs.size] → FpOk X pins H1 b := fun b hb => by
      have e' : b = s1.heap.objs.size + 1 ∨ b = s1.heap.objs.size := by simpa using hb
      have hle : s1.heap.objs.size ≤ b := by
        rcases e' with z | z
        · rw [z]; exact Nat.le_add_right _ _
        · rw [z]; exact Nat.le_refl _
      exact I1.fpOk hle (I1.hok.fresh hle)
    rcases q1 with ⟨hq, q⟩ | ⟨hq, q⟩
    · obtain ⟨its, rv, p', hz⟩ := I1.list hq
      refine call_enumerate_list p'.isList fun h' he hit hsz hk => wpAny_pyIter_enum he ?_
      have I2 : Inv X pins σ H1 { s1 with heap := h' } := I1.kept (t' := s1.toks) hk
      exact ⟨s1.heap.objs.size + 1, [s1.heap.objs.size + 1, s1.heap.objs.size], _, _, H1, rfl, I2, turn_enum a (s1.heap.objs.size + 1) s1.heap.objs.size, ⟨⟨.none, he⟩, hit, Nat.succ_ne_self _⟩, fresh, q⟩
    · obtain ⟨its, rv, p', hz⟩ := I1.tuple hq
      have p' : s1.heap.IsTuple a its.toArray := p'
      have hal : a < s1.heap.objs.size := by
        obtain ⟨o, ho, _⟩ := p'
        exact Heap.lt_size ho
      refine call_enumB (begins_tuple a its.toArray) p' fun h' he hit hsz hk => wpAny_pyIter_enum he ?_
      have I2 : Inv X pins σ H1 { s1 with heap := h' } := I1.kept (t' := s1.toks) hk
      exact ⟨s1.heap.objs.size + 1, [s1.heap.objs.size + 1, s1.heap.objs.size], _, _, H1, rfl, I2, turn_enumT a (s1.heap.objs.size + 1) s1.heap.objs.size (Nat.ne_of_lt hal) (Ne.symm (Nat.ne_of_lt (Nat.lt_succ_of_lt hal))), ⟨⟨.none, he⟩, ⟨_, hit, rfl, rfl⟩, Nat.succ_ne_self _, Nat.zero_le _⟩, fresh, q⟩
end Py

namespace L2
open PySem PySem.Spec PyProof.Rows
theorem tuple_mul1 (l : Addr) (items : Array Value) (n : Nat) (dd : Option Addr) (sl : Array (Option Value)) (u : Tok) :
    Meets (Builtin.«tuple.__mul__» ⟨[.ref l, .int 1 u], []⟩) (fun _ R s => s.heap.get? l = some { cls := .type "tuple", dict := dd, data := .seq items n, slots := sl } ∧
      R (.ok (.ret (Value.ref l))) s) :=
  .of_wp fun prog w A R s h => by
    obtain ⟨hp, g, d, tk, os⟩ := s
    obtain ⟨hl, h⟩ := h
    have f1 := AutoSeq1.idx_int
    have c1 : (items.isEmpty || (1 : Int) == 1) = true := by cases items.isEmpty <;> rfl
    wp_walk using wpAny_loadPart' hl
    exact ⟨_, rfl, h⟩
theorem tuple_mul0 (l : Addr) (items : Array Value) (n : Nat) (dd : Option Addr) (sl : Array (Option Value)) (x : Int) (u : Tok) (c0 : (decide (x < -(2 ^ 63)) || decide (x ≥ 2 ^ 63)) = false) (c1 : (items.isEmpty || x == 1) = false) (c2 : (decide (x ≤ 0) || items.isEmpty) = true) :
    Meets (Builtin.«tuple.__mul__» ⟨[.ref l, .int x u], []⟩) (fun _ R s => s.heap.get? l = some { cls := .type "tuple", dict := dd, data := .seq items n, slots := sl } ∧
      R (.ok (.ret (Value.ref s.heap.objs.size))) { s with heap := s.heap.push { cls := Value.type "tuple", data := Data.seq #[] }, toks := s.toks }) :=
  .of_wp fun prog w A R s h => by
    obtain ⟨hp, g, d, tk, os⟩ := s
    obtain ⟨hl, h⟩ := h
    have f1 := AutoSeq1.idx_int
    wp_walk using wpAny_loadPart' hl
    repeat (first
      | (refine wpAny_ite_false (decide_eq_false (by rw [c0]; exact Bool.false_ne_true)) ?_; wp_walk using wpAny_loadPart' hl)
      | (refine wpAny_ite_false (decide_eq_false (by rw [c1]; exact Bool.false_ne_true)) ?_; wp_walk using wpAny_loadPart' hl)
      | (refine wpAny_ite_true (decide_eq_true c2) ?_; wp_walk using wpAny_loadPart' hl))
    exact ⟨_, rfl, h⟩

def rRepA (K : PySem.W.Frag) : R2 := fun x y H Q => ∃ l k xs, x = .ref l ∧ y = .int k ∧ SqT K H l xs ∧ xs ≠ [] ∧ -1000 ≤ k ∧ k ≤ 1000 ∧ xs.length ≤ 1000 ∧ (k = 1 → Q (.ref l) H) ∧ (k ≠ 1 → ∀ p, H p = none → Q (.ref p) (upd H p (.tup (List.replicate k.toNat xs).flatten)))
section
variable {X : Cx}
theorem op_repA : OpR X (binaryOp .Mult) (rRepA X.K) := by
  intro pins s σ H x y v u Q I rx ry h
  obtain ⟨l, k, xs, rfl, rfl, hT, hne, h1, h2, hz, q1, q2⟩ := h
  by_cases hk2 : 2 ≤ k
  · exact op_repT pins s σ H _ _ v u Q I rx ry ⟨l, k, xs, rfl, rfl, hT, hne, hk2, h2, hz, q2 (by omega)⟩
  cases rx
  obtain ⟨t, rfl⟩ := ry
  obtain ⟨its, r, ⟨⟨cls, dd, data, sl⟩, ho, hc, n, hd⟩, hs⟩ := I.tuple hT
  simp only at hc hd
  subst hc hd
  have hle : its.length = xs.length := r.length.symm
  have hn : its ≠ [] := fun e => hne (by
    rw [e] at hle
    exact List.eq_nil_of_length_eq_zero hle.symm)
  have hi : its.toArray.isEmpty = false := by
    cases its with
    | nil => exact absurd rfl hn
    | cons a b => rfl
  by_cases hk1 : k = 1
  · subst hk1
    refine wpAny_binaryOp_repeat_ref (T := "tuple") (U := "int") (by decide) ⟨_, ho, rfl⟩ (fun s' => typeIs_int s' 1 t) noFill_tuple_mul F.fills_int_mul F.slot_int_rmul repeat_tuple F.slot_int_index.lookup
      (call_meets F.slot_int_rmul (typeIs_int s 1 t) F.entry_int_rmul (F.args_int_rmul_2 _ _) (int_rmul_tuple 1 t l its.toArray n dd sl)
        ⟨ho, rfl, ⟨_, ho, rfl⟩, call_meets F.slot_tuple_mul ⟨_, ho, rfl⟩ F.entry_tuple_mul (F.args_tuple_mul_2 _ _) (tuple_mul1 l its.toArray n dd sl t) ⟨ho, ?_⟩⟩)
    exact ⟨.ref l, H, I.tok s.toks, rfl, q1 rfl⟩
  · have c0 : (decide (k < -(2 ^ 63)) || decide (k ≥ 2 ^ 63)) = false := by
      rw [decide_eq_false (by omega), decide_eq_false (by omega)] <;> rfl
    have c1 : (its.toArray.isEmpty || k == 1) = false := by
      rw [hi, Bool.false_or]
      exact beq_eq_false_iff_ne.mpr (by omega)
    have c2 : (decide (k ≤ 0) || its.toArray.isEmpty) = true := by
      rw [hi, Bool.or_false]
      exact decide_eq_true (by omega)
    refine wpAny_binaryOp_repeat_ref (T := "tuple") (U := "int") (by decide) ⟨_, ho, rfl⟩ (fun s' => typeIs_int s' k t) noFill_tuple_mul F.fills_int_mul F.slot_int_rmul repeat_tuple F.slot_int_index.lookup
      (call_meets F.slot_int_rmul (typeIs_int s k t) F.entry_int_rmul (F.args_int_rmul_2 _ _) (int_rmul_tuple k t l its.toArray n dd sl)
        ⟨ho, rfl, ⟨_, ho, rfl⟩, call_meets F.slot_tuple_mul ⟨_, ho, rfl⟩ F.entry_tuple_mul (F.args_tuple_mul_2 _ _) (tuple_mul0 l its.toArray n dd sl k t c0 c1 c2) ⟨ho, ?_⟩⟩)
    have e0 : k.toNat = 0 := by omega
    have q := q2 hk1 s.heap.objs.size (I.hok.fresh (Nat.le_refl _))
    rw [e0] at q
    refine ⟨.ref s.heap.objs.size, _, I.laid (t' := s.toks) (o := .tup (List.replicate 0 xs).flatten) (fun b ob q => Heap.get?_push_of_some _ q) (Nat.le_refl _) ?_, rfl, q⟩
    exact ⟨Nat.zero_le _, [], .nil, IsTup.new _ _⟩
end

/-! ### sum of a tuple of ints -/
section
variable {prog : Program} {w : World} {A : Around} {E : Value → Shared → Prop} {s : Shared} {l : Addr} {xs : Array (Int × Tok)}
theorem sum_intTup {Q : Value → Shared → Prop} (hh : A.handled = none) (hl : s.heap.IsTuple l (intItems xs))
    (h : ∀ h' tk t', (∀ b o, s.heap.get? b = some o → h'.get? b = some o) → Q (.int (preSum (numAt xs) xs.size) t') { s with heap := h', toks := tk }) :
    wpAny (model prog w) A (call (.builtin "sum") [.ref l]) Q E s := by
  have hlt : l < s.heap.objs.size := by obtain ⟨_, e, _⟩ := hl; exact Heap.lt_size e
  refine call_sum_walkG (wpAny_pyIter_tuple hl ?_)
  refine ⟨s.heap.objs.size, _, _, _, _, _, numAt xs, rfl, Walks.tuple (A := A.in1) hh _ l (Nat.ne_of_lt hlt) (intItems xs), ⟨⟨_, Heap.get?_push_size _ rfl, rfl, rfl⟩, hl.at fun o e => Heap.get?_push_of_some _ e⟩, fun b hb => ?_, (fun _ _ => intItems_at), fun h' tk t' hk => ?_⟩
  · show b < (s.heap.push _).objs.size
    rw [Heap.size_push]
    rcases List.mem_cons.mp hb with rfl | hb
    · exact Nat.lt_succ_self _
    · rcases List.mem_cons.mp hb with rfl | hb
      · exact Nat.lt_succ_of_lt hlt
      · cases hb
  · have := h h' tk t' fun b o e => hk b o (fun hm => by
      rcases List.mem_cons.mp hm with e1 | hm
      · exact absurd (e1 ▸ Heap.lt_size e) (Nat.lt_irrefl _)
      · cases hm) (Heap.get?_push_of_some _ e)
    simpa [intItems] using this
end
def rSumT (K : PySem.W.Frag) : List V → Hp → VK → Prop := fun vs H Q => ∃ (a : Addr) (ns : List Int), vs = [V.ref a] ∧ SqT K H a (ns.map V.int) ∧ Q (.int ns.sum) H
theorem cr_sumT {X : Cx} (hc : X.calm = true) : CallR X (.builtin "sum") (rSumT X.K) := by
  intro pins s σ H vs us Q I r h
  obtain ⟨a, ns, rfl, hs, q⟩ := h
  obtain ⟨its, rv, hl, _⟩ := I.tuple hs
  rw [Vals.ref1 r]
  have hi : IntsAre its ns := rv.ints
  obtain ⟨xs, e⟩ := hi.allInts.items
  have hn : numsOf (intItems xs).toList = ns := by rw [← e]; exact hi.numsOf
  rw [nums_intItems] at hn
  have hl' : s.heap.IsTuple a its.toArray := hl
  rw [e] at hl'
  refine sum_intTup (I.ok.hd hc) hl' fun h' tk t' hk => ?_
  rw [preSum_eq, List.take_of_length_le (by simp), hn]
  exact ⟨.int _, H, I.kept hk, ⟨_, rfl⟩, q⟩
end L2

namespace Py
open PySem L2

/-- where the classes stand -/
structure Tab where
  /-- where a class stands -/
  addr : Nat → Addr
  /-- its instances' attributes, in order -/
  flds : Nat → List Str
  /-- the exceptions that an except suite holds -/
  exc : Addr → Option (Nat × List D)
  /-- an exception's attributes -/
  xf : Nat → List Str
  /-- the object that a frame makes -/
  me : Addr

def keyOf : D → Option Key
  | .int i => some (.inl i)
  | .str s => some (.inr ⟨s.toArray⟩)
  | _ => none
def keysOf : List D → Option (List Key)
  | [] => some []
  | d :: ds => match keyOf d, keysOf ds with
    | some k, some r => some (k :: r)
    | _, _ => none
def keyT : D → Option (List Key)
  | .tup ds => keysOf ds
  | _ => none

section
variable (K : PySem.W.Frag) (ad : Nat → Addr) (fl : Nat → List Str) (xc : Addr → Option (Nat × List D))
mutual
def Rp (F : Hp) : D → V → Prop
  | .non, v => v = .non
  | .bool b, v => v = .bl b
  | .int i, v => v = .int i
  | .str s, v => v = .str ⟨s.toArray⟩
  | .tup ds, v => ∃ a vs, v = .ref a ∧ F a = some (.tup vs) ∧ Rps F ds vs
  | .lst ds, v => ∃ a vs, v = .ref a ∧ F a = some (.lst vs) ∧ Rps F ds vs
  | .scr ns, v => ∃ a, v = .ref a ∧ SqL K F a (ns.map V.int)
  | .exc c fs, v => ∃ a, v = .ref a ∧ xc a = some (c, fs)
  | .obj c ds, v => ∃ a dx vs, v = .ref a ∧ F a = some (.ins (ad c) dx ((fl c).zip vs)) ∧ vs.length ≤ (fl c).length ∧ Rps F ds vs
  | .dict ks ds, v => ∃ a, v = .ref a ∧ ((∃ kvs, F a = some (.dT kvs) ∧ ks.map keyT = kvs.map (fun p => some p.1) ∧ Rps F ds (kvs.map (·.2))) ∨
      (∃ kvs, F a = some (.dK kvs) ∧ ks.map keyOf = kvs.map (fun p => some p.1) ∧ Rps F ds (kvs.map (·.2))))
  | _, _ => False
def Rps (F : Hp) : List D → List V → Prop
  | [], vs => vs = []
  | d :: ds, vs => ∃ v r, vs = v :: r ∧ Rp F d v ∧ Rps F ds r
end
end
abbrev Rep (K : PySem.W.Frag) (T : Tab) (F : Hp) (d : D) (v : V) : Prop := Rp K T.addr T.flds T.exc F d v
abbrev Reps (K : PySem.W.Frag) (T : Tab) (F : Hp) (ds : List D) (vs : List V) : Prop := Rps K T.addr T.flds T.exc F ds vs
section
variable {K : PySem.W.Frag} {T : Tab}
theorem sameT {F G : Hp} {a : Addr} {xs : List V} (e : Same F G) (h : F a = some (.tup xs)) : SqT K G a xs := .inl (.inl (e _ _ h))
mutual
theorem Rep.mono {F G : Hp} (e : Same F G) : ∀ {d : D} {v : V}, Rep K T F d v → Rep K T G d v
  | .non, _, h => h
  | .bool _, _, h => h
  | .int _, _, h => h
  | .str _, _, h => h
  | .tup ds, _, ⟨a, vs, h1, h2, h3⟩ => ⟨a, vs, h1, e _ _ h2, Reps.mono e h3⟩
  | .lst ds, _, ⟨a, vs, h1, h2, h3⟩ => ⟨a, vs, h1, e _ _ h2, Reps.mono e h3⟩
  | .scr ns, _, ⟨a, h1, h2⟩ => ⟨a, h1, e.seq h2⟩
  | .set _, _, h => h.elim
  | .dict ks ds, _, ⟨a, h1, h⟩ => ⟨a, h1, by
    rcases h with ⟨kvs, h2, h3, h4⟩ | ⟨kvs, h2, h3, h4⟩
    · exact .inl ⟨kvs, e _ _ h2, h3, Reps.mono e h4⟩
    · exact .inr ⟨kvs, e _ _ h2, h3, Reps.mono e h4⟩⟩
  | .exc _ _, _, h => h
  | .obj c ds, _, ⟨a, dx, vs, h1, h2, h4, h3⟩ => ⟨a, dx, vs, h1, e _ _ h2, h4, Reps.mono e h3⟩
theorem Reps.mono {F G : Hp} (e : Same F G) : ∀ {ds : List D} {vs : List V}, Reps K T F ds vs → Reps K T G ds vs
  | [], _, h => h
  | d :: ds, _, ⟨v, r, h1, h2, h3⟩ => ⟨v, r, h1, Rep.mono e h2, Reps.mono e h3⟩
end
theorem Reps.length {F : Hp} : ∀ {ds : List D} {vs : List V}, Reps K T F ds vs → vs.length = ds.length
  | [], _, h => by
    cases h
    rfl
  | d :: ds, _, ⟨v, r, h1, h2, h3⟩ => by
    subst h1
    exact congrArg (· + 1) (Reps.length h3)
theorem Reps.get {F : Hp} : ∀ {ds : List D} {vs : List V} {i : Nat} {d : D}, Reps K T F ds vs → ds[i]? = some d → ∃ v, vs[i]? = some v ∧ Rep K T F d v
  | [], _, i, d, h, e => by simp at e
  | x :: ds, _, 0, d, ⟨v, r, h1, h2, h3⟩, e => by
    subst h1
    have e' : x = d := Option.some.inj e
    subst e'
    exact ⟨v, rfl, h2⟩
  | x :: ds, _, i + 1, d, ⟨v, r, h1, h2, h3⟩, e => by
    subst h1
    obtain ⟨u, q1, q2⟩ := Reps.get (i := i) h3 (by simpa using e)
    exact ⟨u, by simpa using q1, q2⟩
theorem Reps.getV {F : Hp} : ∀ {ds : List D} {vs : List V} {i : Nat} {v : V}, Reps K T F ds vs → vs[i]? = some v → ∃ d, ds[i]? = some d ∧ Rep K T F d v
  | [], _, i, d, h, e => by
    cases h
    simp at e
  | x :: ds, _, 0, d, ⟨v, r, h1, h2, h3⟩, e => by
    subst h1
    have e' : v = d := Option.some.inj e
    subst e'
    exact ⟨x, rfl, h2⟩
  | x :: ds, _, i + 1, d, ⟨v, r, h1, h2, h3⟩, e => by
    subst h1
    obtain ⟨u, q1, q2⟩ := Reps.getV (i := i) h3 (by simpa using e)
    exact ⟨u, by simpa using q1, q2⟩
theorem Reps.app {F : Hp} : ∀ {ds es : List D} {vs us : List V}, Reps K T F ds vs → Reps K T F es us → Reps K T F (ds ++ es) (vs ++ us)
  | [], _, _, _, h, g => by
    cases h
    exact g
  | d :: ds, _, _, _, ⟨v, r, h1, h2, h3⟩, g => by
    subst h1
    exact ⟨v, _, rfl, h2, Reps.app h3 g⟩
theorem Reps.one {F : Hp} {d : D} {v : V} (h : Rep K T F d v) : Reps K T F [d] [v] := ⟨v, [], rfl, h, rfl⟩
theorem Reps.take {F : Hp} : ∀ {ds : List D} {vs : List V} (n : Nat), Reps K T F ds vs → Reps K T F (ds.take n) (vs.take n)
  | ds, vs, 0, h => by
    rw [List.take_zero, List.take_zero]
    exact rfl
  | [], _, n + 1, h => by
    cases h
    exact rfl
  | d :: ds, _, n + 1, ⟨v, r, h1, h2, h3⟩ => by
    subst h1
    exact ⟨v, _, rfl, h2, Reps.take n h3⟩
theorem Reps.drop {F : Hp} : ∀ {ds : List D} {vs : List V} (n : Nat), Reps K T F ds vs → Reps K T F (ds.drop n) (vs.drop n)
  | ds, vs, 0, h => h
  | [], _, n + 1, h => by
    cases h
    exact rfl
  | d :: ds, _, n + 1, ⟨v, r, h1, h2, h3⟩ => by
    subst h1
    exact Reps.drop n h3
theorem Reps.set {F : Hp} {x : D} {u : V} (hx : Rep K T F x u) : ∀ {ds : List D} {vs : List V} (n : Nat), Reps K T F ds vs → Reps K T F (ds.set n x) (vs.set n u)
  | [], _, n, h => by
    cases h
    exact rfl
  | d :: ds, _, 0, ⟨v, r, h1, h2, h3⟩ => by
    subst h1
    exact ⟨u, r, rfl, hx, h3⟩
  | d :: ds, _, n + 1, ⟨v, r, h1, h2, h3⟩ => by
    subst h1
    exact ⟨v, _, rfl, h2, Reps.set hx n h3⟩
theorem Reps.rep {F : Hp} {ds : List D} {vs : List V} (h : Reps K T F ds vs) : ∀ n : Nat, Reps K T F (List.replicate n ds).flatten (List.replicate n vs).flatten
  | 0 => rfl
  | n + 1 => by
    rw [List.replicate_succ, List.replicate_succ, List.flatten_cons, List.flatten_cons]
    exact Reps.app h (Reps.rep h n)
theorem reps_ints {F : Hp} : ∀ ns : List Int, Reps K T F (ns.map D.int) (ns.map V.int)
  | [] => rfl
  | n :: ns => ⟨_, _, rfl, rfl, reps_ints ns⟩
/-- what a scalar is does not hang on the heap -/
theorem Rep.scalar {F G : Hp} {d : D} {v : V} (hs : d.scalar = true) (h : Rep K T F d v) : Rep K T G d v := by
  cases d <;> first | exact h | (cases hs)
end

/-- H grows; F grows by what is new in H -/
structure Grow (F H F' H' : Hp) : Prop where
  f : Same F F'
  s : Same F' H'
  h : Same H H'
  n : ∀ b o, F' b = some o → F b = some o ∨ H b = none
theorem Grow.refl {F H : Hp} (s : Same F H) : Grow F H F H := ⟨Same.refl F, s, Same.refl H, fun _ _ e => .inl e⟩
theorem Grow.trans {F H F1 H1 F2 H2 : Hp} (a : Grow F H F1 H1) (b : Grow F1 H1 F2 H2) : Grow F H F2 H2 :=
  ⟨a.f.trans b.f, b.s, a.h.trans b.h, fun c o e => by
    rcases b.n c o e with q | q
    · exact a.n c o q
    · exact .inr (a.h.free q)⟩
theorem Grow.new {F H : Hp} {p : Addr} {o : HO} (s : Same F H) (n : H p = none) : Grow F H (upd F p o) (upd H p o) := by
  have nF : F p = none := s.free n
  refine ⟨fun b x e => ?_, fun b x e => ?_, fun b x e => ?_, fun b x e => ?_⟩
  · rw [upd_ne (ne_of_none e nF)]
    exact e
  · by_cases hb : b = p
    · subst hb
      rw [upd_same] at e ⊢
      exact e
    · rw [upd_ne hb] at e ⊢
      exact s _ _ e
  · rw [upd_ne (ne_of_none e n)]
    exact e
  · by_cases hb : b = p
    · subst hb
      exact .inr n
    · rw [upd_ne hb] at e
      exact .inl e
/-- the heap alone has grown -/
theorem Grow.only {F H H' : Hp} (s : Same F H) (h : Same H H') : Grow F H F H' := ⟨Same.refl F, s.trans h, h, fun _ _ e => .inl e⟩

/-! ### what a reading wants -/
/-- an exception of class c with these fields -/
def ExR (K : PySem.W.Frag) (T : Tab) (c : Nat) (fs : List D) (dx : Option Addr) (H : Hp) : Prop := (fs = [] ∧ dx = none) ∨ fs ≠ [] ∧
  ∃ d vs, dx = some d ∧ H d = some (.xd ((T.xf c).zip vs)) ∧ vs.length = (T.xf c).length ∧ fs.all D.scalar = true ∧ Reps K T (fun _ => none) fs vs
theorem ExR.mono {K : PySem.W.Frag} {T : Tab} {c : Nat} {fs : List D} {dx : Option Addr} {H H' : Hp} (s : Same H H') (h : ExR K T c fs dx H) : ExR K T c fs dx H' := by
  rcases h with h | ⟨hn, d, vs, h1, h2, h3⟩
  · exact .inl h
  · exact .inr ⟨hn, d, vs, h1, s _ _ h2, h3⟩

section
variable (K : PySem.W.Frag) (T : Tab)
def Post {α β : Type} (rel : Hp → α → β → Prop) (W : Value → Option Addr → Hp → Prop) (F H : Hp) (r : R α) (Q : β → Hp → Prop) : Prop := match r with
  | .ok d => ∀ v F' H', Grow F H F' H' → rel F' d v → Q v H'
  | .ex c fs => ∀ dx H', Same H H' → ExR K T c fs dx H' → W (.ref (T.addr c)) dx H'
  | .no => False
end
section
variable {K : PySem.W.Frag} {T : Tab} {α α' β β' : Type} {rel : Hp → α → β → Prop} {rel' : Hp → α' → β' → Prop} {W : Value → Option Addr → Hp → Prop} {F H F' H' : Hp}
theorem Post.grow {r : R α} {Q : β → Hp → Prop} (g : Grow F H F' H') (h : Post K T rel W F H r Q) : Post K T rel W F' H' r Q := by
  cases r with
  | ok a => exact fun v F2 H2 g2 q => h v F2 H2 (g.trans g2) q
  | ex c fs => exact fun dx H2 s q => h dx H2 (g.h.trans s) q
  | no => exact h
theorem Post.bind {r : R α} {f : α → R α'} {Q : β' → Hp → Prop} (h : Post K T rel' W F H (r.bind f) Q) :
    Post K T rel W F H r (fun x H1 => ∃ F1 a, r = .ok a ∧ Grow F H F1 H1 ∧ rel F1 a x ∧ Post K T rel' W F1 H1 (f a) Q) := by
  cases r with
  | ok a => exact fun v F2 H2 g2 q => ⟨F2, a, rfl, g2, q, Post.grow g2 h⟩
  | ex c fs => exact h
  | no => exact h
theorem Post.imp {r : R α} {Q Q' : β → Hp → Prop} (h : Post K T rel W F H r Q) (i : ∀ v H', Q v H' → Q' v H') : Post K T rel W F H r Q' := by
  cases r with
  | ok a => exact fun v F2 H2 g2 q => i _ _ (h v F2 H2 g2 q)
  | ex c fs => exact h
  | no => exact h
theorem Post.ok {a : α} {v : β} {Q : β → Hp → Prop} (s : Same F H) (h : Post K T rel W F H (.ok a) Q) (q : rel F a v) : Q v H := h v F H (Grow.refl s) q
/-- map as bind -/
theorem Post.bind' {r : R α} {f : α → α'} {Q : β' → Hp → Prop} (h : Post K T rel' W F H (r.map f) Q) :
    Post K T rel W F H r (fun x H1 => ∃ F1 a, r = .ok a ∧ Grow F H F1 H1 ∧ rel F1 a x ∧ Post K T rel' W F1 H1 (.ok (f a)) Q) := by
  cases r with
  | ok a => exact fun v F2 H2 g2 q => ⟨F2, a, rfl, g2, q, Post.grow g2 h⟩
  | ex c fs => exact h
  | no => exact h
theorem Post.map {r : R α} {f : α → α'} {Q : β' → Hp → Prop} {g : β → β'} (h : Post K T rel' W F H (r.map f) Q) (hr : ∀ F a b, rel F a b → rel' F (f a) (g b)) :
    Post K T rel W F H r (fun x H1 => Q (g x) H1) := by
  cases r with
  | ok a => exact fun v F2 H2 g2 q => h (g v) F2 H2 g2 (hr _ _ _ q)
  | ex c fs => exact h
  | no => exact h
end

/-- the slots that may be read -/
structure Vw (K : PySem.W.Frag) (T : Tab) (F H : Hp) (σ : L2.St) (env : Env) : Prop where
  s : Same F H
  l : env.l.length = (σ : List (Option V)).length
  g : ∀ (i : Nat) (d : D), env.l[i]? = some (some d) → ∃ v, (σ : List (Option V))[i]? = some (some v) ∧ Rep K T F d v
  me : ∀ c fs, env.me = some (c, fs) → (σ : List (Option V))[(0 : Nat)]? = some (some (.ref T.me)) ∧ ∃ dx vs, H T.me = some (.ins (T.addr c) dx ((T.flds c).zip vs)) ∧ vs.length ≤ (T.flds c).length ∧ Reps K T F fs vs
theorem Vw.grow {K : PySem.W.Frag} {T : Tab} {F H F' H' : Hp} {σ : L2.St} {env : Env} (g : Grow F H F' H') (h : Vw K T F H σ env) : Vw K T F' H' σ env :=
  ⟨g.s, h.l, fun i d e => by
    obtain ⟨v, a, b⟩ := h.g i d e
    exact ⟨v, a, Rep.mono g.f b⟩, fun c fs e => by
    obtain ⟨h1, dx, vs, h2, h3, h4⟩ := h.me c fs e
    exact ⟨h1, dx, vs, g.h _ _ h2, h3, Reps.mono g.f h4⟩⟩

/-- no list and no tuple is too long -/
def LenOk (K : PySem.W.Frag) (H : Hp) : Prop := ∀ a xs, SqL K H a xs ∨ SqT K H a xs → xs.length ≤ sizeLine

section
variable (K : PySem.W.Frag) (T : Tab) (W : WX)
def rdG {α β : Type} (rel : Hp → α → β → Prop) (f : Env → R α) : L2.St → Hp → (β → Hp → Prop) → Prop := fun σ H Q =>
  LenOk K H → ∃ F env, Vw K T F H σ env ∧ Post K T rel (fun c d H' => W c d σ H') F H (f env) Q
def relD : Hp → D → V → Prop := fun F d v => Rep K T F d v
def relL : Hp → List D → List V → Prop := fun F d v => Reps K T F d v
def relB : Hp → Bool → Bool → Prop := fun _ a b => a = b
def relO : Hp → Option Int → Option Int → Prop := fun _ a b => a = b
def rdE (f : Env → R D) : TE := rdG K T W (relD K T) f
def rdA (f : Env → R (List D)) : TA := rdG K T W (relL K T) f
def rdT (f : Env → R Bool) : TT := rdG K T W relB f
def rdO (f : Env → R (Option Int)) : TO := rdG K T W relO f
end

section
variable {X : Cx} {T : Tab} {W : WX}
theorem lenOk_of {pins : List (Addr × Obj)} {σ : L2.St} {H : Hp} {s : Shared} (I : Inv X pins σ H s) : LenOk X.K H := by
  rintro a xs (h | h)
  · obtain ⟨its, rv, p, hz⟩ := I.list h
    exact hz
  · obtain ⟨its, rv, p, hz⟩ := I.tuple h
    exact hz
theorem pe_of {e : Expr} {t : TE} {f : Env → R D} (h : PE X e t) (imp : ∀ σ H Q, LenOk X.K H → (∃ F env, Vw X.K T F H σ env ∧ Post X.K T (relD X.K T) (fun c d H' => W c d σ H') F H (f env) Q) → t σ H Q) : PE X e (rdE X.K T W f) :=
  ⟨fun pins s σ H Q I q => h.run pins s σ H Q I (imp σ H Q (lenOk_of I) (q (lenOk_of I)))⟩
theorem pt_of {e : Expr} {t : TT} {f : Env → R Bool} (h : PT X e t) (imp : ∀ σ H Q, LenOk X.K H → (∃ F env, Vw X.K T F H σ env ∧ Post X.K T relB (fun c d H' => W c d σ H') F H (f env) Q) → t σ H Q) : PT X e (rdT X.K T W f) :=
  ⟨fun pins s σ H Q I q => h.run pins s σ H Q I (imp σ H Q (lenOk_of I) (q (lenOk_of I)))⟩
theorem pa_of {e : List Expr} {t : TA} {f : Env → R (List D)} (h : PA X e t) (imp : ∀ σ H Q, LenOk X.K H → (∃ F env, Vw X.K T F H σ env ∧ Post X.K T (relL X.K T) (fun c d H' => W c d σ H') F H (f env) Q) → t σ H Q) : PA X e (rdA X.K T W f) :=
  ⟨fun pos pins s σ H Q I q => h.run pos pins s σ H Q I (imp σ H Q (lenOk_of I) (q (lenOk_of I)))⟩
end
end Py

namespace Py
open PySem L2

theorem cap_line : cap ≤ sizeLine := sz_of' where sz_of' : cap ≤ sizeLine := by decide
theorem le_line {n : Nat} (h : n ≤ cap) : n ≤ sizeLine := Nat.le_trans h cap_line
theorem lt_line {n : Nat} (h : n < cap) : n < sizeLine := Nat.lt_of_lt_of_le h cap_line
theorem Same.upd {H : Hp} {p : Addr} {o : HO} (n : H p = none) : Same H (L2.upd H p o) := fun b x e => by
  rw [upd_ne (ne_of_none e n)]
  exact e

section
variable {K : PySem.W.Frag} {T : Tab} {W : Value → Option Addr → Hp → Prop} {F H : Hp}
/-- a new tuple, a new list -/
theorem Post.tup {ds : List D} {vs : List V} {Q : VK} {p : Addr} (s : Same F H) (h : Post K T (relD K T) W F H (.ok (.tup ds)) Q) (r : Reps K T F ds vs) (n : H p = none) : Q (.ref p) (upd H p (.tup vs)) :=
  h _ _ _ (Grow.new s n) ⟨p, vs, rfl, upd_same, Reps.mono (Same.upd (s.free n)) r⟩
theorem Post.lst {ds : List D} {vs : List V} {Q : VK} {p : Addr} (s : Same F H) (h : Post K T (relD K T) W F H (.ok (.lst ds)) Q) (r : Reps K T F ds vs) (n : H p = none) : Q (.ref p) (upd H p (.lst vs)) :=
  h _ _ _ (Grow.new s n) ⟨p, vs, rfl, upd_same, Reps.mono (Same.upd (s.free n)) r⟩
end

/-! ### operators -/
def bop : BOp → Operator
  | .add => .Add | .sub => .Sub | .mul => .Mult | .fdiv => .FloorDiv | .mod => .Mod | .pow => .Pow
def rBin (K : PySem.W.Frag) (T : Tab) (o : BOp) : R2 := fun x y H Q => ∃ F W a b, Same F H ∧ Rep K T F a x ∧ Rep K T F b y ∧ Post K T (relD K T) W F H (binD o a b) Q
theorem mk_str (s : List Nat) : ((⟨s.toArray⟩ : Str)).length = s.length := rfl
theorem str_cat (s t : List Nat) : ((⟨s.toArray⟩ : Str) ++ (⟨t.toArray⟩ : Str)) = ⟨(s ++ t).toArray⟩ := by
  show Str.mk (s.toArray ++ t.toArray) = _
  rw [List.append_toArray]
section
variable {X : Cx} {T : Tab}
theorem op_bin {o : BOp} : OpR X (binaryOp (bop o)) (rBin X.K T o) := by
  intro pins s σ H x y v u Q I rx ry ⟨F, W, a, b, sF, ra, rb, q⟩
  unfold binD at q
  split at q
  · cases ra
    cases rb
    exact op_add pins s σ H _ _ v u Q I rx ry ⟨_, _, rfl, rfl, Post.ok sF q rfl⟩
  · rename_i s1 t1
    split at q
    · rename_i hz
      cases ra
      cases rb
      refine op_add_str pins s σ H _ _ v u Q I rx ry ⟨_, _, rfl, rfl, le_line hz, ?_⟩
      rw [str_cat]
      exact Post.ok sF q rfl
    · exact q.elim
  · split at q
    · rename_i s1 t1 hz
      obtain ⟨a1, vs, rfl, h1, r1⟩ := ra
      obtain ⟨b1, us, rfl, h2, r2⟩ := rb
      have l1 := Reps.length r1
      have l2 := Reps.length r2
      refine op_catA pins s σ H _ _ v u Q I rx ry ⟨a1, b1, vs, us, rfl, rfl, sameT sF h1, sameT sF h2, le_line (by rw [l1, l2]; exact hz), fun e => ?_, fun e1 e2 => ?_, fun _ _ p hp => Post.tup sF q (Reps.app r1 r2) hp⟩
      · subst e
        cases s1 with
        | nil => exact Post.ok sF q ⟨b1, us, rfl, h2, r2⟩
        | cons _ _ => cases l1
      · subst e2
        cases t1 with
        | nil =>
          refine Post.ok sF q ⟨a1, vs, rfl, h1, ?_⟩
          rw [List.append_nil]
          exact r1
        | cons _ _ => cases l2
    · exact q.elim
  · split at q
    · rename_i s1 t1 hz
      obtain ⟨a1, vs, rfl, h1, r1⟩ := ra
      obtain ⟨b1, us, rfl, h2, r2⟩ := rb
      have l1 := Reps.length r1
      have l2 := Reps.length r2
      exact op_cat pins s σ H _ _ v u Q I rx ry ⟨a1, b1, vs, us, rfl, rfl, sF _ _ h1, sF _ _ h2, le_line (by rw [l1, l2]; exact hz), fun p hp => Post.lst sF q (Reps.app r1 r2) hp⟩
    · exact q.elim
  · cases ra
    cases rb
    exact op_sub pins s σ H _ _ v u Q I rx ry ⟨_, _, rfl, rfl, Post.ok sF q rfl⟩
  · rename_i i j
    split at q
    · rename_i hm
      cases ra
      cases rb
      refine op_mul pins s σ H _ _ v u Q I rx ry ⟨_, _, rfl, rfl, ?_, Post.ok sF q rfl⟩
      unfold mulOk at hm
      rw [Bool.or_eq_true, decide_eq_true_eq, decide_eq_true_eq] at hm
      unfold CMul
      omega
    · exact q.elim
  · rename_i s1 n
    split at q
    · rename_i hz
      obtain ⟨h1, h2, h3⟩ := hz
      obtain ⟨a1, vs, rfl, g1, r1⟩ := ra
      cases rb
      have l1 := Reps.length r1
      have c1 : (cap : Int) = 100000 := rfl
      refine op_rep pins s σ H _ _ v u Q I rx ry ⟨a1, n, vs, rfl, rfl, sF _ _ g1, by omega, by omega, le_line (by rw [l1]; exact h3), fun p hp => Post.lst sF q (Reps.rep r1 _) hp⟩
    · exact q.elim
  · rename_i s1 n
    split at q
    · rename_i hz
      obtain ⟨h1, h2, h3, h4⟩ := hz
      obtain ⟨a1, vs, rfl, g1, r1⟩ := ra
      cases rb
      have l1 := Reps.length r1
      refine op_repA pins s σ H _ _ v u Q I rx ry ⟨a1, n, vs, rfl, rfl, sameT sF g1, fun e => ?_, h1, h2, by omega, fun e => ?_, fun _ p hp => Post.tup sF q (Reps.rep r1 _) hp⟩
      · subst e
        cases s1 with
        | nil => exact h4 rfl
        | cons _ _ => cases l1
      · subst e
        refine Post.ok sF q ⟨a1, vs, rfl, g1, ?_⟩
        have e2 : repD s1 1 = s1 := by
          show (List.replicate 1 s1).flatten = s1
          simp
        rw [e2]
        exact r1
    · exact q.elim
  · rename_i i j
    split at q
    · rename_i hm
      cases ra
      cases rb
      exact op_fdiv pins s σ H _ _ v u Q I rx ry ⟨_, _, rfl, rfl, hm, Post.ok sF q rfl⟩
    · exact q.elim
  · rename_i i j
    split at q
    · rename_i hm
      cases ra
      cases rb
      exact op_mod pins s σ H _ _ v u Q I rx ry ⟨_, _, rfl, rfl, hm, Post.ok sF q rfl⟩
    · exact q.elim
  · rename_i i j
    split at q
    · rename_i hm
      cases ra
      cases rb
      exact op_pow pins s σ H _ _ v u Q I rx ry ⟨_, _, rfl, rfl, hm, Post.ok sF q rfl⟩
    · exact q.elim
  · exact q.elim
end
end Py

namespace Py
open PySem L2

/-! ### dicts -/
theorem all_cons {α : Type} {p : α → Bool} {a : α} {l : List α} (h : (a :: l).all p = true) : p a = true ∧ l.all p = true := Bool.and_eq_true_iff.mp h
theorem eq_keyOf : ∀ {z x : D} {k k' : Key}, keyOf z = some k' → keyOf x = some k → D.eq z x = decide (k' = k)
  | .int i, .int j, _, _, h, h' => by
    cases h
    cases h'
    show (i == j) = decide (Sum.inl i = Sum.inl j)
    by_cases e : i = j
    · subst e
      simp
    · simp [e]
  | .str s, .str t, _, _, h, h' => by
    cases h
    cases h'
    show (s == t) = decide (Sum.inr (⟨s.toArray⟩ : Str) = Sum.inr ⟨t.toArray⟩)
    by_cases e : s = t
    · subst e
      simp
    · have : ¬ (Sum.inr (⟨s.toArray⟩ : Str) : Key) = Sum.inr ⟨t.toArray⟩ := fun z => by
        injection z with z
        injection z with z
        exact e (by simpa using z)
      simp [e, this]
  | .int _, .str _, _, _, h, h' => by
    cases h
    cases h'
    rfl
  | .str _, .int _, _, _, h, h' => by
    cases h
    cases h'
    rfl
  | .non, _, _, _, h, _ => by cases h
  | .bool _, _, _, _, h, _ => by cases h
  | .tup _, _, _, _, h, _ => by cases h
  | .lst _, _, _, _, h, _ => by cases h
  | .set _, _, _, _, h, _ => by cases h
  | .dict _ _, _, _, _, h, _ => by cases h
  | .obj _ _, _, _, _, h, _ => by cases h
  | .exc _ _, _, _, _, h, _ => by cases h
  | .scr _, _, _, _, h, _ => by cases h
  | .int _, .non, _, _, _, h => by cases h
  | .int _, .bool _, _, _, _, h => by cases h
  | .int _, .tup _, _, _, _, h => by cases h
  | .int _, .lst _, _, _, _, h => by cases h
  | .int _, .set _, _, _, _, h => by cases h
  | .int _, .dict _ _, _, _, _, h => by cases h
  | .int _, .obj _ _, _, _, _, h => by cases h
  | .int _, .exc _ _, _, _, _, h => by cases h
  | .int _, .scr _, _, _, _, h => by cases h
  | .str _, .non, _, _, _, h => by cases h
  | .str _, .bool _, _, _, _, h => by cases h
  | .str _, .tup _, _, _, _, h => by cases h
  | .str _, .lst _, _, _, _, h => by cases h
  | .str _, .set _, _, _, _, h => by cases h
  | .str _, .dict _ _, _, _, _, h => by cases h
  | .str _, .obj _ _, _, _, _, h => by cases h
  | .str _, .exc _ _, _, _, _, h => by cases h
  | .str _, .scr _, _, _, _, h => by cases h
theorem eqs_keysOf : ∀ {xs ys : List D} {k k' : List Key}, keysOf xs = some k' → keysOf ys = some k → D.eqs xs ys = decide (k' = k)
  | [], [], _, _, h, h' => by
    cases h
    cases h'
    rfl
  | [], y :: ys, _, _, h, h' => by
    cases h
    unfold keysOf at h'
    split at h'
    · cases h'
      rfl
    · cases h'
  | x :: xs, [], _, _, h, h' => by
    cases h'
    unfold keysOf at h
    split at h
    · cases h
      rfl
    · cases h
  | x :: xs, y :: ys, _, _, h, h' => by
    unfold keysOf at h h'
    split at h
    · rename_i a r e1 e2
      cases h
      split at h'
      · rename_i b q e3 e4
        cases h'
        show (D.eq x y && D.eqs xs ys) = decide (a :: r = b :: q)
        rw [eq_keyOf e1 e3, eqs_keysOf e2 e4]
        by_cases h1 : a = b <;> by_cases h2 : r = q <;> simp [h1, h2]
      · cases h'
    · cases h
theorem eq_keyT {z x : D} {k k' : List Key} (h : keyT z = some k') (h' : keyT x = some k) : D.eq z x = decide (k' = k) := by
  cases z <;> first | (cases h; done) | skip
  cases x <;> first | (cases h'; done) | skip
  exact eqs_keysOf h h'
theorem keyF_of {d : D} (h : keyF d = true) : ∃ k, keyOf d = some k := by
  cases d <;> first | exact ⟨_, rfl⟩ | cases h
theorem keysF_of : ∀ {ds : List D}, ds.all keyF = true → ∃ k, keysOf ds = some k
  | [], _ => ⟨[], rfl⟩
  | d :: ds, h => by
    obtain ⟨h1, h2⟩ := all_cons h
    obtain ⟨k, e1⟩ := keyF_of h1
    obtain ⟨r, e2⟩ := keysF_of h2
    refine ⟨k :: r, ?_⟩
    unfold keysOf
    rw [e1, e2]
section
variable {K : PySem.W.Frag} {T : Tab} {F : Hp}
theorem rep_key {d : D} {k : Key} {v : V} (h : keyOf d = some k) (r : Rep K T F d v) : v = kV k := by
  cases d <;> first | (cases h; done) | skip
  all_goals (
    cases h
    exact r)
theorem reps_keys : ∀ {ds : List D} {k : List Key} {vs : List V}, keysOf ds = some k → Reps K T F ds vs → vs = k.map kV
  | [], _, _, h, r => by
    cases h
    exact r
  | d :: ds, _, _, h, ⟨v, q, e, r1, r2⟩ => by
    subst e
    unfold keysOf at h
    split at h
    · rename_i a r e1 e2
      cases h
      rw [rep_key e1 r1, reps_keys e2 r2]
      rfl
    · cases h
theorem rep_keyT {d : D} {k : List Key} {v : V} (h : keyT d = some k) (r : Rep K T F d v) : ∃ b, v = .ref b ∧ F b = some (.tup (k.map kV)) := by
  cases d <;> first | (cases h; done) | skip
  obtain ⟨a, vs, e1, e2, e3⟩ := r
  refine ⟨a, e1, ?_⟩
  rw [← reps_keys h e3]
  exact e2
/-- looking a key up -/
theorem look_of {κ : Type} [DecidableEq κ] {g : D → Option κ} (hg : ∀ {z x k k'}, g z = some k' → g x = some k → D.eq z x = decide (k' = k)) {x : D} {k : κ} (hx : g x = some k) :
    ∀ {ks vs : List D} {kvs : List (κ × V)}, ks.map g = kvs.map (fun p => some p.1) → Reps K T F vs (kvs.map (·.2)) → (valV kvs k).isSome = (ks.any fun z => D.eq z x) ∧ ∀ d, lookD ks vs x = some d → ∃ v, valV kvs k = some v ∧ Rep K T F d v
  | [], vs, [], _, _ => ⟨rfl, fun d h => by cases vs <;> cases h⟩
  | [], _, _ :: _, h, _ => by cases h
  | _ :: _, _, [], h, _ => by cases h
  | z :: ks, vs, p :: kvs, h, r => by
    injection h with h1 h2
    cases vs with
    | nil => cases r
    | cons d vs =>
      obtain ⟨v, q, e, r1, r2⟩ := r
      injection e with e1 e2
      subst e1 e2
      obtain ⟨i1, i2⟩ := look_of hg hx h2 r2
      have ez := hg h1 hx
      by_cases hk : p.1 = k
      · rw [valV_pos hk, List.any_cons, ez, decide_eq_true hk]
        refine ⟨rfl, fun d' h' => ?_⟩
        have h' : (if D.eq z x = true then some d else lookD ks vs x) = some d' := h'
        rw [ez, decide_eq_true hk, if_pos rfl] at h'
        cases h'
        exact ⟨_, rfl, r1⟩
      · rw [valV_neg hk, List.any_cons, ez, decide_eq_false hk, Bool.false_or]
        refine ⟨i1, fun d' h' => ?_⟩
        have h' : (if D.eq z x = true then some d else lookD ks vs x) = some d' := h'
        rw [ez, decide_eq_false hk, if_neg Bool.false_ne_true] at h'
        exact i2 d' h'
theorem dget_of {H : Hp} (sF : Same F H) {ks vs : List D} {x : D} {a : Addr} {y : V} (hk : dictOk ks x = true) (rd : Rep K T F (.dict ks vs) (.ref a)) (rx : Rep K T F x y) :
    ∃ o, DGet H a y o ∧ o.isSome = (ks.any fun z => D.eq z x) ∧ ∀ d, lookD ks vs x = some d → ∃ v, o = some v ∧ Rep K T F d v := by
  obtain ⟨a', e, h⟩ := rd
  cases e
  unfold dictOk at hk
  obtain ⟨hne, hk⟩ := Bool.and_eq_true_iff.mp hk
  cases ks with
  | nil => cases hne
  | cons z ks =>
    by_cases ht : isTup x = true
    · rw [if_pos ht] at hk
      obtain ⟨hk1, hk2⟩ := Bool.and_eq_true_iff.mp hk
      cases x with
      | tup xs =>
        obtain ⟨k, e1⟩ := keysF_of hk1
        have e1 : keyT (.tup xs) = some k := e1
        obtain ⟨b, eb, hb⟩ := rep_keyT e1 rx
        subst eb
        rcases h with ⟨kvs, h2, h3, h4⟩ | ⟨kvs, h2, h3, h4⟩
        · obtain ⟨l1, l2⟩ := look_of (g := keyT) (fun h h' => eq_keyT h h') e1 h3 h4
          exact ⟨_, DGet.t (sF _ _ h2) (sF _ _ hb), l1, l2⟩
        · have hz := (all_cons hk2).1
          cases z <;> first | (cases hz; done) | skip
          cases kvs <;> cases h3
      | _ => cases ht
    · rw [if_neg ht] at hk
      obtain ⟨hk1, hk2⟩ := Bool.and_eq_true_iff.mp hk
      obtain ⟨k, e1⟩ := keyF_of hk1
      have ey := rep_key e1 rx
      subst ey
      rcases h with ⟨kvs, h2, h3, h4⟩ | ⟨kvs, h2, h3, h4⟩
      · have hz := (all_cons hk2).1
        cases z <;> first | (cases hz; done) | skip
        all_goals (cases kvs <;> cases h3)
      · obtain ⟨l1, l2⟩ := look_of (g := keyOf) (fun h h' => eq_keyOf h h') e1 h3 h4
        exact ⟨_, DGet.k (sF _ _ h2), l1, l2⟩
end
end Py

namespace Py
open PySem L2

/-! ### sorting -/
theorem insI_perm (x : Int) : ∀ l : List Int, (insI x l).Perm (x :: l)
  | [] => .refl _
  | y :: ys => by
    unfold insI
    split
    · exact ((insI_perm x ys).cons y).trans (.swap _ _ _)
    · exact .refl _
theorem sortI_perm : ∀ l : List Int, (sortI l).Perm l
  | [] => .refl _
  | x :: xs => (insI_perm x _).trans ((sortI_perm xs).cons x)
theorem insI_sorted (x : Int) : ∀ l : List Int, l.Pairwise (· ≤ ·) → (insI x l).Pairwise (· ≤ ·)
  | [], _ => List.pairwise_singleton _ _
  | y :: ys, h => by
    obtain ⟨h1, h2⟩ := List.pairwise_cons.mp h
    unfold insI
    split
    · rename_i hlt
      refine List.pairwise_cons.mpr ⟨fun z hz => ?_, insI_sorted x ys h2⟩
      rcases List.mem_cons.mp ((insI_perm x ys).mem_iff.mp hz) with e | e
      · omega
      · exact h1 z e
    · rename_i hlt
      refine List.pairwise_cons.mpr ⟨fun z hz => ?_, h⟩
      rcases List.mem_cons.mp hz with e | e
      · omega
      · have := h1 z e
        omega
theorem sortI_sorted : ∀ l : List Int, (sortI l).Pairwise (· ≤ ·)
  | [] => .nil
  | x :: xs => insI_sorted x _ (sortI_sorted xs)
theorem sortI_eq {l m : List Int} (hp : m.Perm l) (hs : m.Pairwise (· ≤ ·)) : m = sortI l :=
  List.Perm.eq_of_pairwise (le := (· ≤ ·)) (fun a b _ _ h1 h2 => Int.le_antisymm h1 h2) hs (sortI_sorted l) (hp.trans (sortI_perm l).symm)

/-- tuples that are sorted: of one length, not below 0 -/
structure Sm (d : Nat) (B : Int) (t : List Int) : Prop where
  l : t.length = d
  b : TS.Bd B t
theorem Sm.lt {B : Int} : ∀ {d : Nat} {x y : List Int}, Sm d B x → Sm d B y → (lexLt x y = true ↔ TS.code B x < TS.code B y)
  | 0, [], [], _, _ => by simp [lexLt]
  | d + 1, a :: x, b :: y, hx, hy => by
    have lx : x.length = d := by have := hx.l; simpa using this
    have ly : y.length = d := by have := hy.l; simpa using this
    have bx : TS.Bd B x := fun m h => hx.b m (List.mem_cons_of_mem _ h)
    have by_ : TS.Bd B y := fun m h => hy.b m (List.mem_cons_of_mem _ h)
    have ih := Sm.lt (B := B) (d := d) ⟨lx, bx⟩ ⟨ly, by_⟩
    show (decide (a < b) || (decide (a = b) && lexLt x y)) = true ↔ _
    rcases Int.lt_trichotomy a b with h | h | h
    · have := TS.code_lt (lx.trans ly.symm) bx by_ h
      simp [h, this]
    · subst h
      have := TS.code_same (B := B) (d := a) (lx.trans ly.symm)
      simp [this, ih]
    · have h1 := TS.code_lt (ly.trans lx.symm) by_ bx h
      have h2 : ¬ a < b := by omega
      have h3 : ¬ a = b := by omega
      have h4 : ¬ TS.code B (a :: x) < TS.code B (b :: y) := by omega
      simp [h2, h3, h4]
  | 0, _ :: _, _, hx, _ => by cases hx.l
  | 0, [], _ :: _, _, hy => by cases hy.l
  | _ + 1, [], _, hx, _ => by cases hx.l
  | _ + 1, _ :: _, [], _, hy => by cases hy.l
theorem Sm.inj {B : Int} : ∀ {d : Nat} {x y : List Int}, Sm d B x → Sm d B y → TS.code B x = TS.code B y → x = y
  | 0, [], [], _, _, _ => rfl
  | d + 1, a :: x, b :: y, hx, hy, e => by
    have lx : x.length = d := by have := hx.l; simpa using this
    have ly : y.length = d := by have := hy.l; simpa using this
    have bx : TS.Bd B x := fun m h => hx.b m (List.mem_cons_of_mem _ h)
    have by_ : TS.Bd B y := fun m h => hy.b m (List.mem_cons_of_mem _ h)
    rcases Int.lt_trichotomy a b with h | h | h
    · have := TS.code_lt (lx.trans ly.symm) bx by_ h
      omega
    · subst h
      have h1 := TS.code_same (B := B) (d := a) (lx.trans ly.symm)
      have h2 := TS.code_same (B := B) (d := a) (ly.trans lx.symm)
      have h3 : TS.code B x = TS.code B y := by
        rcases Int.lt_trichotomy (TS.code B x) (TS.code B y) with q | q | q
        · have := h1.mpr q
          omega
        · exact q
        · have := h2.mpr q
          omega
      rw [Sm.inj ⟨lx, bx⟩ ⟨ly, by_⟩ h3]
    · have h1 := TS.code_lt (ly.trans lx.symm) by_ bx h
      omega
  | 0, _ :: _, _, hx, _, _ => by cases hx.l
  | 0, [], _ :: _, _, hy, _ => by cases hy.l
  | _ + 1, [], _, hx, _, _ => by cases hx.l
  | _ + 1, _ :: _, [], _, hy, _ => by cases hy.l
theorem insT_perm (x : List Int) : ∀ l : List (List Int), (insT x l).Perm (x :: l)
  | [] => .refl _
  | y :: ys => by
    unfold insT
    split
    · exact ((insT_perm x ys).cons y).trans (.swap _ _ _)
    · exact .refl _
theorem sortT_perm : ∀ l : List (List Int), (sortT l).Perm l
  | [] => .refl _
  | x :: xs => (insT_perm x _).trans ((sortT_perm xs).cons x)
theorem insT_sorted {d : Nat} {B : Int} (x : List Int) (hx : Sm d B x) : ∀ l : List (List Int), (∀ y ∈ l, Sm d B y) → l.Pairwise (fun a b => TS.code B a ≤ TS.code B b) → (insT x l).Pairwise fun a b => TS.code B a ≤ TS.code B b
  | [], _, _ => List.pairwise_singleton _ _
  | y :: ys, hm, h => by
    obtain ⟨h1, h2⟩ := List.pairwise_cons.mp h
    have hy := hm y List.mem_cons_self
    unfold insT
    split
    · rename_i hlt
      have hlt := (Sm.lt hy hx).mp hlt
      refine List.pairwise_cons.mpr ⟨fun z hz => ?_, insT_sorted x hx ys (fun y hy => hm y (List.mem_cons_of_mem _ hy)) h2⟩
      rcases List.mem_cons.mp ((insT_perm x ys).mem_iff.mp hz) with e | e
      · subst e
        omega
      · exact h1 z e
    · rename_i hlt
      have hlt : ¬ TS.code B y < TS.code B x := fun e => hlt ((Sm.lt hy hx).mpr e)
      refine List.pairwise_cons.mpr ⟨fun z hz => ?_, h⟩
      rcases List.mem_cons.mp hz with e | e
      · subst e
        omega
      · have := h1 z e
        omega
theorem sortT_sorted {d : Nat} {B : Int} : ∀ l : List (List Int), (∀ y ∈ l, Sm d B y) → (sortT l).Pairwise fun a b => TS.code B a ≤ TS.code B b
  | [], _ => .nil
  | x :: xs, h => insT_sorted x (h x List.mem_cons_self) _ (fun y hy => h y (List.mem_cons_of_mem _ ((sortT_perm xs).mem_iff.mp hy))) (sortT_sorted xs fun y hy => h y (List.mem_cons_of_mem _ hy))
theorem sortT_eq {d : Nat} {B : Int} {l m : List (List Int)} (hl : ∀ y ∈ l, Sm d B y) (hp : m.Perm l) (hs : m.Pairwise fun a b => TS.code B a ≤ TS.code B b) : m = sortT l :=
  List.Perm.eq_of_pairwise (le := fun a b => TS.code B a ≤ TS.code B b) (fun a b ha hb h1 h2 => Sm.inj (hl a (hp.mem_iff.mp ha)) (hl b ((sortT_perm l).mem_iff.mp hb)) (Int.le_antisymm h1 h2)) hs (sortT_sorted l hl) (hp.trans (sortT_perm l).symm)
theorem maxB : ∀ ts : List (List Int), ∃ B : Int, ∀ t ∈ ts, ∀ i ∈ t, i < B
  | [] => ⟨0, fun t h => by cases h⟩
  | t :: ts => by
    obtain ⟨B, h⟩ := maxB ts
    have : ∃ C : Int, ∀ i ∈ t, i < C := by
      induction t with
      | nil => exact ⟨0, fun i h => by cases h⟩
      | cons j r ih =>
        obtain ⟨C, h⟩ := ih
        refine ⟨max C (j + 1), fun i hi => ?_⟩
        rcases List.mem_cons.mp hi with e | e
        · subst e
          have := Int.le_max_right C (i + 1)
          omega
        · have := h i e
          have := Int.le_max_left C (j + 1)
          omega
    obtain ⟨C, hC⟩ := this
    refine ⟨max B C, fun u hu i hi => ?_⟩
    rcases List.mem_cons.mp hu with e | e
    · subst e
      have := hC i hi
      have := Int.le_max_right B C
      omega
    · have := h u e i hi
      have := Int.le_max_left B C
      omega
theorem sm_of {ts : List (List Int)} (h : sameLen ts = true) : ∃ d B, 1 ≤ d ∧ ∀ t ∈ ts, Sm d B t := by
  obtain ⟨B, hB⟩ := maxB ts
  cases ts with
  | nil => exact ⟨1, B, Nat.le_refl _, fun t h => by cases h⟩
  | cons u us =>
    have h : (decide (0 < u.length) && ((u :: us).all fun v => v.length == u.length && v.all fun i => decide (0 ≤ i))) = true := h
    obtain ⟨h1, h2⟩ := Bool.and_eq_true_iff.mp h
    refine ⟨u.length, B, of_decide_eq_true h1, fun t ht => ?_⟩
    obtain ⟨h3, h4⟩ := Bool.and_eq_true_iff.mp (List.all_eq_true.mp h2 t ht)
    exact ⟨eq_of_beq h3, fun m hm => ⟨of_decide_eq_true (List.all_eq_true.mp h4 m hm), hB t ht m hm⟩⟩
theorem nub_mem : ∀ {ts : List (List Int)} {t : List Int}, t ∈ nubT ts ↔ t ∈ ts
  | [], t => Iff.rfl
  | x :: xs, t => by
    unfold nubT
    split
    · rename_i h
      rw [nub_mem, List.mem_cons]
      constructor
      · exact .inr
      · rintro (e | e)
        · rw [e]
          exact List.contains_iff_mem.mp h
        · exact e
    · rw [List.mem_cons, List.mem_cons, nub_mem]
theorem nub_nodup : ∀ {ts : List (List Int)}, (nubT ts).Nodup
  | [] => List.Pairwise.nil
  | x :: xs => by
    unfold nubT
    split
    · exact nub_nodup
    · rename_i h
      refine List.nodup_cons.mpr ⟨fun hm => h ?_, nub_nodup⟩
      exact List.contains_iff_mem.mpr (nub_mem.mp hm)
end Py

namespace Py
open PySem L2

/-! ### == and in -/
mutual
def pd : D → PyData
  | .non => .none
  | .bool b => .bool b
  | .int i => .int i
  | .str s => .str ⟨s.toArray⟩
  | .tup ds => .tuple (pds ds)
  | .lst ds => .list (pds ds)
  | _ => .none
def pds : List D → List PyData
  | [] => []
  | d :: ds => pd d :: pds ds
end
mutual
theorem dp_of {K : PySem.W.Frag} {H : Hp} (n : Nat) : ∀ (d : D) (v : V), d.good n = true → Rep K T H d v → Dp K H v (pd d)
  | .non, _, _, h => by
    cases h
    exact .non
  | .bool _, _, _, h => by
    cases h
    exact .bl _
  | .int _, _, _, h => by
    cases h
    exact .int _
  | .str _, _, _, h => by
    cases h
    exact .str _
  | .tup ds, v, g, ⟨a, vs, h1, h2, h3⟩ => by
    subst h1
    have g' : (decide (0 < n) && D.goods (n - 1) ds) = true := g
    exact .tup (.inl (.inl h2)) (dps_of (n - 1) ds vs (Bool.and_eq_true_iff.mp g').2 h3)
  | .lst ds, v, g, ⟨a, vs, h1, h2, h3⟩ => by
    subst h1
    have g' : (decide (0 < n) && D.goods (n - 1) ds) = true := g
    exact .lst (.inl (.inl h2)) (dps_of (n - 1) ds vs (Bool.and_eq_true_iff.mp g').2 h3)
  | .set _, _, _, h => h.elim
  | .dict _ _, _, g, _ => by cases g
  | .obj _ _, _, g, _ => by cases g
  | .exc _ _, _, g, _ => by cases g
  | .scr _, _, g, _ => by cases g
theorem dps_of {K : PySem.W.Frag} {H : Hp} (n : Nat) : ∀ (ds : List D) (vs : List V), D.goods n ds = true → Reps K T H ds vs → DpAll K H vs (pds ds)
  | [], _, _, h => by
    cases h
    exact .nil
  | d :: ds, _, g, ⟨v, r, h1, h2, h3⟩ => by
    subst h1
    have g' : (D.good n d && D.goods n ds) = true := g
    exact .cons (dp_of n d v (Bool.and_eq_true_iff.mp g').1 h2) (dps_of n ds r (Bool.and_eq_true_iff.mp g').2 h3)
end
mutual
theorem pd_lay (n : Nat) : ∀ d : D, d.good n = true → (pd d).canLay0 = true
  | .non, _ => rfl
  | .bool _, _ => rfl
  | .int _, _ => rfl
  | .str s, g => by
    have g' : (s.all fun c => decide (c < 55296)) = true := g
    show PyData.strOk ⟨s.toArray⟩ = true
    unfold PyData.strOk
    rw [List.all_toArray, List.all_eq_true]
    intro c hc
    have q := List.all_eq_true.mp g' c hc
    have q' : c < 55296 := of_decide_eq_true q
    exact decide_eq_true (by omega)
  | .tup ds, g => by
    have g' : (decide (0 < n) && D.goods (n - 1) ds) = true := g
    exact pds_lay (n - 1) ds (Bool.and_eq_true_iff.mp g').2
  | .lst ds, g => by
    have g' : (decide (0 < n) && D.goods (n - 1) ds) = true := g
    exact pds_lay (n - 1) ds (Bool.and_eq_true_iff.mp g').2
  | .set _, g => by cases g
  | .dict _ _, g => by cases g
  | .obj _ _, g => by cases g
  | .exc _ _, g => by cases g
  | .scr _, g => by cases g
theorem pds_lay (n : Nat) : ∀ ds : List D, D.goods n ds = true → PyData.canLayAll0 (pds ds) = true
  | [], _ => rfl
  | d :: ds, g => by
    have g' : (D.good n d && D.goods n ds) = true := g
    show (PyData.canLay0 (pd d) && PyData.canLayAll0 (pds ds)) = true
    rw [pd_lay n d (Bool.and_eq_true_iff.mp g').1, pds_lay n ds (Bool.and_eq_true_iff.mp g').2]
    rfl
end
mutual
theorem pd_dep (n : Nat) : ∀ d : D, d.good n = true → (pd d).depth ≤ n
  | .non, _ => Nat.zero_le _
  | .bool _, _ => Nat.zero_le _
  | .int _, _ => Nat.zero_le _
  | .str s, g => Nat.zero_le _
  | .tup ds, g => by
    have g' : (decide (0 < n) && D.goods (n - 1) ds) = true := g
    have q := pds_dep (n - 1) ds (Bool.and_eq_true_iff.mp g').2
    have q2 : 0 < n := of_decide_eq_true (Bool.and_eq_true_iff.mp g').1
    show PyData.depthAll (pds ds) + 1 ≤ n
    omega
  | .lst ds, g => by
    have g' : (decide (0 < n) && D.goods (n - 1) ds) = true := g
    have q := pds_dep (n - 1) ds (Bool.and_eq_true_iff.mp g').2
    have q2 : 0 < n := of_decide_eq_true (Bool.and_eq_true_iff.mp g').1
    show PyData.depthAll (pds ds) + 1 ≤ n
    omega
  | .set _, g => by cases g
  | .dict _ _, g => by cases g
  | .obj _ _, g => by cases g
  | .exc _ _, g => by cases g
  | .scr _, g => by cases g
theorem pds_dep (n : Nat) : ∀ ds : List D, D.goods n ds = true → PyData.depthAll (pds ds) ≤ n
  | [], _ => Nat.zero_le _
  | d :: ds, g => by
    have g' : (D.good n d && D.goods n ds) = true := g
    show max (PyData.depth (pd d)) (PyData.depthAll (pds ds)) ≤ n
    have q1 := pd_dep n d (Bool.and_eq_true_iff.mp g').1
    have q2 := pds_dep n ds (Bool.and_eq_true_iff.mp g').2
    omega
end
theorem pd_shaped {d : D} (g : d.good 8 = true) : SeqAt.shaped (pd d) = true := by
  unfold SeqAt.shaped
  rw [pd_lay 8 d g, Bool.true_and]
  have := pd_dep 8 d g
  exact decide_eq_true (by omega)
theorem str_beq (s t : List Nat) : ((⟨s.toArray⟩ : Str) == ⟨t.toArray⟩) = (s == t) := by
  by_cases h : s = t
  · subst h
    rw [beq_self_eq_true, beq_self_eq_true]
  · rw [beq_eq_false_iff_ne.mpr h, beq_eq_false_iff_ne]
    intro e
    injection e with e
    exact h (by simpa using e)
mutual
theorem pd_eqv : ∀ (a b : D), a.good n = true → b.good m = true → PyData.eqv (pd a) (pd b) = D.eq a b
  | .non, b, _, g => by cases b <;> first | rfl | cases g
  | .bool _, b, _, g => by cases b <;> first | rfl | cases g
  | .int _, b, _, g => by cases b <;> first | rfl | cases g
  | .str s, b, _, g => by
    cases b <;> first
      | rfl
      | exact str_beq _ _
      | cases g
  | .tup xs, b, ga, g => by
    have ga' : (decide (0 < n) && D.goods (n - 1) xs) = true := ga
    cases b with
    | tup ys =>
      have g' : (decide (0 < m) && D.goods (m - 1) ys) = true := g
      exact pds_eqv xs ys (Bool.and_eq_true_iff.mp ga').2 (Bool.and_eq_true_iff.mp g').2
    | _ => first | rfl | cases g
  | .lst xs, b, ga, g => by
    have ga' : (decide (0 < n) && D.goods (n - 1) xs) = true := ga
    cases b with
    | lst ys =>
      have g' : (decide (0 < m) && D.goods (m - 1) ys) = true := g
      exact pds_eqv xs ys (Bool.and_eq_true_iff.mp ga').2 (Bool.and_eq_true_iff.mp g').2
    | _ => first | rfl | cases g
  | .set _, _, g, _ => by cases g
  | .dict _ _, _, g, _ => by cases g
  | .obj _ _, _, g, _ => by cases g
  | .exc _ _, _, g, _ => by cases g
  | .scr _, _, g, _ => by cases g
theorem pds_eqv : ∀ (xs ys : List D), D.goods n xs = true → D.goods m ys = true → PyData.eqvAll (pds xs) (pds ys) = D.eqs xs ys
  | [], [], _, _ => rfl
  | [], _ :: _, _, _ => rfl
  | _ :: _, [], _, _ => rfl
  | x :: xs, y :: ys, g, h => by
    have g' : (D.good n x && D.goods n xs) = true := g
    have h' : (D.good m y && D.goods m ys) = true := h
    show (PyData.eqv (pd x) (pd y) && PyData.eqvAll (pds xs) (pds ys)) = (D.eq x y && D.eqs xs ys)
    rw [pd_eqv x y (Bool.and_eq_true_iff.mp g').1 (Bool.and_eq_true_iff.mp h').1, pds_eqv xs ys (Bool.and_eq_true_iff.mp g').2 (Bool.and_eq_true_iff.mp h').2]
end
theorem pds_any {n m : Nat} {x : D} (gx : x.good n = true) : ∀ xs : List D, D.goods m xs = true → ((pds xs).any fun z => PyData.eqv z (pd x)) = xs.any fun z => D.eq z x
  | [], _ => rfl
  | y :: ys, g => by
    have g' : (D.good m y && D.goods m ys) = true := g
    show (PyData.eqv (pd y) (pd x) || (pds ys).any fun z => PyData.eqv z (pd x)) = (D.eq y x || ys.any fun z => D.eq z x)
    rw [pd_eqv y x (Bool.and_eq_true_iff.mp g').1 gx, pds_any gx ys (Bool.and_eq_true_iff.mp g').2]
theorem goods_tup {xs : List D} (g : D.goods 8 xs = true) : (D.tup xs).good 9 = true := g
theorem pd_shaped9 {d : D} (g : d.good 9 = true) : SeqAt.shaped (pd d) = true := by
  unfold SeqAt.shaped
  rw [pd_lay 9 d g, Bool.true_and]
  have := pd_dep 9 d g
  exact decide_eq_true (by omega)

def cop : COp → CmpOp
  | .eq => .Eq | .ne => .NotEq | .lt => .Lt | .le => .LtE | .gt => .Gt | .ge => .GtE | .is => .Is | .isn => .IsNot | .inn => .In | .nin => .NotIn
def rCmp (K : PySem.W.Frag) (T : Tab) (o : COp) : R2 := fun x y H Q => ∃ F W a b, Same F H ∧ Rep K T F a x ∧ Rep K T F b y ∧ Post K T relB W F H (cmpD o a b) (fun k H' => Q (.bl k) H')
section
variable {X : Cx} {T : Tab}
theorem Post.okb {K : PySem.W.Frag} {W : Value → Option Addr → Hp → Prop} {F H : Hp} {k : Bool} {Q : VK} (s : Same F H) (h : Post K T relB W F H (.ok k) (fun k H' => Q (.bl k) H')) : Q (.bl k) H := h k F H (Grow.refl s) rfl
theorem op_inDT (hu : X.A.units + 65 < cLine) {pins : List (Addr × Obj)} {s : Shared} {σ : L2.St} {H : Hp} {x y : V} {v u : Value} {Q : VK} (I : Inv X pins σ H s) (rx : RelV x v) (ry : RelV y u) {d : PyData} {ds : List PyData}
    (hd : Dp X.K H x d) (he : Dp X.K H y (.tuple ds)) (sd : SeqAt.shaped d = true) (se : SeqAt.shaped (.tuple ds) = true) (q : Q (.bl (ds.any fun z => PyData.eqv z d)) H) : wpAny (model X.prog X.w) X.A (compareOp .In v u) (EP X pins σ Q) X.xe s := by
  obtain ⟨as, r1⟩ := Dp.reads I d x v hd rx
  obtain ⟨bs, r2⟩ := Dp.reads I (.tuple ds) y u he ry
  exact SeqAt.in_tuple_reads r2 r1 (SeqAt.canLay_of_shaped se) (SeqAt.canLay_of_shaped sd) (PyProof.Rows.room_in_shaped sd hu) ⟨.bl _, H, I, rfl, q⟩
theorem op_ninDT (hu : X.A.units + 65 < cLine) {pins : List (Addr × Obj)} {s : Shared} {σ : L2.St} {H : Hp} {x y : V} {v u : Value} {Q : VK} (I : Inv X pins σ H s) (rx : RelV x v) (ry : RelV y u) {d : PyData} {ds : List PyData}
    (hd : Dp X.K H x d) (he : Dp X.K H y (.tuple ds)) (sd : SeqAt.shaped d = true) (se : SeqAt.shaped (.tuple ds) = true) (q : Q (.bl (!ds.any fun z => PyData.eqv z d)) H) : wpAny (model X.prog X.w) X.A (compareOp .NotIn v u) (EP X pins σ Q) X.xe s := by
  obtain ⟨as, r1⟩ := Dp.reads I d x v hd rx
  obtain ⟨bs, r2⟩ := Dp.reads I (.tuple ds) y u he ry
  exact SeqAt.notIn_tuple_reads r2 r1 (SeqAt.canLay_of_shaped se) (SeqAt.canLay_of_shaped sd) (PyProof.Rows.room_in_shaped sd hu) ⟨.bl _, H, I, rfl, q⟩
theorem contains_mem (c : Nat) (t : List Nat) : t.contains c = decide (c ∈ t) := by
  by_cases h : c ∈ t
  · rw [decide_eq_true h]
    exact List.contains_iff_mem.mpr h
  · rw [decide_eq_false h]
    exact Bool.eq_false_iff.mpr fun e => h (List.contains_iff_mem.mp e)
theorem rep_non {K : PySem.W.Frag} {F : Hp} {a : D} {x : V} (r : Rep K T F a x) : decide (x = V.non) = (match a with
    | .non => true
    | _ => false) := by
  cases a with
  | non =>
    cases r
    rfl
  | tup _ =>
    obtain ⟨_, _, rfl, _⟩ := r
    rfl
  | lst _ =>
    obtain ⟨_, _, rfl, _⟩ := r
    rfl
  | scr _ =>
    obtain ⟨_, rfl, _⟩ := r
    rfl
  | obj _ _ =>
    obtain ⟨_, _, _, rfl, _⟩ := r
    rfl
  | dict _ _ =>
    obtain ⟨_, rfl, _⟩ := r
    rfl
  | exc _ _ =>
    obtain ⟨_, rfl, _⟩ := r
    rfl
  | _ => first | exact r.elim | (cases r; rfl)
theorem op_cmp (hu : X.A.units + 65 < cLine) {o : COp} : OpR X (compareOp (cop o)) (rCmp X.K T o) := by
  intro pins s σ H x y v u Q I rx ry ⟨F, W, a, b, sF, ra, rb, q⟩
  cases o with
  | eq =>
    have q : Post X.K T relB W F H (eqD a b) (fun k H' => Q (.bl k) H') := q
    unfold eqD at q
    split at q
    · rename_i g
      obtain ⟨g1, g2⟩ := Bool.and_eq_true_iff.mp g
      refine op_eqD (by omega) pins s σ H _ _ v u Q I rx ry ⟨_, _, dp_of 8 a x g1 (Rep.mono sF ra), dp_of 8 b y g2 (Rep.mono sF rb), pd_shaped g1, pd_shaped g2, ?_⟩
      rw [pd_eqv a b g1 g2]
      exact Post.okb sF q
    · exact q.elim
  | ne =>
    have q : Post X.K T relB W F H ((eqD a b).map not) (fun k H' => Q (.bl k) H') := q
    unfold eqD at q
    split at q
    · rename_i g
      obtain ⟨g1, g2⟩ := Bool.and_eq_true_iff.mp g
      refine op_neD (by omega) pins s σ H _ _ v u Q I rx ry ⟨_, _, dp_of 8 a x g1 (Rep.mono sF ra), dp_of 8 b y g2 (Rep.mono sF rb), pd_shaped g1, pd_shaped g2, ?_⟩
      rw [pd_eqv a b g1 g2]
      exact Post.okb (k := !D.eq a b) sF q
    · exact q.elim
  | is =>
    cases b <;> first | exact q.elim | skip
    cases rb
    refine op_isN pins s σ H _ _ v u Q I rx ry ⟨rfl, ?_⟩
    rw [rep_non ra]
    cases a <;> exact Post.okb sF q
  | isn =>
    cases b <;> first | exact q.elim | skip
    cases rb
    refine op_notN pins s σ H _ _ v u Q I rx ry ⟨rfl, ?_⟩
    rw [rep_non ra]
    cases a <;> exact Post.okb sF q
  | lt =>
    cases a <;> cases b <;> first | exact q.elim | skip
    cases ra
    cases rb
    exact op_lt pins s σ H _ _ v u Q I rx ry ⟨_, _, rfl, rfl, Post.okb sF q⟩
  | le =>
    cases a <;> cases b <;> first | exact q.elim | skip
    cases ra
    cases rb
    exact op_le pins s σ H _ _ v u Q I rx ry ⟨_, _, rfl, rfl, Post.okb sF q⟩
  | gt =>
    cases a <;> cases b <;> first | exact q.elim | skip
    cases ra
    cases rb
    exact op_gt pins s σ H _ _ v u Q I rx ry ⟨_, _, rfl, rfl, Post.okb sF q⟩
  | ge =>
    cases a <;> cases b <;> first | exact q.elim | skip
    cases ra
    cases rb
    exact op_ge pins s σ H _ _ v u Q I rx ry ⟨_, _, rfl, rfl, Post.okb sF q⟩
  | inn =>
    cases b with
    | str t =>
      cases a with
      | str z =>
        match z, q, ra with
        | [c], q, ra =>
          cases ra
          cases rb
          refine op_in_sign pins s σ H _ _ v u Q I rx ry ⟨c, _, rfl, rfl, ?_⟩
          have q : Post X.K T relB W F H (.ok ((t.contains c))) (fun k H' => Q (.bl k) H') := q
          rw [contains_mem] at q
          exact Post.okb sF q
        | [], q, _ => exact q.elim
        | _ :: _ :: _, q, _ => exact q.elim
      | _ => exact q.elim
    | tup xs =>
      have q : Post X.K T relB W F H ((if a.good 8 && D.goods 8 xs then .ok (xs.any fun z => D.eq z a) else .no)) (fun k H' => Q (.bl k) H') := q
      split at q
      · rename_i g
        obtain ⟨g1, g2⟩ := Bool.and_eq_true_iff.mp g
        refine op_inDT hu I rx ry (dp_of 8 a x g1 (Rep.mono sF ra)) (dp_of 9 (.tup xs) y (goods_tup g2) (Rep.mono sF rb)) (pd_shaped g1) (pd_shaped9 (goods_tup g2)) ?_
        rw [pds_any g1 xs g2]
        exact Post.okb (k := (xs.any fun z => D.eq z a)) sF q
      · exact q.elim
    | lst xs =>
      have q : Post X.K T relB W F H ((if a.good 8 && D.goods 8 xs then .ok (xs.any fun z => D.eq z a) else .no)) (fun k H' => Q (.bl k) H') := q
      split at q
      · rename_i g
        obtain ⟨g1, g2⟩ := Bool.and_eq_true_iff.mp g
        refine op_inD hu pins s σ H _ _ v u Q I rx ry ⟨_, _, dp_of 8 a x g1 (Rep.mono sF ra), dp_of 9 (.lst xs) y g2 (Rep.mono sF rb), pd_shaped g1, pd_shaped9 (d := .lst xs) g2, ?_⟩
        rw [pds_any g1 xs g2]
        exact Post.okb (k := (xs.any fun z => D.eq z a)) sF q
      · exact q.elim
    | dict ks ds =>
      have q : Post X.K T relB W F H (if dictOk ks a then .ok (ks.any fun z => D.eq z a) else .no) (fun k H' => Q (.bl k) H') := q
      split at q
      · rename_i hk
        obtain ⟨p, ep, rb2⟩ := rb
        subst ep
        obtain ⟨o, g, e1, _⟩ := dget_of sF hk ⟨p, rfl, rb2⟩ ra
        obtain rfl : u = Value.ref p := ry
        refine d_in (by omega) I g rx fun s3 I3 => ⟨.bl o.isSome, H, I3, rfl, ?_⟩
        rw [e1]
        exact Post.okb sF q
      · exact q.elim
    | _ => exact q.elim
  | nin =>
    cases b with
    | str t =>
      cases a with
      | str z =>
        match z, q, ra with
        | [c], q, ra =>
          cases ra
          cases rb
          refine op_notIn_sign pins s σ H _ _ v u Q I rx ry ⟨c, _, rfl, rfl, ?_⟩
          have q : Post X.K T relB W F H (.ok (!(t.contains c))) (fun k H' => Q (.bl k) H') := q
          rw [contains_mem] at q
          exact Post.okb sF q
        | [], q, _ => exact q.elim
        | _ :: _ :: _, q, _ => exact q.elim
      | _ => exact q.elim
    | tup xs =>
      have q : Post X.K T relB W F H (R.map not (if a.good 8 && D.goods 8 xs then .ok (xs.any fun z => D.eq z a) else .no)) (fun k H' => Q (.bl k) H') := q
      split at q
      · rename_i g
        obtain ⟨g1, g2⟩ := Bool.and_eq_true_iff.mp g
        refine op_ninDT hu I rx ry (dp_of 8 a x g1 (Rep.mono sF ra)) (dp_of 9 (.tup xs) y (goods_tup g2) (Rep.mono sF rb)) (pd_shaped g1) (pd_shaped9 (goods_tup g2)) ?_
        rw [pds_any g1 xs g2]
        exact Post.okb (k := !(xs.any fun z => D.eq z a)) sF q
      · exact q.elim
    | lst xs =>
      have q : Post X.K T relB W F H (R.map not (if a.good 8 && D.goods 8 xs then .ok (xs.any fun z => D.eq z a) else .no)) (fun k H' => Q (.bl k) H') := q
      split at q
      · rename_i g
        obtain ⟨g1, g2⟩ := Bool.and_eq_true_iff.mp g
        refine op_notInD hu pins s σ H _ _ v u Q I rx ry ⟨_, _, dp_of 8 a x g1 (Rep.mono sF ra), dp_of 9 (.lst xs) y g2 (Rep.mono sF rb), pd_shaped g1, pd_shaped9 (d := .lst xs) g2, ?_⟩
        rw [pds_any g1 xs g2]
        exact Post.okb (k := !(xs.any fun z => D.eq z a)) sF q
      · exact q.elim
    | dict ks ds =>
      have q : Post X.K T relB W F H (R.map not (if dictOk ks a then .ok (ks.any fun z => D.eq z a) else .no)) (fun k H' => Q (.bl k) H') := q
      split at q
      · rename_i hk
        obtain ⟨p, ep, rb2⟩ := rb
        subst ep
        obtain ⟨o, g, e1, _⟩ := dget_of sF hk ⟨p, rfl, rb2⟩ ra
        obtain rfl : u = Value.ref p := ry
        refine d_notIn (by omega) I g rx fun s3 I3 => ⟨.bl (!o.isSome), H, I3, rfl, ?_⟩
        rw [e1]
        exact Post.okb (k := !(ks.any fun z => D.eq z a)) sF q
      · exact q.elim
    | _ => exact q.elim
end
end Py

namespace Py
open PySem L2

section
variable {X : Cx} {T : Tab} {W : WX} {pos p2 : Pos}

/-! ### names, constants -/
theorem s_var {i : Nat} {x : Str} (hN : X.N[i]? = some x) (hv : Vis X.env.scope x) (hd : (x == ("__debug__" : Str)) = false) (hcd : (x == ("__classdict__" : Str)) = false) :
    PE X (.Name x pos) (rdE X.K T W fun env => env.get i) := by
  refine pe_of (pe_var hN hv hd hcd) fun σ H Q _ ⟨F, env, vw, q⟩ => ?_
  unfold Env.get at q
  split at q
  · rename_i d e
    obtain ⟨v, a, b⟩ := vw.g i d e
    exact ⟨v, a, Post.ok vw.s q b⟩
  · exact q.elim
theorem s_c {e : Expr} {v : V} {d : D} (h : PE X e (tC v)) (r : ∀ F, Rep X.K T F d v) : PE X e (rdE X.K T W fun _ => .ok d) := by
  refine pe_of h fun σ H Q _ ⟨F, env, vw, q⟩ => ?_
  exact Post.ok vw.s q (r F)
theorem s_int {i : Int} {j : Nat} : PE X (.Constant (.int i) j pos) (rdE X.K T W fun _ => .ok (.int i)) := s_c pe_int fun _ => rfl
theorem s_bool {b : Bool} {j : Nat} : PE X (.Constant (.bool b) j pos) (rdE X.K T W fun _ => .ok (.bool b)) := s_c pe_bl fun _ => rfl
theorem s_non {j : Nat} : PE X (.Constant .none j pos) (rdE X.K T W fun _ => .ok .non) := s_c pe_non fun _ => rfl
theorem s_str {x : Str} {z : List Nat} {j : Nat} (h : x = ⟨z.toArray⟩) : PE X (.Constant (.str x) j pos) (rdE X.K T W fun _ => .ok (.str z)) := s_c pe_str fun _ => by
  rw [h]
  exact rfl

/-! ### operators -/
theorem Vw.rd {F H : Hp} {σ : L2.St} {env : Env} {α β : Type} {rel : Hp → α → β → Prop} {f : Env → R α} {Q : β → Hp → Prop} (vw : Vw X.K T F H σ env) (q : Post X.K T rel (fun c d H' => W c d σ H') F H (f env) Q) : rdG X.K T W rel f σ H Q :=
  fun _ => ⟨F, env, vw, q⟩
theorem s_bin {o : BOp} {a b : Expr} {f g : Env → R D} (ha : PE X a (rdE X.K T W f)) (hb : PE X b (rdE X.K T W g)) :
    PE X (.BinOp a (bop o) b pos) (rdE X.K T W fun env => (f env).bind fun x => (g env).bind fun y => binD o x y) := by
  refine pe_of (pe_op (op_bin (T := T)) ha hb) fun σ H Q _ ⟨F, env, vw, q⟩ => ?_
  refine vw.rd (Post.imp (Post.bind (rel := relD X.K T) q) fun x H1 ⟨F1, d1, e1, g1, r1, q1⟩ => ?_)
  refine (vw.grow g1).rd (Post.imp (Post.bind (rel := relD X.K T) q1) fun y H2 ⟨F2, d2, e2, g2, r2, q2⟩ => ?_)
  exact ⟨F2, _, d1, d2, g2.s, Rep.mono g2.f r1, r2, q2⟩
theorem s_neg {a : Expr} {f : Env → R D} (ha : PE X a (rdE X.K T W f)) : PE X (.UnaryOp .USub a pos) (rdE X.K T W fun env => (f env).bind negD) := by
  refine pe_of (pe_un un_neg ha) fun σ H Q _ ⟨F, env, vw, q⟩ => ?_
  refine vw.rd (Post.imp (Post.bind (rel := relD X.K T) q) fun x H1 ⟨F1, d1, e1, g1, r1, q1⟩ => ?_)
  cases d1 <;> first | exact q1.elim | skip
  cases r1
  exact ⟨_, rfl, Post.ok g1.s q1 rfl⟩
theorem relB_D {F : Hp} {K : PySem.W.Frag} {a b : Bool} (h : relB F a b) : relD K T F (.bool a) (.bl b) := by
  cases h
  exact rfl
theorem s_cmp {o : COp} {a b : Expr} {f g : Env → R D} (hu : X.A.units + 65 < cLine) (hm : behindInMarks (cop o) b = false) (ha : PE X a (rdE X.K T W f)) (hb : PE X b (rdE X.K T W g)) :
    PE X (.Compare a [cop o] [b] pos) (rdE X.K T W fun env => (f env).bind fun x => (g env).bind fun y => (cmpD o x y).map D.bool) := by
  refine pe_of (pe_cmpR (op_cmp (T := T) hu) ha hb hm) fun σ H Q _ ⟨F, env, vw, q⟩ => ?_
  refine vw.rd (Post.imp (Post.bind (rel := relD X.K T) q) fun x H1 ⟨F1, d1, e1, g1, r1, q1⟩ => ?_)
  refine (vw.grow g1).rd (Post.imp (Post.bind (rel := relD X.K T) q1) fun y H2 ⟨F2, d2, e2, g2, r2, q2⟩ => ?_)
  exact ⟨F2, _, d1, d2, g2.s, Rep.mono g2.f r1, r2, Post.map (rel := relB) q2 fun _ _ _ h => relB_D h⟩
theorem s_chain {o o' : COp} {a b c : Expr} {f g h : Env → R D} (hu : X.A.units + 65 < cLine) (hm : lastMarks [cop o, cop o'] [b, c] = false) (ha : PE X a (rdE X.K T W f)) (hb : PE X b (rdE X.K T W g)) (hc : PE X c (rdE X.K T W h)) :
    PE X (.Compare a [cop o, cop o'] [b, c] pos) (rdE X.K T W fun env => (f env).bind fun x => (g env).bind fun y => (cmpD o x y).bind fun t => if t then (h env).bind fun z => (cmpD o' y z).map D.bool else .ok (.bool false)) := by
  refine pe_of (pe_chain (op_cmp (T := T) hu) (op_cmp (T := T) hu) ha hb hc hm) fun σ H Q _ ⟨F, env, vw, q⟩ => ?_
  refine vw.rd (Post.imp (Post.bind (rel := relD X.K T) q) fun x H1 ⟨F1, d1, e1, g1, r1, q1⟩ => ?_)
  refine (vw.grow g1).rd (Post.imp (Post.bind (rel := relD X.K T) q1) fun y H2 ⟨F2, d2, e2, g2, r2, q2⟩ => ?_)
  refine ⟨F2, _, d1, d2, g2.s, Rep.mono g2.f r1, r2, Post.imp (Post.bind (rel := relB) q2) fun k H3 ⟨F3, k', e3, g3, r3, q3⟩ => ?_⟩
  have r3 : k' = k := r3
  subst r3
  refine ⟨k', rfl, ?_⟩
  cases k' with
  | true =>
    refine ((vw.grow g1).grow g2).grow g3 |>.rd (Post.imp (Post.bind (rel := relD X.K T) q3) fun z H4 ⟨F4, d4, e4, g4, r4, q4⟩ => ?_)
    exact ⟨F4, _, d2, d4, g4.s, Rep.mono g4.f (Rep.mono g3.f r2), r4, Post.map (rel := relB) q4 fun _ _ _ h => relB_D h⟩
  | false => exact Post.ok g3.s q3 rfl

/-! ### truth, and, or, not -/
theorem tru_of {F H : Hp} {W' : Value → Option Addr → Hp → Prop} {d : D} {x : V} {Q : Bool → Hp → Prop} (s : Same F H) (r : Rep X.K T F d x) (q : Post X.K T relB W' F H (truth d) Q) : ∃ k, TruV X.K x H k ∧ truth d = .ok k ∧ Q k H := by
  cases d with
  | non =>
    cases r
    exact ⟨false, rfl, rfl, Post.ok s q rfl⟩
  | bool b =>
    cases r
    exact ⟨b, rfl, rfl, Post.ok s q rfl⟩
  | int i =>
    cases r
    exact ⟨i != 0, rfl, rfl, Post.ok s q rfl⟩
  | str z =>
    have q : Post X.K T relB W' F H (if z.length ≤ cap then .ok (!z.isEmpty) else .no) Q := q
    have e : truth (.str z) = if z.length ≤ cap then .ok (!z.isEmpty) else .no := rfl
    rw [e]
    split at q
    · rename_i hz
      cases r
      rw [if_pos hz]
      refine ⟨!z.isEmpty, ⟨le_line hz, ?_⟩, rfl, Post.ok s q rfl⟩
      show (!z.isEmpty) = ((z.length : Int) != 0)
      cases z with
      | nil => rfl
      | cons c z =>
        show true = _
        have h : (((c :: z).length : Nat) : Int) ≠ 0 := by
          rw [List.length_cons]
          omega
        exact (bne_iff_ne.mpr h).symm
    · exact q.elim
  | tup xs =>
    obtain ⟨a, vs, rfl, h1, h2⟩ := r
    refine ⟨!xs.isEmpty, .inr (.inl ⟨vs, sameT s h1, ?_⟩), rfl, Post.ok s q rfl⟩
    cases xs with
    | nil =>
      cases h2
      rfl
    | cons _ _ =>
      obtain ⟨_, _, rfl, _⟩ := h2
      rfl
  | lst xs =>
    obtain ⟨a, vs, rfl, h1, h2⟩ := r
    refine ⟨!xs.isEmpty, .inl ⟨vs, .inl (.inl (s _ _ h1)), ?_⟩, rfl, Post.ok s q rfl⟩
    cases xs with
    | nil =>
      cases h2
      rfl
    | cons _ _ =>
      obtain ⟨_, _, rfl, _⟩ := h2
      rfl
  | _ => exact q.elim
theorem s_truth {a : Expr} {f : Env → R D} (ha : PE X a (rdE X.K T W f)) (he : ∀ whole, isTrue a X.env whole = (do let v ← whole; standAt a.pos; holding [v] (truthy v))) : PT X a (rdT X.K T W fun env => (f env).bind truth) := by
  refine pt_of (pt_truth ha he) fun σ H Q _ ⟨F, env, vw, q⟩ => ?_
  refine vw.rd (Post.imp (Post.bind (rel := relD X.K T) q) fun x H1 ⟨F1, d1, e1, g1, r1, q1⟩ => ?_)
  obtain ⟨k, t1, _, t2⟩ := tru_of g1.s r1 q1
  exact ⟨k, t1, t2⟩
theorem s_not {a : Expr} {f : Env → R D} (ha : PE X a (rdE X.K T W f)) : PE X (.UnaryOp .Not a pos) (rdE X.K T W fun env => (f env).bind fun x => (truth x).map fun t => D.bool (!t)) := by
  refine pe_of (pe_notT ha) fun σ H Q _ ⟨F, env, vw, q⟩ => ?_
  refine vw.rd (Post.imp (Post.bind (rel := relD X.K T) q) fun x H1 ⟨F1, d1, e1, g1, r1, q1⟩ => ?_)
  have q2 := Post.map (rel := relB) (g := fun b => V.bl (!b)) q1 fun F a b h => by
    cases h
    exact rfl
  obtain ⟨k, t1, _, t2⟩ := tru_of g1.s r1 q2
  exact ⟨k, t1, t2⟩
theorem s_and1 {o : BoolOp} {a : Expr} {f : Env → R D} (ha : PE X a (rdE X.K T W f)) : PE X (.BoolOp o [a] pos) (rdE X.K T W f) := pe_one ha
theorem s_and {a b : Expr} {rest : List Expr} {f g : Env → R D} (ha : PE X a (rdE X.K T W f)) (hb : PE X (.BoolOp .And (b :: rest) pos) (rdE X.K T W g)) :
    PE X (.BoolOp .And (a :: b :: rest) pos) (rdE X.K T W fun env => (f env).bind fun x => (truth x).bind fun t => if t = true then g env else .ok x) := by
  refine pe_of (pe_andT ha hb) fun σ H Q _ ⟨F, env, vw, q⟩ => ?_
  refine vw.rd (Post.imp (Post.bind (rel := relD X.K T) q) fun x H1 ⟨F1, d1, e1, g1, r1, q1⟩ => ?_)
  obtain ⟨k, t1, e2, F2, k', e3, g2, r2, q2⟩ := tru_of g1.s r1 (Post.bind (rel := relB) q1)
  have r2 : k' = k := r2
  subst r2
  refine ⟨k', t1, ?_⟩
  cases k' with
  | true => exact ((vw.grow g1).grow g2).rd q2
  | false => exact Post.ok g2.s q2 (Rep.mono g2.f r1)
theorem s_or {a b : Expr} {rest : List Expr} {f g : Env → R D} (ha : PE X a (rdE X.K T W f)) (hb : PE X (.BoolOp .Or (b :: rest) pos) (rdE X.K T W g)) :
    PE X (.BoolOp .Or (a :: b :: rest) pos) (rdE X.K T W fun env => (f env).bind fun x => (truth x).bind fun t => if t = false then g env else .ok x) := by
  refine pe_of (pe_orT ha hb) fun σ H Q _ ⟨F, env, vw, q⟩ => ?_
  refine vw.rd (Post.imp (Post.bind (rel := relD X.K T) q) fun x H1 ⟨F1, d1, e1, g1, r1, q1⟩ => ?_)
  obtain ⟨k, t1, e2, F2, k', e3, g2, r2, q2⟩ := tru_of g1.s r1 (Post.bind (rel := relB) q1)
  have r2 : k' = k := r2
  subst r2
  refine ⟨k', t1, ?_⟩
  cases k' with
  | false => exact ((vw.grow g1).grow g2).rd q2
  | true => exact Post.ok g2.s q2 (Rep.mono g2.f r1)
/-- tests -/
theorem st_not {a : Expr} {f : Env → R Bool} (ha : PT X a (rdT X.K T W f)) : PT X (.UnaryOp .Not a pos) (rdT X.K T W fun env => (f env).map not) := by
  refine pt_of (pt_not ha) fun σ H Q _ ⟨F, env, vw, q⟩ => ?_
  exact vw.rd (Post.map q fun F a b h => congrArg not h)
theorem st_and1 {a : Expr} {f : Env → R Bool} (ha : PT X a (rdT X.K T W f)) : PW X (.BoolOp .And [a] pos) (rdT X.K T W f) := pw_and1 ha
theorem st_or1 {a : Expr} {f : Env → R Bool} (ha : PT X a (rdT X.K T W f)) : PW X (.BoolOp .Or [a] pos) (rdT X.K T W f) := pw_or1 ha
theorem pw_of {e : Expr} {t : TT} {f : Env → R Bool} (h : PW X e t) (imp : ∀ σ H Q, LenOk X.K H → (∃ F env, Vw X.K T F H σ env ∧ Post X.K T relB (fun c d H' => W c d σ H') F H (f env) Q) → t σ H Q) : PW X e (rdT X.K T W f) :=
  ⟨fun wh pins s σ H Q I q => h.run wh pins s σ H Q I (imp σ H Q (lenOk_of I) (q (lenOk_of I)))⟩
theorem st_and {a b : Expr} {rest : List Expr} {f g : Env → R Bool} (ha : PT X a (rdT X.K T W f)) (hb : PW X (.BoolOp .And (b :: rest) pos) (rdT X.K T W g)) :
    PW X (.BoolOp .And (a :: b :: rest) pos) (rdT X.K T W fun env => (f env).bind fun t => if t = true then g env else .ok t) := by
  refine pw_of (pw_and ha hb) fun σ H Q _ ⟨F, env, vw, q⟩ => ?_
  refine vw.rd (Post.imp (Post.bind (rel := relB) q) fun x H1 ⟨F1, d1, e1, g1, r1, q1⟩ => ?_)
  have r1 : d1 = x := r1
  subst r1
  cases d1 with
  | true => exact (vw.grow g1).rd q1
  | false => exact Post.ok g1.s q1 rfl
theorem st_or {a b : Expr} {rest : List Expr} {f g : Env → R Bool} (ha : PT X a (rdT X.K T W f)) (hb : PW X (.BoolOp .Or (b :: rest) pos) (rdT X.K T W g)) :
    PW X (.BoolOp .Or (a :: b :: rest) pos) (rdT X.K T W fun env => (f env).bind fun t => if t = false then g env else .ok t) := by
  refine pw_of (pw_or ha hb) fun σ H Q _ ⟨F, env, vw, q⟩ => ?_
  refine vw.rd (Post.imp (Post.bind (rel := relB) q) fun x H1 ⟨F1, d1, e1, g1, r1, q1⟩ => ?_)
  have r1 : d1 = x := r1
  subst r1
  cases d1 with
  | false => exact (vw.grow g1).rd q1
  | true => exact Post.ok g1.s q1 rfl
theorem st_cmp {o : COp} {a b : Expr} {f g : Env → R D} (hu : X.A.units + 65 < cLine) (hm : behindInMarks (cop o) b = false) (ha : PE X a (rdE X.K T W f)) (hb : PE X b (rdE X.K T W g)) :
    PT X (.Compare a [cop o] [b] pos) (rdT X.K T W fun env => (f env).bind fun x => (g env).bind fun y => cmpD o x y) := by
  refine pt_of (pt_cmpR (op_cmp (T := T) hu) ha hb hm) fun σ H Q _ ⟨F, env, vw, q⟩ => ?_
  refine vw.rd (Post.imp (Post.bind (rel := relD X.K T) q) fun x H1 ⟨F1, d1, e1, g1, r1, q1⟩ => ?_)
  refine (vw.grow g1).rd (Post.imp (Post.bind (rel := relD X.K T) q1) fun y H2 ⟨F2, d2, e2, g2, r2, q2⟩ => ?_)
  exact ⟨F2, _, d1, d2, g2.s, Rep.mono g2.f r1, r2, Post.imp q2 fun k H3 z => ⟨k, rfl, z⟩⟩
theorem st_chain {o o' : COp} {a b c : Expr} {f g h : Env → R D} (hu : X.A.units + 65 < cLine) (hm : lastMarks [cop o, cop o'] [b, c] = false) (ha : PE X a (rdE X.K T W f)) (hb : PE X b (rdE X.K T W g)) (hc : PE X c (rdE X.K T W h)) :
    PT X (.Compare a [cop o, cop o'] [b, c] pos) (rdT X.K T W fun env => (f env).bind fun x => (g env).bind fun y => (cmpD o x y).bind fun t => if t then (h env).bind fun z => cmpD o' y z else .ok false) := by
  refine pt_of (pt_chain (op_cmp (T := T) hu) (op_cmp (T := T) hu) ha hb hc hm) fun σ H Q _ ⟨F, env, vw, q⟩ => ?_
  refine vw.rd (Post.imp (Post.bind (rel := relD X.K T) q) fun x H1 ⟨F1, d1, e1, g1, r1, q1⟩ => ?_)
  refine (vw.grow g1).rd (Post.imp (Post.bind (rel := relD X.K T) q1) fun y H2 ⟨F2, d2, e2, g2, r2, q2⟩ => ?_)
  refine ⟨F2, _, d1, d2, g2.s, Rep.mono g2.f r1, r2, Post.imp (Post.bind (rel := relB) q2) fun k H3 ⟨F3, k', e3, g3, r3, q3⟩ => ?_⟩
  have r3 : k' = k := r3
  subst r3
  refine ⟨k', rfl, ?_⟩
  cases k' with
  | true =>
    refine ((vw.grow g1).grow g2).grow g3 |>.rd (Post.imp (Post.bind (rel := relD X.K T) q3) fun z H4 ⟨F4, d4, e4, g4, r4, q4⟩ => ?_)
    exact ⟨F4, _, d2, d4, g4.s, Rep.mono g4.f (Rep.mono g3.f r2), r4, Post.imp q4 fun k H5 z => ⟨k, rfl, z⟩⟩
  | false => exact ⟨false, rfl, Post.ok g3.s q3 rfl⟩
theorem s_ife {c a b : Expr} {t : Env → R Bool} {f g : Env → R D} (hc : PT X c (rdT X.K T W t)) (ha : PE X a (rdE X.K T W f)) (hb : PE X b (rdE X.K T W g)) :
    PE X (.IfExp c a b pos) (rdE X.K T W fun env => (t env).bind fun k => if k then f env else g env) := by
  refine pe_of (pe_ifExp hc ha hb) fun σ H Q _ ⟨F, env, vw, q⟩ => ?_
  refine vw.rd (Post.imp (Post.bind (rel := relB) q) fun x H1 ⟨F1, d1, e1, g1, r1, q1⟩ => ?_)
  have r1 : d1 = x := r1
  subst r1
  cases d1 with
  | true => exact (vw.grow g1).rd q1
  | false => exact (vw.grow g1).rd q1

/-! ### arguments, displays -/
theorem s_nil : PA X [] (rdA X.K T W fun _ => .ok []) := by
  refine pa_of pa_nil fun σ H Q _ ⟨F, env, vw, q⟩ => ?_
  exact Post.ok vw.s q rfl
theorem s_cons {e : Expr} {es : List Expr} {f : Env → R D} {g : Env → R (List D)} (he : PE X e (rdE X.K T W f)) (hr : PA X es (rdA X.K T W g)) (hs : starEach (e :: es) X.env = (false, eval e X.env) :: starEach es X.env) :
    PA X (e :: es) (rdA X.K T W fun env => (f env).bind fun x => (g env).map fun xs => x :: xs) := by
  refine pa_of (pa_cons he hr hs) fun σ H Q _ ⟨F, env, vw, q⟩ => ?_
  refine vw.rd (Post.imp (Post.bind (rel := relD X.K T) q) fun x H1 ⟨F1, d1, e1, g1, r1, q1⟩ => ?_)
  refine (vw.grow g1).rd (Post.imp (Post.bind' (rel := relL X.K T) q1) fun y H2 ⟨F2, d2, e2, g2, r2, q2⟩ => ?_)
  exact Post.ok g2.s q2 ⟨x, y, rfl, Rep.mono g2.f r1, r2⟩
theorem s_tup {es : List Expr} {k : Nat} {g : Env → R (List D)} (n : Nat) (hn : es.length ≤ 1000) (hr : PA X es (rdA X.K T W g)) (hl : ∀ env ds, g env = .ok ds → ds.length = es.length) : PE X (.Tuple es k pos) (rdE X.K T W fun env => (g env).map D.tup) := by
  refine pe_of (pe_tup hr) fun σ H Q _ ⟨F, env, vw, q⟩ => ?_
  refine vw.rd (Post.imp (Post.bind' (rel := relL X.K T) q) fun y H2 ⟨F2, d2, e2, g2, r2, q2⟩ => ?_)
  refine ⟨?_, fun p hp => Post.tup g2.s q2 r2 hp⟩
  rw [Reps.length r2, hl env d2 e2]
  exact Nat.le_trans hn (by decide)
theorem s_lst {es : List Expr} {g : Env → R (List D)} (hn : es.length ≤ 1000) (hr : PA X es (rdA X.K T W g)) (hl : ∀ env ds, g env = .ok ds → ds.length = es.length) : PE X (.List es pos) (rdE X.K T W fun env => (g env).map D.lst) := by
  refine pe_of (pe_lst hr) fun σ H Q _ ⟨F, env, vw, q⟩ => ?_
  refine vw.rd (Post.imp (Post.bind' (rel := relL X.K T) q) fun y H2 ⟨F2, d2, e2, g2, r2, q2⟩ => ?_)
  refine ⟨?_, fun p hp => Post.lst g2.s q2 r2 hp⟩
  rw [Reps.length r2, hl env d2 e2]
  exact Nat.le_trans hn (by decide)
end
end Py

namespace Py
open PySem L2

/-- an expression that is no star, no set, no slice -/
def isPlain : Expr → Bool
  | .Starred _ _ => false
  | .Set _ _ _ => false
  | .Slice _ _ _ _ => false
  | _ => true
theorem star_plain {a : Expr} (h : isPlain a = true) (es : List Expr) (env : PySem.Env) : starEach (a :: es) env = (false, eval a env) :: starEach es env := by
  cases a <;> first | rfl | cases h
theorem star_none {pos : Pos} {env : PySem.Env} : ∀ {es : List Expr}, (es.all isPlain) = true → (backTo pos (starEach es env)).any (·.1) = false
  | [], _ => rfl
  | a :: es, h => by
    have h' : (isPlain a && es.all isPlain) = true := h
    obtain ⟨h1, h2⟩ := Bool.and_eq_true_iff.mp h'
    rw [star_plain h1]
    show (false || (backTo pos (starEach es env)).any (·.1)) = false
    rw [star_none h2]
    rfl
theorem plainIx {b : Expr} (h : isPlain b = true) : PlainIx b := by
  intro o i
  cases b <;> first | rfl | cases h

/-- what a def of the text promises -/
def spOf (K : PySem.W.Frag) (T : Tab) (n : Nat) (f : Sem) : Sp := fun vs H Q E => ∃ F ds, ds.length = n ∧ Same F H ∧ Reps K T F ds vs ∧ Post K T (relD K T) E F H (f ds) Q
/-- .. by the values that are passed; dd: the defaults that are used -/
def spR (K : PySem.W.Frag) (T : Tab) (f : Sem) (dd : List D) : Sp := fun vs H Q E => ∃ F ds, Same F H ∧ Reps K T F ds vs ∧ Post K T (relD K T) E F H (f (ds ++ dd)) Q
/-- the def x of the text computes f -/
def Good (P : Program) (w : World) (K : PySem.W.Frag) (mg : Str → Option Value) (base : Heap) (T : Tab) (k : Nat) (x : String) (f : Sem) (dd : List D) : Prop :=
  ∃ g : Addr, mg (x : Str) = some (.ref g) ∧ PySem.W.keepIn K (.ref g) = true ∧ FnR P w K mg base (L2.CX P w) k g (spR K T f dd)
/-- a promise of all parameters' values, the defaults known -/
theorem fnR_of {P : Program} {w : World} {K : PySem.W.Frag} {mg : Str → Option Value} {base : Heap} {CX : CXT} {k : Nat} {g : Addr} {fd : FuncData} {ps : List Str} {sp : Sp} {dvs : List V} {ds : List Value} (F : FnOk P w K mg base CX k g fd ps sp) (hb : Binds K fd ps ds) (hd : Vals dvs ds) :
    FnR P w K mg base CX k g (fun vs H Q E => sp (vs ++ dvs) H Q E) := fun A outer s H us vs Q E hr e0 r h => by
  have KX : K.In s.heap := e0.mod.kin.keeps fun b o e => (e0.bs b o e).1
  have r2 : Vals (vs ++ dvs) (us ++ ds) := r.append hd
  have hl : (us ++ ds).length = ps.length := by
    rw [← r2.length]
    exact F.len _ _ _ _ h
  exact F.run A outer s H ⟨us, []⟩ (us ++ ds) (vs ++ dvs) Q E hr e0 (hb s us KX hl) r2 h
theorem FnR.imp {P : Program} {w : World} {K : PySem.W.Frag} {mg : Str → Option Value} {base : Heap} {CX : CXT} {k : Nat} {g : Addr} {sp sp' : Sp} (F : FnR P w K mg base CX k g sp) (h : ∀ vs H Q E, sp' vs H Q E → sp vs H Q E) : FnR P w K mg base CX k g sp' :=
  fun A outer s H us vs Q E hr e0 r q => F A outer s H us vs Q E hr e0 r (h _ _ _ _ q)
theorem good_mk {P : Program} {w : World} {K : PySem.W.Frag} {mg : Str → Option Value} {base : Heap} {T : Tab} {k : Nat} {x : String} {f : Sem} {dd : List D} {g : Addr} {fd : FuncData} {ps : List Str} {dvs : List V} {ds : List Value} (hg : mg (x : Str) = some (.ref g)) (kp : PySem.W.keepIn K (.ref g) = true) (hb : Binds K fd ps ds) (hd : Vals dvs ds)
    (hr : ∀ F, Reps K T F dd dvs) (ha : ∀ zs, zs.length ≠ ps.length → f zs = .no) (F : FnOk P w K mg base (L2.CX P w) k g fd ps (spOf K T ps.length f)) : Good P w K mg base T k x f dd :=
  ⟨g, hg, kp, FnR.imp (fnR_of F hb hd) fun vs H Q E ⟨F1, d1, s1, r1, q1⟩ => ⟨F1, d1 ++ dd, Decidable.byContradiction fun hn => by
    rw [ha _ hn] at q1
    exact q1, s1, Reps.app r1 (hr F1), q1⟩⟩
section
variable {X : Cx} {k : Nat} {f : Addr} {sp : Sp} {E : L2.St → XK} {x : Str} {p pos : Pos} {e : Expr} {es : List Expr} {t : TA}
theorem run_fnRS {pins : List (Addr × Obj)} {σ : L2.St} {H : Hp} {s : Shared} {Q : VK} {us : List Value} {vs : List V} (F : FnR X.prog X.w X.K X.mg X.base (L2.CX X.prog X.w) k f sp) (hr : Room k X.A) (hx : PassesAt (L2.CX X.prog X.w) X σ (E σ)) (I : Inv X pins σ H s) (r : Vals vs us) (h : sp vs H Q (E σ)) :
    wpAny (model X.prog X.w) X.A (call (.ref f) us) (EP X pins σ Q) X.xe s := by
  refine wpAny_call (codeAny_mono (F X.A X.stack s H us vs Q (E σ) hr I.env0 r h) fun r s' hq => ?_)
  cases r with
  | error e => exact hx pins H s e s' I hq
  | ok fl =>
    cases fl with
    | ret u => exact I.after hq
    | _ => exact hq.elim
theorem pe_callR (F : FnR X.prog X.w X.K X.mg X.base (L2.CX X.prog X.w) k f sp) (hr : Room k X.A) (hg : Gl X x) (hm : X.mg x = some (.ref f)) (hk : PySem.W.keepIn X.K (.ref f) = true) (hx : ∀ σ, PassesAt (L2.CX X.prog X.w) X σ (E σ))
    (ha : PA X (e :: es) t) (hdb : (x == ("__debug__" : Str)) = false) (he : starEach (e :: es) X.env = (false, eval e X.env) :: starEach es X.env) (hpl : (backTo pos (starEach es X.env)).any (·.1) = false) :
    PE X (.Call (.Name x p) (e :: es) [] pos) (fun σ H Q => t σ H fun vs H1 => sp vs H1 Q (E σ)) := by
  refine ⟨fun pins s σ H Q I h => ?_⟩
  refine wpAny_Call_Name_kw (ld_glob I hg hm ?_ hdb)
  exact PySem.W.callWith_K (h₀ := X.base) I.ok.mod.kin hk (thn (ha.run pos pins s σ H _ I h) fun us s1 ⟨vs, H1, I1, r, q⟩ => ⟨I1.kIn, run_fnRS F hr (hx σ) I1 r q⟩) he hpl
end

section
variable {X : Cx} {T : Tab} {W : WX} {pos p2 : Pos}
theorem toL {α : Type} (s : List α) : s.toArray.toList = s := rfl
theorem atI_eq {α : Type} (xs : List α) (i : Int) : L2.atI xs i = Py.atI xs i := rfl
theorem atI_reps {F : Hp} {ds : List D} {vs : List V} {i : Int} {d : D} (r : Reps X.K T F ds vs) (h : Py.atI ds i = some d) : ∃ v, L2.atI vs i = some v ∧ Rep X.K T F d v := by
  unfold Py.atI at h
  unfold L2.atI
  rw [Reps.length r]
  have e : L2.ixN ds.length i = Py.ixN ds.length i := rfl
  rw [e]
  cases hx : Py.ixN ds.length i with
  | none =>
    rw [hx] at h
    cases h
  | some j =>
    rw [hx] at h
    exact Reps.get r h
def rIdx (K : PySem.W.Frag) (T : Tab) : R2 := fun x y H Q => ∃ F W a b, Same F H ∧ Rep K T F a x ∧ Rep K T F b y ∧ Post K T (relD K T) W F H (idxD a b) Q
theorem post_ofO {K : PySem.W.Frag} {α β : Type} {rel : Hp → α → β → Prop} {W' : Value → Option Addr → Hp → Prop} {F H : Hp} {o : Option D} {Q : VK} (h : Post K T (relD K T) W' F H (ofO o) Q) : ∃ d, o = some d ∧ Post K T (relD K T) W' F H (.ok d) Q := by
  cases o with
  | some d => exact ⟨d, rfl, h⟩
  | none => exact h.elim
/-- a dict's subscript, its key there -/
theorem tail_dict {prog : Program} {w : World} {A : Around} {E : Value → Shared → Prop} {s : Shared} {value slice : Expr} {o i : Value} {Q : Value → Shared → Prop} (hT : s.TypeIs o "dict") (hs : subscripted slice false o i = operate [o, i] (getItem o i))
    (h : wpAny (model prog w) A (getItem o i) Q E s) : wpAny (model prog w) A (PyProof.Rows.subscriptTail value slice o i) Q E s := by
  have main : wpAny (model prog w) A (subscripted slice false o i) (fun r t => wpAny (model prog w) A (letTemporaryGo value o r >>= fun _ => pure r) Q E t) E s := by
    rw [hs]
    refine wpAny_operating (wpAny_mono h (fun r t ht => ?_) fun _ _ z => z)
    exact wpAny_bind (wpAny_letTemporaryGo (wpAny_pure ht))
  unfold PyProof.Rows.subscriptTail
  refine wpAny_bind ?_
  rw [getitemInPython_of_ne hT.not_modules]
  refine wpAny_bind (wpAny_specialOf hT PySem.F.slot_dict_getitem.lookup ?_)
  first
    | exact wpAny_pure (wpAny_bind main)
    | exact wpAny_bind (wpAny_pure (wpAny_bind main))
    | exact wpAny_bind main
theorem ix_all (hu : X.A.units + 65 < cLine) : IxR X (rIdx X.K T) := by
  intro value slice pins s σ H x y v u Q I rx ry ⟨F, W', a, b, sF, ra, rb, q⟩ hs
  unfold idxD at q
  split at q
  · rename_i xs i
    obtain ⟨d, e, q⟩ := post_ofO (α := D) (rel := relD X.K T) q
    obtain ⟨p, vs, rfl, h1, h2⟩ := ra
    cases rb
    obtain ⟨z, e1, r1⟩ := atI_reps h2 e
    exact ix_tup value slice pins s σ H _ _ v u Q I rx ry ⟨p, vs, i, z, rfl, rfl, sameT sF h1, e1, Post.ok sF q r1⟩ hs
  · rename_i xs i
    obtain ⟨d, e, q⟩ := post_ofO (α := D) (rel := relD X.K T) q
    obtain ⟨p, vs, rfl, h1, h2⟩ := ra
    cases rb
    obtain ⟨z, e1, r1⟩ := atI_reps h2 e
    exact ix_list value slice pins s σ H _ _ v u Q I rx ry ⟨p, vs, i, z, rfl, rfl, .inl (.inl (sF _ _ h1)), e1, Post.ok sF q r1⟩ hs
  · rename_i ns i
    obtain ⟨d, e, q⟩ := post_ofO (α := D) (rel := relD X.K T) q
    obtain ⟨p, rfl, h1⟩ := ra
    cases rb
    cases hx : Py.atI ns i with
    | none =>
      rw [hx] at e
      cases e
    | some n =>
      rw [hx] at e
      cases e
      have e1 : L2.atI (ns.map V.int) i = some (.int n) := by
        unfold Py.atI at hx
        unfold L2.atI
        rw [List.length_map]
        have e : L2.ixN ns.length i = Py.ixN ns.length i := rfl
        rw [e]
        cases hy : Py.ixN ns.length i with
        | none =>
          rw [hy] at hx
          cases hx
        | some j =>
          rw [hy] at hx
          show (ns.map V.int)[j]? = _
          rw [List.getElem?_map]
          have hx' : ns[j]? = some n := hx
          rw [hx']
          rfl
      exact ix_list value slice pins s σ H _ _ v u Q I rx ry ⟨p, _, i, _, rfl, rfl, sF.seq h1, e1, Post.ok sF q rfl⟩ hs
  · rename_i z i
    split at q
    · rename_i hz
      obtain ⟨d, e, q⟩ := post_ofO (α := D) (rel := relD X.K T) q
      cases ra
      cases rb
      cases hx : Py.atI z i with
      | none =>
        rw [hx] at e
        cases e
      | some c =>
        rw [hx] at e
        cases e
        exact ix_str value slice pins s σ H _ _ v u Q I rx ry ⟨_, i, c, rfl, rfl, le_line hz, hx, Post.ok sF q rfl⟩ hs
    · exact q.elim
  · rename_i ks ds k
    split at q
    · rename_i hk
      obtain ⟨d, e, q⟩ := post_ofO (α := D) (rel := relD X.K T) q
      obtain ⟨p, ep, r2⟩ := ra
      subst ep
      obtain ⟨o, g, _, e2⟩ := dget_of sF hk ⟨p, rfl, r2⟩ rb
      obtain ⟨z, ez, rz⟩ := e2 d e
      subst ez
      obtain rfl : v = Value.ref p := rx
      exact tail_dict (dict_typeIs I g) hs (d_getItem (by omega) I g ry fun w' s3 I3 rw' => ⟨z, H, I3, rw', Post.ok sF q rz⟩)
    · exact q.elim
  · exact q.elim
theorem s_idx {a b : Expr} {f g : Env → R D} (hu : X.A.units + 65 < cLine) (hp : isPlain b = true) (ha : PE X a (rdE X.K T W f)) (hb : PE X b (rdE X.K T W g)) :
    PE X (.Subscript a b pos) (rdE X.K T W fun env => (f env).bind fun x => (g env).bind fun y => idxD x y) := by
  refine pe_of (pe_ix (ix_all (T := T) hu) ha hb (plainIx hp)) fun σ H Q _ ⟨F, env, vw, q⟩ => ?_
  refine vw.rd (Post.imp (Post.bind (rel := relD X.K T) q) fun x H1 ⟨F1, d1, e1, g1, r1, q1⟩ => ?_)
  refine (vw.grow g1).rd (Post.imp (Post.bind (rel := relD X.K T) q1) fun y H2 ⟨F2, d2, e2, g2, r2, q2⟩ => ?_)
  exact ⟨F2, _, d1, d2, g2.s, Rep.mono g2.f r1, r2, q2⟩

/-! ### slices -/
theorem s_part {a : Expr} {f : Env → R D} (ha : PE X a (rdE X.K T W f)) : PO X (some a) (rdO X.K T W fun env => (f env).bind partI) := by
  have h := po_some ha
  refine ⟨fun pins s σ H Q I q => h.run pins s σ H Q I ?_⟩
  obtain ⟨F, env, vw, q⟩ := q (lenOk_of I)
  refine vw.rd (Post.imp (Post.bind (rel := relD X.K T) q) fun x H1 ⟨F1, d1, e1, g1, r1, q1⟩ => ?_)
  cases d1 <;> first | exact q1.elim | skip
  cases r1
  exact ⟨_, rfl, Post.ok g1.s q1 rfl⟩
theorem s_nopart : PO X none (rdO X.K T W fun _ => .ok none) := by
  refine ⟨fun pins s σ H Q I q => po_none.run pins s σ H Q I ?_⟩
  obtain ⟨F, env, vw, q⟩ := q (lenOk_of I)
  exact Post.ok vw.s q rfl
theorem sIx_eq (n d : Nat) (o : Option Int) : HT.sIx n d o = Py.sIx n d o := by
  cases o <;> rfl
theorem cut_reps {F : Hp} {ds : List D} {vs : List V} (r : Reps X.K T F ds vs) (lo hi : Option Int) : Reps X.K T F (cutL ds lo hi) (cutV vs lo hi) := by
  unfold cutL cutV
  rw [sIx_eq, sIx_eq, Reps.length r]
  exact Reps.take _ (Reps.drop _ r)
def rSlice (K : PySem.W.Frag) (T : Tab) : V → Option Int → Option Int → Hp → VK → Prop := fun x lo hi H Q => ∃ F W a, Same F H ∧ Rep K T F a x ∧ Post K T (relD K T) W F H (sliceD lo hi a) Q
theorem sl_all : SlR X (rSlice X.K T) := by
  intro pins s σ H x v vl vu lo hi sl Q I rx hs pl pu ⟨F, W', a, sF, ra, q⟩
  cases a <;> first | exact q.elim | skip
  · rename_i z
    have q : Post X.K T (relD X.K T) W' F H (if z.length ≤ cap then .ok (.str (cutL z lo hi)) else .no) Q := q
    split at q
    · rename_i hz
      cases ra
      refine sl_str pins s σ H _ v vl vu lo hi sl Q I rx hs pl pu ⟨_, rfl, le_line hz, ?_⟩
      exact Post.ok (v := V.str (cutS ⟨z.toArray⟩ lo hi)) sF q (by
        show V.str (cutS ⟨z.toArray⟩ lo hi) = V.str ⟨(cutL z lo hi).toArray⟩
        unfold cutS cutL
        rw [sIx_eq, sIx_eq]
        rfl)
    · exact q.elim
  · rename_i xs
    obtain ⟨p, vs, rfl, h1, h2⟩ := ra
    refine sl_tupA pins s σ H _ v vl vu lo hi sl Q I rx hs pl pu ⟨p, vs, rfl, sameT sF h1, fun hw => ?_, fun hw p2 hp => Post.tup sF q (cut_reps h2 lo hi) hp⟩
    refine Post.ok sF q ⟨p, vs, rfl, h1, ?_⟩
    have e : cutV vs lo hi = vs := by
      unfold cutV
      rw [hw.1, hw.2]
      simp
    have := cut_reps h2 lo hi
    rw [e] at this
    exact this
  · rename_i xs
    obtain ⟨p, vs, rfl, h1, h2⟩ := ra
    exact sl_list pins s σ H _ v vl vu lo hi sl Q I rx hs pl pu ⟨p, vs, rfl, .inl (.inl (sF _ _ h1)), fun p2 hp => Post.lst sF q (cut_reps h2 lo hi) hp⟩
theorem s_slice {a : Expr} {lo hi : Option Expr} {f : Env → R D} {l h : Env → R (Option Int)} (ha : PE X a (rdE X.K T W f)) (hl : PO X lo (rdO X.K T W l)) (hh : PO X hi (rdO X.K T W h)) :
    PE X (.Subscript a (.Slice lo hi none p2) pos) (rdE X.K T W fun env => (f env).bind fun x => (l env).bind fun l => (h env).bind fun h => sliceD l h x) := by
  refine pe_of (pe_slice (sl_all (T := T)) ha hl hh) fun σ H Q _ ⟨F, env, vw, q⟩ => ?_
  refine vw.rd (Post.imp (Post.bind (rel := relD X.K T) q) fun x H1 ⟨F1, d1, e1, g1, r1, q1⟩ => ?_)
  refine (vw.grow g1).rd (Post.imp (Post.bind (rel := relO) q1) fun y H2 ⟨F2, d2, e2, g2, r2, q2⟩ => ?_)
  refine ((vw.grow g1).grow g2).rd (Post.imp (Post.bind (rel := relO) q2) fun z H3 ⟨F3, d3, e3, g3, r3, q3⟩ => ?_)
  have r2 : d2 = y := r2
  have r3 : d3 = z := r3
  subst r2 r3
  exact ⟨F3, _, d1, g3.s, Rep.mono g3.f (Rep.mono g2.f r1), q3⟩

/-! ### calls of defs -/
theorem Reps.reverse {F : Hp} {K : PySem.W.Frag} : ∀ {ds : List D} {vs : List V}, Reps K T F ds vs → Reps K T F ds.reverse vs.reverse
  | [], _, h => by
    cases h
    exact rfl
  | d :: ds, _, ⟨v, r, h1, h2, h3⟩ => by
    subst h1
    rw [List.reverse_cons, List.reverse_cons]
    exact Reps.app (Reps.reverse h3) (Reps.one h2)
theorem s_rev {a : Expr} {f : Env → R D} {k : Nat} {p1 p2 p3 : Pos} (ha : PE X a (rdE X.K T W f)) : PE X (.Subscript a (.Slice none none (some (.UnaryOp .USub (.Constant (.int 1) k p1) p2)) p3) pos) (rdE X.K T W fun env => (f env).bind revD) := by
  refine pe_of (pe_revL ha) fun σ H Q _ ⟨F, env, vw, q⟩ => ?_
  refine vw.rd (Post.imp (Post.bind (rel := relD X.K T) q) fun x H1 ⟨F1, d1, e1, g1, r1, q1⟩ => ?_)
  cases d1 <;> first | exact q1.elim | skip
  obtain ⟨a, vs, rfl, h1, h2⟩ := r1
  exact ⟨a, vs, rfl, .inl (.inl (g1.s _ _ h1)), fun p hp => Post.lst g1.s q1 (Reps.reverse h2) hp⟩
theorem s_call {k : Nat} {x : String} {f : Sem} {dd : List D} {e : Expr} {es : List Expr} {g : Env → R (List D)} (G : Good X.prog X.w X.K X.mg X.base T k x f dd) (hr : Room k X.A) (hg : Gl X (x : Str)) (tk : Takes X W) (hd : (((x : Str)) == ("__debug__" : Str)) = false)
    (hp : ((e :: es).all isPlain) = true) (ha : PA X (e :: es) (rdA X.K T W g)) : PE X (.Call (.Name (x : Str) p2) (e :: es) [] pos) (rdE X.K T W fun env => (g env).bind fun xs => f (xs ++ dd)) := by
  obtain ⟨a, h1, h2, h6⟩ := G
  have hp' : (isPlain e && es.all isPlain) = true := hp
  obtain ⟨p1, p2'⟩ := Bool.and_eq_true_iff.mp hp'
  refine pe_of (pe_callR (E := fun σ cls d H => W cls d σ H) h6 hr hg h1 h2 (fun σ => passAt tk σ) ha hd (star_plain p1 es X.env) (star_none p2')) fun σ H Q _ ⟨F, env, vw, q⟩ => ?_
  refine vw.rd (Post.imp (Post.bind (rel := relL X.K T) q) fun vs H1 ⟨F1, d1, e1, g1, r1, q1⟩ => ?_)
  exact ⟨F1, d1, g1.s, r1, q1⟩

/-! ### built-ins -/
def biV : Bi → Value
  | .len => .builtin "len" | .int => .type "int" | .abs => .builtin "abs" | .max => .builtin "max" | .min => .builtin "min" | .sum => .builtin "sum"
  | .tuple => .type "tuple" | .list => .type "list" | .any => .builtin "any" | .all => .builtin "all" | .str => .type "str" | .sorted => .builtin "sorted"
def biN : Bi → String
  | .len => "len" | .int => "int" | .abs => "abs" | .max => "max" | .min => "min" | .sum => "sum"
  | .tuple => "tuple" | .list => "list" | .any => "any" | .all => "all" | .str => "str" | .sorted => "sorted"
def rBi (K : PySem.W.Frag) (T : Tab) (f : Bi) : List V → Hp → VK → Prop := fun xs H Q => ∃ F W ds, Same F H ∧ Reps K T F ds xs ∧ Post K T (relD K T) W F H (biD f ds) Q
theorem ints_of {F : Hp} {K : PySem.W.Frag} : ∀ {ds : List D} {ns : List Int} {vs : List V}, allInts ds = some ns → Reps K T F ds vs → vs = ns.map V.int
  | [], ns, vs, e, r => by
    cases e
    exact r
  | d :: ds, ns, vs, e, ⟨v, r, e1, h2, h3⟩ => by
    subst e1
    unfold allInts at e
    split at e
    · rename_i i q hi hq
      cases e
      cases d <;> cases hi
      rw [ints_of hq h3]
      cases h2
      rfl
    · cases e
theorem bools_of {F : Hp} {K : PySem.W.Frag} : ∀ {ds : List D} {ns : List Bool} {vs : List V}, allBools ds = some ns → Reps K T F ds vs → vs = ns.map V.bl
  | [], ns, vs, e, r => by
    cases e
    exact r
  | d :: ds, ns, vs, e, ⟨v, r, e1, h2, h3⟩ => by
    subst e1
    unfold allBools at e
    split at e
    · rename_i i q hi hq
      cases e
      cases d <;> cases hi
      rw [bools_of hq h3]
      cases h2
      rfl
    · cases e
theorem maxI_of : ∀ {ns : List Int}, 0 < ns.length → maxI ns ∈ ns ∧ ∀ y, y ∈ ns → y ≤ maxI ns
  | [], h => by cases h
  | [x], _ => ⟨List.mem_singleton.mpr rfl, fun y hy => by
    rw [List.mem_singleton.mp hy]
    exact Int.le_refl _⟩
  | x :: z :: r, _ => by
    obtain ⟨h1, h2⟩ := maxI_of (ns := z :: r) (Nat.zero_lt_succ _)
    have e : maxI (x :: z :: r) = max x (maxI (z :: r)) := rfl
    rw [e]
    refine ⟨?_, fun y hy => ?_⟩
    · rcases Int.le_total x (maxI (z :: r)) with q | q
      · rw [Int.max_eq_right q]
        exact List.mem_cons_of_mem _ h1
      · rw [Int.max_eq_left q]
        exact List.mem_cons_self
    · rcases List.mem_cons.mp hy with q | q
      · rw [q]
        exact Int.le_max_left _ _
      · exact Int.le_trans (h2 y q) (Int.le_max_right _ _)
theorem minI_of : ∀ {ns : List Int}, 0 < ns.length → minI ns ∈ ns ∧ ∀ y, y ∈ ns → minI ns ≤ y
  | [], h => by cases h
  | [x], _ => ⟨List.mem_singleton.mpr rfl, fun y hy => by
    rw [List.mem_singleton.mp hy]
    exact Int.le_refl _⟩
  | x :: z :: r, _ => by
    obtain ⟨h1, h2⟩ := minI_of (ns := z :: r) (Nat.zero_lt_succ _)
    have e : minI (x :: z :: r) = min x (minI (z :: r)) := rfl
    rw [e]
    refine ⟨?_, fun y hy => ?_⟩
    · rcases Int.le_total x (minI (z :: r)) with q | q
      · rw [Int.min_eq_left q]
        exact List.mem_cons_self
      · rw [Int.min_eq_right q]
        exact List.mem_cons_of_mem _ h1
    · rcases List.mem_cons.mp hy with q | q
      · rw [q]
        exact Int.min_le_left _ _
      · exact Int.le_trans (Int.min_le_right _ _) (h2 y q)
theorem reps1 {F : Hp} {K : PySem.W.Frag} {d : D} {vs : List V} (h : Reps K T F [d] vs) : ∃ v, vs = [v] ∧ Rep K T F d v := by
  obtain ⟨v, r, rfl, h1, h2⟩ := h
  cases h2
  exact ⟨v, rfl, h1⟩
theorem reps2 {F : Hp} {K : PySem.W.Frag} {d e : D} {vs : List V} (h : Reps K T F [d, e] vs) : ∃ v u, vs = [v, u] ∧ Rep K T F d v ∧ Rep K T F e u := by
  obtain ⟨v, r, rfl, h1, h2⟩ := h
  obtain ⟨u, rfl, h3⟩ := reps1 h2
  exact ⟨v, u, rfl, h1, h3⟩
theorem allInts_eq : ∀ {ds : List D} {ns : List Int}, allInts ds = some ns → ds = ns.map D.int
  | [], ns, e => by
    cases e
    rfl
  | d :: ds, ns, e => by
    unfold allInts at e
    split at e
    · rename_i i q hi hq
      cases e
      cases d <;> cases hi
      rw [allInts_eq hq]
      rfl
    · cases e
theorem allTups_eq : ∀ {ds : List D} {ts : List (List Int)}, allTups ds = some ts → ds = ts.map tupD
  | [], ts, e => by
    cases e
    rfl
  | d :: ds, ts, e => by
    unfold allTups at e
    split at e
    · rename_i i q hi hq
      cases e
      cases d <;> first | (cases hi; done) | skip
      have hi : allInts _ = some i := hi
      rw [allTups_eq hq, allInts_eq hi]
      rfl
    · cases e
section
variable {K : PySem.W.Frag} {F : Hp}
theorem rep_tupD {t : List Int} {v : V} (r : Rep K T F (tupD t) v) : ∃ a, v = .ref a ∧ F a = some (.tup (t.map V.int)) := by
  obtain ⟨a, vs, e1, e2, e3⟩ := r
  refine ⟨a, e1, ?_⟩
  have h : ∀ {ns : List Int} {us : List V}, Reps K T F (ns.map D.int) us → us = ns.map V.int := by
    intro ns
    induction ns with
    | nil => exact fun h => h
    | cons n ns ih =>
      rintro us ⟨v, r, e, h1, h2⟩
      subst e
      rw [ih h2]
      cases h1
      rfl
  rw [← h e3]
  exact e2
theorem reps_perm : ∀ {ys vs : List V}, ys.Perm vs → ∀ {ts : List (List Int)}, Reps K T F (ts.map tupD) vs → ∃ us : List (List Int), us.Perm ts ∧ Reps K T F (us.map tupD) ys := by
  intro ys vs hp
  induction hp with
  | nil =>
    intro ts r
    exact ⟨ts, .refl _, r⟩
  | cons x h ih =>
    intro ts r
    cases ts with
    | nil => cases r
    | cons t ts =>
      obtain ⟨v, q, e, r1, r2⟩ := r
      injection e with e1 e2
      subst e1 e2
      obtain ⟨us, p, r3⟩ := ih r2
      exact ⟨t :: us, p.cons t, _, _, rfl, r1, r3⟩
  | swap x y l =>
    intro ts r
    cases ts with
    | nil => cases r
    | cons t ts =>
      obtain ⟨v, q, e, r1, r2⟩ := r
      injection e with e1 e2
      subst e1 e2
      cases ts with
      | nil => cases r2
      | cons t2 ts =>
        obtain ⟨v2, q2, e, r3, r4⟩ := r2
        injection e with e1 e2
        subst e1 e2
        exact ⟨t2 :: t :: ts, .swap _ _ _, _, _, rfl, r3, _, _, rfl, r1, r4⟩
  | trans h1 h2 i1 i2 =>
    intro ts r
    obtain ⟨us, p, r1⟩ := i2 r
    obtain ⟨ws, p2, r2⟩ := i1 r1
    exact ⟨ws, p2.trans p, r2⟩
theorem reps_mem {v : V} : ∀ {ts : List (List Int)} {vs : List V}, Reps K T F (ts.map tupD) vs → v ∈ vs → ∃ t ∈ ts, Rep K T F (tupD t) v
  | [], _, r, h => by
    cases r
    cases h
  | t :: ts, _, ⟨u, q, e, r1, r2⟩, h => by
    subst e
    rcases List.mem_cons.mp h with e | e
    · subst e
      exact ⟨t, List.mem_cons_self, r1⟩
    · obtain ⟨t', h1, h2⟩ := reps_mem r2 e
      exact ⟨t', List.mem_cons_of_mem _ h1, h2⟩
theorem tupI_of {G : Hp} (s : Same F G) {t : List Int} {v : V} (r : Rep K T F (tupD t) v) : TupI K G v t := by
  obtain ⟨a, e, h⟩ := rep_tupD r
  exact ⟨a, e, sameT s h⟩
theorem reps_pw {G : Hp} (s : Same F G) {B : Int} : ∀ {us : List (List Int)} {ys : List V}, Reps K T F (us.map tupD) ys → ys.Pairwise (fun x y => ∀ n m, TupI K G x n → TupI K G y m → TS.code B n ≤ TS.code B m) → us.Pairwise fun a b => TS.code B a ≤ TS.code B b
  | [], _, _, _ => .nil
  | u :: us, _, ⟨v, q, e, r1, r2⟩, h => by
    subst e
    obtain ⟨h1, h2⟩ := List.pairwise_cons.mp h
    refine List.pairwise_cons.mpr ⟨fun t ht => ?_, reps_pw s r2 h2⟩
    have : ∃ y ∈ q, Rep K T F (tupD t) y := by
      clear h h1 h2
      induction us generalizing q with
      | nil => cases ht
      | cons z zs ih =>
        obtain ⟨y, q', e, r3, r4⟩ := r2
        subst e
        rcases List.mem_cons.mp ht with e | e
        · subst e
          exact ⟨y, List.mem_cons_self, r3⟩
        · obtain ⟨y', a, b⟩ := ih q' r4 e
          exact ⟨y', List.mem_cons_of_mem _ a, b⟩
    obtain ⟨y, hy, ry⟩ := this
    exact h1 y hy u t (tupI_of s r1) (tupI_of s ry)
end
theorem call_sorted {pins : List (Addr × Obj)} {s : Shared} {σ : L2.St} {H F : Hp} {us : List Value} {Q : VK} {W' : Value → Option Addr → Hp → Prop} {a : Addr} {xs : List D} {vs : List V} (I : Inv X pins σ H s) (r : Vals [V.ref a] us) (sF : Same F H) (h1 : F a = some (.lst vs)) (h2 : Reps X.K T F xs vs)
    (q : Post X.K T (relD X.K T) W' F H (sortedD xs) Q) : wpAny (model X.prog X.w) X.A (call (.builtin "sorted") us) (EP X pins σ Q) X.xe s := by
  unfold sortedD at q
  split at q
  · rename_i ns e
    have ev := ints_of e h2
    subst ev
    refine cr_sortedI pins s σ H _ us Q I r ⟨a, ns, rfl, .inl (.inl (sF _ _ h1)), fun ns' p hp hs hn => ?_⟩
    rw [sortI_eq hp hs]
    exact Post.lst sF q (reps_ints _) hn
  · split at q
    · rename_i ts e
      have ev := allTups_eq e
      subst ev
      split at q
      · rename_i hk
        obtain ⟨k1, k2⟩ := Bool.and_eq_true_iff.mp hk
        obtain ⟨d, B, hd, hsm⟩ := sm_of k1
        have hl : vs.length < 64 := by
          rw [Reps.length h2, List.length_map]
          exact of_decide_eq_true k2
        refine cr_sortT (d := d) (B := B) hd pins s σ H _ us Q I r ⟨a, vs, rfl, .inl (.inl (sF _ _ h1)), hl, fun v hv => ?_, fun ys p hp hs hn => ?_⟩
        · obtain ⟨t, ht, rt⟩ := reps_mem h2 hv
          exact ⟨t, tupI_of sF rt, (hsm t ht).l, (hsm t ht).b⟩
        · obtain ⟨ws, wp, wr⟩ := reps_perm hp h2
          have e := sortT_eq hsm wp (reps_pw sF wr hs)
          subst e
          exact Post.lst sF q wr hn
      · exact q.elim
    · exact q.elim
theorem call_bi (hc : X.calm = true) {f : Bi} : CallR X (biV f) (rBi X.K T f) := by
  intro pins s σ H xs us Q I r ⟨F, W', ds, sF, rs, q⟩
  unfold biD at q
  split at q
  · split at q
    · rename_i z hz
      obtain ⟨v, rfl, rv⟩ := reps1 rs
      cases rv
      exact call_len pins s σ H _ us Q I r ⟨_, _, rfl, ⟨le_line hz, rfl⟩, Post.ok sF q rfl⟩
    · exact q.elim
  · obtain ⟨v, rfl, a, vs, rfl, h1, h2⟩ := reps1 rs
    exact call_len pins s σ H _ us Q I r ⟨_, _, rfl, .inr ⟨vs, sameT sF h1, rfl⟩, Post.ok sF q (by rw [Reps.length h2]; exact rfl)⟩
  · obtain ⟨v, rfl, a, vs, rfl, h1, h2⟩ := reps1 rs
    exact call_len pins s σ H _ us Q I r ⟨_, _, rfl, .inl ⟨vs, .inl (.inl (sF _ _ h1)), rfl⟩, Post.ok sF q (by rw [Reps.length h2]; exact rfl)⟩
  · obtain ⟨v, rfl, a, rfl, h1⟩ := reps1 rs
    exact call_len pins s σ H _ us Q I r ⟨_, _, rfl, .inl ⟨_, sF.seq h1, rfl⟩, Post.ok sF q (by rw [List.length_map]; exact rfl)⟩
  · obtain ⟨v, rfl, h⟩ := reps1 rs
    cases h
    exact call_int1 pins s σ H _ us Q I r (.inl ⟨_, rfl, Post.ok sF q rfl⟩)
  · obtain ⟨v, rfl, h⟩ := reps1 rs
    cases h
    exact call_int1 pins s σ H _ us Q I r (.inr ⟨_, rfl, Post.ok sF q rfl⟩)
  · obtain ⟨v, rfl, h⟩ := reps1 rs
    cases h
    exact call_abs pins s σ H _ us Q I r ⟨_, rfl, Post.ok sF q rfl⟩
  · obtain ⟨v, u, rfl, h, h'⟩ := reps2 rs
    cases h
    cases h'
    exact call_max2 hc pins s σ H _ us Q I r ⟨_, _, rfl, Post.ok sF q rfl⟩
  · obtain ⟨v, u, rfl, h, h'⟩ := reps2 rs
    cases h
    cases h'
    exact call_min2 hc pins s σ H _ us Q I r ⟨_, _, rfl, Post.ok sF q rfl⟩
  · obtain ⟨v, rfl, a, vs, rfl, h1, h2⟩ := reps1 rs
    split at q
    · rename_i ns e
      split at q
      · rename_i hl
        have ev := ints_of e h2
        subst ev
        refine cr_max hc pins s σ H _ us Q I r ⟨a, ns, rfl, .inl (.inl (sF _ _ h1)), hl, fun m hm hle => ?_⟩
        obtain ⟨k1, k2⟩ := maxI_of hl
        rw [show m = maxI ns from Int.le_antisymm (k2 m hm) (hle _ k1)]
        exact Post.ok sF q rfl
      · exact q.elim
    · exact q.elim
  · obtain ⟨v, rfl, a, vs, rfl, h1, h2⟩ := reps1 rs
    split at q
    · rename_i ns e
      split at q
      · rename_i hl
        have ev := ints_of e h2
        subst ev
        refine cr_min hc pins s σ H _ us Q I r ⟨a, ns, rfl, .inl (.inl (sF _ _ h1)), hl, fun m hm hle => ?_⟩
        obtain ⟨k1, k2⟩ := minI_of hl
        rw [show m = minI ns from Int.le_antisymm (hle _ k1) (k2 m hm)]
        exact Post.ok sF q rfl
      · exact q.elim
    · exact q.elim
  · obtain ⟨v, rfl, a, vs, rfl, h1, h2⟩ := reps1 rs
    split at q
    · rename_i ns e
      have ev := ints_of e h2
      subst ev
      exact cr_sum hc pins s σ H _ us Q I r ⟨a, ns, rfl, .inl (.inl (sF _ _ h1)), Post.ok sF q rfl⟩
    · exact q.elim
  · obtain ⟨v, rfl, a, vs, rfl, h1, h2⟩ := reps1 rs
    split at q
    · rename_i ns e
      have ev := ints_of e h2
      subst ev
      exact cr_sumT hc pins s σ H _ us Q I r ⟨a, ns, rfl, sameT sF h1, Post.ok sF q rfl⟩
    · exact q.elim
  · obtain ⟨v, rfl, a, vs, rfl, h1, h2⟩ := reps1 rs
    exact call_sorted I r sF h1 h2 q
  · obtain ⟨v, rfl, a, vs, rfl, h1, h2⟩ := reps1 rs
    split at q
    · rename_i ns e
      have ev := bools_of e h2
      subst ev
      exact cr_any hc pins s σ H _ us Q I r ⟨a, ns, rfl, .inl (.inl (sF _ _ h1)), Post.ok sF q rfl⟩
    · exact q.elim
  · obtain ⟨v, rfl, a, vs, rfl, h1, h2⟩ := reps1 rs
    split at q
    · rename_i ns e
      have ev := bools_of e h2
      subst ev
      exact cr_all hc pins s σ H _ us Q I r ⟨a, ns, rfl, .inl (.inl (sF _ _ h1)), Post.ok sF q rfl⟩
    · exact q.elim
  · obtain ⟨v, rfl, a, vs, rfl, h1, h2⟩ := reps1 rs
    exact call_tuple_of pins s σ H _ us Q I r ⟨a, vs, rfl, .inl ⟨.inl (.inl (sF _ _ h1)), fun l hl => Post.tup sF q h2 hl⟩⟩
  · obtain ⟨v, rfl, a, vs, rfl, h1, h2⟩ := reps1 rs
    exact call_tuple_of pins s σ H _ us Q I r ⟨a, vs, rfl, .inr ⟨sameT sF h1, Post.ok sF q ⟨a, vs, rfl, h1, h2⟩⟩⟩
  · obtain ⟨v, rfl, a, vs, rfl, h1, h2⟩ := reps1 rs
    exact call_list_of pins s σ H _ us Q I r ⟨a, vs, rfl, .inl (.inl (.inl (sF _ _ h1))), fun l hl => Post.lst sF q h2 hl⟩
  · obtain ⟨v, rfl, a, vs, rfl, h1, h2⟩ := reps1 rs
    exact call_list_of pins s σ H _ us Q I r ⟨a, vs, rfl, .inr (sameT sF h1), fun l hl => Post.lst sF q h2 hl⟩
  · exact q.elim
theorem boot_bi (f : Bi) : bootBuiltins ((biN f : String) : Str) = some (biV f) := by
  cases f <;> decide +kernel
theorem name_bi (f : Bi) : ((biN f : String) : Str) ≠ "__name__" := by
  cases f <;> decide +kernel
theorem dbg_bi (f : Bi) : (((biN f : String) : Str) == ("__debug__" : Str)) = false := by
  cases f <;> decide +kernel
theorem s_bi {f : Bi} {e : Expr} {es : List Expr} {g : Env → R (List D)} (hc : X.calm = true) (hg : Gl X ((biN f : String) : Str)) (hm : X.mg ((biN f : String) : Str) = none)
    (hp : ((e :: es).all isPlain) = true) (ha : PA X (e :: es) (rdA X.K T W g)) : PE X (.Call (.Name ((biN f : String) : Str) p2) (e :: es) [] pos) (rdE X.K T W fun env => (g env).bind (biD f)) := by
  have hp' : (isPlain e && es.all isPlain) = true := hp
  obtain ⟨p1, p2'⟩ := Bool.and_eq_true_iff.mp hp'
  have h : PE X (.Call (.Name ((biN f : String) : Str) p2) (e :: es) [] pos) (tCB (rBi X.K T f) (rdA X.K T W g)) := by
    have cb := call_bi (X := X) (T := T) hc (f := f)
    have bb := boot_bi f
    cases f <;> first
      | exact pe_callB cb hg hm bb ha (name_bi _) (dbg_bi _) (star_plain p1 es X.env) (star_none p2')
      | exact pe_callTy cb hg hm bb ha (name_bi _) (dbg_bi _) (star_plain p1 es X.env) (star_none p2')
  refine pe_of h fun σ H Q _ ⟨F, env, vw, q⟩ => ?_
  refine vw.rd (Post.imp (Post.bind (rel := relL X.K T) q) fun vs H1 ⟨F1, d1, e1, g1, r1, q1⟩ => ?_)
  exact ⟨F1, _, d1, g1.s, r1, q1⟩
end
end Py

namespace Py
open PySem L2

/-! ### patterns -/
mutual
def gP (K : PySem.W.Frag) : Pat → TG
  | .v i => gName i
  | .tup ps => gTup K ps.length (gPs K ps)
def gPs (K : PySem.W.Frag) : List Pat → TGs
  | [] => gNil
  | p :: ps => gCons (gP K p) (gPs K ps)
end
section
variable {K : PySem.W.Frag} {α : Type} {put : Nat → D → α → α} {F H : Hp} {Pr : L2.St → α → Prop}
mutual
theorem gP_ok (s : Same F H) : ∀ (p : Pat), (∀ i v d σ a, i ∈ p.ix → Rep K T F d v → Pr σ a → Pr ((σ : List (Option V)).set i (some v)) (put i d a)) → ∀ {d : D} {v : V} {σ : L2.St} {a b : α} {Q : L2.St → Hp → Prop}, Rep K T F d v → bindG put p d a = .ok b → Pr σ a → (∀ σ', Pr σ' b → Q σ' H) → gP K p v σ H Q
  | .v i, hP, d, v, σ, a, b, Q, r, e, h, q => by
    have e' : R.ok (put i d a) = R.ok b := e
    cases e'
    exact q _ (hP i v d σ a (List.mem_singleton.mpr rfl) r h)
  | .tup ps, hP, d, v, σ, a, b, Q, r, e, h, q => by
    cases d with
    | tup ds =>
      obtain ⟨t, vs, rfl, h1, h2⟩ := r
      have e' : bindGs put ps ds a = .ok b := e
      refine ⟨t, vs, rfl, sameT s h1, ?_, gPs_ok s ps hP h2 e' h q⟩
      rw [Reps.length h2]
      exact bindGs_len e'
    | _ => cases e
theorem gPs_ok (s : Same F H) : ∀ (ps : List Pat), (∀ i v d σ a, i ∈ Pat.ixs ps → Rep K T F d v → Pr σ a → Pr ((σ : List (Option V)).set i (some v)) (put i d a)) → ∀ {ds : List D} {vs : List V} {σ : L2.St} {a b : α} {Q : L2.St → Hp → Prop}, Reps K T F ds vs → bindGs put ps ds a = .ok b → Pr σ a → (∀ σ', Pr σ' b → Q σ' H) → gPs K ps vs σ H Q
  | [], hP, ds, vs, σ, a, b, Q, r, e, h, q => by
    cases ds with
    | nil =>
      cases r
      have e' : R.ok a = R.ok b := e
      cases e'
      exact ⟨rfl, q _ h⟩
    | cons d ds => cases e
  | p :: ps, hP, ds, vs, σ, a, b, Q, r, e, h, q => by
    cases ds with
    | nil => cases e
    | cons d ds =>
      obtain ⟨v, vr, rfl, r1, r2⟩ := r
      have e' : (bindG put p d a).bind (fun c => bindGs put ps ds c) = .ok b := e
      cases hc : bindG put p d a with
      | ok c =>
        rw [hc] at e'
        refine ⟨v, vr, rfl, gP_ok s p (fun i v d σ a hi => hP i v d σ a (List.mem_append_left _ hi)) r1 hc h fun σ' h' => ?_⟩
        exact gPs_ok s ps (fun i v d σ a hi => hP i v d σ a (List.mem_append_right _ hi)) r2 e' h' q
      | ex _ _ =>
        rw [hc] at e'
        cases e'
      | no =>
        rw [hc] at e'
        cases e'
theorem bindGs_len : ∀ {ps : List Pat} {ds : List D} {a b : α}, bindGs put ps ds a = .ok b → ds.length = ps.length
  | [], ds, a, b, e => by
    cases ds with
    | nil => rfl
    | cons _ _ => cases e
  | p :: ps, ds, a, b, e => by
    cases ds with
    | nil => cases e
    | cons d ds =>
      have e' : (bindG put p d a).bind (fun c => bindGs put ps ds c) = .ok b := e
      cases hc : bindG put p d a with
      | ok c =>
        rw [hc] at e'
        exact congrArg (· + 1) (bindGs_len e')
      | ex _ _ =>
        rw [hc] at e'
        cases e'
      | no =>
        rw [hc] at e'
        cases e'
end
end

section
variable {α : Type} {put : Nat → D → α → α}
mutual
theorem bindG_noex : ∀ (p : Pat) (d : D) (a : α) (c : Nat) (fs : List D), bindG put p d a ≠ .ex c fs
  | .v i, d, a, c, fs => fun h => by cases h
  | .tup ps, d, a, c, fs => by
    cases d with
    | tup ds => exact bindGs_noex ps ds a c fs
    | _ => exact fun h => by cases h
theorem bindGs_noex : ∀ (ps : List Pat) (ds : List D) (a : α) (c : Nat) (fs : List D), bindGs put ps ds a ≠ .ex c fs
  | [], ds, a, c, fs => by
    cases ds <;> exact fun h => by cases h
  | p :: ps, ds, a, c, fs => by
    cases ds with
    | nil => exact fun h => by cases h
    | cons d ds =>
      show (bindG put p d a).bind (fun b => bindGs put ps ds b) ≠ .ex c fs
      have h1 := bindG_noex p d a
      cases hc : bindG put p d a with
      | ok b => exact bindGs_noex ps ds b c fs
      | ex c' fs' => exact absurd hc (h1 c' fs')
      | no => exact fun h => by cases h
end
end

/-! ### what a for walks -/
/-- the walk J yields the items ds -/
structure Yields (K : PySem.W.Frag) (T : Tab) (J : L2.It) (F : Hp) (ds : List D) : Prop where
  len : ∀ H, Same F H → LenOk K H → ds.length ≤ sizeLine
  go : ∀ i H, Same F H → i < ds.length → J.go i H
  stop : ∀ i H, Same F H → ds.length ≤ i → J.stop i H
  yld : ∀ i G H x H' d, Same F G → Same G H → ds[i]? = some d → J.yld i H x H' → ∃ G', Grow G H G' H' ∧ Rep K T G' d x
def rdI (K : PySem.W.Frag) (T : Tab) (W : WX) (f : Env → R (List D)) : TI := fun σ H R =>
  LenOk K H → ∃ F env, Vw K T F H σ env ∧ Post K T (fun F' ds J => Yields K T J F' ds) (fun c d H' => W c d σ H') F H (f env) R
def relI (K : PySem.W.Frag) (T : Tab) : Hp → List D → L2.It → Prop := fun F' ds J => Yields K T J F' ds
/-- a range's items hang on no heap -/
def relR (K : PySem.W.Frag) (T : Tab) : Hp → List D → L2.It → Prop := fun _ ds J => ∀ G, Yields K T J G ds
def rdR (K : PySem.W.Frag) (T : Tab) (W : WX) (f : Env → R (List D)) : TI := rdG K T W (relR K T) f
theorem Yields.mono {K : PySem.W.Frag} {T : Tab} {J : L2.It} {F G : Hp} {ds : List D} (e : Same F G) (y : Yields K T J F ds) : Yields K T J G ds :=
  ⟨fun H s => y.len H (e.trans s), fun i H s => y.go i H (e.trans s), fun i H s => y.stop i H (e.trans s), fun i G' H x H' d s => y.yld i G' H x H' d (e.trans s)⟩
theorem yields_list {K : PySem.W.Frag} {T : Tab} {F : Hp} {a : Addr} {ds : List D} {vs : List V} (h : SqL K F a vs) (r : Reps K T F ds vs) : Yields K T (Itl K a) F ds where
  len := fun H s l => by
    rw [← Reps.length r]
    exact l a vs (.inl (s.seq h))
  go := fun i H s hi => by
    rw [← Reps.length r] at hi
    exact ⟨vs, vs[i], s.seq h, by simp [hi]⟩
  stop := fun i H s hi => ⟨vs, s.seq h, by rw [Reps.length r]; exact hi⟩
  yld := fun i G H x H' d s1 s2 e y => by
    obtain ⟨rfl, y⟩ := y
    obtain ⟨v, e1, r1⟩ := Reps.get r e
    have e2 := y vs ((s1.trans s2).seq h)
    rw [e1] at e2
    cases e2
    exact ⟨G, Grow.refl s2, Rep.mono s1 r1⟩
theorem yields_tup {K : PySem.W.Frag} {T : Tab} {F : Hp} {a : Addr} {ds : List D} {vs : List V} (h : F a = some (.tup vs)) (r : Reps K T F ds vs) : Yields K T (Itt K a) F ds where
  len := fun H s l => by
    rw [← Reps.length r]
    exact l a vs (.inr (sameT s h))
  go := fun i H s hi => by
    rw [← Reps.length r] at hi
    exact ⟨vs, vs[i], sameT s h, by simp [hi]⟩
  stop := fun i H s hi => ⟨vs, sameT s h, by rw [Reps.length r]; exact hi⟩
  yld := fun i G H x H' d s1 s2 e y => by
    obtain ⟨rfl, y⟩ := y
    obtain ⟨v, e1, r1⟩ := Reps.get r e
    have e2 := y vs (sameT (s1.trans s2) h)
    rw [e1] at e2
    cases e2
    exact ⟨G, Grow.refl s2, Rep.mono s1 r1⟩
theorem yields_range {K : PySem.W.Frag} {T : Tab} {F : Hp} {lo hi : Int} (hn : hi - lo ≤ (cap : Int)) : Yields K T (Itr lo (hi - lo).toNat) F (rangeD lo hi) where
  len := fun H s l => by
    unfold rangeD
    rw [List.length_map, List.length_range]
    have c1 : (cap : Int) = 100000 := rfl
    exact le_line (by show _ ≤ 100000; omega)
  go := fun i H s h => by
    unfold rangeD at h
    rw [List.length_map, List.length_range] at h
    exact h
  stop := fun i H s h => by
    unfold rangeD at h
    rw [List.length_map, List.length_range] at h
    exact h
  yld := fun i G H x H' d s1 s2 e y => by
    obtain ⟨rfl, rfl⟩ := y
    unfold rangeD at e
    rw [List.getElem?_map] at e
    cases h : (List.range (hi - lo).toNat)[i]? with
    | none =>
      rw [h] at e
      cases e
    | some j =>
      rw [h] at e
      cases e
      have hj : j = i := by
        obtain ⟨h1, h2⟩ := List.getElem?_eq_some_iff.mp h
        rw [List.getElem_range] at h2
        exact h2.symm
      subst hj
      exact ⟨G, Grow.refl s2, rfl⟩
section
variable {X : Cx} {T : Tab} {W : WX} {pos p2 : Pos} {tg : Expr}
theorem pi_of {e : Expr} {t : TI} {f : Env → R (List D)} (h : PI X tg e t) (imp : ∀ σ H R, LenOk X.K H → (∃ F env, Vw X.K T F H σ env ∧ Post X.K T (fun F' ds J => Yields X.K T J F' ds) (fun c d H' => W c d σ H') F H (f env) R) → t σ H R) : PI X tg e (rdI X.K T W f) :=
  ⟨fun pins s σ H Q I q => h.run pins s σ H Q I (imp σ H Q (lenOk_of I) (q (lenOk_of I)))⟩
/-- a list or a tuple -/
def iSeq (K : PySem.W.Frag) (tl : TE) : TI := fun σ H R => tl σ H fun x H1 => (∃ a, x = .ref a ∧ (∃ xs, SqL K H1 a xs) ∧ R (Itl K a) H1) ∨ (∃ a, x = .ref a ∧ (∃ xs, SqT K H1 a xs) ∧ R (Itt K a) H1)
theorem pi_seq {l : Expr} {tl : TE} (hl : PE X l tl) : PI X tg l (iSeq X.K tl) := by
  refine ⟨fun pins s σ H R I h => ?_⟩
  refine thn (hl.run pins s σ H _ I h) fun v s1 ⟨x, H1, I1, r1, q1⟩ => ?_
  rcases q1 with ⟨a, e, ⟨xs, hq⟩, q⟩ | ⟨a, e, ⟨xs, hq⟩, q⟩
  · subst e
    cases r1
    obtain ⟨its, rv, p, hz⟩ := I1.list hq
    refine wpAny_pyIter_list p.isList ?_
    refine ⟨s1.heap.objs.size, [s1.heap.objs.size], _, _, H1, rfl, I1.kept (t' := s1.toks) fun b o e => Heap.get?_push_of_some _ e, turn_list a _, ⟨_, Heap.get?_push_size _ rfl, rfl, rfl⟩, fun b hb => ?_, q⟩
    have e : b = s1.heap.objs.size := by simpa using hb
    subst e
    exact I1.fpOk (Nat.le_refl _) (I1.hok.fresh (Nat.le_refl _))
  · subst e
    cases r1
    obtain ⟨its, rv, p, hz⟩ := I1.tuple hq
    refine wpAny_pyIter_tuple (show s1.heap.IsTuple a its.toArray from p) ?_
    refine ⟨s1.heap.objs.size, [s1.heap.objs.size], _, _, H1, rfl, I1.kept (t' := s1.toks) fun b o e => Heap.get?_push_of_some _ e, turn_tuple a _, ⟨_, Heap.get?_push_size _ rfl, rfl, rfl⟩, fun b hb => ?_, q⟩
    have e : b = s1.heap.objs.size := by simpa using hb
    subst e
    exact I1.fpOk (Nat.le_refl _) (I1.hok.fresh (Nat.le_refl _))
theorem s_seq {e : Expr} {f : Env → R D} (he : PE X e (rdE X.K T W f)) : PI X tg e (rdI X.K T W fun env => (f env).bind seqD) := by
  refine pi_of (pi_seq he) fun σ H Q _ ⟨F, env, vw, q⟩ => ?_
  refine vw.rd (Post.imp (Post.bind (rel := relD X.K T) q) fun x H1 ⟨F1, d1, e1, g1, r1, q1⟩ => ?_)
  cases d1 <;> first | exact q1.elim | skip
  · obtain ⟨a, vs, rfl, h1, h2⟩ := r1
    exact .inr ⟨a, rfl, ⟨vs, sameT g1.s h1⟩, Post.ok g1.s q1 (yields_tup h1 h2)⟩
  · obtain ⟨a, vs, rfl, h1, h2⟩ := r1
    exact .inl ⟨a, rfl, ⟨vs, .inl (.inl (g1.s _ _ h1))⟩, Post.ok g1.s q1 (yields_list (.inl (.inl h1)) h2)⟩
  · obtain ⟨a, rfl, h1⟩ := r1
    exact .inl ⟨a, rfl, ⟨_, g1.s.seq h1⟩, Post.ok g1.s q1 (yields_list h1 (reps_ints _))⟩
theorem pir_of {e : Expr} {t : TI} {f : Env → R (List D)} (h : PI X tg e t) (imp : ∀ σ H R, LenOk X.K H → (∃ F env, Vw X.K T F H σ env ∧ Post X.K T (relR X.K T) (fun c d H' => W c d σ H') F H (f env) R) → t σ H R) : PI X tg e (rdR X.K T W f) :=
  ⟨fun pins s σ H Q I q => h.run pins s σ H Q I (imp σ H Q (lenOk_of I) (q (lenOk_of I)))⟩
theorem pi_weak {e : Expr} {f : Env → R (List D)} (h : PI X tg e (rdR X.K T W f)) : PI X tg e (rdI X.K T W f) := by
  refine pi_of h fun σ H R L ⟨F, env, vw, q⟩ _ => ⟨F, env, vw, ?_⟩
  cases e : f env with
  | ok ds =>
    rw [e] at q
    exact fun J F' H' g y => q J F' H' g (y F')
  | ex c fs =>
    rw [e] at q
    exact q
  | no =>
    rw [e] at q
    exact q
theorem s_range {a : Expr} {f : Env → R D} (hg : Gl X "range") (hm : X.mg "range" = none) (hp : isPlain a = true) (ha : PE X a (rdE X.K T W f)) :
    PI X tg (.Call (.Name "range" p2) [a] [] pos) (rdR X.K T W fun env => (f env).bind fun x => match x with
    | .int n => if n ≤ (cap : Int) ∧ -bigI ≤ n then .ok (rangeD 0 n) else .no
    | _ => .no) := by
  have hA := s_cons (T := T) (W := W) ha s_nil (star_plain hp [] X.env)
  refine pir_of (pi_range1 hg hm hA (star_plain hp [] X.env)) fun σ H Q _ ⟨F, env, vw, q⟩ => ?_
  refine vw.rd (f := fun env => (f env).bind fun x => R.map (fun xs => x :: xs) (R.ok [])) ?_
  have q2 := Post.bind (rel := relD X.K T) q
  cases hx : f env with
  | ok d =>
    rw [hx] at q2
    show Post X.K T (relL X.K T) _ F H (.ok [d]) _
    intro vs F' H' g r
    obtain ⟨v, rfl, rv⟩ := reps1 r
    obtain ⟨F2, d2, e2, g2, r2, q3⟩ := q2 v F' H' g rv
    cases e2
    cases d <;> first | exact q3.elim | skip
    rename_i n
    have q3 : Post X.K T (relR X.K T) _ F2 H' (if n ≤ (cap : Int) ∧ -bigI ≤ n then .ok (rangeD 0 n) else .no) Q := q3
    split at q3
    · rename_i hn
      cases rv
      have c1 : (cap : Int) = 100000 := rfl
      have c2 : bigI = 4000000000000000000 := rfl
      refine ⟨n, rfl, by omega, by omega, ?_⟩
      have y := Post.ok (v := Itr 0 (n - 0).toNat) g2.s q3 fun G => yields_range (K := X.K) (T := T) (lo := 0) (hi := n) (by omega)
      rw [show n - 0 = n by omega] at y
      exact y
    · exact q3.elim
  | ex c fs =>
    rw [hx] at q2
    exact q2
  | no =>
    rw [hx] at q2
    exact q2
theorem s_range2 {a b : Expr} {f g : Env → R D} (hg : Gl X "range") (hm : X.mg "range" = none) (hp : isPlain a = true) (hp' : isPlain b = true) (ha : PE X a (rdE X.K T W f)) (hb : PE X b (rdE X.K T W g)) :
    PI X tg (.Call (.Name "range" p2) [a, b] [] pos) (rdR X.K T W fun env => (f env).bind fun x => (g env).bind fun y => match x, y with
    | .int m, .int n => if -bigI ≤ m ∧ m ≤ bigI ∧ -bigI ≤ n ∧ n ≤ bigI ∧ n - m ≤ (cap : Int) then .ok (rangeD m n) else .no
    | _, _ => .no) := by
  have hB := s_cons (T := T) (W := W) hb s_nil (star_plain hp' [] X.env)
  have hA := s_cons (T := T) (W := W) ha hB (star_plain hp [b] X.env)
  have st2 : starEach [b] X.env = [(false, eval b X.env)] := star_plain hp' [] X.env
  have st1 : starEach [a, b] X.env = [(false, eval a X.env), (false, eval b X.env)] := by
    rw [star_plain hp [b] X.env, st2]
  refine pir_of (pi_range2 hg hm hA st1 st2) fun σ H Q _ ⟨F, env, vw, q⟩ => ?_
  refine vw.rd (f := fun env => (f env).bind fun x => R.map (fun xs => x :: xs) ((g env).bind fun x => R.map (fun xs => x :: xs) (R.ok []))) ?_
  have q2 := Post.bind (rel := relD X.K T) q
  cases hx : f env with
  | ok d =>
    rw [hx] at q q2
    cases hy : g env with
    | ok d' =>
      show Post X.K T (relL X.K T) _ F H (.ok [d, d']) _
      intro vs F' H' g0 r
      obtain ⟨v, u, rfl, rv, ru⟩ := reps2 r
      have q3 := Post.grow g0 q
      rw [hy] at q3
      have c1 : (cap : Int) = 100000 := rfl
      have c2 : bigI = 4000000000000000000 := rfl
      cases d <;> cases d' <;> first | exact q3.elim | skip
      rename_i m n
      have q3 : Post X.K T (relR X.K T) _ F' H' (if -bigI ≤ m ∧ m ≤ bigI ∧ -bigI ≤ n ∧ n ≤ bigI ∧ n - m ≤ (cap : Int) then .ok (rangeD m n) else .no) Q := q3
      split at q3
      · rename_i hn
        cases rv
        cases ru
        refine ⟨m, n, rfl, by omega, ?_⟩
        exact Post.ok (v := Itr m (n - m).toNat) g0.s q3 fun G => yields_range (K := X.K) (T := T) (lo := m) (hi := n) (by omega)
      · exact q3.elim
    | ex c fs =>
      rw [hy] at q
      exact q
    | no =>
      rw [hy] at q
      exact q
  | ex c fs =>
    rw [hx] at q2
    exact q2
  | no =>
    rw [hx] at q2
    exact q2

/-! ### comprehensions -/
theorem wipe_set {σ : L2.St} {i : Nat} {x : Option V} : ∀ {vs : List Nat}, i ∈ vs → L2.wipe ((σ : List (Option V)).set i x) vs = L2.wipe σ vs
  | [], h => by cases h
  | v :: vs, h => by
    show (L2.wipe ((σ : List (Option V)).set i x) vs : List (Option V)).set v none = (L2.wipe σ vs : List (Option V)).set v none
    by_cases hm : i ∈ vs
    · rw [wipe_set hm]
    · have hv : i = v := by
        rcases List.mem_cons.mp h with q | q
        · exact q
        · exact absurd q hm
      subst hv
      have comm : ∀ ws : List Nat, i ∉ ws → (L2.wipe ((σ : List (Option V)).set i x) ws : List (Option V)) = (L2.wipe σ ws : List (Option V)).set i x := by
        intro ws
        induction ws with
        | nil => intro _; rfl
        | cons w ws ih =>
          intro hw
          have h1 : i ≠ w := fun e => hw (by rw [e]; exact List.mem_cons_self)
          have h2 : i ∉ ws := fun e => hw (List.mem_cons_of_mem _ e)
          show (L2.wipe ((σ : List (Option V)).set i x) ws : List (Option V)).set w none = ((L2.wipe σ ws : List (Option V)).set w none).set i x
          rw [ih h2, List.set_comm _ _ h1]
      rw [comm vs hm, List.set_set]
theorem Vw.wipe {F H : Hp} {σ : L2.St} {env : Env} (h : Vw X.K T F H σ env) : ∀ vs : List Nat, Vw X.K T F H (L2.wipe σ vs) (wipeD env vs)
  | [] => h
  | v :: vs => by
    have h' := Vw.wipe h vs
    refine ⟨h'.s, ?_, fun i d e => ?_, fun c fs e => ?_⟩
    · show ((wipeD env vs).l.set v none).length = ((L2.wipe σ vs : List (Option V)).set v none).length
      rw [List.length_set, List.length_set]
      exact h'.l
    · have e' : ((wipeD env vs).l.set v none)[i]? = some (some d) := e
      show ∃ z, ((L2.wipe σ vs : List (Option V)).set v none)[i]? = some (some z) ∧ _
      by_cases hv : v = i
      · subst hv
        rw [List.getElem?_set] at e'
        simp only [ite_true] at e'
        split at e' <;> simp at e'
      · rw [List.getElem?_set_ne hv] at e' ⊢
        exact h'.g i d e'
    · have e : (if v = 0 then none else (wipeD env vs).me) = some (c, fs) := e
      split at e
      · cases e
      · rename_i hv
        obtain ⟨h1, h2⟩ := h'.me c fs e
        refine ⟨?_, h2⟩
        show ((L2.wipe σ vs : List (Option V)).set v none)[(0 : Nat)]? = _
        rw [List.getElem?_set_ne hv]
        exact h1
theorem Vw.put {F H : Hp} {σ : L2.St} {env : Env} {i : Nat} {d : D} {v : V} (h : Vw X.K T F H σ env) (r : Rep X.K T F d v) : Vw X.K T F H ((σ : List (Option V)).set i (some v)) (putE i d env) := by
  have hl := h.l
  refine ⟨h.s, ?_, fun j z e => ?_, fun c fs e => ?_⟩
  · show (env.l.set i (some d)).length = _
    rw [List.length_set, List.length_set]
    exact hl
  · have e' : (env.l.set i (some d))[j]? = some (some z) := e
    by_cases hj : i = j
    · subst hj
      rw [List.getElem?_set] at e'
      simp only [ite_true] at e'
      split at e'
      · rename_i hi
        cases e'
        refine ⟨v, ?_, r⟩
        rw [List.getElem?_set_self (by omega)]
      · cases e'
    · rw [List.getElem?_set_ne hj] at e' ⊢
      exact h.g j z e'
  · have e : (if i = 0 then none else env.me) = some (c, fs) := e
    split at e
    · cases e
    · rename_i hv
      obtain ⟨h1, h2⟩ := h.me c fs e
      refine ⟨?_, h2⟩
      rw [List.getElem?_set_ne hv]
      exact h1

theorem compD_cons {x : D} {xs : List D} {f : D → R (Option D)} : compD (x :: xs) f = (match f x with
    | .ok o => (compD xs f).bind fun r => .ok (match o with
      | some d => d :: r
      | none => r)
    | _ => .no) := rfl
abbrev W0 : WX := fun _ _ _ _ => False
def putO (l : List D) : Option D → List D
  | some d => l ++ [d]
  | none => l
theorem comp_step {ds acc : List D} {i : Nat} {d : D} {f : D → R (Option D)} {o : Option D} (h : compD ds f = (compD (ds.drop i) f).map (acc ++ ·)) (e : ds[i]? = some d) (hf : f d = .ok o) : compD ds f = (compD (ds.drop (i + 1)) f).map (putO acc o ++ ·) := by
  obtain ⟨hi, e2⟩ := List.getElem?_eq_some_iff.mp e
  rw [List.drop_eq_getElem_cons hi, e2, compD_cons, hf] at h
  rw [h]
  cases compD (ds.drop (i + 1)) f with
  | ok r => cases o <;> simp [putO]
  | ex c fs => rfl
  | no => rfl
theorem comp_no {ds acc : List D} {i : Nat} {d : D} {f : D → R (Option D)} (h : compD ds f = (compD (ds.drop i) f).map (acc ++ ·)) (e : ds[i]? = some d) (hf : ∀ o, f d ≠ .ok o) : compD ds f = .no := by
  obtain ⟨hi, e2⟩ := List.getElem?_eq_some_iff.mp e
  rw [List.drop_eq_getElem_cons hi, e2, compD_cons] at h
  rw [h]
  cases hx : f d with
  | ok o => exact absurd hx (hf o)
  | ex c fs => rfl
  | no => rfl
/-- what a new list is wanted for -/
def PostN (K : PySem.W.Frag) (T : Tab) (W : Value → Option Addr → Hp → Prop) (F H : Hp) (r : R D) (Q : VK) : Prop := match r with
  | .ok (.lst ds) => ∀ p vs F' H', Grow F H F' H' → H p = none → F' p = none → H' p = some (.lst vs) → Reps K T F' ds vs → Q (.ref p) H'
  | .ok _ => False
  | .ex c fs => ∀ dx H', Same H H' → ExR K T c fs dx H' → W (.ref (T.addr c)) dx H'
  | .no => False
theorem PostN.of {K : PySem.W.Frag} {W' : Value → Option Addr → Hp → Prop} {F H : Hp} {r : R D} {Q : VK} (h : Post K T (relD K T) W' F H r Q) (hl : ∀ d, r = .ok d → ∃ ds, d = .lst ds) : PostN K T W' F H r Q := by
  cases r with
  | ok d =>
    obtain ⟨ds, e⟩ := hl d rfl
    subst e
    intro p vs F' H' g h1 h2 h3 h4
    refine h (.ref p) (upd F' p (.lst vs)) H' ⟨g.f.trans (Same.upd h2), fun b u z => ?_, g.h, fun b u z => ?_⟩ ⟨p, vs, rfl, upd_same, Reps.mono (Same.upd h2) h4⟩
    · by_cases hb : b = p
      · subst hb
        rw [upd_same] at z
        rw [h3]
        exact z
      · rw [upd_ne hb] at z
        exact g.s _ _ z
    · by_cases hb : b = p
      · subst hb
        exact .inr h1
      · rw [upd_ne hb] at z
        exact g.n b u z
  | ex c fs => exact h
  | no => exact h
theorem PostN.bind {K : PySem.W.Frag} {α β : Type} {rel : Hp → α → β → Prop} {W' : Value → Option Addr → Hp → Prop} {F H : Hp} {r : R α} {f : α → R D} {Q : VK} (h : PostN K T W' F H (r.bind f) Q) :
    Post K T rel W' F H r (fun x H1 => ∃ F1 a, r = .ok a ∧ Grow F H F1 H1 ∧ rel F1 a x ∧ PostN K T W' F1 H1 (f a) Q) := by
  cases r with
  | ok a =>
    intro v F2 H2 g2 q
    refine ⟨F2, a, rfl, g2, q, ?_⟩
    have h : PostN K T W' F H (f a) Q := h
    cases hr : f a with
    | ok d =>
      rw [hr] at h
      cases d with
      | lst ds => exact fun p vs F' H' g h1 h2 h3 h4 => h p vs F' H' (g2.trans g) (g2.h.free h1) h2 h3 h4
      | _ => exact h.elim
    | ex c fs =>
      rw [hr] at h
      exact fun dx H' s x => h dx H' (g2.h.trans s) x
    | no =>
      rw [hr] at h
      exact h
  | ex c fs => exact h
  | no => exact h
theorem PostN.bind' {K : PySem.W.Frag} {α β : Type} {rel : Hp → α → β → Prop} {W' : Value → Option Addr → Hp → Prop} {F H : Hp} {r : R α} {f : α → D} {Q : VK} (h : PostN K T W' F H (r.map f) Q) :
    Post K T rel W' F H r (fun x H1 => ∃ F1 a, r = .ok a ∧ Grow F H F1 H1 ∧ rel F1 a x ∧ PostN K T W' F1 H1 (.ok (f a)) Q) := by
  have e : r.map f = r.bind fun a => .ok (f a) := by cases r <;> rfl
  rw [e] at h
  exact PostN.bind h
theorem lc_imp {vs : List Nat} {p : Pat} {fi : Env → R (List D)} {fc : Env → R Bool} {fe : Env → R D} (hpi : ∀ i ∈ p.ix, i ∈ vs) {σ : L2.St} {H : Hp} {Q : VK}
    (h : ∃ F env, Vw X.K T F H σ env ∧ PostN X.K T (fun c d H' => W c d σ H') F H ((fi env).bind fun xs => (compD xs fun x =>
      (bindG putE p x (wipeD env vs)).bind fun env' => (fc env').bind fun t => if t then (fe env').map some else .ok none).map D.lst) Q) :
    tLc (rdI X.K T W fi) (gP X.K p) (rdT X.K T W0 fc) (rdE X.K T W0 fe) vs σ H Q := by
  obtain ⟨F, env, vw, q⟩ := h
  refine vw.rd (Post.imp (PostN.bind (rel := fun F' ds J => Yields X.K T J F' ds) q) fun J H1 ⟨F1, ds, e1, g1, y, q1⟩ => ?_)
  intro Dl hD
  generalize hf : (fun x => (bindG putE p x (wipeD env (vs))).bind fun env' => (fc env').bind fun t => if t then (fe env').map some else R.ok none) = f at q1
  have vw1 := (vw.grow g1).wipe (vs)
  refine ⟨fun i m H' => ∃ G acc us, i ≤ ds.length ∧ m = ds.length - i ∧ Grow F1 H1 G H' ∧ G Dl = none ∧ H' Dl = some (.lst us) ∧ Reps X.K T G acc us ∧ acc.length ≤ i ∧ compD ds f = (compD (ds.drop i) f).map (acc ++ ·),
    ⟨ds.length, F1, [], [], Nat.zero_le _, rfl, ⟨Same.refl _, g1.s.trans (Same.upd hD), Same.upd hD, fun _ _ e => .inl e⟩, g1.s.free hD, upd_same, rfl, Nat.le_refl _, ?_⟩, ?_⟩
  · rw [List.drop_zero]
    cases compD ds f <;> simp
  rintro i m H' ⟨G, acc, us, hi1, rfl, gr, hG, hH, ra, hl, hcd⟩
  by_cases hlt : i < ds.length
  · refine .inr ⟨y.go i H' (gr.f.trans gr.s) hlt, fun H'' => ∃ G acc us, i + 1 ≤ ds.length ∧ Grow F1 H1 G H'' ∧ G Dl = none ∧ H'' Dl = some (.lst us) ∧ Reps X.K T G acc us ∧ acc.length ≤ i + 1 ∧ compD ds f = (compD (ds.drop (i + 1)) f).map (acc ++ ·), fun H'' ⟨G, acc, us, a1, a2, a3, a4, a5, a6, a7⟩ => ⟨ds.length - (i + 1), by omega, G, acc, us, a1, rfl, a2, a3, a4, a5, a6, a7⟩, fun x H2 hy => ?_⟩
    have e : ds[i]? = some ds[i] := List.getElem?_eq_getElem hlt
    obtain ⟨G2, g2, r2⟩ := y.yld i G H' x H2 _ gr.f gr.s e hy
    have hG2 : G2 Dl = none := by
      cases z : G2 Dl with
      | none => rfl
      | some o =>
        rcases g2.n Dl o z with z | z
        · rw [hG] at z
          cases z
        · rw [hH] at z
          cases z
    cases hfx : f ds[i] with
    | ok o =>
      have hfx' := hfx
      rw [← hf] at hfx'
      simp only at hfx'
      cases hb : bindG putE p ds[i] (wipeD env (vs)) with
      | ok env' =>
        rw [hb] at hfx'
        simp only [R.bind] at hfx'
        refine gP_ok (put := putE) (Pr := fun σ' en => Vw X.K T G2 H2 σ' en ∧ L2.wipe σ' (vs) = L2.wipe σ (vs)) g2.s p (fun j v d σ' a hj r ⟨w1, w2⟩ => ⟨w1.put r, by rw [wipe_set (hpi j hj)]; exact w2⟩) r2 hb ⟨(vw1.grow gr).grow g2, ?_⟩ fun σ' ⟨w1, w2⟩ => ⟨w2, ?_⟩
        · have id2 : ∀ vs : List Nat, ∀ ws : List Nat, (∀ v ∈ ws, v ∈ vs) → L2.wipe (L2.wipe σ ws) vs = L2.wipe σ vs := by
            intro vs ws
            induction ws with
            | nil => intro _; rfl
            | cons w ws ih =>
              intro hw
              have h1 : L2.wipe (L2.wipe σ (w :: ws)) vs = L2.wipe ((L2.wipe σ ws : List (Option V)).set w none) vs := rfl
              rw [h1, wipe_set (hw w List.mem_cons_self)]
              exact ih fun v hv => hw v (List.mem_cons_of_mem _ hv)
          exact id2 _ _ fun v h => h
        · cases ht' : fc env' with
          | ok t =>
            rw [ht'] at hfx'
            simp only [R.bind] at hfx'
            refine w1.rd (f := fc) ?_
            rw [ht']
            intro b F3 H3 g3 hb3
            have hb3 : t = b := hb3
            subst hb3
            cases t with
            | true =>
              simp only [if_true] at hfx'
              refine iteT ?_
              intro L3
              refine ⟨F3, env', w1.grow g3, ?_⟩
              cases hd : fe env' with
              | ok de =>
                rw [hd] at hfx'
                have eo : o = some de := by
                  have z : R.ok (some de) = R.ok o := hfx'
                  injection z with z
                  exact z.symm
                intro yv F4 H4 g4 r4
                have hG4 : F4 Dl = none := by
                  cases z : F4 Dl with
                  | none => rfl
                  | some u =>
                    rcases g4.n Dl u z with z | z
                    · rcases g3.n Dl u z with z | z
                      · rw [hG2] at z
                        cases z
                      · rw [g2.h _ _ hH] at z
                        cases z
                    · rw [g3.h _ _ (g2.h _ _ hH)] at z
                      cases z
                have gAll := ((gr.trans g2).trans g3).trans g4
                have hH4 := g4.h _ _ (g3.h _ _ (g2.h _ _ hH))
                have lens := y.len H3 (((gr.trans g2).trans g3).f.trans g3.s) L3
                refine ⟨us, hH4, ?_, F4, acc ++ [de], us ++ [yv], by omega, ⟨gAll.f, fun b u z => ?_, fun b u z => ?_, gAll.n⟩, hG4, upd_same, Reps.app (Reps.mono ((g2.f.trans g3.f).trans g4.f) ra) (Reps.one r4), ?_, ?_⟩
                · rw [Reps.length ra]
                  omega
                · rw [upd_ne (ne_of_none z hG4)]
                  exact g4.s _ _ z
                · rw [upd_ne (ne_of_none z hD)]
                  exact gAll.h _ _ z
                · rw [List.length_append]
                  show acc.length + 1 ≤ i + 1
                  omega
                · have := comp_step hcd e hfx
                  rw [eo] at this
                  exact this
              | ex c fs =>
                rw [hd] at hfx'
                cases hfx'
              | no =>
                rw [hd] at hfx'
                cases hfx'
            | false =>
              simp only [Bool.false_eq_true, if_false] at hfx'
              have eo : o = none := by
                injection hfx' with z
                exact z.symm
              refine iteF ?_
              have gAll := (gr.trans g2).trans g3
              have hG3 : F3 Dl = none := by
                cases z : F3 Dl with
                | none => rfl
                | some u =>
                  rcases g3.n Dl u z with z | z
                  · rw [hG2] at z
                    cases z
                  · rw [g2.h _ _ hH] at z
                    cases z
              refine ⟨F3, acc, us, by omega, gAll, hG3, g3.h _ _ (g2.h _ _ hH), Reps.mono (g2.f.trans g3.f) ra, by omega, ?_⟩
              have := comp_step hcd e hfx
              rw [eo] at this
              exact this
          | ex c fs =>
            rw [ht'] at hfx'
            cases hfx'
          | no =>
            rw [ht'] at hfx'
            cases hfx'
      | ex c fs =>
        rw [hb] at hfx'
        cases hfx'
      | no =>
        rw [hb] at hfx'
        cases hfx'
    | ex c fs =>
      have z := comp_no hcd e (fun o h => by rw [hfx] at h; cases h)
      rw [z] at q1
      exact q1.elim
    | no =>
      have z := comp_no hcd e (fun o h => by rw [hfx] at h; cases h)
      rw [z] at q1
      exact q1.elim
  · have hi2 : i = ds.length := by omega
    refine .inl ⟨y.stop i H' (gr.f.trans gr.s) (by omega), ?_⟩
    rw [hi2, List.drop_length] at hcd
    have z : compD ds f = .ok acc := by
      rw [hcd]
      show R.ok (acc ++ []) = _
      rw [List.append_nil]
    rw [z] at q1
    exact q1 Dl us G H' gr hD hG hH ra
theorem lc_lst {α : Type} (r : R α) (f : α → R (List D)) : ∀ d, (r.bind fun xs => (f xs).map D.lst) = .ok d → ∃ ds, d = .lst ds := by
  intro d h
  cases r with
  | ok a =>
    have h : (f a).map D.lst = .ok d := h
    cases hf : f a with
    | ok ds =>
      rw [hf] at h
      cases h
      exact ⟨ds, rfl⟩
    | ex c fs =>
      rw [hf] at h
      cases h
    | no =>
      rw [hf] at h
      cases h
  | ex c fs => cases h
  | no => cases h
theorem s_lc {elt iter : Expr} {ifs : List Expr} {scope : Scope} {own : List (Str × Nat)} {vs : List Nat} {p : Pat} {fi : Env → R (List D)} {fc : Env → R Bool} {fe : Env → R D} (hc : X.calm = true) (nd : X.N.Nodup) (hi : PI X tg iter (rdI X.K T W fi)) (ok : BlkOk X.N X.env.scope scope own)
    (hv : own.map (·.2) = vs) (hpi : ∀ i ∈ p.ix, i ∈ vs)
    (hg : ∀ (s : Shared) (H : Hp) (C : Addr) (cl : List (Str × Addr)) (fp : List Addr), PG (X.blk s H scope (compEnvC scope cl C X.env) fp) tg (gP X.K p))
    (ht : ∀ (s : Shared) (H : Hp) (C : Addr) (cl : List (Str × Addr)) (fp : List Addr), PTs (X.blk s H scope (compEnvC scope cl C X.env) fp) ifs (rdT X.K T W0 fc))
    (he : ∀ (s : Shared) (H : Hp) (C : Addr) (cl : List (Str × Addr)) (fp : List Addr), PE (X.blk s H scope (compEnvC scope cl C X.env) fp) elt (rdE X.K T W0 fe)) (hs : ∀ x, foldedSetIterable iter X.env x = pure x) :
    PE X (.ListComp elt [⟨tg, iter, ifs, 0⟩] scope pos) (rdE X.K T W fun env => (fi env).bind fun xs => (compD xs fun x =>
      (bindG putE p x (wipeD env vs)).bind fun env' => (fc env').bind fun t => if t then (fe env').map some else .ok none).map D.lst) := by
  subst hv
  exact pe_of (pe_lc hc nd hi ok hg ht he hs) fun σ H Q _ ⟨F, env, vw, q⟩ => lc_imp hpi ⟨F, env, vw, PostN.of q (lc_lst _ _)⟩
theorem s_ifs0 : PTs X [] (rdT X.K T W fun _ => .ok true) := by
  refine ⟨fun pins s σ H Q I q => pts_nil.run pins s σ H Q I ?_⟩
  obtain ⟨F, env, vw, q⟩ := q (lenOk_of I)
  exact Post.ok vw.s q rfl
theorem s_ifs1 {c : Expr} {f : Env → R Bool} (h : PT X c (rdT X.K T W f)) : PTs X [c] (rdT X.K T W f) := pts_one h
end
end Py

namespace Py
open PySem L2

/-! ### the slots of a frame -/
/-- a container that the frame alone holds; P: its own addresses -/
def Own (K : PySem.W.Frag) (T : Tab) (F H : Hp) : Nat → D → V → (Addr → Prop) → Prop
  | 1, .lst ds, v, P => ∃ p vs, v = .ref p ∧ H p = some (.lst vs) ∧ Reps K T F ds vs ∧ ∀ a, P a ↔ a = p
  | 2, .obj c fs, v, P => ∃ dx vs, v = .ref T.me ∧ H T.me = some (.ins (T.addr c) dx ((T.flds c).zip vs)) ∧ vs.length ≤ (T.flds c).length ∧ Reps K T F fs vs ∧ ∀ a, P a ↔ a = T.me
  | _, _, _, _ => False
structure StR (K : PySem.W.Frag) (T : Tab) (F0 H0 F H : Hp) (fp : Nat → Addr → Prop) (σ : L2.St) (st : Py.St) : Prop where
  s : Same F H
  h0 : Same H0 H
  f0 : Same F0 F
  n : ∀ b o, F b = some o → F0 b = some o ∨ H0 b = none
  l : st.length = (σ : List (Option V)).length
  fr : ∀ (i : Nat) (d : D), st[i]? = some (.v d) → ∃ v, (σ : List (Option V))[i]? = some (some v) ∧ Rep K T F d v
  ow : ∀ (i k : Nat) (d : D), st[i]? = some (.o k d) → ∃ v, (σ : List (Option V))[i]? = some (some v) ∧ Own K T F H k d v (fp i)
  no : ∀ i a, fp i a → ∃ k d, st[i]? = some (.o k d)
  dj : ∀ i j a, fp i a → fp j a → i = j
  fF : ∀ i a, fp i a → F a = none ∧ H0 a = none ∧ ∃ o, H a = some o
section
variable {K : PySem.W.Frag} {T : Tab} {F0 H0 F H F' H' : Hp} {fp : Nat → Addr → Prop} {σ : L2.St} {st : Py.St}
theorem Own.grow {k : Nat} {d : D} {v : V} {P : Addr → Prop} (e : Same F F') (e' : Same H H') (o : Own K T F H k d v P) : Own K T F' H' k d v P := by
  unfold Own at o ⊢
  split at o
  · obtain ⟨p, vs, h1, h2, h3, h4⟩ := o
    exact ⟨p, vs, h1, e' _ _ h2, Reps.mono e h3, h4⟩
  · obtain ⟨dx, vs, h1, h2, h5, h3, h4⟩ := o
    exact ⟨dx, vs, h1, e' _ _ h2, h5, Reps.mono e h3, h4⟩
  · exact o.elim
theorem StR.grow (R : StR K T F0 H0 F H fp σ st) (g : Grow F H F' H') : StR K T F0 H0 F' H' fp σ st where
  s := g.s
  h0 := R.h0.trans g.h
  f0 := R.f0.trans g.f
  n := fun b o e => by
    rcases g.n b o e with q | q
    · exact R.n b o q
    · exact .inr (R.h0.free q)
  l := R.l
  fr := fun i d e => by
    obtain ⟨v, a, b⟩ := R.fr i d e
    exact ⟨v, a, Rep.mono g.f b⟩
  ow := fun i k d e => by
    obtain ⟨v, a, b⟩ := R.ow i k d e
    exact ⟨v, a, b.grow g.f g.h⟩
  no := R.no
  dj := R.dj
  fF := fun i a h => by
    obtain ⟨h1, h2, o, h3⟩ := R.fF i a h
    refine ⟨?_, h2, o, g.h _ _ h3⟩
    cases z : F' a with
    | none => rfl
    | some u =>
      rcases g.n a u z with q | q
      · rw [h1] at q
        cases q
      · rw [h3] at q
        cases q
theorem StR.only (R : StR K T F0 H0 F H fp σ st) (e : Same H H') : StR K T F0 H0 F H' fp σ st := R.grow (Grow.only R.s e)
theorem StR.back (R : StR K T F0 H0 F H fp σ st) (g : Grow F H F' H') : Grow F0 H0 F' H' :=
  ⟨R.f0.trans g.f, g.s, R.h0.trans g.h, fun b o e => by
    rcases g.n b o e with q | q
    · exact R.n b o q
    · exact .inr (R.h0.free q)⟩
open Classical in
/-- all that may be read -/
noncomputable def allF (F H : Hp) (fp : Nat → Addr → Prop) : Hp := fun b => if ∃ i, fp i b then H b else F b
theorem StR.all_s (R : StR K T F0 H0 F H fp σ st) : Same (allF F H fp) H := fun b o e => by
  unfold allF at e
  split at e
  · exact e
  · exact R.s b o e
theorem StR.all_f (R : StR K T F0 H0 F H fp σ st) : Same F (allF F H fp) := fun b o e => by
  unfold allF
  split
  · rename_i h
    obtain ⟨i, h⟩ := h
    rw [(R.fF i b h).1] at e
    cases e
  · exact e
theorem StR.all_n (R : StR K T F0 H0 F H fp σ st) : ∀ b o, allF F H fp b = some o → F0 b = some o ∨ H0 b = none := fun b o e => by
  unfold allF at e
  split at e
  · rename_i h
    obtain ⟨i, h⟩ := h
    exact .inr (R.fF i b h).2.1
  · exact R.n b o e
theorem Own.rep {k : Nat} {d : D} {v : V} {P : Addr → Prop} {G : Hp} (e : Same F G) (hg : ∀ a o, P a → H a = some o → G a = some o) (o : Own K T F H k d v P) : Rep K T G d v := by
  unfold Own at o
  split at o
  · obtain ⟨p, vs, h1, h2, h3, h4⟩ := o
    exact ⟨p, vs, h1, hg p _ ((h4 p).mpr rfl) h2, Reps.mono e h3⟩
  · obtain ⟨dx, vs, h1, h2, h5, h3, h4⟩ := o
    exact ⟨_, dx, vs, h1, hg _ _ ((h4 _).mpr rfl) h2, h5, Reps.mono e h3⟩
  · exact o.elim
theorem envS_at {m : Bool} {i : Nat} {d : D} (e : (envS m st).l[i]? = some (some d)) : st[i]? = some (.v d) ∨ (m = true ∧ ∃ k, st[i]? = some (.o k d)) := by
  have e : (st.map (if m then Sl.rd else Sl.fr))[i]? = some (some d) := e
  rw [List.getElem?_map] at e
  cases h : st[i]? with
  | none =>
    rw [h] at e
    cases e
  | some sl =>
    rw [h] at e
    cases m with
    | true =>
      cases sl with
      | u => cases e
      | v x =>
        cases e
        exact .inl rfl
      | o k x =>
        cases e
        exact .inr ⟨rfl, k, rfl⟩
    | false =>
      cases sl with
      | u => cases e
      | v x =>
        cases e
        exact .inl rfl
      | o k x => cases e
theorem StR.meV (R : StR K T F0 H0 F H fp σ st) {G : Hp} (hG : Same F G) : ∀ c fs, meS st = some (c, fs) → (σ : List (Option V))[(0 : Nat)]? = some (some (.ref T.me)) ∧ ∃ dx vs, H T.me = some (.ins (T.addr c) dx ((T.flds c).zip vs)) ∧ vs.length ≤ (T.flds c).length ∧ Reps K T G fs vs := by
  intro c fs e
  unfold meS at e
  split at e
  · rename_i c' fs' h
    cases e
    obtain ⟨v, h1, dx, vs, h2, h3, h4, h5, h6⟩ := R.ow 0 2 _ h
    subst h2
    exact ⟨h1, dx, vs, h3, h4, Reps.mono hG h5⟩
  · cases e
theorem StR.vwF (R : StR K T F0 H0 F H fp σ st) : Vw K T F H σ (envS false st) where
  s := R.s
  l := by
    show (st.map _).length = _
    rw [List.length_map]
    exact R.l
  g := fun i d e => by
    rcases envS_at e with h | ⟨h, _⟩
    · exact R.fr i d h
    · cases h
  me := R.meV (Same.refl F)
theorem StR.vwT (R : StR K T F0 H0 F H fp σ st) : Vw K T (allF F H fp) H σ (envS true st) where
  s := R.all_s
  l := by
    show (st.map _).length = _
    rw [List.length_map]
    exact R.l
  me := R.meV R.all_f
  g := fun i d e => by
    rcases envS_at e with h | ⟨_, k, h⟩
    · obtain ⟨v, a, b⟩ := R.fr i d h
      exact ⟨v, a, Rep.mono R.all_f b⟩
    · obtain ⟨v, a, b⟩ := R.ow i k d h
      refine ⟨v, a, b.rep R.all_f fun c o hc e => ?_⟩
      unfold allF
      rw [if_pos ⟨i, hc⟩]
      exact e
/-- a slot takes a value that stays as it is -/
theorem StR.put (R : StR K T F0 H0 F H fp σ st) {i : Nat} {d : D} {v : V} (r : Rep K T F d v) : StR K T F0 H0 F H (fun j a => j ≠ i ∧ fp j a) ((σ : List (Option V)).set i (some v)) (st.set i (.v d)) where
  s := R.s
  h0 := R.h0
  f0 := R.f0
  n := R.n
  l := by
    rw [List.length_set, List.length_set]
    exact R.l
  fr := fun j x e => by
    have hl := R.l
    by_cases hj : i = j
    · subst hj
      rw [List.getElem?_set] at e
      simp only [ite_true] at e
      split at e
      · rename_i hi
        have e' : Sl.v d = Sl.v x := Option.some.inj e
        cases e'
        exact ⟨v, by rw [List.getElem?_set_self (by omega)], r⟩
      · cases e
    · rw [List.getElem?_set_ne hj] at e ⊢
      exact R.fr j x e
  ow := fun j k x e => by
    by_cases hj : i = j
    · subst hj
      rw [List.getElem?_set] at e
      simp only [ite_true] at e
      split at e
      · have e' : Sl.v d = Sl.o k x := Option.some.inj e
        cases e'
      · cases e
    · rw [List.getElem?_set_ne hj] at e ⊢
      obtain ⟨u, a, b⟩ := R.ow j k x e
      refine ⟨u, a, ?_⟩
      have ef : (fun a => j ≠ i ∧ fp j a) = fp j := funext fun a => propext ⟨fun h => h.2, fun h => ⟨fun z => hj z.symm, h⟩⟩
      rw [ef]
      exact b
  no := fun j a h => by
    obtain ⟨k, x, e⟩ := R.no j a h.2
    exact ⟨k, x, by rw [List.getElem?_set_ne (Ne.symm h.1)]; exact e⟩
  dj := fun i j a h h' => R.dj i j a h.2 h'.2
  fF := fun j a h => R.fF j a h.2
/-- a slot takes nothing -/
theorem StR.drop (R : StR K T F0 H0 F H fp σ st) {i : Nat} {v : Option V} : StR K T F0 H0 F H (fun j a => j ≠ i ∧ fp j a) ((σ : List (Option V)).set i v) (st.set i .u) where
  s := R.s
  h0 := R.h0
  f0 := R.f0
  n := R.n
  l := by
    rw [List.length_set, List.length_set]
    exact R.l
  fr := fun j x e => by
    by_cases hj : i = j
    · subst hj
      rw [List.getElem?_set] at e
      simp only [ite_true] at e
      split at e
      · have e' : Sl.u = Sl.v x := Option.some.inj e
        cases e'
      · cases e
    · rw [List.getElem?_set_ne hj] at e ⊢
      exact R.fr j x e
  ow := fun j k x e => by
    by_cases hj : i = j
    · subst hj
      rw [List.getElem?_set] at e
      simp only [ite_true] at e
      split at e
      · have e' : Sl.u = Sl.o k x := Option.some.inj e
        cases e'
      · cases e
    · rw [List.getElem?_set_ne hj] at e ⊢
      obtain ⟨u, a, b⟩ := R.ow j k x e
      refine ⟨u, a, ?_⟩
      have ef : (fun a => j ≠ i ∧ fp j a) = fp j := funext fun a => propext ⟨fun h => h.2, fun h => ⟨fun z => hj z.symm, h⟩⟩
      rw [ef]
      exact b
  no := fun j a h => by
    obtain ⟨k, x, e⟩ := R.no j a h.2
    exact ⟨k, x, by rw [List.getElem?_set_ne (Ne.symm h.1)]; exact e⟩
  dj := fun i j a h h' => R.dj i j a h.2 h'.2
  fF := fun j a h => R.fF j a h.2
/-- a slot takes a new list that the frame alone holds -/
theorem StR.own (R : StR K T F0 H0 F H fp σ st) {i p : Nat} {ds : List D} {vs : List V} (hi : i < st.length) (hF : F p = none) (h0 : H0 p = none) (hH : H p = some (.lst vs)) (hn : ∀ j, j ≠ i → ¬ fp j p) (r : Reps K T F ds vs) :
    StR K T F0 H0 F H (fun j a => (j = i ∧ a = p) ∨ (j ≠ i ∧ fp j a)) ((σ : List (Option V)).set i (some (.ref p))) (st.set i (.o 1 (.lst ds))) where
  s := R.s
  h0 := R.h0
  f0 := R.f0
  n := R.n
  l := by
    rw [List.length_set, List.length_set]
    exact R.l
  fr := fun j x e => by
    by_cases hj : i = j
    · subst hj
      rw [List.getElem?_set_self hi] at e
      have e' : Sl.o 1 (.lst ds) = Sl.v x := Option.some.inj e
      cases e'
    · rw [List.getElem?_set_ne hj] at e ⊢
      exact R.fr j x e
  ow := fun j k x e => by
    have hl := R.l
    by_cases hj : i = j
    · subst hj
      rw [List.getElem?_set_self hi] at e
      have e' : Sl.o 1 (.lst ds) = Sl.o k x := Option.some.inj e
      cases e'
      refine ⟨.ref p, by rw [List.getElem?_set_self (by omega)], p, vs, rfl, hH, r, fun a => ⟨fun h => ?_, fun h => .inl ⟨rfl, h⟩⟩⟩
      rcases h with h | h
      · exact h.2
      · exact absurd rfl h.1
    · rw [List.getElem?_set_ne hj] at e ⊢
      obtain ⟨u, a, b⟩ := R.ow j k x e
      refine ⟨u, a, ?_⟩
      have ef : (fun a => (j = i ∧ a = p) ∨ (j ≠ i ∧ fp j a)) = fp j := funext fun a => propext ⟨fun h => by
        rcases h with h | h
        · exact absurd h.1.symm hj
        · exact h.2, fun h => .inr ⟨fun z => hj z.symm, h⟩⟩
      rw [ef]
      exact b
  no := fun j a h => by
    rcases h with h | h
    · refine ⟨1, .lst ds, ?_⟩
      rw [h.1, List.getElem?_set_self hi]
    · obtain ⟨k, x, e⟩ := R.no j a h.2
      exact ⟨k, x, by rw [List.getElem?_set_ne (Ne.symm h.1)]; exact e⟩
  dj := fun j1 j2 a h h' => by
    rcases h with h | h <;> rcases h' with h' | h'
    · rw [h.1, h'.1]
    · rw [h.2] at h'
      exact absurd h'.2 (hn j2 h'.1)
    · rw [h'.2] at h
      exact absurd h.2 (hn j1 h.1)
    · exact R.dj j1 j2 a h.2 h'.2
  fF := fun j a h => by
    rcases h with h | h
    · rw [h.2]
      exact ⟨hF, h0, _, hH⟩
    · exact R.fF j a h.2
/-- what the frame alone holds changes -/
theorem StR.changeO (R : StR K T F0 H0 F H fp σ st) {i p k' : Nat} {d' : D} {o' : HO} (hi : ∃ k d, st[i]? = some (.o k d)) (hp : ∀ a, fp i a ↔ a = p) (hσ : (σ : List (Option V))[i]? = some (some (.ref p))) (ho : Own K T F (upd H p o') k' d' (.ref p) (fp i)) :
    StR K T F0 H0 F (upd H p o') fp σ (st.set i (.o k' d')) := by
  have hpi : fp i p := (hp p).mpr rfl
  obtain ⟨k1, d1, e1⟩ := hi
  have hlt : i < st.length := (List.getElem?_eq_some_iff.mp e1).1
  refine ⟨fun b o e => ?_, fun b o e => ?_, R.f0, R.n, ?_, fun j x e => ?_, fun j k x e => ?_, fun j a h => ?_, R.dj, fun j a h => ?_⟩
  · rw [upd_ne (ne_of_none e (R.fF i p hpi).1)]
    exact R.s b o e
  · rw [upd_ne (ne_of_none e (R.fF i p hpi).2.1)]
    exact R.h0 b o e
  · rw [List.length_set]
    exact R.l
  · by_cases hj : i = j
    · subst hj
      rw [List.getElem?_set_self hlt] at e
      have e' : Sl.o k' d' = Sl.v x := Option.some.inj e
      cases e'
    · rw [List.getElem?_set_ne hj] at e
      exact R.fr j x e
  · by_cases hj : i = j
    · subst hj
      rw [List.getElem?_set_self hlt] at e
      have e' : Sl.o k' d' = Sl.o k x := Option.some.inj e
      cases e'
      exact ⟨.ref p, hσ, ho⟩
    · rw [List.getElem?_set_ne hj] at e
      obtain ⟨u, a, b⟩ := R.ow j k x e
      refine ⟨u, a, ?_⟩
      have np : ¬ fp j p := fun h => hj (R.dj i j p hpi h)
      unfold Own at b ⊢
      split at b
      · obtain ⟨q, us, h1, h2, h3, h4⟩ := b
        refine ⟨q, us, h1, ?_, h3, h4⟩
        rw [upd_ne (fun z => np (by rw [← z]; exact (h4 q).mpr rfl))]
        exact h2
      · obtain ⟨dx, us, h1, h2, h5, h3, h4⟩ := b
        refine ⟨dx, us, h1, ?_, h5, h3, h4⟩
        rw [upd_ne (fun z => np (by rw [← z]; exact (h4 _).mpr rfl))]
        exact h2
      · exact b.elim
  · obtain ⟨k, x, e⟩ := R.no j a h
    by_cases hj : i = j
    · subst hj
      exact ⟨k', d', by rw [List.getElem?_set_self hlt]⟩
    · exact ⟨k, x, by rw [List.getElem?_set_ne hj]; exact e⟩
  · obtain ⟨h1, h2, o, h3⟩ := R.fF j a h
    refine ⟨h1, h2, ?_⟩
    by_cases ha : a = p
    · subst ha
      exact ⟨_, upd_same⟩
    · exact ⟨o, by rw [upd_ne ha]; exact h3⟩
/-- the list that the frame alone holds changes -/
theorem StR.change (R : StR K T F0 H0 F H fp σ st) {i p : Nat} {ds' : List D} {vs' : List V} (hi : ∃ k d, st[i]? = some (.o k d)) (hp : ∀ a, fp i a ↔ a = p) (hσ : (σ : List (Option V))[i]? = some (some (.ref p))) (r : Reps K T F ds' vs') :
    StR K T F0 H0 F (upd H p (.lst vs')) fp σ (st.set i (.o 1 (.lst ds'))) := R.changeO hi hp hσ ⟨p, vs', rfl, upd_same, r, hp⟩
/-- a slot's container is given up: it stays as it is from here on -/
theorem StR.frz (R : StR K T F0 H0 F H fp σ st) (i : Nat) : ∃ F' fp', StR K T F0 H0 F' H fp' σ (st.set i (frzS st[i]?)) := by
  cases hs : st[i]? with
  | none =>
    refine ⟨F, fp, ?_⟩
    rw [show st.set i (frzS none) = st from List.set_eq_of_length_le (by
      have := List.getElem?_eq_none_iff.mp hs
      omega)]
    exact R
  | some sl =>
    have hlt : i < st.length := (List.getElem?_eq_some_iff.mp hs).1
    have same : ∀ x, sl = x → st.set i x = st := fun x e => by
      refine List.ext_getElem? fun j => ?_
      by_cases hj : i = j
      · subst hj
        rw [List.getElem?_set_self hlt, hs, e]
      · rw [List.getElem?_set_ne hj]
    cases sl with
    | u => exact ⟨F, fp, by rw [show frzS (some Sl.u) = Sl.u from rfl, same _ rfl]; exact R⟩
    | v d => exact ⟨F, fp, by rw [show frzS (some (Sl.v d)) = Sl.v d from rfl, same _ rfl]; exact R⟩
    | o k d =>
      obtain ⟨v, hv, ho⟩ := R.ow i k d hs
      have hG : ∃ G, Same F G ∧ Same G H ∧ (∀ a o, G a = some o → F a = some o ∨ fp i a) ∧ ∀ a o, fp i a → H a = some o → G a = some o := by
        classical
        refine ⟨fun b => if fp i b then H b else F b, fun b o e => ?_, fun b o e => ?_, fun b o e => ?_, fun b o e e2 => ?_⟩
        · show (if fp i b then H b else F b) = some o
          by_cases h : fp i b
          · rw [(R.fF i b h).1] at e
            cases e
          · rw [if_neg h]
            exact e
        · have e : (if fp i b then H b else F b) = some o := e
          by_cases h : fp i b
          · rw [if_pos h] at e
            exact e
          · rw [if_neg h] at e
            exact R.s b o e
        · have e : (if fp i b then H b else F b) = some o := e
          by_cases h : fp i b
          · exact .inr h
          · rw [if_neg h] at e
            exact .inl e
        · show (if fp i b then H b else F b) = some o
          rw [if_pos e]
          exact e2
      obtain ⟨G, g1, g2, g3, g4⟩ := hG
      have r : Rep K T G d v := ho.rep g1 g4
      have hl := R.l
      refine ⟨G, fun j a => j ≠ i ∧ fp j a, g2, R.h0, R.f0.trans g1, fun b o e => ?_, ?_, fun j x e => ?_, fun j k' x e => ?_, fun j a h => ?_, fun i j a h h' => R.dj i j a h.2 h'.2, fun j a h => ?_⟩
      · rcases g3 b o e with q | q
        · exact R.n b o q
        · exact .inr (R.fF i b q).2.1
      · rw [List.length_set]
        exact R.l
      · by_cases hj : i = j
        · subst hj
          rw [List.getElem?_set_self hlt] at e
          have e' : Sl.v d = Sl.v x := Option.some.inj e
          cases e'
          exact ⟨v, hv, r⟩
        · rw [List.getElem?_set_ne hj] at e
          obtain ⟨u, a, b⟩ := R.fr j x e
          exact ⟨u, a, Rep.mono g1 b⟩
      · by_cases hj : i = j
        · subst hj
          rw [List.getElem?_set_self hlt] at e
          have e' : Sl.v d = Sl.o k' x := Option.some.inj e
          cases e'
        · rw [List.getElem?_set_ne hj] at e
          obtain ⟨u, a, b⟩ := R.ow j k' x e
          refine ⟨u, a, ?_⟩
          have ef : (fun a => j ≠ i ∧ fp j a) = fp j := funext fun a => propext ⟨fun h => h.2, fun h => ⟨fun z => hj z.symm, h⟩⟩
          rw [ef]
          exact b.grow g1 (Same.refl H)
      · obtain ⟨k2, x, e⟩ := R.no j a h.2
        exact ⟨k2, x, by rw [List.getElem?_set_ne (Ne.symm h.1)]; exact e⟩
      · obtain ⟨h1, h2, o, h3⟩ := R.fF j a h.2
        refine ⟨?_, h2, o, h3⟩
        cases z : G a with
        | none => rfl
        | some u =>
          rcases g3 a u z with q | q
          · rw [h1] at q
            cases q
          · exact absurd (R.dj i j a q h.2) (Ne.symm h.1)
open Classical in
/-- without the frame's own lists -/
noncomputable def offF (G : Hp) (fp : Nat → Addr → Prop) : Hp := fun b => if ∃ i, fp i b then none else G b
theorem offF_at {G : Hp} {b : Addr} {o : HO} (e : offF G fp b = some o) : G b = some o ∧ ¬ ∃ i, fp i b := by
  unfold offF at e
  split at e
  · cases e
  · exact ⟨e, by assumption⟩
theorem offF_of {G : Hp} {b : Addr} (h : ¬ ∃ i, fp i b) : offF G fp b = G b := if_neg h
theorem StR.own_lst (R : StR K T F0 H0 F H fp σ st) {i : Nat} {a : Addr} (h : fp i a) : ∃ o, H a = some o ∧ ∀ xs, o ≠ .tup xs := by
  obtain ⟨k, d, e⟩ := R.no i a h
  obtain ⟨v, _, o⟩ := R.ow i k d e
  unfold Own at o
  split at o
  · obtain ⟨p, vs, _, h2, _, h4⟩ := o
    rw [(h4 a).mp h]
    exact ⟨_, h2, fun _ z => by cases z⟩
  · obtain ⟨dx, vs, _, h2, _, _, h4⟩ := o
    rw [(h4 a).mp h]
    exact ⟨_, h2, fun _ z => by cases z⟩
  · exact o.elim
theorem StR.less_f (R : StR K T F0 H0 F H fp σ st) (g : Grow (allF F H fp) H F' H') : Same F (offF F' fp) := fun b o e => by
  have hb : ¬ ∃ i, fp i b := fun ⟨i, h⟩ => by
    rw [(R.fF i b h).1] at e
    cases e
  rw [offF_of hb]
  exact g.f _ _ (R.all_f _ _ e)
theorem StR.less (R : StR K T F0 H0 F H fp σ st) (g : Grow (allF F H fp) H F' H') : StR K T F0 H0 (offF F' fp) H' fp σ st where
  s := fun b o e => g.s _ _ (offF_at e).1
  h0 := R.h0.trans g.h
  f0 := R.f0.trans (R.less_f g)
  n := fun b o e => by
    obtain ⟨e, hb⟩ := offF_at e
    rcases g.n b o e with q | q
    · unfold allF at q
      rw [if_neg hb] at q
      exact R.n b o q
    · exact .inr (R.h0.free q)
  l := R.l
  fr := fun i d e => by
    obtain ⟨v, a, b⟩ := R.fr i d e
    exact ⟨v, a, Rep.mono (R.less_f g) b⟩
  ow := fun i k d e => by
    obtain ⟨v, a, b⟩ := R.ow i k d e
    exact ⟨v, a, b.grow (R.less_f g) g.h⟩
  no := R.no
  dj := R.dj
  fF := fun i a h => by
    obtain ⟨h1, h2, o, h3⟩ := R.fF i a h
    exact ⟨if_pos ⟨i, h⟩, h2, o, g.h _ _ h3⟩
mutual
theorem StR.off (R : StR K T F0 H0 F H fp σ st) (g : Grow (allF F H fp) H F' H') : ∀ {d : D} {v : V}, d.kept = true → Rep K T F' d v → Rep K T (offF F' fp) d v
  | .non, _, _, h => h
  | .bool _, _, _, h => h
  | .int _, _, _, h => h
  | .str _, _, _, h => h
  | .tup ds, v, hk, ⟨a, vs, h1, h2, h3⟩ => by
    refine ⟨a, vs, h1, ?_, StR.offs R g hk h3⟩
    rw [offF_of]
    · exact h2
    · rintro ⟨i, h⟩
      obtain ⟨o, hx, hn⟩ := R.own_lst h
      have e1 := g.s _ _ h2
      rw [g.h _ _ hx] at e1
      cases e1
      exact hn _ rfl
theorem StR.offs (R : StR K T F0 H0 F H fp σ st) (g : Grow (allF F H fp) H F' H') : ∀ {ds : List D} {vs : List V}, D.kepts ds = true → Reps K T F' ds vs → Reps K T (offF F' fp) ds vs
  | [], _, _, h => h
  | d :: ds, _, hk, ⟨v, r, h1, h2, h3⟩ => by
    obtain ⟨k1, k2⟩ := Bool.and_eq_true_iff.mp (show (d.kept && D.kepts ds) = true from hk)
    exact ⟨v, r, h1, StR.off R g k1 h2, StR.offs R g k2 h3⟩
end
end
end Py

namespace Py
open PySem L2

/-- what is wanted behind a statement that computes r; N: it hands back a new list -/
def PostS (K : PySem.W.Frag) (T : Tab) (W : WX) (N : Bool) (F0 H0 : Hp) (D : Ends) : Cf → Prop
  | .nx st => ∀ F H fp σ, StR K T F0 H0 F H fp σ st → D.nx σ H
  | .bk st => ∀ F H fp σ, StR K T F0 H0 F H fp σ st → D.bk σ H
  | .ct st => ∀ F H fp σ, StR K T F0 H0 F H fp σ st → D.ct σ H
  | .rt d => match N with
    | false => ∀ v F H, Grow F0 H0 F H → Rep K T F d v → D.rt v H
    | true => ∀ ds p vs F H, d = .lst ds → Grow F0 H0 F H → H0 p = none → F p = none → H p = some (.lst vs) → Reps K T F ds vs → D.rt (.ref p) H
  | .ex c fs st => ∀ dx F H fp σ, StR K T F0 H0 F H fp σ st → ExR K T c fs dx H → W (.ref (T.addr c)) dx σ H
  | .no => False
def rdS (K : PySem.W.Frag) (T : Tab) (W : WX) (N : Bool) (F0 H0 : Hp) (f : Py.St → Cf) : TS := fun D σ H =>
  LenOk K H → ∃ F fp st, StR K T F0 H0 F H fp σ st ∧ PostS K T W N F0 H0 D (f st)

section
variable {X : Cx} {T : Tab} {W : WX} {N : Bool} {F0 H0 : Hp} {pos p2 p3 : Pos}
theorem ps_of {s : Stmt} {t : TS} {f : Py.St → Cf} (h : PS X s t) (imp : ∀ D σ H, LenOk X.K H → (∃ F fp st, StR X.K T F0 H0 F H fp σ st ∧ PostS X.K T W N F0 H0 D (f st)) → t D σ H) : PS X s (rdS X.K T W N F0 H0 f) :=
  ⟨fun pins s σ H D I q => h.run pins s σ H D I (imp D σ H (lenOk_of I) (q (lenOk_of I)))⟩
theorem pss_of {s : List Stmt} {t : TS} {f : Py.St → Cf} (h : PSs X s t) (imp : ∀ D σ H, LenOk X.K H → (∃ F fp st, StR X.K T F0 H0 F H fp σ st ∧ PostS X.K T W N F0 H0 D (f st)) → t D σ H) : PSs X s (rdS X.K T W N F0 H0 f) :=
  ⟨fun pins s σ H D I q => h.run pins s σ H D I (imp D σ H (lenOk_of I) (q (lenOk_of I)))⟩
/-- an expression's value, then what follows -/
theorem cf_rd {α β : Type} {rel : Hp → α → β → Prop} {m : Bool} {g : Env → R α} {k : α → Cf} {F H : Hp} {fp : Nat → Addr → Prop} {σ : L2.St} {st : Py.St} {D : Ends} {Q : β → Hp → Prop} (R : StR X.K T F0 H0 F H fp σ st)
    (q : PostS X.K T W N F0 H0 D ((g (envS m st)).cf st k))
    (h : ∀ a v F' H', g (envS m st) = .ok a → (m = false → Grow F H F' H') → (m = true → Grow (allF F H fp) H F' H') → rel F' a v → PostS X.K T W N F0 H0 D (k a) → Q v H') : rdG X.K T W rel g σ H Q := by
  intro _
  cases m with
  | false =>
    refine ⟨F, envS false st, R.vwF, ?_⟩
    cases e : g (envS false st) with
    | ok a =>
      rw [e] at q
      exact fun v F' H' gr r => h a v F' H' e (fun _ => gr) (fun z => by cases z) r q
    | ex c fs =>
      rw [e] at q
      exact fun dx H' s x => q dx F H' fp σ (R.only s) x
    | no =>
      rw [e] at q
      exact q
  | true =>
    refine ⟨allF F H fp, envS true st, R.vwT, ?_⟩
    cases e : g (envS true st) with
    | ok a =>
      rw [e] at q
      exact fun v F' H' gr r => h a v F' H' e (fun z => by cases z) (fun _ => gr) r q
    | ex c fs =>
      rw [e] at q
      exact fun dx H' s x => q dx F H' fp σ (R.only s) x
    | no =>
      rw [e] at q
      exact q
/-- behind a value that may be kept -/
theorem keep {m : Bool} {d : D} {v : V} {F H F' H' : Hp} {fp : Nat → Addr → Prop} {σ : L2.St} {st : Py.St} (R : StR X.K T F0 H0 F H fp σ st) (hm : okM m d = true) (g1 : m = false → Grow F H F' H') (g2 : m = true → Grow (allF F H fp) H F' H') (r : Rep X.K T F' d v) :
    ∃ F'', StR X.K T F0 H0 F'' H' fp σ st ∧ Rep X.K T F'' d v := by
  cases m with
  | false => exact ⟨F', R.grow (g1 rfl), r⟩
  | true => exact ⟨_, R.less (g2 rfl), R.off (g2 rfl) hm r⟩
theorem StR.hold {F H F' H' : Hp} {fp : Nat → Addr → Prop} {σ : L2.St} {st : Py.St} {m : Bool} (R : StR X.K T F0 H0 F H fp σ st) (g1 : m = false → Grow F H F' H') (g2 : m = true → Grow (allF F H fp) H F' H') : ∃ F'', StR X.K T F0 H0 F'' H' fp σ st := by
  cases m with
  | false => exact ⟨F', R.grow (g1 rfl)⟩
  | true => exact ⟨F, R.only (g2 rfl).h⟩

/-! ### small statements -/
theorem ss_nil : PSs X [] (rdS X.K T W N F0 H0 fun st => .nx st) := by
  refine pss_of pss_nil fun D σ H _ ⟨F, fp, st, R, q⟩ => ?_
  exact q F H fp σ R
theorem ss_cons {s : Stmt} {ss : List Stmt} {f g : Py.St → Cf} (h1 : PS X s (rdS X.K T W N F0 H0 f)) (h2 : PSs X ss (rdS X.K T W N F0 H0 g)) : PSs X (s :: ss) (rdS X.K T W N F0 H0 fun st => match f st with
    | .nx st' => g st'
    | r => r) := by
  refine pss_of (pss_cons h1 h2) fun D σ H _ ⟨F, fp, st, R, q⟩ _ => ⟨F, fp, st, R, ?_⟩
  cases e : f st with
  | nx st' =>
    rw [e] at q
    exact fun F' H' fp' σ' R' _ => ⟨F', fp', st', R', q⟩
  | _ =>
    rw [e] at q
    exact q
theorem ss_pass : PS X (.Pass pos) (rdS X.K T W N F0 H0 fun st => .nx st) := ps_of ps_pass fun D σ H _ ⟨F, fp, st, R, q⟩ => q F H fp σ R
theorem ss_brk : PS X (.Break pos) (rdS X.K T W N F0 H0 fun st => .bk st) := ps_of ps_break fun D σ H _ ⟨F, fp, st, R, q⟩ => q F H fp σ R
theorem ss_cont : PS X (.Continue pos) (rdS X.K T W N F0 H0 fun st => .ct st) := ps_of ps_continue fun D σ H _ ⟨F, fp, st, R, q⟩ => q F H fp σ R
theorem ss_ret {e : Expr} {f : Env → R D} (he : PE X e (rdE X.K T W f)) : PS X (.Return (some e) pos) (rdS X.K T W false F0 H0 fun st => (f (envS true st)).cf st fun d => .rt d) := by
  refine ps_of (ps_ret he) fun D σ H _ ⟨F, fp, st, R, q⟩ => ?_
  refine cf_rd R q fun d v F' H' e1 _ g2 r q2 => ?_
  refine q2 v F' H' ⟨(R.f0.trans R.all_f).trans (g2 rfl).f, (g2 rfl).s, R.h0.trans (g2 rfl).h, fun b o e => ?_⟩ r
  rcases (g2 rfl).n b o e with z | z
  · exact R.all_n b o z
  · exact .inr (R.h0.free z)
theorem ss_expr {e : Expr} {f : Env → R D} (he : PE X e (rdE X.K T W f)) (hs : swapsWith e none pos.line X.env = pure false) : PS X (.Expr e pos) (rdS X.K T W N F0 H0 fun st => (f (envS true st)).cf st fun _ => .nx st) := by
  refine ps_of (ps_expr he hs) fun D σ H _ ⟨F, fp, st, R, q⟩ => ?_
  refine cf_rd R q fun d v F' H' e1 _ g2 r q2 => ?_
  exact q2 F H' fp σ (R.only (g2 rfl).h)
theorem ss_if {c : Expr} {a b : List Stmt} {t : Env → R Bool} {f g : Py.St → Cf} (hc : PT X c (rdT X.K T W t)) (ha : PSs X a (rdS X.K T W N F0 H0 f)) (hb : PSs X b (rdS X.K T W N F0 H0 g)) :
    PS X (.If c a b pos) (rdS X.K T W N F0 H0 fun st => (t (envS true st)).cf st fun k => if k then f st else g st) := by
  refine ps_of (ps_if hc ha hb) fun D σ H _ ⟨F, fp, st, R, q⟩ => ?_
  refine cf_rd (rel := relB) R q fun k v F' H' e1 _ g2 r q2 => ?_
  have r : k = v := r
  subst r
  cases k with
  | true => exact fun _ => ⟨F, fp, st, R.only (g2 rfl).h, q2⟩
  | false => exact fun _ => ⟨F, fp, st, R.only (g2 rfl).h, q2⟩
/-- p = e -/
theorem asg_imp {m : Bool} {p : Pat} {f : Env → R D} {te : TE} (hte : ∀ σ H Q, LenOk X.K H → (∃ F env, Vw X.K T F H σ env ∧ Post X.K T (relD X.K T) (fun c d H' => W c d σ H') F H (f env) Q) → te σ H Q) :
    ∀ D σ H, LenOk X.K H → (∃ F fp st, StR X.K T F0 H0 F H fp σ st ∧ PostS X.K T W N F0 H0 D ((f (envS m st)).cf st fun d => if okM m d then (bindP p d st).cf st Cf.nx else .no)) → tAsg te (gP X.K p) D σ H := by
  intro D σ H L ⟨F, fp, st, R, q⟩
  refine hte σ H _ L (cf_rd (rel := relD X.K T) R q (fun d v F' H' e1 g1 g2 r q2 => ?_) L)
  split at q2
  · rename_i hm
    obtain ⟨F2, R2, r2⟩ := keep R hm g1 g2 r
    cases hb : bindP p d st with
    | ok st' =>
      rw [hb] at q2
      refine gP_ok (put := putP) (F := F2) (Pr := fun σ' s' => ∃ fp', StR X.K T F0 H0 F2 H' fp' σ' s') R2.s p (fun i u x σ1 a _ hr ⟨fp', Ra⟩ => ⟨_, Ra.put hr⟩) r2 hb ⟨fp, R2⟩ fun σ' ⟨fp', R3⟩ => ?_
      exact q2 F2 H' fp' σ' R3
    | ex c fs =>
      exact absurd hb (bindG_noex p d st c fs)
    | no =>
      rw [hb] at q2
      exact q2.elim
  · exact q2.elim
theorem ss_set {m : Bool} {i : Nat} {x : Str} {e : Expr} {f : Env → R D} (hN : X.N.Nodup) (hi : X.N[i]? = some x) (hx : Loc X.env.scope x) (hf : X.fn x = true ∨ X.env.scope.names.lookup x = some .local) (he : PE X e (rdE X.K T W f)) (hs : swapsWith e (some (.Name x p2)) pos.line X.env = pure false) :
    PS X (.Assign [.Name x p2] e pos) (rdS X.K T W N F0 H0 fun st => (f (envS m st)).cf st fun d => if okM m d then (bindP (.v i) d st).cf st Cf.nx else .no) :=
  ps_of (ps_set hN hi hx he hs hf) (asg_imp (p := .v i) fun σ H Q L h _ => h)
theorem ss_asg {m : Bool} {p : Pat} {tg e : Expr} {f : Env → R D} (hg : PG X tg (gP X.K p)) (he : PE X e (rdE X.K T W f)) (hs : swapsWithSole [tg] e pos.line X.env = pure false) (hw : swappedStores [tg] e X.env = pure none)
    (h1 : (assignEach [tg] X.env).map (·.2) = [assign tg X.env]) :
    PS X (.Assign [tg] e pos) (rdS X.K T W N F0 H0 fun st => (f (envS m st)).cf st fun d => if okM m d then (bindP p d st).cf st Cf.nx else .no) :=
  ps_of (ps_asg he hg hs hw h1) (asg_imp (p := p) fun σ H Q L h _ => h)
/-- name = [..] -/
theorem ss_setLc {m : Bool} {i : Nat} {y : Str} {elt iter tg : Expr} {ifs : List Expr} {scope : Scope} {own : List (Str × Nat)} {vs : List Nat} {p : Pat} {fi : Env → R (List D)} {fc : Env → R Bool} {fe : Env → R D} (hc : X.calm = true) (nd : X.N.Nodup) (hy : X.N[i]? = some y) (hyl : X.env.scope.names.lookup y = some .local)
    (hsw : swapsWith (.ListComp elt [⟨tg, iter, ifs, 0⟩] scope p3) (some (.Name y p2)) pos.line X.env = pure true) (hi : PI X tg iter (rdI X.K T W fi)) (ok : BlkOk X.N X.env.scope scope own)
    (hv : own.map (·.2) = vs) (hpi : ∀ i ∈ p.ix, i ∈ vs)
    (hg : ∀ (s : Shared) (H : Hp) (C : Addr) (cl : List (Str × Addr)) (fp : List Addr), PG (X.blk s H scope (compEnvC scope cl C X.env) fp) tg (gP X.K p))
    (ht : ∀ (s : Shared) (H : Hp) (C : Addr) (cl : List (Str × Addr)) (fp : List Addr), PTs (X.blk s H scope (compEnvC scope cl C X.env) fp) ifs (rdT X.K T W0 fc))
    (he : ∀ (s : Shared) (H : Hp) (C : Addr) (cl : List (Str × Addr)) (fp : List Addr), PE (X.blk s H scope (compEnvC scope cl C X.env) fp) elt (rdE X.K T W0 fe)) (hs : ∀ x, foldedSetIterable iter X.env x = pure x) :
    PS X (.Assign [.Name y p2] (.ListComp elt [⟨tg, iter, ifs, 0⟩] scope p3) pos) (rdS X.K T W N F0 H0 fun st => ((fi (envS m st)).bind fun xs => (compD xs fun x =>
      (bindG putE p x (wipeD (envS m st) vs)).bind fun env' => (fc env').bind fun t => if t then (fe env').map some else .ok none).map D.lst).cf st fun d => if okM m d then (bindP (.v i) d st).cf st Cf.nx else .no) := by
  subst hv
  exact ps_of (ps_setLc hc nd hy hyl hsw hi ok hg ht he hs) (asg_imp (p := .v i) (f := fun env => (fi env).bind fun xs => (compD xs fun x =>
      (bindG putE p x (wipeD env (own.map (·.2)))).bind fun env' => (fc env').bind fun t => if t then (fe env').map some else .ok none).map D.lst) fun σ H Q L ⟨F, env, vw, q⟩ => lc_imp hpi ⟨F, env, vw, PostN.of q (lc_lst _ _)⟩)

/-! ### new lists -/
/-- an expression's value is a new list -/
def rdN (K : PySem.W.Frag) (T : Tab) (W : WX) (f : Env → R D) : TE := fun σ H Q => LenOk K H → ∃ F env, Vw K T F H σ env ∧ PostN K T (fun c d H' => W c d σ H') F H (f env) Q
theorem pn_of {e : Expr} {t : TE} {f : Env → R D} (h : PE X e t) (imp : ∀ σ H Q, LenOk X.K H → (∃ F env, Vw X.K T F H σ env ∧ PostN X.K T (fun c d H' => W c d σ H') F H (f env) Q) → t σ H Q) : PE X e (rdN X.K T W f) :=
  ⟨fun pins s σ H Q I q => h.run pins s σ H Q I (imp σ H Q (lenOk_of I) (q (lenOk_of I)))⟩
theorem PostN.lst {F H : Hp} {W' : Value → Option Addr → Hp → Prop} {ds : List D} {vs : List V} {Q : VK} {p : Addr} (s : Same F H) (h : PostN X.K T W' F H (.ok (.lst ds)) Q) (r : Reps X.K T F ds vs) (n : H p = none) : Q (.ref p) (upd H p (.lst vs)) :=
  h p vs F (upd H p (.lst vs)) (Grow.only s (Same.upd n)) n (s.free n) upd_same r
theorem n_lst {es : List Expr} {g : Env → R (List D)} (hn : es.length ≤ 1000) (hr : PA X es (rdA X.K T W g)) (hl : ∀ env ds, g env = .ok ds → ds.length = es.length) : PE X (.List es pos) (rdN X.K T W fun env => (g env).map D.lst) := by
  refine pn_of (pe_lst hr) fun σ H Q _ ⟨F, env, vw, q⟩ => ?_
  refine vw.rd (Post.imp (PostN.bind' (rel := relL X.K T) q) fun y H2 ⟨F2, d2, e2, g2, r2, q2⟩ => ?_)
  refine ⟨?_, fun p hp => PostN.lst g2.s q2 r2 hp⟩
  rw [Reps.length r2, hl env d2 e2]
  exact Nat.le_trans hn (by decide)
theorem n_bin {o : BOp} {a b : Expr} {f g : Env → R D} (ho : o = .add ∨ o = .mul) (ha : PE X a (rdE X.K T W f)) (hb : PE X b (rdE X.K T W g)) :
    PE X (.BinOp a (bop o) b pos) (rdN X.K T W fun env => (f env).bind fun x => (g env).bind fun y => binD o x y) := by
  have op : OpR X (binaryOp (bop o)) (fun x y H Q => ∃ F W' a b, Same F H ∧ Rep X.K T F a x ∧ Rep X.K T F b y ∧ PostN X.K T W' F H (binD o a b) Q) := by
    intro pins s σ H x y v u Q I rx ry ⟨F, W', a, b, sF, ra, rb, q⟩
    rcases ho with rfl | rfl
    · cases a <;> cases b <;> first | exact q.elim | skip
      · rename_i s1 t1
        have q : PostN X.K T W' F H (if s1.length + t1.length ≤ cap then .ok (.str (s1 ++ t1)) else .no) Q := q
        split at q <;> exact q.elim
      · rename_i s1 t1
        have q : PostN X.K T W' F H (if s1.length + t1.length ≤ cap then .ok (.tup (s1 ++ t1)) else .no) Q := q
        split at q <;> exact q.elim
      · rename_i s1 t1
        have q : PostN X.K T W' F H (if s1.length + t1.length ≤ cap then .ok (.lst (s1 ++ t1)) else .no) Q := q
        split at q
        · rename_i hz
          obtain ⟨a1, vs, rfl, h1, r1⟩ := ra
          obtain ⟨b1, us, rfl, h2, r2⟩ := rb
          have l1 := Reps.length r1
          have l2 := Reps.length r2
          exact op_cat pins s σ H _ _ v u Q I rx ry ⟨a1, b1, vs, us, rfl, rfl, sF _ _ h1, sF _ _ h2, le_line (by rw [l1, l2]; exact hz), fun p hp => PostN.lst sF q (Reps.app r1 r2) hp⟩
        · exact q.elim
    · cases a <;> cases b <;> first | exact q.elim | skip
      · rename_i i j
        have q : PostN X.K T W' F H (if mulOk i j then .ok (.int (i * j)) else .no) Q := q
        split at q <;> exact q.elim
      · rename_i s1 n
        have q : PostN X.K T W' F H (if -1000 ≤ n ∧ n ≤ 1000 ∧ s1.length ≤ 1000 ∧ s1 ≠ [] then .ok (.tup (repD s1 n)) else .no) Q := q
        split at q <;> exact q.elim
      · rename_i s1 n
        have q : PostN X.K T W' F H (if n ≤ (cap : Int) ∧ -(cap : Int) ≤ n ∧ s1.length * n.toNat ≤ cap then .ok (.lst (repD s1 n)) else .no) Q := q
        split at q
        · rename_i hz
          obtain ⟨h1, h2, h3⟩ := hz
          obtain ⟨a1, vs, rfl, g1, r1⟩ := ra
          cases rb
          have l1 := Reps.length r1
          have c1 : (cap : Int) = 100000 := rfl
          exact op_rep pins s σ H _ _ v u Q I rx ry ⟨a1, n, vs, rfl, rfl, sF _ _ g1, by omega, by omega, le_line (by rw [l1]; exact h3), fun p hp => PostN.lst sF q (Reps.rep r1 _) hp⟩
        · exact q.elim
  refine pn_of (pe_op op ha hb) fun σ H Q _ ⟨F, env, vw, q⟩ => ?_
  refine vw.rd (Post.imp (PostN.bind (rel := relD X.K T) q) fun x H1 ⟨F1, d1, e1, g1, r1, q1⟩ => ?_)
  refine (vw.grow g1).rd (Post.imp (PostN.bind (rel := relD X.K T) q1) fun y H2 ⟨F2, d2, e2, g2, r2, q2⟩ => ?_)
  exact ⟨F2, _, d1, d2, g2.s, Rep.mono g2.f r1, r2, q2⟩
theorem n_slice {a : Expr} {lo hi : Option Expr} {f : Env → R D} {l h : Env → R (Option Int)} (ha : PE X a (rdE X.K T W f)) (hl : PO X lo (rdO X.K T W l)) (hh : PO X hi (rdO X.K T W h)) :
    PE X (.Subscript a (.Slice lo hi none p2) pos) (rdN X.K T W fun env => (f env).bind fun x => (l env).bind fun l => (h env).bind fun h => sliceD l h x) := by
  have sl : SlR X (fun x lo hi H Q => ∃ F W' a, Same F H ∧ Rep X.K T F a x ∧ PostN X.K T W' F H (sliceD lo hi a) Q) := by
    intro pins s σ H x v vl vu lo hi sl Q I rx hs pl pu ⟨F, W', a, sF, ra, q⟩
    cases a <;> first | exact q.elim | skip
    · rename_i z
      have q : PostN X.K T W' F H (if z.length ≤ cap then .ok (.str (cutL z lo hi)) else .no) Q := q
      split at q <;> exact q.elim
    · rename_i xs
      obtain ⟨p, vs, rfl, h1, h2⟩ := ra
      exact sl_list pins s σ H _ v vl vu lo hi sl Q I rx hs pl pu ⟨p, vs, rfl, .inl (.inl (sF _ _ h1)), fun p2 hp => PostN.lst sF q (cut_reps h2 lo hi) hp⟩
  refine pn_of (pe_slice sl ha hl hh) fun σ H Q _ ⟨F, env, vw, q⟩ => ?_
  refine vw.rd (Post.imp (PostN.bind (rel := relD X.K T) q) fun x H1 ⟨F1, d1, e1, g1, r1, q1⟩ => ?_)
  refine (vw.grow g1).rd (Post.imp (PostN.bind (rel := relO) q1) fun y H2 ⟨F2, d2, e2, g2, r2, q2⟩ => ?_)
  refine ((vw.grow g1).grow g2).rd (Post.imp (PostN.bind (rel := relO) q2) fun z H3 ⟨F3, d3, e3, g3, r3, q3⟩ => ?_)
  have r2 : d2 = y := r2
  have r3 : d3 = z := r3
  subst r2 r3
  exact ⟨F3, _, d1, g3.s, Rep.mono g3.f (Rep.mono g2.f r1), q3⟩
theorem n_rev {a : Expr} {f : Env → R D} {k : Nat} {p1 p2 p3 : Pos} (ha : PE X a (rdE X.K T W f)) : PE X (.Subscript a (.Slice none none (some (.UnaryOp .USub (.Constant (.int 1) k p1) p2)) p3) pos) (rdN X.K T W fun env => (f env).bind revD) := by
  refine pn_of (pe_revL ha) fun σ H Q _ ⟨F, env, vw, q⟩ => ?_
  refine vw.rd (Post.imp (PostN.bind (rel := relD X.K T) q) fun x H1 ⟨F1, d1, e1, g1, r1, q1⟩ => ?_)
  cases d1 <;> first | exact q1.elim | skip
  obtain ⟨a, vs, rfl, h1, h2⟩ := r1
  exact ⟨a, vs, rfl, .inl (.inl (g1.s _ _ h1)), fun p hp => PostN.lst g1.s q1 (Reps.reverse h2) hp⟩
theorem n_list {e : Expr} {es : List Expr} {g : Env → R (List D)} (hg : Gl X ("list" : Str)) (hm : X.mg ("list" : Str) = none) (hp : ((e :: es).all isPlain) = true) (ha : PA X (e :: es) (rdA X.K T W g)) :
    PE X (.Call (.Name ("list" : Str) p2) (e :: es) [] pos) (rdN X.K T W fun env => (g env).bind (biD .list)) := by
  have hp' : (isPlain e && es.all isPlain) = true := hp
  obtain ⟨p1, p2'⟩ := Bool.and_eq_true_iff.mp hp'
  refine pn_of (pe_callTy call_list_of hg hm (boot_bi .list) ha (name_bi .list) (dbg_bi .list) (star_plain p1 es X.env) (star_none p2')) fun σ H Q _ ⟨F, env, vw, q⟩ => ?_
  refine vw.rd (Post.imp (PostN.bind (rel := relL X.K T) q) fun vs H1 ⟨F1, d1, e1, g1, r1, q1⟩ => ?_)
  cases d1 with
  | nil => exact q1.elim
  | cons d rest =>
    cases rest with
    | nil =>
      cases d <;> first | exact q1.elim | skip
      · obtain ⟨v, rfl, a, us, rfl, h1, h2⟩ := reps1 r1
        exact ⟨a, us, rfl, .inr (sameT g1.s h1), fun l hl => PostN.lst g1.s q1 h2 hl⟩
      · obtain ⟨v, rfl, a, us, rfl, h1, h2⟩ := reps1 r1
        exact ⟨a, us, rfl, .inl (.inl (.inl (g1.s _ _ h1))), fun l hl => PostN.lst g1.s q1 h2 hl⟩
    | cons d2 rest2 => cases d <;> exact q1.elim
theorem n_lc {elt iter tg : Expr} {ifs : List Expr} {scope : Scope} {own : List (Str × Nat)} {vs : List Nat} {p : Pat} {fi : Env → R (List D)} {fc : Env → R Bool} {fe : Env → R D} (hc : X.calm = true) (nd : X.N.Nodup) (hi : PI X tg iter (rdI X.K T W fi)) (ok : BlkOk X.N X.env.scope scope own)
    (hv : own.map (·.2) = vs) (hpi : ∀ i ∈ p.ix, i ∈ vs)
    (hg : ∀ (s : Shared) (H : Hp) (C : Addr) (cl : List (Str × Addr)) (fp : List Addr), PG (X.blk s H scope (compEnvC scope cl C X.env) fp) tg (gP X.K p))
    (ht : ∀ (s : Shared) (H : Hp) (C : Addr) (cl : List (Str × Addr)) (fp : List Addr), PTs (X.blk s H scope (compEnvC scope cl C X.env) fp) ifs (rdT X.K T W0 fc))
    (he : ∀ (s : Shared) (H : Hp) (C : Addr) (cl : List (Str × Addr)) (fp : List Addr), PE (X.blk s H scope (compEnvC scope cl C X.env) fp) elt (rdE X.K T W0 fe)) (hs : ∀ x, foldedSetIterable iter X.env x = pure x) :
    PE X (.ListComp elt [⟨tg, iter, ifs, 0⟩] scope pos) (rdN X.K T W fun env => (fi env).bind fun xs => (compD xs fun x =>
      (bindG putE p x (wipeD env vs)).bind fun env' => (fc env').bind fun t => if t then (fe env').map some else .ok none).map D.lst) := by
  subst hv
  exact pn_of (pe_lc hc nd hi ok hg ht he hs) fun σ H Q _ h => lc_imp hpi h
end
end Py

namespace Py
open PySem L2

section
variable {X : Cx} {T : Tab} {W : WX} {N : Bool} {F0 H0 : Hp} {pos p2 p3 : Pos}
/-- no statement: a slot's container is given up -/
theorem ss_frz {ss : List Stmt} {g : Py.St → Cf} (i : Nat) (h : PSs X ss (rdS X.K T W N F0 H0 g)) : PSs X ss (rdS X.K T W N F0 H0 fun st => g (st.set i (frzS st[i]?))) := by
  refine pss_of h fun D σ H _ ⟨F, fp, st, R, q⟩ _ => ?_
  obtain ⟨F', fp', R'⟩ := R.frz i
  exact ⟨F', fp', _, R', q⟩
/-- a new list's value, then what follows -/
theorem cf_rdN {m : Bool} {g : Env → R D} {k : D → Cf} {F H : Hp} {fp : Nat → Addr → Prop} {σ : L2.St} {st : Py.St} {D : Ends} {Q : VK} (R : StR X.K T F0 H0 F H fp σ st)
    (q : PostS X.K T W N F0 H0 D ((g (envS m st)).cf st k)) (hl : ∀ d, g (envS m st) = .ok d → (∃ ds, d = .lst ds) ∨ k d = .no)
    (h : ∀ ds p vs F' H', g (envS m st) = .ok (.lst ds) → (m = false → Grow F H F' H') → (m = true → Grow (allF F H fp) H F' H') → H p = none → F' p = none → H' p = some (.lst vs) → Reps X.K T F' ds vs → PostS X.K T W N F0 H0 D (k (.lst ds)) → Q (.ref p) H') : rdN X.K T W g σ H Q := by
  intro _
  cases m with
  | false =>
    refine ⟨F, envS false st, R.vwF, ?_⟩
    cases e : g (envS false st) with
    | ok a =>
      rw [e] at q
      rcases hl a e with ⟨ds, rfl⟩ | hn
      · exact fun p vs F' H' gr h1 h2 h3 h4 => h ds p vs F' H' e (fun _ => gr) (fun z => by cases z) h1 h2 h3 h4 q
      · have q : PostS X.K T W N F0 H0 D (k a) := q
        rw [hn] at q
        exact q.elim
    | ex c fs =>
      rw [e] at q
      exact fun dx H' s x => q dx F H' fp σ (R.only s) x
    | no =>
      rw [e] at q
      exact q
  | true =>
    refine ⟨allF F H fp, envS true st, R.vwT, ?_⟩
    cases e : g (envS true st) with
    | ok a =>
      rw [e] at q
      rcases hl a e with ⟨ds, rfl⟩ | hn
      · exact fun p vs F' H' gr h1 h2 h3 h4 => h ds p vs F' H' e (fun z => by cases z) (fun _ => gr) h1 h2 h3 h4 q
      · have q : PostS X.K T W N F0 H0 D (k a) := q
        rw [hn] at q
        exact q.elim
    | ex c fs =>
      rw [e] at q
      exact fun dx H' s x => q dx F H' fp σ (R.only s) x
    | no =>
      rw [e] at q
      exact q
theorem newS_l {m : Bool} {st : Py.St} {i : Nat} (d : D) : (∃ ds, d = .lst ds) ∨ newS m st i d = .no := by
  cases d <;> first | exact .inl ⟨_, rfl⟩ | exact .inr rfl
theorem StR.holdN {F H F' H' : Hp} {fp : Nat → Addr → Prop} {σ : L2.St} {st : Py.St} {m : Bool} {ds : List D} {vs : List V} {p : Addr} (R : StR X.K T F0 H0 F H fp σ st) (g1 : m = false → Grow F H F' H') (g2 : m = true → Grow (allF F H fp) H F' H') (hk : m = true → D.kepts ds = true) (h2 : F' p = none) (r : Reps X.K T F' ds vs) :
    ∃ F'', StR X.K T F0 H0 F'' H' fp σ st ∧ F'' p = none ∧ Reps X.K T F'' ds vs := by
  cases m with
  | false => exact ⟨F', R.grow (g1 rfl), h2, r⟩
  | true =>
    refine ⟨_, R.less (g2 rfl), ?_, R.offs (g2 rfl) (hk rfl) r⟩
    unfold offF
    split
    · rfl
    · exact h2
theorem asgN_imp {m : Bool} {i : Nat} {f : Env → R D} {te : TE} (hte : ∀ σ H Q, LenOk X.K H → (∃ F env, Vw X.K T F H σ env ∧ PostN X.K T (fun c d H' => W c d σ H') F H (f env) Q) → te σ H Q) :
    ∀ D σ H, LenOk X.K H → (∃ F fp st, StR X.K T F0 H0 F H fp σ st ∧ PostS X.K T W N F0 H0 D ((f (envS m st)).cf st (newS m st i))) → tAsg te (gName i) D σ H := by
  intro D σ H L ⟨F, fp, st, R, q⟩
  refine hte σ H _ L (cf_rdN R q (fun d _ => newS_l d) (fun ds p vs F' H' e g1 g2 h1 h2 h3 h4 q2 => ?_) L)
  unfold newS at q2
  simp only at q2
  split at q2
  · rename_i hi
    obtain ⟨F2, R', k2, k4⟩ := R.holdN g1 g2 hi.2 h2 h4
    refine q2 F2 H' _ _ (R'.own hi.1 k2 (R.h0.free h1) h3 (fun j hj hf => ?_) k4)
    obtain ⟨_, _, o, ho⟩ := R.fF j p hf
    rw [h1] at ho
    cases ho
  · exact q2.elim
theorem ss_setN {m : Bool} {i : Nat} {x : Str} {e : Expr} {f : Env → R D} (hN : X.N.Nodup) (hi : X.N[i]? = some x) (hx : Loc X.env.scope x) (hf : X.fn x = true ∨ X.env.scope.names.lookup x = some .local) (he : PE X e (rdN X.K T W f)) (hs : swapsWith e (some (.Name x p2)) pos.line X.env = pure false) :
    PS X (.Assign [.Name x p2] e pos) (rdS X.K T W N F0 H0 fun st => (f (envS m st)).cf st (newS m st i)) :=
  ps_of (ps_set hN hi hx he hs hf) (asgN_imp fun σ H Q L h _ => h)
theorem ss_setLcN {m : Bool} {i : Nat} {y : Str} {elt iter tg : Expr} {ifs : List Expr} {scope : Scope} {own : List (Str × Nat)} {vs : List Nat} {p : Pat} {fi : Env → R (List D)} {fc : Env → R Bool} {fe : Env → R D} (hc : X.calm = true) (nd : X.N.Nodup) (hy : X.N[i]? = some y) (hyl : X.env.scope.names.lookup y = some .local)
    (hsw : swapsWith (.ListComp elt [⟨tg, iter, ifs, 0⟩] scope p3) (some (.Name y p2)) pos.line X.env = pure true) (hi : PI X tg iter (rdI X.K T W fi)) (ok : BlkOk X.N X.env.scope scope own)
    (hv : own.map (·.2) = vs) (hpi : ∀ i ∈ p.ix, i ∈ vs)
    (hg : ∀ (s : Shared) (H : Hp) (C : Addr) (cl : List (Str × Addr)) (fp : List Addr), PG (X.blk s H scope (compEnvC scope cl C X.env) fp) tg (gP X.K p))
    (ht : ∀ (s : Shared) (H : Hp) (C : Addr) (cl : List (Str × Addr)) (fp : List Addr), PTs (X.blk s H scope (compEnvC scope cl C X.env) fp) ifs (rdT X.K T W0 fc))
    (he : ∀ (s : Shared) (H : Hp) (C : Addr) (cl : List (Str × Addr)) (fp : List Addr), PE (X.blk s H scope (compEnvC scope cl C X.env) fp) elt (rdE X.K T W0 fe)) (hs : ∀ x, foldedSetIterable iter X.env x = pure x) :
    PS X (.Assign [.Name y p2] (.ListComp elt [⟨tg, iter, ifs, 0⟩] scope p3) pos) (rdS X.K T W N F0 H0 fun st => ((fi (envS m st)).bind fun xs => (compD xs fun x =>
      (bindG putE p x (wipeD (envS m st) vs)).bind fun env' => (fc env').bind fun t => if t then (fe env').map some else .ok none).map D.lst).cf st (newS m st i)) := by
  subst hv
  exact ps_of (ps_setLc hc nd hy hyl hsw hi ok hg ht he hs) (asgN_imp (f := fun env => (fi env).bind fun xs => (compD xs fun x =>
      (bindG putE p x (wipeD env (own.map (·.2)))).bind fun env' => (fc env').bind fun t => if t then (fe env').map some else .ok none).map D.lst) fun σ H Q L h => lc_imp (W := W) hpi h)
/-- return of a new list -/
theorem ss_retN {e : Expr} {f : Env → R D} (he : PE X e (rdN X.K T W f)) : PS X (.Return (some e) pos) (rdS X.K T W true F0 H0 fun st => (f (envS true st)).cf st retL) := by
  refine ps_of (ps_ret he) fun D σ H L ⟨F, fp, st, R, q⟩ => ?_
  show rdN X.K T W f σ H D.rt
  refine cf_rdN (m := true) R q (fun d _ => ?_) fun ds p vs F' H' e1 _ g2 h1 h2 h3 h4 q2 => ?_
  · cases d <;> first | exact .inl ⟨_, rfl⟩ | exact .inr rfl
  · refine q2 ds p vs F' H' rfl ⟨(R.f0.trans R.all_f).trans (g2 rfl).f, (g2 rfl).s, R.h0.trans (g2 rfl).h, fun b o e => ?_⟩ (R.h0.free h1) h2 h3 h4
    rcases (g2 rfl).n b o e with z | z
    · exact R.all_n b o z
    · exact .inr (R.h0.free z)
theorem ownL_of {st : Py.St} {i : Nat} {k : List D → Cf} {D : Ends} (q : PostS X.K T W N F0 H0 D (ownL st i k)) : ∃ ds, st[i]? = some (.o 1 (.lst ds)) ∧ PostS X.K T W N F0 H0 D (k ds) := by
  unfold ownL at q
  split at q
  · rename_i ds e
    exact ⟨ds, e, q⟩
  · exact q.elim
/-- return of the list that a slot alone holds -/
theorem ss_retO {i : Nat} {x : Str} (hN : X.N[i]? = some x) (hv : Vis X.env.scope x) (hd : (x == ("__debug__" : Str)) = false) (hcd : (x == ("__classdict__" : Str)) = false) :
    PS X (.Return (some (.Name x p2)) pos) (rdS X.K T W true F0 H0 fun st => ownL st i fun ds => .rt (.lst ds)) := by
  refine ps_of (ps_ret (pe_var hN hv hd hcd)) fun D σ H L ⟨F, fp, st, R, q⟩ => ?_
  obtain ⟨ds, e, q⟩ := ownL_of q
  obtain ⟨v, h1, p, vs, rfl, h2, h3, h4⟩ := R.ow i 1 _ e
  obtain ⟨f1, f2, _⟩ := R.fF i p ((h4 p).mpr rfl)
  exact ⟨.ref p, h1, q ds p vs F H rfl ⟨R.f0, R.s, R.h0, R.n⟩ f2 f1 h2 h3⟩

/-! ### lists that change -/
theorem lst_ty {a : Addr} {H : Hp} {xs : List V} {K : PySem.W.Frag} (h : H a = some (.lst xs)) : tyV K "list" (.ref a) H := Or.inl ⟨rfl, _, Or.inl (Or.inl h)⟩
theorem ss_app {m : Bool} {i : Nat} {x : Str} {e : Expr} {f : Env → R D} {apos cpos : Pos} (hN : X.N[i]? = some x) (hv : Vis X.env.scope x) (hd : (x == ("__debug__" : Str)) = false) (hcd : (x == ("__classdict__" : Str)) = false) (hp : isPlain e = true)
    (hline : (apos.endLine == cpos.line) = true) (he : PE X e (rdE X.K T W f)) :
    PS X (.Expr (.Call (.Attribute (.Name x p2) "append" apos) [e] [] cpos) pos) (rdS X.K T W N F0 H0 fun st => ownL st i fun ds => (f (envS m st)).cf st fun d => if okM m d && decide (ds.length < cap) then .nx (st.set i (.o 1 (.lst (ds ++ [d])))) else .no) := by
  have ha : PA X [e] (tCons (rdE X.K T W f) tNil) := pa_cons he pa_nil (star_plain hp [] X.env)
  have st1 : starEach [e] X.env = [(false, eval e X.env)] := star_plain hp [] X.env
  have hb := pe_bm (cpos := cpos) (apos := apos) PySem.F.plainAttrs_list PySem.F.slot_list_append PySem.F.type_list_append (mt_append (X := X)) (pe_var (pos := p2) hN hv hd hcd) ha (by rfl) (by rw [st1]; rfl) hline st1 (by rfl)
  refine ps_of (ps_expr hb (by rfl)) fun D σ H L ⟨F, fp, st, R, q⟩ => ?_
  obtain ⟨ds, es, q⟩ := ownL_of q
  obtain ⟨v, h1, p, vs, rfl, h2, h3, h4⟩ := R.ow i 1 _ es
  refine ⟨.ref p, h1, lst_ty h2, ?_⟩
  show rdE X.K T W f σ H _
  refine cf_rd (rel := relD X.K T) (m := m) R q fun d u F' H' e1 g1 g2 r q2 => ?_
  split at q2
  · rename_i hm
    obtain ⟨hm, hl⟩ := Bool.and_eq_true_iff.mp hm
    obtain ⟨F2, R2, r2⟩ := keep R hm g1 g2 r
    obtain ⟨v', k1, p', vs', kr, k2, k3, k4⟩ := R2.ow i 1 _ es
    have hp : p = p' := by
      have z := (h4 p).mpr rfl
      exact (k4 p).mp z
    subst hp
    have hl : ds.length < cap := of_decide_eq_true hl
    exact ⟨p, vs', u, rfl, rfl, k2, lt_line (by rw [Reps.length k3]; exact hl), q2 F2 _ fp σ (R2.change ⟨1, _, es⟩ k4 (by rw [k1, kr]) (Reps.app k3 (Reps.one r2)))⟩
  · exact q2.elim
theorem ss_setI {m : Bool} {i : Nat} {x : Str} {e j : Expr} {f g : Env → R D} {tpos : Pos} (hN : X.N[i]? = some x) (hv : Vis X.env.scope x) (hd : (x == ("__debug__" : Str)) = false) (hcd : (x == ("__classdict__" : Str)) = false)
    (he : PE X e (rdE X.K T W f)) (hj : PE X j (rdE X.K T W g))
    (pg : ∀ {to ti : TE} {t : TSet}, PE X (.Name x p2) to → PE X j ti → PSet X t → PG X (.Subscript (.Name x p2) j tpos) (gSub to ti t))
    (hs : swapsWithSole [.Subscript (.Name x p2) j tpos] e pos.line X.env = pure false) (hw : swappedStores [.Subscript (.Name x p2) j tpos] e X.env = pure none) (h1 : (assignEach [.Subscript (.Name x p2) j tpos] X.env).map (·.2) = [assign (.Subscript (.Name x p2) j tpos) X.env]) :
    PS X (.Assign [.Subscript (.Name x p2) j tpos] e pos) (rdS X.K T W N F0 H0 fun st => ownL st i fun ds => (f (envS m st)).cf st fun d => if okM m d then (g (envS true st)).cf st fun k => atS ds.length k fun n => .nx (st.set i (.o 1 (.lst (ds.set n d)))) else .no) := by
  refine ps_of (ps_asg he (pg (pe_var (pos := p2) hN hv hd hcd) hj set_list) hs hw h1) fun D σ H L ⟨F, fp, st, R, q⟩ => ?_
  obtain ⟨ds, es, q⟩ := ownL_of q
  show rdE X.K T W f σ H _
  refine cf_rd (rel := relD X.K T) (m := m) R q fun d u F' H' e1 g1 g2 r q2 => ?_
  split at q2
  · rename_i hm
    obtain ⟨F2, R2, r2⟩ := keep R hm g1 g2 r
    obtain ⟨v', k1, p, vs', kr, k2, k3, k4⟩ := R2.ow i 1 _ es
    subst kr
    refine ⟨.ref p, k1, ?_⟩
    show rdE X.K T W g σ H' _
    refine cf_rd (rel := relD X.K T) (m := true) R2 q2 fun k y F3 H3 e3 _ g4 r3 q3 => ?_
    unfold atS at q3
    split at q3
    · split at q3
      · rename_i n hn nn hix
        cases r3
        have hH := (g4 rfl).h
        have R3 := R2.only hH
        obtain ⟨v'', m1, p'', vs'', mr, m2, m3, m4⟩ := R3.ow i 1 _ es
        have hp : p = p'' := (m4 p).mp ((k4 p).mpr rfl)
        subst hp
        refine ⟨p, vs'', _, nn, rfl, rfl, m2, ?_, q3 F2 _ fp σ (R3.change ⟨1, _, es⟩ m4 (by rw [m1, mr]) (Reps.set r2 nn m3))⟩
        rw [Reps.length m3]
        exact hix
      · exact q3.elim
    · exact q3.elim
  · exact q2.elim
/-- x op= e -/
theorem ss_aug {o : BOp} {i : Nat} {x : Str} {e : Expr} {f : Env → R D} (ho : o = .add ∨ o = .sub ∨ o = .mul) (hN : X.N.Nodup) (hi : X.N[i]? = some x) (hx : Loc X.env.scope x) (hf : X.fn x = true ∨ X.env.scope.names.lookup x = some .local) (he : PE X e (rdE X.K T W f)) :
    PS X (.AugAssign (.Name x p2) (bop o) e pos) (rdS X.K T W N F0 H0 fun st => (Env.get (envS true st) i).cf st fun a => (f (envS true st)).cf st fun b => (binD o a b).cf st fun z => if z.scalar then .nx (st.set i (.v z)) else .no) := by
  have ip : PIp X (bop o) (fun x y H Q => ∃ F a b, Same F H ∧ Rep X.K T F a x ∧ Rep X.K T F b y ∧ ∃ z, binD o a b = .ok z ∧ z.scalar = true ∧ ∀ v, Rep X.K T F z v → Q v H) := by
    intro pins s σ H x y v u Q I rx ry ⟨F, a, b, sF, ra, rb, z, e1, hz, q⟩
    rcases ho with rfl | rfl | rfl
    · cases a <;> cases b <;> first | (cases e1; done) | skip
      · cases ra
        cases rb
        cases e1
        exact iop_add pins s σ H _ _ v u Q I rx ry ⟨_, _, rfl, rfl, q _ rfl⟩
      · rename_i s1 t1
        have e1 : (if s1.length + t1.length ≤ cap then R.ok (D.str (s1 ++ t1)) else .no) = .ok z := e1
        split at e1
        · rename_i hl
          cases ra
          cases rb
          cases e1
          refine iop_add_str pins s σ H _ _ v u Q I rx ry ⟨_, _, rfl, rfl, le_line hl, ?_⟩
          rw [str_cat]
          exact q _ rfl
        · cases e1
      · rename_i s1 t1
        have e1 : (if s1.length + t1.length ≤ cap then R.ok (D.tup (s1 ++ t1)) else .no) = .ok z := e1
        split at e1
        · cases e1
          cases hz
        · cases e1
      · rename_i s1 t1
        have e1 : (if s1.length + t1.length ≤ cap then R.ok (D.lst (s1 ++ t1)) else .no) = .ok z := e1
        split at e1
        · cases e1
          cases hz
        · cases e1
    · cases a <;> cases b <;> first | (cases e1; done) | skip
      cases ra
      cases rb
      cases e1
      exact iop_sub pins s σ H _ _ v u Q I rx ry ⟨_, _, rfl, rfl, q _ rfl⟩
    · cases a <;> cases b <;> first | (cases e1; done) | skip
      · rename_i i1 j1
        have e1 : (if mulOk i1 j1 then R.ok (D.int (i1 * j1)) else .no) = .ok z := e1
        split at e1
        · rename_i hm
          cases ra
          cases rb
          cases e1
          refine iop_mul pins s σ H _ _ v u Q I rx ry ⟨_, _, rfl, rfl, ?_, q _ rfl⟩
          unfold mulOk at hm
          rw [Bool.or_eq_true, decide_eq_true_eq, decide_eq_true_eq] at hm
          unfold CMul
          omega
        · cases e1
      · rename_i s1 n
        have e1 : (if -1000 ≤ n ∧ n ≤ 1000 ∧ s1.length ≤ 1000 ∧ s1 ≠ [] then R.ok (D.tup (repD s1 n)) else .no) = .ok z := e1
        split at e1
        · cases e1
          cases hz
        · cases e1
      · rename_i s1 n
        have e1 : (if n ≤ (cap : Int) ∧ -(cap : Int) ≤ n ∧ s1.length * n.toNat ≤ cap then R.ok (D.lst (repD s1 n)) else .no) = .ok z := e1
        split at e1
        · cases e1
          cases hz
        · cases e1
  refine ps_of (ps_aug hN hi hx he ip hf) fun D σ H L ⟨F, fp, st, R, q⟩ => ?_
  have vT := R.vwT
  cases hg : Env.get (envS true st) i with
  | ok a =>
    rw [hg] at q
    have ha : (envS true st).l[i]? = some (some a) := by
      unfold Env.get at hg
      split at hg
      · rename_i d e
        cases hg
        exact e
      · cases hg
    obtain ⟨v, h1, r1⟩ := vT.g i a ha
    refine ⟨v, h1, ?_⟩
    have q : PostS X.K T W N F0 H0 D ((f (envS true st)).cf st fun b => (binD o a b).cf st fun z => if z.scalar then .nx (st.set i (.v z)) else .no) := q
    refine cf_rd (rel := relD X.K T) (m := true) R q fun b u F' H' e1 _ g2 r q2 => ?_
    cases hb : binD o a b with
    | ok z =>
      rw [hb] at q2
      have q2 : PostS X.K T W N F0 H0 D (if z.scalar then .nx (st.set i (.v z)) else .no) := q2
      split at q2
      · rename_i hz
        exact ⟨F', a, b, (g2 rfl).s, Rep.mono (g2 rfl).f r1, r, z, hb, hz, fun w rw_ => q2 F H' _ _ ((R.only (g2 rfl).h).put (Rep.scalar hz rw_))⟩
      · exact q2.elim
    | ex c fs => exact absurd hb (bin_noex o a b c fs)
    | no =>
      rw [hb] at q2
      exact q2.elim
  | ex c fs =>
    unfold Env.get at hg
    split at hg <;> cases hg
  | no =>
    rw [hg] at q
    exact q.elim
where
  bin_noex (o : BOp) (a b : D) (c : Nat) (fs : List D) : binD o a b ≠ .ex c fs := by
    intro h
    unfold binD at h
    repeat' split at h
    all_goals cases h
end
end Py

namespace Py
open PySem L2

section
variable {K : PySem.W.Frag} {T : Tab} {F0 F1 H0 F H : Hp} {fp : Nat → Addr → Prop} {σ : L2.St} {st : Py.St}
/-- the ground moves up -/
theorem StR.up (R : StR K T F0 H0 F H fp σ st) : StR K T F H0 F H fp σ st := ⟨R.s, R.h0, Same.refl F, fun _ _ e => .inl e, R.l, R.fr, R.ow, R.no, R.dj, R.fF⟩
theorem StR.down (R : StR K T F1 H0 F H fp σ st) (h : Same F0 F1) (n : ∀ b o, F1 b = some o → F0 b = some o ∨ H0 b = none) : StR K T F0 H0 F H fp σ st := ⟨R.s, R.h0, h.trans R.f0, fun b o e => by
  rcases R.n b o e with q | q
  · exact n b o q
  · exact .inr q, R.l, R.fr, R.ow, R.no, R.dj, R.fF⟩
theorem Grow.down (g : Grow F1 H0 F H) (h : Same F0 F1) (n : ∀ b o, F1 b = some o → F0 b = some o ∨ H0 b = none) : Grow F0 H0 F H := ⟨h.trans g.f, g.s, g.h, fun b o e => by
  rcases g.n b o e with q | q
  · exact n b o q
  · exact .inr q⟩
end
section
variable {X : Cx} {T : Tab} {W : WX} {N : Bool} {F0 H0 : Hp} {pos p2 p3 : Pos}
/-- the end of a block moves down, and what follows is changed -/
theorem PostS.down {F1 : Hp} {D D' : Ends} {r r' : Cf} (h : Same F0 F1) (n : ∀ b o, F1 b = some o → F0 b = some o ∨ H0 b = none)
    (hn : ∀ st, r = .nx st → ∀ F H fp σ, StR X.K T F0 H0 F H fp σ st → Same F1 F → D'.nx σ H) (hb : ∀ st, r = .bk st → ∀ F H fp σ, StR X.K T F0 H0 F H fp σ st → Same F1 F → D'.bk σ H) (hc : ∀ st, r = .ct st → ∀ F H fp σ, StR X.K T F0 H0 F H fp σ st → Same F1 F → D'.ct σ H)
    (hr : ∀ d, r = .rt d → PostS X.K T W N F0 H0 D' (.rt d)) (hx : ∀ c fs st, r = .ex c fs st → PostS X.K T W N F0 H0 D' (.ex c fs st)) (ho : r ≠ .no) : PostS X.K T W N F1 H0 D' r := by
  cases r with
  | nx st => exact fun F H fp σ R => hn st rfl F H fp σ (R.down h n) R.f0
  | bk st => exact fun F H fp σ R => hb st rfl F H fp σ (R.down h n) R.f0
  | ct st => exact fun F H fp σ R => hc st rfl F H fp σ (R.down h n) R.f0
  | rt d =>
    have q := hr d rfl
    cases N with
    | false => exact fun v F H g r => q v F H (g.down h n) r
    | true => exact fun ds p vs F H e g => q ds p vs F H e (g.down h n)
  | ex c fs st => exact fun dx F H fp σ R x => hx c fs st rfl dx F H fp σ (R.down h n) x
  | no => exact absurd rfl ho

/-! ### loops -/
def forB (p : Pat) (fb : Py.St → Cf) : D → Py.St → Cf := fun x st => (bindP p x st).cf st fun st' => fb st'
theorem ss_for_core {m : Bool} {tg iter : Expr} {body : List Stmt} {p : Pat} {fi : Env → R (List D)} {fb : Py.St → Cf} {wi : TI} {rel : Hp → List D → L2.It → Prop} (hp : PassesOwn (model X.prog X.w) X.A X.env X.xe) (hc : X.calm = true)
    (hi : PI X tg iter (rdG X.K T W rel fi)) (hy : ∀ F H F' H' fp σ st ds J, StR X.K T F0 H0 F H fp σ st → (m = false → Grow F H F' H') → (m = true → Grow (allF F H fp) H F' H') → rel F' ds J → ∃ F'', StR X.K T F0 H0 F'' H' fp σ st ∧ Yields X.K T J F'' ds)
    (hg : PG X tg (gP X.K p)) (hb : ∀ F0, PSs X body (rdS X.K T W N F0 H0 fb)) (hs : ∀ x, foldedSetIterable iter X.env x = pure x) :
    PS X (.For tg iter body [] pos) (rdS X.K T W N F0 H0 fun st => (fi (envS m st)).cf st fun xs => forD xs (forB p fb) st) := by
  have hb' : PSs X body (fun D σ H => ∃ F1, rdS X.K T W N F1 H0 fb D σ H) := ⟨fun pins s σ H D I ⟨F1, q⟩ => (hb F1).run pins s σ H D I q⟩
  refine ps_of (ps_for hp hc hi hg hb' hs) fun D σ H L ⟨F, fp, st, R, q⟩ => ?_
  show rdG X.K T W rel fi σ H _
  refine cf_rd (rel := rel) (m := m) R q fun ds J F' H' e1 g1 g2 r q2 => ?_
  obtain ⟨F1, R1, y⟩ := hy F H F' H' fp σ st ds J R g1 g2 r
  refine ⟨fun i k σ' H'' => ∃ F2 fp2 st2, StR X.K T F0 H0 F2 H'' fp2 σ' st2 ∧ Same F1 F2 ∧ i ≤ ds.length ∧ k = ds.length - i ∧ PostS X.K T W N F0 H0 D (forD (ds.drop i) (forB p fb) st2),
    ⟨ds.length, F1, fp, st, R1, Same.refl _, Nat.zero_le _, rfl, q2⟩, ?_⟩
  rintro i k σ' H'' ⟨F2, fp2, st2, R2, hS, hi1, rfl, q3⟩
  by_cases hlt : i < ds.length
  · refine .inr ⟨y.go i H'' (hS.trans R2.s) hlt, fun σ3 H3 => ∃ F3 fp3 st3, StR X.K T F0 H0 F3 H3 fp3 σ3 st3 ∧ Same F1 F3 ∧ i + 1 ≤ ds.length ∧ PostS X.K T W N F0 H0 D (forD (ds.drop (i + 1)) (forB p fb) st3), fun σ3 H3 ⟨F3, fp3, st3, a1, a2, a3, a4⟩ => ⟨ds.length - (i + 1), by omega, F3, fp3, st3, a1, a2, a3, rfl, a4⟩, fun x H3 hyl => ?_⟩
    have e : ds[i]? = some ds[i] := List.getElem?_eq_getElem hlt
    obtain ⟨G2, g3, r3⟩ := y.yld i F2 H'' x H3 _ hS R2.s e hyl
    rw [List.drop_eq_getElem_cons hlt] at q3
    have R3 := R2.grow g3
    cases hbd : bindP p ds[i] st2 with
    | ok st4 =>
      refine gP_ok (put := putP) (F := G2) (Pr := fun σ' s' => ∃ fp', StR X.K T F0 H0 G2 H3 fp' σ' s') R3.s p (fun j v d σ1 a _ hr ⟨fp', Ra⟩ => ⟨_, Ra.put hr⟩) r3 hbd ⟨fp2, R3⟩ fun σ4 ⟨fp4, R4⟩ => ?_
      have q4 : PostS X.K T W N F0 H0 D (match fb st4 with
        | .nx st' => forD (ds.drop (i + 1)) (forB p fb) st'
        | .ct st' => forD (ds.drop (i + 1)) (forB p fb) st'
        | .bk st' => .nx st'
        | r => r) := by
        have z : forD (ds[i] :: ds.drop (i + 1)) (forB p fb) st2 = (match forB p fb ds[i] st2 with
          | .nx st' => forD (ds.drop (i + 1)) (forB p fb) st'
          | .ct st' => forD (ds.drop (i + 1)) (forB p fb) st'
          | .bk st' => .nx st'
          | r => r) := rfl
        rw [z] at q3
        have w : forB p fb ds[i] st2 = fb st4 := by
          unfold forB
          rw [hbd]
          rfl
        rw [w] at q3
        exact q3
      refine ⟨G2, fun _ => ⟨G2, fp4, st4, R4.up, ?_⟩⟩
      have n2 : ∀ b o, G2 b = some o → F0 b = some o ∨ H0 b = none := R4.n
      refine PostS.down (D := D) (r' := .no) R4.f0 n2 (fun st5 e5 F5 H5 fp5 σ5 R5 h5 => ?_) (fun st5 e5 F5 H5 fp5 σ5 R5 h5 => ?_) (fun st5 e5 F5 H5 fp5 σ5 R5 h5 => ?_) (fun d e5 => ?_) (fun c fs st5 e5 => ?_) (fun e5 => ?_)
      · rw [e5] at q4
        exact ⟨F5, fp5, st5, R5, (hS.trans g3.f).trans h5, hlt, q4⟩
      · rw [e5] at q4
        exact q4 F5 H5 fp5 σ5 R5
      · rw [e5] at q4
        exact ⟨F5, fp5, st5, R5, (hS.trans g3.f).trans h5, hlt, q4⟩
      · rw [e5] at q4
        exact q4
      · rw [e5] at q4
        exact q4
      · rw [e5] at q4
        exact q4.elim
    | ex c fs => exact absurd hbd (bindG_noex p _ _ c fs)
    | no =>
      have z : forD (ds[i] :: ds.drop (i + 1)) (forB p fb) st2 = .no := by
        show (match forB p fb ds[i] st2 with
          | .nx st' => forD (ds.drop (i + 1)) (forB p fb) st'
          | .ct st' => forD (ds.drop (i + 1)) (forB p fb) st'
          | .bk st' => .nx st'
          | r => r) = .no
        have w : forB p fb ds[i] st2 = .no := by
          unfold forB
          rw [hbd]
          rfl
        rw [w]
      rw [z] at q3
      exact q3.elim
  · have hi2 : i = ds.length := by omega
    refine .inl ⟨y.stop i H'' (hS.trans R2.s) (by omega), ?_⟩
    rw [hi2, List.drop_length] at q3
    exact q3 F2 H'' fp2 σ' R2
theorem ss_for {tg iter : Expr} {body : List Stmt} {p : Pat} {fi : Env → R (List D)} {fb : Py.St → Cf} (hp : PassesOwn (model X.prog X.w) X.A X.env X.xe) (hc : X.calm = true)
    (hi : PI X tg iter (rdI X.K T W fi)) (hg : PG X tg (gP X.K p)) (hb : ∀ F0, PSs X body (rdS X.K T W N F0 H0 fb)) (hs : ∀ x, foldedSetIterable iter X.env x = pure x) :
    PS X (.For tg iter body [] pos) (rdS X.K T W N F0 H0 fun st => (fi (envS false st)).cf st fun xs => forD xs (fun x st => (bindP p x st).cf st fun st' => fb st') st) :=
  ss_for_core (m := false) (wi := fun _ _ _ => True) (rel := relI X.K T) hp hc hi (fun F H F' H' fp σ st ds J R g1 _ y => ⟨F', R.grow (g1 rfl), y⟩) hg hb hs
theorem ss_forR {tg iter : Expr} {body : List Stmt} {p : Pat} {fi : Env → R (List D)} {fb : Py.St → Cf} (hp : PassesOwn (model X.prog X.w) X.A X.env X.xe) (hc : X.calm = true)
    (hi : PI X tg iter (rdR X.K T W fi)) (hg : PG X tg (gP X.K p)) (hb : ∀ F0, PSs X body (rdS X.K T W N F0 H0 fb)) (hs : ∀ x, foldedSetIterable iter X.env x = pure x) :
    PS X (.For tg iter body [] pos) (rdS X.K T W N F0 H0 fun st => (fi (envS true st)).cf st fun xs => forD xs (fun x st => (bindP p x st).cf st fun st' => fb st') st) :=
  ss_for_core (m := true) (wi := fun _ _ _ => True) (rel := relR X.K T) hp hc hi (fun F H F' H' fp σ st ds J R _ g2 y => ⟨F, R.only (g2 rfl).h, y F⟩) hg hb hs
theorem ss_while {c : Expr} {body : List Stmt} {fc : Env → R Bool} {fb : Py.St → Cf} (hp : PassesOwn (model X.prog X.w) X.A X.env X.xe) (hc : PT X c (rdT X.K T W fc)) (hb : PSs X body (rdS X.K T W N F0 H0 fb)) :
    PS X (.While c body [] pos) (rdS X.K T W N F0 H0 fun st => whileD cap (fun st => fc (envS true st)) fb st) := by
  refine ps_of (ps_while hp hc hb) fun D σ H L ⟨F, fp, st, R, q⟩ => ?_
  refine ⟨fun m σ' H' => ∃ F2 fp2 st2, StR X.K T F0 H0 F2 H' fp2 σ' st2 ∧ PostS X.K T W N F0 H0 D (whileD m (fun st => fc (envS true st)) fb st2), ⟨cap, F, fp, st, R, q⟩, ?_⟩
  rintro m σ' H' ⟨F2, fp2, st2, R2, q2⟩
  cases m with
  | zero => exact q2.elim
  | succ m =>
    have z : whileD (m + 1) (fun st => fc (envS true st)) fb st2 = (fc (envS true st2)).cf st2 (fun t => if t then (match fb st2 with
      | .nx st' => whileD m (fun st => fc (envS true st)) fb st'
      | .ct st' => whileD m (fun st => fc (envS true st)) fb st'
      | .bk st' => .nx st'
      | r => r) else .nx st2) := by
      show (match fc (envS true st2) with
        | .ok true => (match fb st2 with
          | .nx st' => whileD m (fun st => fc (envS true st)) fb st'
          | .ct st' => whileD m (fun st => fc (envS true st)) fb st'
          | .bk st' => .nx st'
          | r => r)
        | .ok false => .nx st2
        | .ex c fs => .ex c fs st2
        | .no => .no) = _
      cases fc (envS true st2) with
      | ok t => cases t <;> rfl
      | ex c fs => rfl
      | no => rfl
    rw [z] at q2
    show rdT X.K T W fc σ' H' _
    refine cf_rd (rel := relB) (m := true) R2 q2 fun t t' F' H2 e1 _ g2 r q3 => ?_
    have r : t = t' := r
    subst r
    have R3 := R2.only (g2 rfl).h
    cases t with
    | true =>
      refine iteT ⟨fun σ3 H3 => ∃ F3 fp3 st3, StR X.K T F0 H0 F3 H3 fp3 σ3 st3 ∧ PostS X.K T W N F0 H0 D (whileD m (fun st => fc (envS true st)) fb st3), fun σ3 H3 h => ⟨m, Nat.lt_succ_self m, h⟩, fun _ => ⟨F2, fp2, st2, R3, ?_⟩⟩
      have q3 : PostS X.K T W N F0 H0 D (match fb st2 with
        | .nx st' => whileD m (fun st => fc (envS true st)) fb st'
        | .ct st' => whileD m (fun st => fc (envS true st)) fb st'
        | .bk st' => .nx st'
        | r => r) := q3
      cases hf : fb st2 with
      | nx st' =>
        rw [hf] at q3
        exact fun F4 H4 fp4 σ4 R4 => ⟨F4, fp4, st', R4, q3⟩
      | ct st' =>
        rw [hf] at q3
        exact fun F4 H4 fp4 σ4 R4 => ⟨F4, fp4, st', R4, q3⟩
      | bk st' =>
        rw [hf] at q3
        exact q3
      | rt d =>
        rw [hf] at q3
        exact q3
      | ex c fs st' =>
        rw [hf] at q3
        exact q3
      | no =>
        rw [hf] at q3
        exact q3
    | false => exact iteF (q3 F2 H2 fp2 σ' R3)

/-! ### raise -/
/-- x is an own exception class without __init__, the c-th -/
structure ExcOk (P : Program) (w : World) (K : PySem.W.Frag) (mg : Str → Option Value) (T : Tab) (x : String) (c : Nat) : Prop where
  g : mg (x : Str) = some (.ref (T.addr c))
  x : PySem.W.excIn K (T.addr c) [.type "ValueError", .type "Exception", .type "BaseException", .type "object"] "ValueError.__new__" = true
  k : PySem.W.keepIn K (.ref (T.addr c)) = true
  s : PySem.W.subIn K (.ref (T.addr c)) (.type "BaseException") = some true
  t : PySem.W.typeIn K (.ref (T.addr c)) = some (.type "type")
theorem ss_raise {x : String} {c : Nat} {m : Str} {j : Nat} {p4 : Pos} (E : ExcOk X.prog X.w X.K X.mg T x c) (hc : X.calm = true) (tk : Takes X W) (hg : Gl X (x : Str)) (hd : ((x : Str) == ("__debug__" : Str)) = false) :
    PS X (.Raise (some (.Call (.Name (x : Str) p2) [.Constant (.str m) j p3] [] p4)) none pos) (rdS X.K T W N F0 H0 fun st => .ex c [] st) := by
  refine ps_of (ps_raise hc tk (pmk_own PySem.F.excBase_ValueError E.x E.g E.k (raises_own E.s E.t) hg hd)) fun D σ H L ⟨F, fp, st, R, q⟩ => ?_
  exact q none F H fp σ R (.inl ⟨rfl, rfl⟩)
end
end Py

namespace Py
open PySem L2

/-! ### isinstance -/
def tyN : D → String
  | .non => "NoneType" | .bool _ => "bool" | .int _ => "int" | .str _ => "str" | .tup _ => "tuple" | _ => "list"
def plainD : D → Bool
  | .non => true | .bool _ => true | .int _ => true | .str _ => true | .tup _ => true | .lst _ => true | _ => false
theorem tyD_noex (t : Ty) (d : D) (c : Nat) (fs : List D) : tyD t d ≠ .ex c fs := by
  intro h
  unfold tyD at h
  repeat' split at h
  all_goals cases h
theorem tyX_of {K : PySem.W.Frag} {T : Tab} {F H : Hp} {d : D} {v : V} (s : Same F H) (r : Rep K T F d v) (h : plainD d = true) : TyX K H v (.type (tyN d)) := by
  cases d <;> first | (cases h; done) | skip
  · cases r
    exact .base .non
  · cases r
    exact .base (.bl _)
  · cases r
    exact .base (.int _)
  · cases r
    exact .base (.str _)
  · obtain ⟨a, vs, rfl, h1, _⟩ := r
    rcases sameT s h1 with (h2 | ⟨o, h2⟩) | ⟨o, its, n, h2, h3, _⟩
    · exact .base (.tup h2)
    · exact .fTuple h2
    · exact .kTuple h2 h3
  · obtain ⟨a, vs, rfl, h1, _⟩ := r
    exact .base (.lst (s _ _ h1))
def tyB : Ty → Option String
  | .int => some "int" | .bool => some "bool" | .str => some "str" | .tuple => some "tuple" | .list => some "list" | _ => none
section
variable {X : Cx} {T : Tab} {W : WX} {pos p2 p3 : Pos}
theorem kit_all : ∀ t : Ty, ∀ b, tyB t = some b → ∀ d : D, ∀ k, tyD t d = .ok k → plainD d = true ∧ kitB (tyN d) b = some k := by
  intro t b hb d k hk
  cases t <;> first | (cases hb; done) | skip
  all_goals (
    cases hb
    cases d <;> first | (cases hk; done) | skip
    all_goals (
      refine ⟨rfl, ?_⟩
      cases hk
      dsimp only [tyN]
      decide +kernel))
theorem boot_ty : ∀ t b, tyB t = some b → bootBuiltins ((b : String) : Str) = some (.type b) ∧ ((b : String) : Str) ≠ "__name__" ∧ (((b : String) : Str) == ("__debug__" : Str)) = false := by
  intro t b h
  cases t <;> first | (cases h; done) | skip
  all_goals (
    cases h
    exact ⟨by decide +kernel, by decide +kernel, by decide +kernel⟩)
theorem isi_boot : bootBuiltins ("isinstance" : Str) = some (.builtin "isinstance") := by decide +kernel
/-- isinstance(e, T), T a built-in type -/
theorem s_isin {t : Ty} {b : String} {e : Expr} {f : Env → R D} (ht : tyB t = some b) (hg : Gl X ("isinstance" : Str)) (hm : X.mg ("isinstance" : Str) = none) (hg2 : Gl X ((b : String) : Str)) (hm2 : X.mg ((b : String) : Str) = none) (hp : isPlain e = true) (he : PE X e (rdE X.K T W f)) :
    PE X (.Call (.Name ("isinstance" : Str) p2) [e, .Name ((b : String) : Str) p3] [] pos) (rdE X.K T W fun env => (f env).bind fun x => (tyD t x).map D.bool) := by
  obtain ⟨b1, b2, b3⟩ := boot_ty t b ht
  have ha : PA X [e, .Name ((b : String) : Str) p3] (tCons (rdE X.K T W f) (tCons (tC (.ty b)) tNil)) := pa_cons he (pa_cons (pe_bltn hg2 hm2 b1 rfl b2 b3) pa_nil (by rfl)) (star_plain hp _ X.env)
  refine pe_of (pe_callB call_isi hg hm isi_boot ha (by decide +kernel) (by decide +kernel) (star_plain hp _ X.env) (by rfl)) fun σ H Q _ ⟨F, env, vw, q⟩ => ?_
  refine vw.rd (Post.imp (Post.bind (rel := relD X.K T) q) fun x H1 ⟨F1, d1, e1, g1, r1, q1⟩ => ?_)
  cases hk : tyD t d1 with
  | ok k =>
    rw [hk] at q1
    obtain ⟨h1, h2⟩ := kit_all t b ht d1 k hk
    exact ⟨x, .ty b, .type (tyN d1), .type b, k, rfl, .ty b, tyX_of g1.s r1 h1, kit_ty h2, Post.ok g1.s q1 rfl⟩
  | ex c fs => exact absurd hk (tyD_noex t d1 c fs)
  | no =>
    rw [hk] at q1
    exact q1.elim
/-- isinstance(e, X), e the exception that the suite holds -/
structure IsExc (K : PySem.W.Frag) (mg : Str → Option Value) (T : Tab) (x : String) (cs al : List Nat) : Prop where
  g : ∃ C, mg (x : Str) = some (.ref C) ∧ ∀ c, al.contains c = true → PySem.W.kitOne K (.ref (T.addr c)) (.ref C) = some (cs.contains c)
theorem s_isexc {x : String} {cs al : List Nat} {e : Expr} {f : Env → R D} (E : IsExc X.K X.mg T x cs al) (hi : ∀ a c, T.exc a = some (c, []) → CallR X (.builtin "isinstance") (rIsE X.K (T.addr c) a)) (hg : Gl X ("isinstance" : Str)) (hm : X.mg ("isinstance" : Str) = none)
    (hg2 : Gl X (x : Str)) (hd : ((x : Str) == ("__debug__" : Str)) = false) (hp : isPlain e = true) (he : PE X e (rdE X.K T W f)) :
    PE X (.Call (.Name ("isinstance" : Str) p2) [e, .Name (x : Str) p3] [] pos) (rdE X.K T W fun env => (f env).bind fun y => (tyD (.exc x cs al) y).map D.bool) := by
  obtain ⟨C, hC, hk⟩ := E.g
  have ha : PA X [e, .Name (x : Str) p3] (tCons (rdE X.K T W f) (tCons (tC (.ref C)) tNil)) := pa_cons he (pa_cons (pe_glob hg2 hC rfl hd) pa_nil (by rfl)) (star_plain hp _ X.env)
  have cr : CallR X (.builtin "isinstance") (fun xs H Q => ∃ a c, T.exc a = some (c, []) ∧ rIsE X.K (T.addr c) a xs H Q) := by
    intro pins s σ H xs us Q I r ⟨a, c, h1, h2⟩
    exact hi a c h1 pins s σ H xs us Q I r h2
  refine pe_of (pe_callB cr hg hm isi_boot ha (by decide +kernel) (by decide +kernel) (star_plain hp _ X.env) (by rfl)) fun σ H Q _ ⟨F, env, vw, q⟩ => ?_
  refine vw.rd (Post.imp (Post.bind (rel := relD X.K T) q) fun y H1 ⟨F1, d1, e1, g1, r1, q1⟩ => ?_)
  cases d1 <;> first | exact q1.elim | skip
  rename_i c fs
  obtain ⟨a, rfl, hx⟩ := r1
  cases fs with
  | cons _ _ => exact q1.elim
  | nil =>
  have q1 : Post X.K T (relD X.K T) _ F1 H1 (R.map D.bool (if al.contains c then .ok (cs.contains c) else .no)) Q := q1
  split at q1
  · rename_i hc
    exact ⟨a, c, hx, .ref C, .ref C, cs.contains c, rfl, fun u h => h, hk c hc, Post.ok g1.s q1 rfl⟩
  · exact q1.elim
end

/-! ### try -/
mutual
theorem Rep.toX {K : PySem.W.Frag} {T T' : Tab} {F : Hp} (ha : T'.addr = T.addr) (hf : T'.flds = T.flds) (hx : ∀ b, T.exc b = none) : ∀ {d : D} {v : V}, Rep K T F d v → Rep K T' F d v
  | .non, _, h => h
  | .bool _, _, h => h
  | .int _, _, h => h
  | .str _, _, h => h
  | .tup ds, _, ⟨a, vs, h1, h2, h3⟩ => ⟨a, vs, h1, h2, Reps.toX ha hf hx h3⟩
  | .lst ds, _, ⟨a, vs, h1, h2, h3⟩ => ⟨a, vs, h1, h2, Reps.toX ha hf hx h3⟩
  | .scr ns, _, h => h
  | .set _, _, h => h.elim
  | .dict _ _, _, ⟨a, h1, h⟩ => ⟨a, h1, by
    rcases h with ⟨kvs, h2, h3, h4⟩ | ⟨kvs, h2, h3, h4⟩
    · exact .inl ⟨kvs, h2, h3, Reps.toX ha hf hx h4⟩
    · exact .inr ⟨kvs, h2, h3, Reps.toX ha hf hx h4⟩⟩
  | .exc _ _, _, ⟨a, h1, h2⟩ => by
    rw [hx a] at h2
    cases h2
  | .obj c ds, _, ⟨a, dx, vs, h1, h2, h4, h3⟩ => ⟨a, dx, vs, h1, by rw [ha, hf]; exact h2, by rw [hf]; exact h4, Reps.toX ha hf hx h3⟩
theorem Reps.toX {K : PySem.W.Frag} {T T' : Tab} {F : Hp} (ha : T'.addr = T.addr) (hf : T'.flds = T.flds) (hx : ∀ b, T.exc b = none) : ∀ {ds : List D} {vs : List V}, Reps K T F ds vs → Reps K T' F ds vs
  | [], _, h => h
  | d :: ds, _, ⟨v, r, h1, h2, h3⟩ => ⟨v, r, h1, Rep.toX ha hf hx h2, Reps.toX ha hf hx h3⟩
end
mutual
theorem Rep.ofX {K : PySem.W.Frag} {T T' : Tab} {F : Hp} (ha : T'.addr = T.addr) (hf : T'.flds = T.flds) : ∀ {d : D} {v : V}, d.noexc = true → Rep K T' F d v → Rep K T F d v
  | .non, _, _, h => h
  | .bool _, _, _, h => h
  | .int _, _, _, h => h
  | .str _, _, _, h => h
  | .tup ds, _, n, ⟨a, vs, h1, h2, h3⟩ => ⟨a, vs, h1, h2, Reps.ofX ha hf (show D.noexcs ds = true from n) h3⟩
  | .lst ds, _, n, ⟨a, vs, h1, h2, h3⟩ => ⟨a, vs, h1, h2, Reps.ofX ha hf (show D.noexcs ds = true from n) h3⟩
  | .scr ns, _, _, h => h
  | .set _, _, _, h => h.elim
  | .dict ks ds, _, n, ⟨a, h1, h⟩ => ⟨a, h1, by
    have n' : (D.noexcs ks && D.noexcs ds) = true := n
    have n2 := (Bool.and_eq_true_iff.mp n').2
    rcases h with ⟨kvs, h2, h3, h4⟩ | ⟨kvs, h2, h3, h4⟩
    · exact .inl ⟨kvs, h2, h3, Reps.ofX ha hf n2 h4⟩
    · exact .inr ⟨kvs, h2, h3, Reps.ofX ha hf n2 h4⟩⟩
  | .exc _ _, _, n, _ => by cases n
  | .obj c ds, _, n, ⟨a, dx, vs, h1, h2, h4, h3⟩ => ⟨a, dx, vs, h1, by rw [← ha, ← hf]; exact h2, by rw [← hf]; exact h4, Reps.ofX ha hf (show D.noexcs ds = true from n) h3⟩
theorem Reps.ofX {K : PySem.W.Frag} {T T' : Tab} {F : Hp} (ha : T'.addr = T.addr) (hf : T'.flds = T.flds) : ∀ {ds : List D} {vs : List V}, D.noexcs ds = true → Reps K T' F ds vs → Reps K T F ds vs
  | [], _, _, h => h
  | d :: ds, _, n, ⟨v, r, h1, h2, h3⟩ => by
    have n' : (D.noexc d && D.noexcs ds) = true := n
    obtain ⟨n1, n2⟩ := Bool.and_eq_true_iff.mp n'
    exact ⟨v, r, h1, Rep.ofX ha hf n1 h2, Reps.ofX ha hf n2 h3⟩
end
section
variable {K : PySem.W.Frag} {T T' : Tab} {F0 H0 F H : Hp} {fp : Nat → Addr → Prop} {σ : L2.St} {st : Py.St}
theorem StR.toX (R : StR K T F0 H0 F H fp σ st) (hme : T'.me = T.me) (ha : T'.addr = T.addr) (hf : T'.flds = T.flds) (hx : ∀ b, T.exc b = none) : StR K T' F0 H0 F H fp σ st :=
  ⟨R.s, R.h0, R.f0, R.n, R.l, fun i d e => by
    obtain ⟨v, a, b⟩ := R.fr i d e
    exact ⟨v, a, Rep.toX ha hf hx b⟩, fun i k d e => by
    obtain ⟨v, a, b⟩ := R.ow i k d e
    refine ⟨v, a, ?_⟩
    unfold Own at b ⊢
    split at b
    · obtain ⟨p, vs, h1, h2, h3, h4⟩ := b
      exact ⟨p, vs, h1, h2, Reps.toX ha hf hx h3, h4⟩
    · obtain ⟨dx, vs, h1, h2, h5, h3, h4⟩ := b
      rw [hme, ha, hf]
      exact ⟨dx, vs, h1, h2, h5, Reps.toX ha hf hx h3, h4⟩
    · exact b.elim, R.no, R.dj, R.fF⟩
theorem StR.ofX (R : StR K T' F0 H0 F H fp σ st) (hme : T'.me = T.me) (ha : T'.addr = T.addr) (hf : T'.flds = T.flds) (hn : st.all Sl.noexc = true) : StR K T F0 H0 F H fp σ st := by
  have at_ : ∀ (i : Nat) (sl : Sl), st[i]? = some sl → sl.noexc = true := fun i sl e => List.all_eq_true.mp hn sl (List.mem_of_getElem? e)
  refine ⟨R.s, R.h0, R.f0, R.n, R.l, fun i d e => ?_, fun i k d e => ?_, R.no, R.dj, R.fF⟩
  · obtain ⟨v, a, b⟩ := R.fr i d e
    exact ⟨v, a, Rep.ofX ha hf (at_ i _ e) b⟩
  · obtain ⟨v, a, b⟩ := R.ow i k d e
    refine ⟨v, a, ?_⟩
    have nn : d.noexc = true := at_ i _ e
    unfold Own at b ⊢
    split at b
    · obtain ⟨p, vs, h1, h2, h3, h4⟩ := b
      exact ⟨p, vs, h1, h2, Reps.ofX ha hf nn h3, h4⟩
    · obtain ⟨dx, vs, h1, h2, h5, h3, h4⟩ := b
      rw [hme, ha, hf] at h2
      rw [hf] at h5
      rw [hme] at h1
      refine ⟨dx, vs, h1, h2, h5, Reps.ofX ha hf nn h3, fun z => ?_⟩
      rw [← hme]
      exact h4 z
    · exact b.elim
end
/-- the table within a suite that holds the exception at a -/
def Tab.hot (T : Tab) (a : Addr) (c : Nat) (fs : List D) : Tab := { T with exc := fun b => if b = a then some (c, fs) else none }
/-- x in an except clause: the classes beneath it -/
structure Catch (X : Cx) (T : Tab) (x : String) (cs al : List Nat) : Prop where
  g : ∃ C, Names X (x : Str) (.ref C) ∧ ∀ c, al.contains c = true → PySem.W.exmOne X.K (.ref (T.addr c)) (.ref C) = some (cs.contains c)
section
variable {X : Cx} {T : Tab} {W : WX} {N : Bool} {F0 H0 : Hp} {pos p2 p3 : Pos}
theorem ss_try {x : String} {cs al : List Nat} {i : Nat} {n : Str} {body suite : List Stmt} {b₀ : Stmt} {fb fh : Py.St → Cf} (hx : ∀ b, T.exc b = none) (hs : X.stack = X.env :: X.outer) (hf : X.env.frame = some X.env.locals) (hN : X.N.Nodup) (hi : X.N[i]? = some n) (hln : X.env.kindOf n = some .local) (C : Catch X T x cs al) (tk : Takes X W)
    (hb : ∀ (W : WX) (pn : List (Addr × Obj)) (xe : Value → Shared → Prop), Takes (X.tr pn xe) W → PassesOwn (model X.prog X.w) X.A X.env xe → PSs (X.tr pn xe) body (rdS X.K T W N F0 H0 fb))
    (hsu : ∀ (a : Addr) (oe : Obj) (c : Nat) (fs : List D) (d : Option Addr) (H : Hp) (pn : List (Addr × Obj)), al.contains c = true → ExR X.K T c fs d H → Zc (.ref (T.addr c)) d oe → (∃ vs, oe.data = .fields vs) → PSs (X.suite a ((a, oe) :: pn)) (b₀ :: suite) (rdS X.K (T.hot a c fs) W0 N F0 H0 fh)) :
    PS X (.Try body [.ExceptHandler (some (.Name (x : Str) p2)) (some n) (b₀ :: suite) p3] [] [] pos) (rdS X.K T W N F0 H0 fun st => match fb st with
      | .ex c fs st1 => if al.contains c then (if cs.contains c then catchD (some i) (fh (catchS (some i) c fs st1)) else .ex c fs st1) else .no
      | r => r) := by
  obtain ⟨Cv, hnm, hex⟩ := C.g
  have main := ps_try_as (pos := pos) (pos' := p3) (np := p2) (ts := fun a cls d => fun D σ H => ∃ c fs H', cls = .ref (T.addr c) ∧ al.contains c = true ∧ ExR X.K T c fs d H' ∧ rdS X.K (T.hot a c fs) W0 N F0 H0 fh D σ H) hs hf hN hi hln hnm tk hb (fun a oe cls d pn hz hv => by
    refine ⟨fun pins s σ H D I ⟨c, fs, H', e1, e2, e3, q⟩ => ?_⟩
    subst e1
    exact (hsu a oe c fs d H' pn e2 e3 hz hv).run pins s σ H D I q)
  refine ps_of main fun D σ H L ⟨F, fp, st, R, q⟩ _ => ⟨F, fp, st, R, ?_⟩
  cases hfb : fb st with
  | nx st' =>
    rw [hfb] at q
    exact q
  | bk st' =>
    rw [hfb] at q
    exact q
  | ct st' =>
    rw [hfb] at q
    exact q
  | rt d =>
    rw [hfb] at q
    exact q
  | no =>
    rw [hfb] at q
    exact q
  | ex c fs st1 =>
    rw [hfb] at q
    have q : PostS X.K T W N F0 H0 D (if al.contains c then (if cs.contains c then catchD (some i) (fh (catchS (some i) c fs st1)) else .ex c fs st1) else .no) := q
    intro dx F1 H1 fp1 σ1 R1 hxr
    by_cases hal : al.contains c = true
    · rw [if_pos hal] at q
      refine ⟨cs.contains c, hex c hal, fun hc a ha => ?_, fun hc => ?_⟩
      · rw [if_pos hc] at q
        refine ⟨c, fs, H1, rfl, hal, hxr, fun _ => ?_⟩
        have R2 : StR X.K (T.hot a c fs) F0 H0 F1 H1 fp1 σ1 st1 := R1.toX rfl rfl rfl hx
        have R3 := R2.put (i := i) (d := .exc c fs) (v := .ref a) ⟨a, rfl, if_pos rfl⟩
        refine ⟨F1, _, catchS (some i) c fs st1, R3, ?_⟩
        cases hfh : fh (catchS (some i) c fs st1) with
        | nx st' =>
          rw [hfh] at q
          have q : PostS X.K T W N F0 H0 D (if (dropS (some i) st').all Sl.noexc then .nx (dropS (some i) st') else .no) := q
          split at q
          · rename_i hne
            intro F4 H4 fp4 σ4 R4
            exact q F4 H4 _ _ ((R4.drop (i := i) (v := none)).ofX rfl rfl rfl hne)
          · exact q.elim
        | rt d =>
          rw [hfh] at q
          have q : PostS X.K T W N F0 H0 D (if d.noexc then .rt d else .no) := q
          split at q
          · rename_i hne
            cases N with
            | false => exact fun v F4 H4 g r => q v F4 H4 g (Rep.ofX (T := T) (T' := T.hot a c fs) rfl rfl hne r)
            | true =>
              intro ds p vs F4 H4 e g h1 h2 h3 h4
              subst e
              exact q ds p vs F4 H4 rfl g h1 h2 h3 (Reps.ofX (T := T) (T' := T.hot a c fs) rfl rfl hne h4)
          · exact q.elim
        | bk st' =>
          rw [hfh] at q
          exact q.elim
        | ct st' =>
          rw [hfh] at q
          exact q.elim
        | ex c' fs' st' =>
          rw [hfh] at q
          exact q.elim
        | no =>
          rw [hfh] at q
          exact q.elim
      · rw [if_neg (by rw [hc]; exact Bool.false_ne_true)] at q
        exact q dx F1 H1 fp1 σ1 R1 hxr
    · rw [if_neg hal] at q
      exact q.elim
end
end Py

namespace Py
open PySem L2

/-! ### own classes -/
def isBase : Expr → Bool
  | .Call (.Name _ _) [] [] _ => false
  | _ => true
theorem base_of {o : Expr} {f : Str} {env : PySem.Env} {x : PySem.Sem Value} (h : isBase o = true) : attributeBase o f env x = x := by
  unfold attributeBase
  split
  · cases h
  · rfl
/-- the tree of a method's call -/
theorem meth_tree {o : Expr} {m : Str} {apos pos : Pos} {args : List Expr} {env : PySem.Env} (hb : isBase o = true) (hp : args.all isPlain = true) (hn : args.length < 29) (hl : (apos.endLine == pos.line) = true) :
    eval (.Call (.Attribute o m apos) args [] pos) env = (do
      let ov ← eval o env
      standAt apos.atName
      let (f, first) ← holding [ov] (getMethod ov m (do return (← importBound o env).getD true))
      callWith pos f first (backTo pos (starEach args env)) (backToKw pos (keywordEach [] env))) := by
  have hf : methodCallForm (args.length + ([] : List Keyword).length) (backTo pos (starEach args env)) (backToKw pos (keywordEach [] env)) = true := by
    unfold methodCallForm
    have h1 : (backTo pos (starEach args env)).all (fun x => !x.1) = true := by
      have := star_none (pos := pos) (env := env) hp
      rw [List.all_eq_not_any_not]
      simpa using this
    rw [h1]
    have h2 : (backToKw pos (keywordEach [] env)) = [] := rfl
    rw [h2]
    show (true && true && decide (args.length + 0 + 0 < 30)) = true
    simp
    omega
  rw [PySem.arm_eval_Call, base_of hb]
  show (do
    let ov ← eval o env
    standAt apos.atName
    methodCall o m apos pos env ov (args.length + ([] : List Keyword).length) (backTo pos (starEach args env)) (backToKw pos (keywordEach [] env))) = _
  have e : ∀ ov, methodCall o m apos pos env ov (args.length + ([] : List Keyword).length) (backTo pos (starEach args env)) (backToKw pos (keywordEach [] env)) = (do
      let (f, first) ← holding [ov] (getMethod ov m (do return (← importBound o env).getD true))
      callWith pos f first (backTo pos (starEach args env)) (backToKw pos (keywordEach [] env))) := by
    intro ov
    unfold methodCall calleeOf methodCallPos
    rw [hf, hl]
    rfl
  simp only [e]
end Py

namespace Py
open PySem L2

abbrev Nev : XK := fun _ _ _ => False
theorem passNev {X : Cx} : Passes (L2.CX X.prog X.w) X Nev := fun pins σ H s e s' I c => passAt (W := fun _ _ _ _ => False) takes0 σ pins H s e s' I c
theorem passNo {X : Cx} : Passes (L2.CX X.prog X.w) X.nox Nev := fun pins σ H s e s' I c => (passAt (X := X.nox) (W := fun _ _ _ _ => False) takes0 σ pins H s e s' I c : X.nox.xe e s')

/-- the x of the class c is its k-th field -/
structure FldOk (K : PySem.W.Frag) (T : Tab) (c k : Nat) (x : String) : Prop where
  cl : Cls K (T.addr c)
  na : NoAttr K (T.addr c) (x : Str)
  at_ : (T.flds c)[k]? = some (x : Str)
  nd : (T.flds c).Nodup
/-- the x of the class c is a constant -/
structure ConOk (K : PySem.W.Frag) (T : Tab) (c : Nat) (x : String) (d : D) : Prop where
  cl : Cls K (T.addr c)
  con : ∃ v u, Con K (T.addr c) (x : Str) v u ∧ ∀ F, Rep K T F d v
  na : (T.flds c).contains (x : Str) = false
def GoodM (P : Program) (w : World) (K : PySem.W.Frag) (mg : Str → Option Value) (base : Heap) (T : Tab) (k c : Nat) (m : String) (f : Sem) (dd : List D) : Prop :=
  ∃ (g : Addr) (fd : FuncData) (ps : List Str) (dvs : List V) (ds : List Value), Cls K (T.addr c) ∧ Meth K (T.addr c) (m : Str) g ∧ (T.flds c).contains (m : Str) = false ∧ Binds K fd ps ds ∧ Vals dvs ds ∧ (∀ F, Reps K T F dd dvs) ∧ (∀ zs, zs.length ≠ ps.length → f zs = .no) ∧
    FnOk P w K mg base (L2.CX P w) k g fd ps (spOf K T ps.length f)
def GoodP (P : Program) (w : World) (K : PySem.W.Frag) (mg : Str → Option Value) (base : Heap) (T : Tab) (k c : Nat) (x : String) (f : Sem) : Prop :=
  ∃ (p g : Addr) (fd : FuncData) (ps : List Str), Cls K (T.addr c) ∧ PropOf K (T.addr c) (x : Str) p g ∧ Binds K fd ps [] ∧ (∀ zs, zs.length ≠ ps.length → f zs = .no) ∧
    FnOk P w K mg base (L2.CX P w) k g fd ps (spOf K T ps.length f)
/-- __init__'s promise: the heap H0 ahead of the new instance -/
def spI (K : PySem.W.Frag) (T : Tab) (c n : Nat) (f : Sem) : Sp := fun vs H Q E => ∃ F H0 x dx ds ws, vs = .ref x :: ws ∧ ds.length + 1 = n ∧ Same F H0 ∧ H0 x = none ∧ H0 dx = none ∧ dx ≠ x ∧ H = upd (upd H0 dx (.own x)) x (.ins (T.addr c) dx []) ∧ Reps K T F ds ws ∧
  Post K T (relD K T) E F H0 (f ds) (fun v H' => v = .ref x → Q .non H')
def GoodC (P : Program) (w : World) (K : PySem.W.Frag) (mg : Str → Option Value) (base : Heap) (T : Tab) (k : Nat) (x : String) (c : Nat) (f : Sem) (dd : List D) : Prop :=
  ∃ (g : Addr) (fd : FuncData) (ps : List Str) (dvs : List V) (ds : List Value), mg (x : Str) = some (.ref (T.addr c)) ∧ Mk K (T.addr c) g ∧ Binds K fd ps ds ∧ Vals dvs ds ∧ (∀ F, Reps K T F dd dvs) ∧ (∀ zs, zs.length + 1 ≠ ps.length → f zs = .no) ∧
    FnOk P w K mg base (L2.CX P w) k g fd ps (spI K T c ps.length f)
/-- __contains__ of the class c -/
def GoodI (P : Program) (w : World) (K : PySem.W.Frag) (mg : Str → Option Value) (base : Heap) (T : Tab) (k c : Nat) (f : Sem) : Prop :=
  ∃ (g : Addr) (fd : FuncData) (ps : List Str), Cls K (T.addr c) ∧ PySem.W.findIn K (.ref (T.addr c)) "__contains__" = some (some (.ref g)) ∧ PySem.W.isFn K (.ref g) = true ∧ Binds K fd ps [] ∧ ps.length = 2 ∧
    FnOk P w K mg base (L2.CX P w) k g fd ps (spOf K T ps.length f)

section
variable {X : Cx} {T : Tab} {W : WX} {pos p2 apos : Pos} {k : Nat}
theorem zip_look : ∀ {ns : List Str} {vs : List V} {i : Nat} {x : Str} {v : V}, ns.Nodup → ns[i]? = some x → vs[i]? = some v → (ns.zip vs).lookup x = some v
  | [], _, i, _, _, _, h, _ => by simp at h
  | _ :: _, [], i, _, _, _, _, h => by simp at h
  | n :: ns, u :: vs, 0, x, v, _, h, h' => by
    have h : n = x := by simpa using h
    have h' : u = v := by simpa using h'
    subst h h'
    exact List.lookup_cons_self
  | n :: ns, u :: vs, i + 1, x, v, nd, h, h' => by
    obtain ⟨n1, n2⟩ := List.nodup_cons.mp nd
    have hx : ns[i]? = some x := by simpa using h
    have hv : vs[i]? = some v := by simpa using h'
    have ne : (x == n) = false := by
      rw [beq_eq_false_iff_ne]
      intro e
      subst e
      exact n1 (List.mem_of_getElem? hx)
    show (match x == n with
      | true => some u
      | false => (ns.zip vs).lookup x) = some v
    rw [ne]
    exact zip_look n2 hx hv
theorem zip_none : ∀ {ns : List Str} {vs : List V} {x : Str}, ns.contains x = false → (ns.zip vs).lookup x = none
  | [], _, _, _ => rfl
  | _ :: _, [], _, _ => rfl
  | n :: ns, u :: vs, x, h => by
    rw [List.contains_cons] at h
    obtain ⟨h1, h2⟩ := Bool.or_eq_false_iff.mp h
    show (match x == n with
      | true => some u
      | false => (ns.zip vs).lookup x) = none
    rw [h1]
    exact zip_none h2
/-- an expression's value is known -/
theorem Vw.got {F H : Hp} {σ : L2.St} {env : Env} {α β : Type} {rel : Hp → α → β → Prop} {f : Env → R α} {a : α} (vw : Vw X.K T F H σ env) (e : f env = .ok a) : rdG X.K T W rel f σ H (fun v H' => ∃ F', Grow F H F' H' ∧ rel F' a v) :=
  fun _ => ⟨F, env, vw, by
    rw [e]
    exact fun v F' H' g r => ⟨F', g, r⟩⟩
theorem s_fld {x : String} {tab : List (Nat × Nat)} {o : Expr} {f : Env → R D} (hf : ∀ c k, look c tab = some k → FldOk X.K T c k x) (hb : isBase o = true) (ho : PE X o (rdE X.K T W f)) :
    PE X (.Attribute o (x : Str) pos) (rdE X.K T W fun env => (f env).bind fun d => opD (.fld x tab) [d]) := by
  refine pe_of (pe_fld ho (base_of hb)) fun σ H Q _ ⟨F, env, vw, q⟩ => ?_
  refine vw.rd (Post.imp (Post.bind (rel := relD X.K T) q) fun v H1 ⟨F1, d1, e1, g1, r1, q1⟩ => ?_)
  cases d1 <;> first | exact q1.elim | skip
  rename_i c fs
  have q1 : Post X.K T (relD X.K T) _ F1 H1 (match look c tab with
    | some k => ofO fs[k]?
    | none => .no) Q := q1
  split at q1
  · rename_i i hk
    obtain ⟨d, e, q1⟩ := post_ofO (α := D) (rel := relD X.K T) q1
    have K1 := hf c i hk
    obtain ⟨a, dx, vs, ea, h1, h2, h3⟩ := r1
    obtain ⟨u, hu, ru⟩ := Reps.get h3 e
    exact ⟨a, _, dx, _, u, ea, g1.s _ _ h1, K1.cl, K1.na, zip_look K1.nd K1.at_ hu, Post.ok g1.s q1 ru⟩
  · exact q1.elim
theorem s_con {x : String} {tab : List (Nat × D)} {o : Expr} {f : Env → R D} (hf : ∀ c d, look c tab = some d → ConOk X.K T c x d) (hb : isBase o = true) (ho : PE X o (rdE X.K T W f)) :
    PE X (.Attribute o (x : Str) pos) (rdE X.K T W fun env => (f env).bind fun d => opD (.con x tab) [d]) := by
  refine pe_of (pe_con ho (base_of hb)) fun σ H Q _ ⟨F, env, vw, q⟩ => ?_
  refine vw.rd (Post.imp (Post.bind (rel := relD X.K T) q) fun v H1 ⟨F1, d1, e1, g1, r1, q1⟩ => ?_)
  cases d1 <;> first | exact q1.elim | skip
  rename_i c fs
  have q1 : Post X.K T (relD X.K T) _ F1 H1 (ofO (look c tab)) Q := q1
  obtain ⟨d, e, q1⟩ := post_ofO (α := D) (rel := relD X.K T) q1
  have K1 := hf c d e
  obtain ⟨v1, u1, k1, k2⟩ := K1.con
  obtain ⟨a, dx, vs, ea, h1, h2, h3⟩ := r1
  exact ⟨a, _, dx, _, v1, u1, ea, g1.s _ _ h1, K1.cl, k1, zip_none K1.na, Post.ok g1.s q1 (k2 _)⟩
theorem calm_post {K : PySem.W.Frag} {W' W2 : Value → Option Addr → Hp → Prop} {F H : Hp} {r : R D} {Q : VK} (h : Post K T (relD K T) W' F H r.calm Q) : Post K T (relD K T) W2 F H r Q := by
  cases r with
  | ok d => exact h
  | ex c fs => exact h.elim
  | no => exact h.elim
theorem s_prop {x : String} {tab : List (Nat × Sem)} {o : Expr} {f : Env → R D} (hf : ∀ c g, look c tab = some g → GoodP X.prog X.w X.K X.mg X.base T k c x g) (hr : Room (k + 1) X.A) (hb : isBase o = true) (ho : PE X o (rdE X.K T W f)) :
    PE X (.Attribute o (x : Str) pos) (rdE X.K T W fun env => (f env).bind fun d => opD (.prop x tab) [d]) := by
  refine ⟨fun pins s σ H Q I q => ?_⟩
  obtain ⟨F, env, vw, q⟩ := q (lenOk_of I)
  have q2 := Post.bind (rel := relD X.K T) q
  refine attr_of (base_of hb) (thn (ho.run pins s σ H _ I (vw.rd q2)) fun u s1 ⟨v, H1, I1, rx, F1, d1, e1, g1, r1, q1⟩ => ?_)
  cases d1 <;> first | exact q1.elim | skip
  rename_i c fs
  have q1 : Post X.K T (relD X.K T) _ F1 H1 (match look c tab with
    | some f => (f [.obj c fs]).calm
    | none => .no) Q := q1
  split at q1
  · rename_i g hk
    obtain ⟨p, ga, fd, ps, cl, hp, hbd, har, hF⟩ := hf c g hk
    have r1' : Rep X.K T F1 (.obj c fs) v := r1
    obtain ⟨a, dx, vs, ea, h1, h2, h3⟩ := r1
    subst ea
    obtain rfl : u = Value.ref a := rx
    refine getprop_ok I1 (g1.s _ _ h1) cl hp hF hr hbd .nil passNo ?_
    have q3 : Post X.K T (relD X.K T) Nev F1 H1 (g [.obj c fs]) Q := calm_post q1
    refine ⟨F1, [.obj c fs], Decidable.byContradiction fun hn => ?_, g1.s, ⟨_, _, rfl, r1', rfl⟩, q3⟩
    rw [har _ hn] at q3
    exact q3
  · exact q1.elim

/-! ### methods -/
theorem s_meth {m : String} {tab : List (Nat × Sem × List D)} {o : Expr} {es : List Expr} {fo : Env → R D} {g : Env → R (List D)} (hf : ∀ c f dd, look c tab = some (f, dd) → GoodM X.prog X.w X.K X.mg X.base T k c m f dd) (hr : Room k X.A) (tk : Takes X W) (hb : isBase o = true) (hp : es.all isPlain = true) (hn : es.length < 29)
    (hl : (apos.endLine == pos.line) = true) (hz : es = [] → ∀ env ds, g env = .ok ds → ds = []) (ho : PE X o (rdE X.K T W fo)) (ha : PA X es (rdA X.K T W g)) :
    PE X (.Call (.Attribute o (m : Str) apos) es [] pos) (rdE X.K T W fun env => (((fo env).bind fun x => (g env).map fun xs => x :: xs).calm).bind (opD (.meth m tab))) := by
  refine ⟨fun pins s σ H Q I q => ?_⟩
  obtain ⟨F, env, vw, q⟩ := q (lenOk_of I)
  dsimp only at q
  cases e1 : fo env with
  | ex c fs =>
    rw [e1] at q
    exact q.elim
  | no =>
    rw [e1] at q
    exact q.elim
  | ok d1 =>
  rw [e1] at q
  cases e2 : g env with
  | ex c fs =>
    rw [e2] at q
    exact q.elim
  | no =>
    rw [e2] at q
    exact q.elim
  | ok ds =>
  rw [e2] at q
  have q : Post X.K T (relD X.K T) (fun c d H' => W c d σ H') F H (opD (.meth m tab) (d1 :: ds)) Q := q
  obtain ⟨c, fs, rfl⟩ : ∃ c fs, d1 = .obj c fs := by cases d1 <;> first | exact ⟨_, _, rfl⟩ | exact q.elim
  have q : Post X.K T (relD X.K T) (fun c d H' => W c d σ H') F H (match look c tab with
    | some (f, dd) => f (.obj c fs :: ds ++ dd)
    | none => .no) Q := q
  split at q
  · rename_i f dd hk
    obtain ⟨ga, fd, ps, dvs, dsv, cl, hm, hna, hbd, hvd, hrd, har, hF⟩ := hf c f dd hk
    refine PySem.W.methodCall_KW (pl := _) (thn (ho.run pins s σ H _ I (vw.got e1)) fun u s1 ⟨v, H1, I1, rx, F1, g1, r1⟩ => ?_) (meth_tree hb hp hn hl)
    have r1' : Rep X.K T F1 (.obj c fs) v := r1
    obtain ⟨a, dx, vs, ea, h1, h2, h3⟩ := r1
    subst ea
    obtain rfl : u = Value.ref a := rx
    refine getmeth_ok I1 (g1.s _ _ h1) cl hm (zip_none hna) ?_
    have fin : ∀ {us : List Value} {ws : List V} {s2 : Shared} {H2 F2 : Hp}, Inv X pins σ H2 s2 → Vals ws us → Grow F1 H1 F2 H2 → Reps X.K T F2 ds ws → wpAny (model X.prog X.w) X.A (call (.ref ga) (.ref a :: us)) (EP X pins σ Q) X.xe s2 := by
      intro us ws s2 H2 F2 I2 rv g2 r2
      refine run_fnSD (us := .ref a :: us) (vs := .ref a :: ws) (E := fun σ cls d H => W cls d σ H) hF hr hbd hvd (passAt tk σ) I2 (.cons rfl rv) ?_
      have q2 := Post.grow (g1.trans g2) q
      refine ⟨F2, .obj c fs :: ds ++ dd, Decidable.byContradiction fun hne => ?_, g2.s, Reps.app (ds := .obj c fs :: ds) ⟨_, _, rfl, Rep.mono g2.f r1', r2⟩ (hrd _), q2⟩
      rw [har _ hne] at q2
      exact q2
    cases es with
    | nil =>
      refine PySem.W.callWith_K0 (first := [.ref a]) I1.kIn hm.kp ?_
      have hz := hz rfl env ds e2
      subst hz
      exact fin I1 .nil (Grow.refl g1.s) rfl
    | cons e0 es =>
      obtain ⟨p1, p2'⟩ := Bool.and_eq_true_iff.mp (show (isPlain e0 && es.all isPlain) = true from hp)
      refine PySem.W.callWith_K (first := [.ref a]) (h₀ := X.base) I1.ok.mod.kin hm.kp (thn (ha.run pos pins s1 σ H1 _ I1 ((vw.grow g1).got e2)) fun us s2 ⟨ws, H2, I2, rv, F2, g2, r2⟩ => ⟨I2.kIn, ?_⟩) (star_plain p1 es X.env) (star_none p2')
      exact fin I2 rv g2 r2
  · exact q.elim
end
end Py

namespace Py
open PySem L2

section
variable {X : Cx} {T : Tab} {W : WX} {pos p2 apos : Pos} {k : Nat}
/-- an own class is called: what is raised is wished for at the caller's slots -/
theorem make_at {C g : Addr} {fd : FuncData} {ps : List Str} {sp : Sp} {dvs : List V} {ds : List Value} {E : XK} {pins : List (Addr × Obj)} {σ : L2.St} {H : Hp} {s : Shared} {Q : VK} {us : List Value} {vs : List V}
    (M : Mk X.K C g) (hF : FnOk X.prog X.w X.K X.mg X.base (L2.CX X.prog X.w) k g fd ps sp) (hr : Room (k + 1) X.A) (hb : Binds X.K fd ps ds) (hd : Vals dvs ds) (hx : PassesAt (L2.CX X.prog X.w) X σ E) (I : Inv X pins σ H s) (r : Vals vs us)
    (h : ∀ x dx, H x = none → H dx = none → dx ≠ x → sp (.ref x :: (vs ++ dvs)) (upd (upd H dx (.own x)) x (.ins C dx [])) (fun v H2 => v = .non ∧ Q (.ref x) H2) E) :
    wpAny (model X.prog X.w) X.A (call (.ref C) us) (EP X pins σ Q) X.xe s := by
  generalize hn : s.heap.objs.size = n at *
  have want := h (n + 1) n (I.hok.fresh (by omega)) (I.hok.fresh (by omega)) (Nat.ne_of_lt (Nat.lt_succ_self _))
  have J := Inv.made (C := C) I
  rw [hn] at J
  have rel : Vals (V.ref (n + 1) :: (vs ++ dvs)) (Value.ref (n + 1) :: (us ++ ds)) := .cons rfl (r.append hd)
  have many : (Value.ref (n + 1) :: us ++ ds).length = ps.length := by
    have e1 := rel.length
    have e2 := hF.len _ _ _ _ want
    rw [e2] at e1
    exact e1.symm
  have run := hF.run _ X.stack _ _ ⟨Value.ref (n + 1) :: us, []⟩ (Value.ref (n + 1) :: (us ++ ds)) _ _ E (hr.make C us []) (J.env0.make C us []) (hb _ (Value.ref (n + 1) :: us) J.kIn many) rel want
  subst hn
  refine wpAny_call (make_map (f := g) I.kIn M.makes M.init (beq_iff_eq.mp M.fn) (codeAny_mono run fun r t ht => ?_))
  cases r with
  | error e => exact hx pins _ _ e t J ht
  | ok fl =>
    cases fl with
    | ret u =>
      obtain ⟨v, H', J', rv, ev, q⟩ := J.after ht
      subst ev
      exact ⟨rv, ⟨.ref _, H', J', rfl, q⟩⟩
    | _ => exact ht.elim
theorem s_mk {x : String} {c : Nat} {f : Sem} {dd : List D} {e : Expr} {es : List Expr} {g : Env → R (List D)} (G : GoodC X.prog X.w X.K X.mg X.base T k x c f dd) (hr : Room (k + 1) X.A) (hg : Gl X (x : Str)) (tk : Takes X W) (hd : ((x : Str) == ("__debug__" : Str)) = false)
    (hp : ((e :: es).all isPlain) = true) (ha : PA X (e :: es) (rdA X.K T W g)) : PE X (.Call (.Name (x : Str) p2) (e :: es) [] pos) (rdE X.K T W fun env => (g env).bind (opD (.mk x c f dd))) := by
  obtain ⟨ga, fd, ps, dvs, ds, hmg, M, hbd, hvd, hrd, har, hF⟩ := G
  obtain ⟨p1, p2'⟩ := Bool.and_eq_true_iff.mp (show (isPlain e && es.all isPlain) = true from hp)
  refine ⟨fun pins s σ H Q I q => ?_⟩
  obtain ⟨F, env, vw, q⟩ := q (lenOk_of I)
  have q2 := Post.bind (rel := relL X.K T) q
  refine wpAny_Call_Name_kw (ld_glob I hg hmg ?_ hd)
  refine PySem.W.callWith_K (h₀ := X.base) I.ok.mod.kin M.kp (thn (ha.run pos pins s σ H _ I (vw.rd q2)) fun us s1 ⟨vs, H1, I1, r, F1, d1, e1, g1, r1, q1⟩ => ⟨I1.kIn, ?_⟩) (star_plain p1 es X.env) (star_none p2')
  refine make_at (E := fun cls d H => W cls d σ H) M hF hr hbd hvd (passAt tk σ) I1 r fun y dx hy hdx hne => ?_
  have q1 : Post X.K T (relD X.K T) (fun c d H' => W c d σ H') F1 H1 (f (d1 ++ dd)) Q := q1
  refine ⟨F1, H1, y, dx, d1 ++ dd, vs ++ dvs, rfl, Decidable.byContradiction fun hn => ?_, g1.s, hy, hdx, hne, rfl, Reps.app r1 (hrd _), Post.imp q1 fun v H2 hq e => ⟨rfl, ?_⟩⟩
  · rw [har _ hn] at q1
    exact q1
  · rw [← e]
    exact hq

/-! ### x in o -/
/-- o answers in by a def of its class -/
theorem in_own {C g a : Addr} {x : Value} {neg : Bool} {ox od : Obj} {A : Around} {E : Value → Shared → Prop} {s : Shared} {Q : Value → Shared → Prop} (X0 : X.K.In s.heap) (J : PySem.W.InstAt s.heap a ox C (some od)) (hs : PySem.W.findIn X.K (.ref C) "__contains__" = some (some (.ref g)))
    (hf : PySem.W.isFn X.K (.ref g) = true) (h : wpAny (model X.prog X.w) A (call (.ref g) [.ref a, x]) (fun v s' => ∃ b, v = .bool b ∧ Q (.bool (if neg then !b else b)) s') E s) :
    wpAny (model X.prog X.w) A (compareOp (if neg then .NotIn else .In) x (.ref a)) Q E s := by
  have kd := beq_iff_eq.mp hf
  have main : ∀ {Q' : Bool → Shared → Prop}, (∀ b s', Q (.bool (if neg then !b else b)) s' → Q' b s') → wpAny (model X.prog X.w) A (contains (.ref a) x) Q' E s := by
    intro Q' hq
    have sp : ∀ {R : Option Value → Shared → Prop}, R (some (.ref g)) s → wpAny (model X.prog X.w) A (specialOf (.ref a) "__contains__") R E s := fun hR => wpAny_bind (J.type.here ((PySem.W.looks_findIn X0 hs).here hR))
    have no : ∀ g : Addr, ((Value.ref g == Value.none) = true) → False := fun g z => by cases z
    unfold contains
    refine wpAny_holding ?_
    rw [stdlibNamesSay?_ref]
    refine wpAny_bind (sp ?_)
    refine wpAny_ite_split (fun z => by cases z) fun _ => ?_
    refine wpAny_bind ?_
    unfold callSpecialUnlessNone?
    refine wpAny_bind (sp (wpAny_holding (wpAny_bind ((PySem.W.bind_fn X0 _ kd).here ?_))))
    refine wpAny_ite_split (fun z => (no g z).elim) fun _ => ?_
    refine wpAny_bind (wpAny_mono h (fun v s' hv => ?_) fun _ _ z => z)
    obtain ⟨b, e, q⟩ := hv
    subst e
    exact wpAny_pure (wpAny_truthy_bool (hq b s' q))
  cases neg with
  | true => exact wpAny_bind (main fun b s' q => wpAny_pure q)
  | false => exact wpAny_bind (main fun b s' q => wpAny_pure q)
/-- .. as an operator -/
def rIno (K : PySem.W.Frag) (T : Tab) (neg : Bool) (tab : List (Nat × Sem)) : R2 := fun x y H Q => ∃ F W a b, Same F H ∧ Rep K T F a x ∧ Rep K T F b y ∧ Post K T relB W F H (inO neg tab a b) (fun k H' => Q (.bl k) H')
theorem op_ino {neg : Bool} {tab : List (Nat × Sem)} (hf : ∀ c f, look c tab = some f → GoodI X.prog X.w X.K X.mg X.base T k c f) (hr : Room k X.A) : OpR X (compareOp (if neg then .NotIn else .In)) (rIno X.K T neg tab) := by
  intro pins s σ H x y v u Q I rx ry ⟨F, W', a, b, sF, ra, rb, q⟩
  obtain ⟨c, fs, rfl⟩ : ∃ c fs, b = .obj c fs := by cases b <;> first | exact ⟨_, _, rfl⟩ | exact q.elim
  have q : Post X.K T relB W' F H (match look c tab with
    | some f => (match f [.obj c fs, a] with
      | .ok (.bool b) => .ok (if neg then !b else b)
      | _ => .no)
    | none => .no) (fun k H' => Q (.bl k) H') := q
  split at q
  · rename_i f hk
    obtain ⟨ga, fd, ps, cl, hs, hfn, hbd, hps, hF⟩ := hf c f hk
    split at q
    · rename_i r er
      have rb' : Rep X.K T F (.obj c fs) y := rb
      obtain ⟨p, dx, vs, ep, h1, h2, h3⟩ := rb
      subst ep
      obtain rfl : u = Value.ref p := ry
      obtain ⟨mA, O, _, _, _, _⟩ := ins_get I.hok (sF _ _ h1)
      obtain ⟨od, J, _⟩ := O.look
      refine in_own I.kIn J hs hfn (thn (run_fn (us := [.ref p, v]) (vs := [.ref p, x]) (Q := fun w H' => ∃ F', Grow F H F' H' ∧ Rep X.K T F' (.bool r) w) hF hr hbd .nil passNev I (.cons rfl (.cons rx .nil)) ?_) fun w s1 ⟨z, H1, I1, rz, F1, g1, r1⟩ => ?_)
      · refine ⟨F, [.obj c fs, a], hps.symm, sF, ⟨_, _, rfl, rb', _, _, rfl, ra, rfl⟩, ?_⟩
        rw [er]
        exact fun w F' H' g r => ⟨F', g, r⟩
      · cases r1
        obtain rfl : w = Value.bool r := rz
        refine ⟨r, rfl, .bl _, H1, I1, rfl, ?_⟩
        have q2 := Post.grow g1 q
        exact q2 _ F1 H1 (Grow.refl g1.s) rfl
    · exact q.elim
  · exact q.elim
theorem s_ino {neg : Bool} {tab : List (Nat × Sem)} {a b : Expr} {f g : Env → R D} (hf : ∀ c f, look c tab = some f → GoodI X.prog X.w X.K X.mg X.base T k c f) (hr : Room k X.A) (hm : behindInMarks (if neg then .NotIn else .In) b = false) (ha : PE X a (rdE X.K T W f)) (hb : PE X b (rdE X.K T W g)) :
    PE X (.Compare a [if neg then .NotIn else .In] [b] pos) (rdE X.K T W fun env => (f env).bind fun x => (g env).bind fun y => (inO neg tab x y).map D.bool) := by
  refine pe_of (pe_cmpR (op_ino (T := T) hf hr) ha hb hm) fun σ H Q _ ⟨F, env, vw, q⟩ => ?_
  refine vw.rd (Post.imp (Post.bind (rel := relD X.K T) q) fun x H1 ⟨F1, d1, e1, g1, r1, q1⟩ => ?_)
  refine (vw.grow g1).rd (Post.imp (Post.bind (rel := relD X.K T) q1) fun y H2 ⟨F2, d2, e2, g2, r2, q2⟩ => ?_)
  exact ⟨F2, _, d1, d2, g2.s, Rep.mono g2.f r1, r2, Post.map (rel := relB) q2 fun _ _ _ h => relB_D h⟩
theorem st_ino {neg : Bool} {tab : List (Nat × Sem)} {a b : Expr} {f g : Env → R D} (hf : ∀ c f, look c tab = some f → GoodI X.prog X.w X.K X.mg X.base T k c f) (hr : Room k X.A) (hm : behindInMarks (if neg then .NotIn else .In) b = false) (ha : PE X a (rdE X.K T W f)) (hb : PE X b (rdE X.K T W g)) :
    PT X (.Compare a [if neg then .NotIn else .In] [b] pos) (rdT X.K T W fun env => (f env).bind fun x => (g env).bind fun y => inO neg tab x y) := by
  refine pt_of (pt_cmpR (op_ino (T := T) hf hr) ha hb hm) fun σ H Q _ ⟨F, env, vw, q⟩ => ?_
  refine vw.rd (Post.imp (Post.bind (rel := relD X.K T) q) fun x H1 ⟨F1, d1, e1, g1, r1, q1⟩ => ?_)
  refine (vw.grow g1).rd (Post.imp (Post.bind (rel := relD X.K T) q1) fun y H2 ⟨F2, d2, e2, g2, r2, q2⟩ => ?_)
  exact ⟨F2, _, d1, d2, g2.s, Rep.mono g2.f r1, r2, Post.imp q2 fun k H' h => ⟨k, rfl, h⟩⟩
end
end Py

namespace Py
open PySem L2

/-! ### what is walked, further -/
theorem zipD_len : ∀ (xs ys : List D), (zipD xs ys).length = min xs.length ys.length
  | [], ys => by simp [zipD]
  | x :: xs, [] => by simp [zipD]
  | x :: xs, y :: ys => by
    simp only [zipD, List.length_cons, zipD_len xs ys]
    omega
theorem zipD_get : ∀ {xs ys : List D} {i : Nat} {d : D}, (zipD xs ys)[i]? = some d → ∃ x y, d = .tup [x, y] ∧ xs[i]? = some x ∧ ys[i]? = some y
  | [], ys, i, d, h => by simp [zipD] at h
  | x :: xs, [], i, d, h => by simp [zipD] at h
  | x :: xs, y :: ys, 0, d, h => by
    have h : D.tup [x, y] = d := by simpa [zipD] using h
    exact ⟨x, y, h.symm, rfl, rfl⟩
  | x :: xs, y :: ys, i + 1, d, h => by
    have h : (zipD xs ys)[i]? = some d := by simpa [zipD] using h
    obtain ⟨a, b, e, h1, h2⟩ := zipD_get h
    exact ⟨a, b, e, by simpa using h1, by simpa using h2⟩
theorem enumD_len : ∀ (n : Nat) (xs : List D), (enumD n xs).length = xs.length
  | _, [] => rfl
  | n, x :: xs => by
    show (enumD (n + 1) xs).length + 1 = _
    rw [enumD_len, List.length_cons]
theorem enumD_get : ∀ {n : Nat} {xs : List D} {i : Nat} {d : D}, (enumD n xs)[i]? = some d → ∃ x, d = .tup [.int ((n + i : Nat) : Int), x] ∧ xs[i]? = some x
  | n, [], i, d, h => by simp [enumD] at h
  | n, x :: xs, 0, d, h => by
    have h : D.tup [.int n, x] = d := by simpa [enumD] using h
    exact ⟨x, h.symm, rfl⟩
  | n, x :: xs, i + 1, d, h => by
    have h : (enumD (n + 1) xs)[i]? = some d := by simpa [enumD] using h
    obtain ⟨y, e, h1⟩ := enumD_get h
    refine ⟨y, ?_, by simpa using h1⟩
    rw [e]
    have : n + 1 + i = n + (i + 1) := by omega
    rw [this]
section
variable {K : PySem.W.Frag} {T : Tab} {F : Hp}
/-- a new pair -/
theorem pair_grow {G H : Hp} {p : Addr} {x y : V} {a b : D} (s : Same G H) (hn : H p = none) (ra : Rep K T G a x) (rb : Rep K T G b y) : ∃ G', Grow G H G' (upd H p (.tup [x, y])) ∧ Rep K T G' (.tup [a, b]) (.ref p) :=
  ⟨_, Grow.new s hn, p, [x, y], rfl, upd_same, ⟨x, [y], rfl, Rep.mono (Same.upd (s.free hn)) ra, y, [], rfl, Rep.mono (Same.upd (s.free hn)) rb, rfl⟩⟩
theorem yields_zip {a b : Addr} {ds es : List D} {vs us : List V} (h : SqL K F a vs) (h' : SqL K F b us) (r : Reps K T F ds vs) (r' : Reps K T F es us) : Yields K T (Itz K a b) F (zipD ds es) where
  len := fun H s l => by
    rw [zipD_len, ← Reps.length r]
    have := l a vs (.inl (s.seq h))
    omega
  go := fun i H s hi => by
    rw [zipD_len, ← Reps.length r, ← Reps.length r'] at hi
    exact ⟨vs, us, vs[i]'(by omega), us[i]'(by omega), s.seq h, s.seq h', by rw [List.getElem?_eq_getElem], by rw [List.getElem?_eq_getElem]⟩
  stop := fun i H s hi => by
    rw [zipD_len, ← Reps.length r, ← Reps.length r'] at hi
    exact ⟨vs, us, s.seq h, s.seq h', by omega⟩
  yld := fun i G H x H' d s1 s2 e y => by
    obtain ⟨p, u, w, rfl, hn, rfl, y1, y2⟩ := y
    obtain ⟨d1, d2, rfl, e1, e2⟩ := zipD_get e
    obtain ⟨v1, q1, r1⟩ := Reps.get r e1
    obtain ⟨v2, q2, r2⟩ := Reps.get r' e2
    have z1 := y1 vs ((s1.trans s2).seq h)
    have z2 := y2 us ((s1.trans s2).seq h')
    rw [q1] at z1
    rw [q2] at z2
    cases z1
    cases z2
    exact pair_grow s2 hn (Rep.mono s1 r1) (Rep.mono s1 r2)
theorem yields_zipT {a b : Addr} {ds es : List D} {vs us : List V} (h : F a = some (.tup vs)) (h' : F b = some (.tup us)) (r : Reps K T F ds vs) (r' : Reps K T F es us) : Yields K T (RZ.ItzT K a b) F (zipD ds es) where
  len := fun H s l => by
    rw [zipD_len, ← Reps.length r]
    have := l a vs (.inr (sameT s h))
    omega
  go := fun i H s hi => by
    rw [zipD_len, ← Reps.length r, ← Reps.length r'] at hi
    exact ⟨vs, us, vs[i]'(by omega), us[i]'(by omega), sameT s h, sameT s h', by rw [List.getElem?_eq_getElem], by rw [List.getElem?_eq_getElem]⟩
  stop := fun i H s hi => by
    rw [zipD_len, ← Reps.length r, ← Reps.length r'] at hi
    exact ⟨vs, us, sameT s h, sameT s h', by omega⟩
  yld := fun i G H x H' d s1 s2 e y => by
    obtain ⟨p, u, w, rfl, hn, rfl, y1, y2⟩ := y
    obtain ⟨d1, d2, rfl, e1, e2⟩ := zipD_get e
    obtain ⟨v1, q1, r1⟩ := Reps.get r e1
    obtain ⟨v2, q2, r2⟩ := Reps.get r' e2
    have z1 := y1 vs (sameT (s1.trans s2) h)
    have z2 := y2 us (sameT (s1.trans s2) h')
    rw [q1] at z1
    rw [q2] at z2
    cases z1
    cases z2
    exact pair_grow s2 hn (Rep.mono s1 r1) (Rep.mono s1 r2)
theorem yields_enum {a : Addr} {ds : List D} {vs : List V} (h : SqL K F a vs) (r : Reps K T F ds vs) : Yields K T (Ite K a) F (enumD 0 ds) where
  len := fun H s l => by
    rw [enumD_len, ← Reps.length r]
    exact l a vs (.inl (s.seq h))
  go := fun i H s hi => by
    rw [enumD_len, ← Reps.length r] at hi
    exact ⟨vs, vs[i], s.seq h, by simp [hi]⟩
  stop := fun i H s hi => by
    rw [enumD_len, ← Reps.length r] at hi
    exact ⟨vs, s.seq h, hi⟩
  yld := fun i G H x H' d s1 s2 e y => by
    obtain ⟨p, w, rfl, hn, rfl, y1⟩ := y
    obtain ⟨d1, rfl, e1⟩ := enumD_get e
    obtain ⟨v1, q1, r1⟩ := Reps.get r e1
    have z1 := y1 vs ((s1.trans s2).seq h)
    rw [q1] at z1
    cases z1
    rw [Nat.zero_add]
    exact pair_grow (a := .int (i : Nat)) s2 hn rfl (Rep.mono s1 r1)
theorem yields_str {s : List Nat} (hc : s.length ≤ cap) : Yields K T (Its ⟨s.toArray⟩) F (s.map fun c => .str [c]) where
  len := fun H _ _ => by
    rw [List.length_map]
    exact le_line hc
  go := fun i H _ hi => by
    rw [List.length_map] at hi
    exact hi
  stop := fun i H _ hi => by
    rw [List.length_map] at hi
    exact hi
  yld := fun i G H x H' d _ s2 e y => by
    obtain ⟨rfl, c, hc, rfl⟩ := y
    rw [List.getElem?_map] at e
    have hc : s[i]? = some c := by simpa using hc
    rw [hc] at e
    cases e
    exact ⟨G, Grow.refl s2, rfl⟩
theorem yields_rev {a : Addr} {ds : List D} {vs : List V} (h : SqL K F a vs) (r : Reps K T F ds vs) : Yields K T (Itv K a vs.length) F ds.reverse where
  len := fun H s l => by
    rw [List.length_reverse, ← Reps.length r]
    exact l a vs (.inl (s.seq h))
  go := fun i H s hi => by
    rw [List.length_reverse, ← Reps.length r] at hi
    exact ⟨hi, vs, vs[vs.length - 1 - i]'(by omega), s.seq h, by rw [List.getElem?_eq_getElem]⟩
  stop := fun i H s hi => by
    rw [List.length_reverse, ← Reps.length r] at hi
    exact hi
  yld := fun i G H x H' d s1 s2 e y => by
    obtain ⟨rfl, y⟩ := y
    have hi : i < ds.reverse.length := (List.getElem?_eq_some_iff.mp e).1
    rw [List.length_reverse] at hi
    rw [List.getElem?_reverse hi] at e
    obtain ⟨v, e1, r1⟩ := Reps.get r e
    have e2 := y vs ((s1.trans s2).seq h)
    rw [Reps.length r, e1] at e2
    cases e2
    exact ⟨G, Grow.refl s2, Rep.mono s1 r1⟩
end

/-! ### own classes that are walked -/
/-- an iterator of a tuple -/
def ItT (l it : Addr) : HO := .ext fun h => h.get? it = some { cls := .type "tuple_iterator", data := .fields #[.ref l, .int 0 0] }
theorem itT_ok {P : Program} {w : World} {H : Hp} {h : Heap} {l it : Addr} (e : h.get? it = some { cls := .type "tuple_iterator", data := .fields #[.ref l, .int 0 0] }) : ObjOk P w H h it (ItT l it) := ⟨e, ⟨_, e⟩, fun _ _ q k => k _ q⟩
/-- iter(xs) of a list or a tuple: a new object, at n or behind -/
def rIterA (K : PySem.W.Frag) (n : Nat) : List V → Hp → VK → Prop := fun xs H Q => ∃ (l : Addr) (zs : List V), xs = [.ref l] ∧ ((SqL K H l zs ∧ ∀ it, H it = none → n ≤ it → Q (.ref it) (upd H it (ItO l it 0))) ∨ (SqT K H l zs ∧ ∀ it, H it = none → n ≤ it → Q (.ref it) (upd H it (ItT l it))))
section
variable {X : Cx} {T : Tab} {W : WX} {pos p2 apos : Pos} {k : Nat} {tg : Expr}
theorem call_iterA : CallR X (.builtin "iter") (rIterA X.K X.s_0.heap.objs.size) := by
  intro pins s σ H xs us Q I r h
  obtain ⟨l, zs, rfl, h⟩ := h
  rcases h with ⟨hq, q⟩ | ⟨hq, q⟩
  · exact ItX.call_iterN pins s σ H _ us Q I r ⟨l, zs, rfl, hq, q⟩
  · obtain ⟨u, rfl, ru⟩ := vals1 r
    cases ru
    obtain ⟨its, rv, pl, hz⟩ := I.tuple hq
    refine Calls.call_function_entry (by decide +kernel) (by decide +kernel) PySem.W.kdk_entry_iter (PySem.W.kdk_args_iter _) ?_
    unfold Builtin.«iter»
    refine wpAny_bind (m := someArgs "iter" 1 2 _) (wpAny_of_eq (a := [Value.ref l]) (by first | rfl | kernel_rfl!) ?_)
    refine wpAny_bind (wpAny_pyIter_tuple (show s.heap.IsTuple l its.toArray from pl) ?_)
    refine wpAny_pure ⟨_, rfl, ?_⟩
    exact ⟨.ref s.heap.objs.size, _, I.laid (t' := s.toks) (fun b u e => Heap.get?_push_of_some _ e) (Nat.le_refl _) (itT_ok (Heap.get?_push_size _ rfl)), rfl, q _ (I.hok.fresh (Nat.le_refl _)) I.sz⟩
/-- the def at g of a class at C hands out the walk of the field f -/
structure ItOk (P : Program) (w : World) (K : PySem.W.Frag) (mg : Str → Option Value) (base : Heap) (k : Nat) (g C : Addr) (f : Str) : Prop where
  run : ∀ (A : Around) (outer : List PySem.Env) (s : Shared) (H : Hp) (a dx l : Addr) (fs : List (Str × V)) (Q : VK), Room k A → Env0 P w K mg base A outer s H → H a = some (.ins C dx fs) → fs.lookup f = some (.ref l) → rIterA K s.heap.objs.size [.ref l] H Q →
    codeAny (model P w) A (.call (.ref g) ⟨[.ref a], []⟩) (CR (L2.CX P w) outer P w H s Q Nev) s
/-- is this the body: return iter(self.f) -/
def iterB (N : List Str) (sc : Scope) (f : Str) : List Stmt → Bool
  | [.Return (some (.Call (.Name y _) [.Attribute (.Name z _) f' _] [] _)) _] => decide (y = ("iter" : Str)) && (decide (f' = f) && (decide (N[0]? = some z) && ((match sc.names.lookup ("iter" : Str) with
      | some .globalImplicit => true
      | _ => false) && ((match sc.names.lookup z with
      | some .local => true
      | _ => false) && (!(z == ("__debug__" : Str)) && !(z == ("__classdict__" : Str)))))))
  | _ => false
theorem it_walk {X : Cx} {z f : Str} {p1 p2 p3 p4 p5 : Pos} {pins : List (Addr × Obj)} {s : Shared} {σ : L2.St} {H : Hp} {D : Ends} {a C dx l : Addr} {fs : List (Str × V)} (h0 : X.N[(0 : Nat)]? = some z) (g1 : Gl X "iter") (hm : X.mg "iter" = none) (g2 : Vis X.env.scope z) (h3 : (z == ("__debug__" : Str)) = false) (h4 : (z == ("__classdict__" : Str)) = false)
    (cl : Cls X.K C) (na : NoAttr X.K C f) (I : Inv X pins σ H s) (hs : σ[(0 : Nat)]? = some (some (.ref a))) (ha : H a = some (.ins C dx fs)) (hl : fs.lookup f = some (.ref l)) (hq : rIterA X.K X.s_0.heap.objs.size [.ref l] H D.rt) :
    wpAny (model X.prog X.w) X.A (execs [.Return (some (.Call (.Name "iter" p2) [.Attribute (.Name z p1) f p3] [] p4)) p5] X.env) (SP X pins D) X.xe s := by
  have e1 : PE X (.Attribute (.Name z p1) f p3) _ := pe_fld (pos := p3) (f := f) (pe_var (pos := p1) (i := 0) h0 g2 h3 h4) rfl
  have e2 : PE X (.Call (.Name "iter" p2) [.Attribute (.Name z p1) f p3] [] p4) _ := pe_callB (pos := p4) (p := p2) call_iterA g1 hm (by decide +kernel) (pa_cons e1 pa_nil (by rfl)) (by decide +kernel) (by decide +kernel) (by rfl) (by rfl)
  refine (pss_one (ps_ret (pos := p5) e2)).run pins s σ H D I ?_
  exact ⟨.ref a, hs, a, C, dx, fs, .ref l, rfl, ha, cl, na, hl, hq⟩
theorem iterB_of {N : List Str} {sc : Scope} {f : Str} {body : List Stmt} (h : iterB N sc f body = true) : ∃ z p1 p2 p3 p4 p5, body = [.Return (some (.Call (.Name "iter" p2) [.Attribute (.Name z p1) f p3] [] p4)) p5] ∧ N[(0 : Nat)]? = some z ∧ sc.names.lookup ("iter" : Str) = some .globalImplicit ∧ sc.names.lookup z = some .local ∧ (z == ("__debug__" : Str)) = false ∧ (z == ("__classdict__" : Str)) = false := by
  unfold iterB at h
  split at h
  · obtain ⟨h1, h⟩ := Bool.and_eq_true_iff.mp h
    obtain ⟨h2, h⟩ := Bool.and_eq_true_iff.mp h
    obtain ⟨h3, h⟩ := Bool.and_eq_true_iff.mp h
    obtain ⟨h4, h⟩ := Bool.and_eq_true_iff.mp h
    obtain ⟨h5, h⟩ := Bool.and_eq_true_iff.mp h
    obtain ⟨h6, h7⟩ := Bool.and_eq_true_iff.mp h
    have h1 := of_decide_eq_true h1
    have h2 := of_decide_eq_true h2
    subst h1 h2
    refine ⟨_, _, _, _, _, _, rfl, of_decide_eq_true h3, ?_, ?_, ?_, ?_⟩
    · split at h4
      · assumption
      · cases h4
    · split at h5
      · assumption
      · cases h5
    · exact Bool.not_eq_true' _ ▸ h6
    · exact Bool.not_eq_true' _ ▸ h7
  · cases h
theorem it_ok {P : Program} {w : World} {K : PySem.W.Frag} {mg : Str → Option Value} {base : Heap} {g C : Addr} {fd : FuncData} {nm qual f : Str} {params : Arguments} {body : List Stmt} {scope : Scope} {N ps : List Str} (F : FunD K nm qual params body scope [] [] g fd) (S : FnScope N ps scope)
    (hps : ps.length = 1) (hb : Binds K fd ps []) (cl : Cls K C) (na : NoAttr K C f) (hm : mg ("iter" : Str) = none) (hB : iterB N scope f body = true) : ItOk P w K mg base 1 g C f := by
  obtain ⟨oc, od, dV, kV, doc, pm, an, cdv, ct, osl, rfl, lk, hcd, _, _⟩ := F.ex
  refine ⟨fun A outer s H a dx l fs Q hr e0 ha hl hq => ?_⟩
  have KX : K.In s.heap := e0.mod.kin.keeps fun b o e => (e0.bs b o e).1
  have hbind := hb s [.ref a] KX (by rw [hps]; rfl)
  have hkind : ∀ y ∈ ps.zip ([Value.ref a] ++ []), scope.names.lookup y.1 = some .local ∨ (scope.names.lookup y.1 = some .cell ∧ ((cellsFrom (s.heap.objs.size + 1) scope.names []).lookup y.1).isSome = true) := by
    rintro ⟨y, v⟩ hy
    exact (S.par y (List.of_mem_zip hy).1).imp id fun q => ⟨q, PySem.W.cellsFrom_some _ _ _ (.inl q)⟩
  refine codeAny_call_function hr.depth (KX _ _ lk) rfl S.co S.gen rfl (PySem.W.codeRec_of KX hcd) (hbind _ _ _ _ ?_)
  refine wpAny_newFunctionEnv_cells S.kind hkind fun env he s1 x => ?_
  subst he
  refine ⟨(e0.mod.nolimit.keeps fun b o e => (e0.bs b o e).1).keeps x.toInCall.keep, codeAny_func ?_⟩
  have I : Inv (cxOf (L2.CX P w) P w K mg base N qual scope g cdv A outer s H Nev) [] (start N [V.ref a]) H s1 := inv_start S hr.hd e0 (by rw [hps]; rfl) (.cons rfl .nil) x
  obtain ⟨z, p1, p2, p3, p4, p5, eb, h0, g1, g2, h3, h4⟩ := iterB_of hB
  subst eb
  have hs0 : (start N [V.ref a] : List (Option V))[(0 : Nat)]? = some (some (V.ref a)) := rfl
  refine wpAny_mono (it_walk (X := cxOf (L2.CX P w) P w K mg base N qual scope g cdv A outer s H Nev) (D := { nx := fun _ H' => Q .non H', rt := Q }) h0 g1 hm (.inl g2) h3 h4 cl na I hs0 ha hl hq) (fun fl s' hs => ?_) fun e s' hs => hs
  cases fl with
  | ret u =>
    obtain ⟨v, σ', H', J, rv, q⟩ := hs
    exact ⟨v, H', J.os, J.bare, J.base, J.hok, rv, q⟩
  | next =>
    obtain ⟨σ', H', J, q⟩ := hs
    exact ⟨.non, H', J.os, J.bare, J.base, J.hok, rfl, q⟩
  | brk =>
    obtain ⟨_, _, _, q⟩ := hs
    exact q.elim
  | cont =>
    obtain ⟨_, _, _, q⟩ := hs
    exact q.elim
def GoodT (P : Program) (w : World) (K : PySem.W.Frag) (mg : Str → Option Value) (base : Heap) (T : Tab) (k c i : Nat) : Prop :=
  ∃ (g : Addr) (f : Str), PySem.W.findIn K (.ref (T.addr c)) "__iter__" = some (some (.ref g)) ∧ PySem.W.isFn K (.ref g) = true ∧ (T.flds c)[i]? = some f ∧ (T.flds c).Nodup ∧ ItOk P w K mg base k g (T.addr c) f
/-- pyIter by an own __iter__ -/
theorem iter_own {C g a : Addr} {ox od : Obj} {A : Around} {E : Value → Shared → Prop} {s : Shared} {Q : Value → Shared → Prop} (X0 : X.K.In s.heap) (J : PySem.W.InstAt s.heap a ox C (some od)) (hs : PySem.W.findIn X.K (.ref C) "__iter__" = some (some (.ref g))) (hf : PySem.W.isFn X.K (.ref g) = true)
    (h : wpAny (model X.prog X.w) A (call (.ref g) [.ref a]) (fun v s' => ∃ it n id, v = .ref it ∧ s'.TypeIs (.ref it) n ∧ Slot n "__next__" id ∧ Q (.ref it) s') E s) : wpAny (model X.prog X.w) A (pyIter (.ref a)) Q E s := by
  have kd := beq_iff_eq.mp hf
  have sp : ∀ {R : Option Value → Shared → Prop}, R (some (.ref g)) s → wpAny (model X.prog X.w) A (specialOf (.ref a) "__iter__") R E s := fun hR => wpAny_bind (J.type.here ((PySem.W.looks_findIn X0 hs).here hR))
  have run : ∀ refuse : PySem.Sem Value, wpAny (model X.prog X.w) A (callSpecialIfBoundUnlessNone? (.ref a) "__iter__" refuse) (fun r s' => ∃ it n id, r = some (.ref it) ∧ s'.TypeIs (.ref it) n ∧ Slot n "__next__" id ∧ Q (.ref it) s') E s := by
    intro refuse
    have fin : wpAny (model X.prog X.w) A (if (Value.ref g == Value.none) = true then (refuse >>= fun v => pure (some v)) else (call (.ref g) [.ref a] >>= fun v => pure (some v))) (fun r s' => ∃ it n id, r = some (.ref it) ∧ s'.TypeIs (.ref it) n ∧ Slot n "__next__" id ∧ Q (.ref it) s') E s := by
      rw [if_neg (fun z : (Value.ref g == Value.none) = true => by cases z)]
      refine wpAny_bind (wpAny_mono h (fun v s' hv => ?_) fun _ _ z => z)
      obtain ⟨it, n, id, e, q⟩ := hv
      subst e
      exact wpAny_pure ⟨it, n, id, rfl, q⟩
    simp only [callSpecialIfBoundUnlessNone?, bindSpecialIfBound?]
    refine wpAny_holding (wpAny_bind (wpAny_bind (sp ?_)))
    refine wpAny_bind (wpAny_askSetting (wpAny_ite ?_))
    split
    · exact wpAny_bind ((PySem.W.bind_fn X0 _ kd).here (wpAny_pure (by exact fin)))
    · exact wpAny_tryCatch (wpAny_bind ((PySem.W.bind_fn X0 _ kd).here (wpAny_pure (by exact fin))))
  unfold pyIter
  refine wpAny_bind (sp ?_)
  refine wpAny_bind (wpAny_mono (run _) (fun r s' hr => ?_) fun _ _ z => z)
  obtain ⟨it, n, id, rfl, hT, sl, q⟩ := hr
  refine wpAny_bind (wpAny_specialOf hT sl.lookup ?_)
  exact wpAny_pure q

/-- the walk of an own object -/
theorem s_own {tab : List (Nat × Nat)} {e : Expr} {f : Env → R D} (hf : ∀ c i, look c tab = some i → GoodT X.prog X.w X.K X.mg X.base T k c i) (hr : Room k X.A) (he : PE X e (rdE X.K T W f)) :
    PI X tg e (rdI X.K T W fun env => (f env).bind fun x => iopD (.own tab) [x]) := by
  refine ⟨fun pins s σ H R I q => ?_⟩
  obtain ⟨F, env, vw, q⟩ := q (lenOk_of I)
  have q2 := Post.bind (rel := relD X.K T) q
  refine thn (he.run pins s σ H _ I (vw.rd q2)) fun u s1 ⟨x, H1, I1, rx, F1, d1, e1, g1, r1, q1⟩ => ?_
  obtain ⟨c, fs, rfl⟩ : ∃ c fs, d1 = .obj c fs := by cases d1 <;> first | exact ⟨_, _, rfl⟩ | exact q1.elim
  have q1 : Post X.K T (fun F' ds J => Yields X.K T J F' ds) (fun c d H' => W c d σ H') F1 H1 (match look c tab with
    | some k => (match fs[k]? with
      | some (.lst xs) => .ok xs
      | some (.tup xs) => .ok xs
      | _ => .no)
    | none => .no) R := q1
  split at q1
  case h_2 => exact q1.elim
  rename_i i hk
  obtain ⟨g, fl, hs, hfn, hfl, hnd, hI⟩ := hf c i hk
  obtain ⟨a, dx, vs, ea, h1, h2, h3⟩ := r1
  subst ea
  obtain rfl : u = Value.ref a := rx
  obtain ⟨mA, O, _, _, _, _⟩ := ins_get I1.hok (g1.s _ _ h1)
  obtain ⟨od, J, _⟩ := O.look
  have fin : ∀ (l : Addr) (zs : List V) (mk : Addr → HO) (It : L2.It) (tn : Addr → Nat → Heap → Prop) (n id : String) (ds : List D), vs[i]? = some (.ref l) → ((mk = fun it => ItO l it 0) ∧ SqL X.K H1 l zs ∨ (mk = fun it => ItT l it) ∧ SqT X.K H1 l zs) → (∀ it, ∃ φ, mk it = .ext φ) →
      (∀ it, Turn X.prog X.w X.K tg It [it] it (tn it)) → Slot n "__next__" id → (∀ it s2 H2, Inv X pins σ H2 s2 → H2 it = some (mk it) → s2.TypeIs (.ref it) n ∧ tn it 0 s2.heap) → Yields X.K T It F1 ds → Post X.K T (fun F' ds J => Yields X.K T J F' ds) (fun c d H' => W c d σ H') F1 H1 (.ok ds) R →
      wpAny (model X.prog X.w) X.A (pyIter (.ref a)) (PIE X pins σ tg R) X.xe s1 := by
    intro l zs mk It tn n id ds hv hsq hex turn sl inv y q
    refine iter_own I1.kIn J hs hfn (wpAny_call (codeAny_mono (hI.run X.A X.stack s1 H1 a dx l _ (fun v H' => ∃ it, v = .ref it ∧ H1 it = none ∧ s1.heap.objs.size ≤ it ∧ H' = upd H1 it (mk it)) hr I1.env0 (g1.s _ _ h1) (zip_look hnd hfl hv) ?_) fun r s2 hq => ?_))
    · rcases hsq with ⟨rfl, hq⟩ | ⟨rfl, hq⟩
      · exact ⟨l, zs, rfl, .inl ⟨hq, fun it hn hz => ⟨it, rfl, hn, hz, rfl⟩⟩⟩
      · exact ⟨l, zs, rfl, .inr ⟨hq, fun it hn hz => ⟨it, rfl, hn, hz, rfl⟩⟩⟩
    · cases r with
      | error e => exact (passNev pins σ H1 s1 e s2 I1 hq : X.xe e s2)
      | ok fl2 =>
        cases fl2 with
        | ret w2 =>
          obtain ⟨v, H2, I2, rv, it, e2, hn, hz, eH⟩ := I1.after hq
          subst e2 eH
          obtain rfl : w2 = Value.ref it := rv
          obtain ⟨hT, ht⟩ := inv it s2 _ I2 upd_same
          obtain ⟨φ, hφ⟩ := hex it
          refine ⟨it, n, id, rfl, hT, sl, it, [it], tn it, It, H1, rfl, ?_, turn it, ht, fun b hb => ?_, Post.ok g1.s q y⟩
          · have := ItX.inv_drop I2 (a := it) (φ := φ) (by rw [upd_same, hφ])
            rw [ItX.dropH_upd hn] at this
            exact this
          · have e : b = it := by simpa using hb
            rw [e]
            have := ItX.inv_fp I2 (a := it) upd_same (Nat.le_trans I1.sz hz)
            rw [ItX.dropH_upd hn] at this
            exact this
        | _ => exact hq.elim
  split at q1
  · rename_i xs hx
    obtain ⟨v, hv, l, zs, ev, hl, rz⟩ := Reps.get h3 hx
    subst ev
    exact fin l zs _ (Itl X.K l) (fun it i h => h.IsListIter it l i) "list_iterator" _ xs hv (.inl ⟨rfl, .inl (.inl (g1.s _ _ hl))⟩) (fun it => ⟨_, rfl⟩) (fun it => turn_list l it) PySem.slot_listiter_next (fun it s2 H2 I2 e => by
      have o := itO_get I2 e
      exact ⟨⟨_, o, rfl⟩, _, o, rfl, rfl⟩) (yields_list (.inl (.inl hl)) rz) q1
  · rename_i xs hx
    obtain ⟨v, hv, l, zs, ev, hl, rz⟩ := Reps.get h3 hx
    subst ev
    exact fin l zs _ (Itt X.K l) (fun it i h => h.IsTupleIter it l i) "tuple_iterator" _ xs hv (.inr ⟨rfl, sameT g1.s hl⟩) (fun it => ⟨_, rfl⟩) (fun it => turn_tuple l it) PySem.F.slot_tuple_iterator_next (fun it s2 H2 I2 e => by
      have o : s2.heap.get? it = some { cls := .type "tuple_iterator", data := .fields #[.ref l, .int 0 0] } := (I2.hok it _ e).1
      exact ⟨⟨_, o, rfl⟩, _, o, rfl, rfl⟩) (yields_tup hl rz) q1
  · exact q1.elim
end
end Py

namespace Py
open PySem L2

section
variable {K : PySem.W.Frag} {T : Tab} {F : Hp}
theorem yields_enumT {a : Addr} {ds : List D} {vs : List V} (h : F a = some (.tup vs)) (r : Reps K T F ds vs) : Yields K T (IteT K a vs.length) F (enumD 0 ds) where
  len := fun H s l => by
    rw [enumD_len, ← Reps.length r]
    exact l a vs (.inr (sameT s h))
  go := fun i H s hi => by
    rw [enumD_len, ← Reps.length r] at hi
    exact ⟨vs, vs[i], sameT s h, by simp [hi], rfl⟩
  stop := fun i H s hi => by
    rw [enumD_len, ← Reps.length r] at hi
    exact ⟨vs, sameT s h, rfl, hi⟩
  yld := fun i G H x H' d s1 s2 e y => by
    obtain ⟨p, w, rfl, hn, rfl, y1⟩ := y
    obtain ⟨d1, rfl, e1⟩ := enumD_get e
    obtain ⟨v1, q1, r1⟩ := Reps.get r e1
    have z1 := y1 vs (sameT (s1.trans s2) h)
    rw [q1] at z1
    cases z1
    rw [Nat.zero_add]
    exact pair_grow (a := .int (i : Nat)) s2 hn rfl (Rep.mono s1 r1)
end
section
variable {X : Cx} {T : Tab} {W : WX} {pos p2 p3 tpos apos : Pos} {k : Nat} {tg : Expr}
theorem s_zip {a b : Expr} {f g : Env → R D} {elts : List Expr} {kk : Nat} (hg : Gl X "zip") (hm : X.mg "zip" = none) (hp : isPlain a = true) (hp' : isPlain b = true) (ha : PE X a (rdE X.K T W f)) (hb : PE X b (rdE X.K T W g)) :
    PI X (.Tuple elts kk tpos) (.Call (.Name "zip" p2) [a, b] [] pos) (rdI X.K T W fun env => (f env).bind fun x => (g env).bind fun y => iopD .zip [x, y]) := by
  have hB := s_cons (T := T) (W := W) hb s_nil (star_plain hp' [] X.env)
  have hA := s_cons (T := T) (W := W) ha hB (star_plain hp [b] X.env)
  refine pi_of (RZ.pi_zipA hg hm hA (star_plain hp [b] X.env) (star_none (es := [b]) (by show (isPlain b && true) = true; rw [hp']; rfl))) fun σ H Q L ⟨F, env, vw, q⟩ => ?_
  refine vw.rd (f := fun env => (f env).bind fun x => R.map (fun xs => x :: xs) ((g env).bind fun x => R.map (fun xs => x :: xs) (R.ok []))) ?_
  cases hx : f env with
  | ex c fs =>
    rw [hx] at q
    exact q
  | no =>
    rw [hx] at q
    exact q
  | ok d =>
    rw [hx] at q
    cases hy : g env with
    | ex c fs =>
      rw [hy] at q
      exact q
    | no =>
      rw [hy] at q
      exact q
    | ok d' =>
      rw [hy] at q
      show Post X.K T (relL X.K T) _ F H (.ok [d, d']) _
      intro vs F' H' g0 r
      obtain ⟨v, u, rfl, rv, ru⟩ := reps2 r
      have q : Post X.K T (fun F' ds J => Yields X.K T J F' ds) (fun c d H' => W c d σ H') F H (iopD .zip [d, d']) Q := q
      have q3 := Post.grow g0 q
      cases d <;> first | exact q3.elim | skip
      · cases d' <;> first | exact q3.elim | skip
        obtain ⟨a1, vs, rfl, h1, h2⟩ := rv
        obtain ⟨b1, us, rfl, k1, k2⟩ := ru
        exact ⟨a1, b1, vs, us, rfl, .inr ⟨sameT g0.s h1, sameT g0.s k1, Post.ok g0.s q3 (yields_zipT h1 k1 h2 k2)⟩⟩
      · cases d' <;> first | exact q3.elim | skip
        obtain ⟨a1, vs, rfl, h1, h2⟩ := rv
        obtain ⟨b1, us, rfl, k1, k2⟩ := ru
        exact ⟨a1, b1, vs, us, rfl, .inl ⟨.inl (.inl (g0.s _ _ h1)), .inl (.inl (g0.s _ _ k1)), Post.ok g0.s q3 (yields_zip (.inl (.inl h1)) (.inl (.inl k1)) h2 k2)⟩⟩
theorem s_enum {a : Expr} {f : Env → R D} {elts : List Expr} {kk : Nat} (hg : Gl X "enumerate") (hm : X.mg "enumerate" = none) (hp : isPlain a = true) (ha : PE X a (rdE X.K T W f)) :
    PI X (.Tuple elts kk tpos) (.Call (.Name "enumerate" p2) [a] [] pos) (rdI X.K T W fun env => (f env).bind fun x => iopD .enum [x]) := by
  have hA := s_cons (T := T) (W := W) ha s_nil (star_plain hp [] X.env)
  refine pi_of (pi_enumA hg hm hA (star_plain hp [] X.env)) fun σ H Q L ⟨F, env, vw, q⟩ => ?_
  refine vw.rd (f := fun env => (f env).bind fun x => R.map (fun xs => x :: xs) (R.ok [])) ?_
  cases hx : f env with
  | ex c fs =>
    rw [hx] at q
    exact q
  | no =>
    rw [hx] at q
    exact q
  | ok d =>
    rw [hx] at q
    show Post X.K T (relL X.K T) _ F H (.ok [d]) _
    intro vs F' H' g0 r
    obtain ⟨v, rfl, rv⟩ := reps1 r
    have q : Post X.K T (fun F' ds J => Yields X.K T J F' ds) (fun c d H' => W c d σ H') F H (iopD .enum [d]) Q := q
    have q3 := Post.grow g0 q
    cases d <;> first | exact q3.elim | skip
    · obtain ⟨a1, vs, rfl, h1, h2⟩ := rv
      exact ⟨a1, vs, rfl, .inr ⟨sameT g0.s h1, Post.ok g0.s q3 (yields_enumT h1 h2)⟩⟩
    · obtain ⟨a1, vs, rfl, h1, h2⟩ := rv
      exact ⟨a1, vs, rfl, .inl ⟨.inl (.inl (g0.s _ _ h1)), Post.ok g0.s q3 (yields_enum (.inl (.inl h1)) h2)⟩⟩
theorem s_iterS {e : Expr} {f : Env → R D} (he : PE X e (rdE X.K T W f)) : PI X tg e (rdI X.K T W fun env => (f env).bind fun x => iopD .str [x]) := by
  refine pi_of (pi_str he) fun σ H Q L ⟨F, env, vw, q⟩ => ?_
  refine vw.rd (Post.imp (Post.bind (rel := relD X.K T) q) fun x H1 ⟨F1, d1, e1, g1, r1, q1⟩ => ?_)
  cases d1 <;> first | exact q1.elim | skip
  rename_i z
  have q1 : Post X.K T (fun F' ds J => Yields X.K T J F' ds) (fun c d H' => W c d σ H') F1 H1 (if z.length ≤ cap then .ok (z.map fun c => .str [c]) else .no) Q := q1
  split at q1
  · rename_i hz
    cases r1
    exact ⟨_, rfl, Post.ok g1.s q1 (yields_str hz)⟩
  · exact q1.elim
theorem s_revI {a : Expr} {f : Env → R D} (hg : Gl X "reversed") (hm : X.mg "reversed" = none) (hp : isPlain a = true) (ha : PE X a (rdE X.K T W f)) :
    PI X tg (.Call (.Name "reversed" p2) [a] [] pos) (rdI X.K T W fun env => (f env).bind fun x => iopD .rev [x]) := by
  refine pi_of (RT.pi_revA hg hm ha (star_plain hp [] X.env)) fun σ H Q L ⟨F, env, vw, q⟩ => ?_
  refine vw.rd (Post.imp (Post.bind (rel := relD X.K T) q) fun x H1 ⟨F1, d1, e1, g1, r1, q1⟩ => ?_)
  cases d1 <;> first | exact q1.elim | skip
  obtain ⟨a1, vs, rfl, h1, h2⟩ := r1
  exact ⟨a1, vs, rfl, .inl ⟨.inl (.inl (g1.s _ _ h1)), Post.ok g1.s q1 (yields_rev (.inl (.inl h1)) h2)⟩⟩

/-! ### texts -/
theorem cnt_eq (s : List Nat) (c : Nat) : Txt.count ⟨s.toArray⟩ ⟨#[c]⟩ = ((s.count c : Nat) : Int) := by
  rw [PyProof.Rows.count_cnt]
  show PyProof.Rows.cnt c s = _
  induction s with
  | nil => rfl
  | cons n r ih =>
    rw [PyProof.Rows.cnt_cons, ih, List.count_cons]
    by_cases h : n = c
    · subst h
      simp
      omega
    · have : (n == c) = false := by simpa using h
      rw [if_neg h, this]
      simp
/-- a method of a text with one argument -/
theorem s_m1 {id : String} {m : Str} {r : V → List V → Hp → VK → Prop} {o : Op} {a b : Expr} {f g : Env → R D} (slot : Slot "str" m id) (ty : typeOf (.builtin id) = pure (.type "method_descriptor")) (rule : MtR X id r) (hb : isBase a = true) (hp : isPlain b = true) (hl : (apos.endLine == pos.line) = true)
    (ha : PE X a (rdE X.K T W f)) (hbe : PE X b (rdE X.K T W g)) (hs : ∀ d d', (∀ s, d ≠ .str s) → opD o [d, d'] = .no) (hx : ∀ d d' c fs, opD o [d, d'] ≠ .ex c fs)
    (hr : ∀ {W' F H Q s d' y}, Same F H → Rep X.K T F d' y → Post X.K T (relD X.K T) W' F H (opD o [.str s, d']) Q → r (.str ⟨s.toArray⟩) [y] H Q) :
    PE X (.Call (.Attribute a m apos) [b] [] pos) (rdE X.K T W fun env => (((f env).bind fun x => (g env).map fun y => [x, y]).calm).bind (opD o)) := by
  refine pe_of (pe_m1 slot ty rule ha hbe (star_plain hp [] X.env) (base_of hb) hl) fun σ H Q _ ⟨F, env, vw, q⟩ => ?_
  cases e1 : f env with
  | ex c fs =>
    rw [e1] at q
    exact q.elim
  | no =>
    rw [e1] at q
    exact q.elim
  | ok d1 =>
  rw [e1] at q
  cases e2 : g env with
  | ex c fs =>
    rw [e2] at q
    exact q.elim
  | no =>
    rw [e2] at q
    exact q.elim
  | ok d2 =>
  rw [e2] at q
  have q : Post X.K T (relD X.K T) (fun c d H' => W c d σ H') F H (opD o [d1, d2]) Q := q
  show rdE X.K T W f σ H _
  intro L
  refine (vw.got e1 L).imp fun F' ⟨env', vw', z⟩ => ⟨env', vw', Post.imp z fun v H1 ⟨F1, g1, r1⟩ => ?_⟩
  obtain ⟨s, rfl⟩ : ∃ s, d1 = .str s := by
    by_cases h : ∃ s, d1 = .str s
    · exact h
    · rw [hs d1 d2 fun s e => h ⟨s, e⟩] at q
      exact q.elim
  cases r1
  refine ⟨⟨_, rfl⟩, ?_⟩
  show rdE X.K T W g σ H1 _
  intro L1
  refine ((vw.grow g1).got e2 L1).imp fun F' ⟨env', vw', z⟩ => ⟨env', vw', Post.imp z fun v H2 ⟨F2, g2, r2⟩ => ?_⟩
  exact hr g2.s r2 (Post.grow (g1.trans g2) q)
theorem s_count {a b : Expr} {f g : Env → R D} (hb : isBase a = true) (hp : isPlain b = true) (hl : (apos.endLine == pos.line) = true) (ha : PE X a (rdE X.K T W f)) (hbe : PE X b (rdE X.K T W g)) :
    PE X (.Call (.Attribute a "count" apos) [b] [] pos) (rdE X.K T W fun env => (((f env).bind fun x => (g env).map fun y => [x, y]).calm).bind (opD .count)) := by
  refine s_m1 PySem.F.slot_str_count PySem.F.type_str_count mt_count hb hp hl ha hbe (fun d d' h => ?_) (fun d d' c fs h => ?_) fun {W' F H Q s d' y} sF ry q => ?_
  · cases d <;> first | rfl | exact absurd rfl (h _)
  · unfold opD at h
    split at h <;> first | (cases h; done) | skip
    all_goals (repeat' split at h)
    all_goals first | (cases h; done) | skip
    all_goals simp_all
  · cases d' <;> first | exact q.elim | skip
    rename_i t
    match t, q, ry with
    | [c], q, ry =>
      cases ry
      refine ⟨_, _, rfl, rfl, ?_⟩
      rw [cnt_eq]
      exact Post.ok sF q rfl
    | [], q, _ => exact q.elim
    | _ :: _ :: _, q, _ => exact q.elim
theorem s_strI {a : Expr} {f : Env → R D} (hg : Gl X "str") (hm : X.mg "str" = none) (hp : isPlain a = true) (ha : PE X a (rdE X.K T W f)) :
    PE X (.Call (.Name "str" p2) [a] [] pos) (rdE X.K T W fun env => (f env).bind fun x => opD .strI [x]) := by
  have hA := s_cons (T := T) (W := W) ha s_nil (star_plain hp [] X.env)
  refine pe_of (pe_callTy call_str_int hg hm (by decide +kernel) hA (by decide +kernel) (by decide +kernel) (star_plain hp [] X.env) (by rfl)) fun σ H Q _ ⟨F, env, vw, q⟩ => ?_
  refine vw.rd (f := fun env => (f env).bind fun x => R.map (fun xs => x :: xs) (R.ok [])) ?_
  cases hx : f env with
  | ex c fs =>
    rw [hx] at q
    exact q
  | no =>
    rw [hx] at q
    exact q
  | ok d =>
    rw [hx] at q
    show Post X.K T (relL X.K T) _ F H (.ok [d]) _
    intro vs F' H' g0 r
    obtain ⟨v, rfl, rv⟩ := reps1 r
    have q : Post X.K T (relD X.K T) (fun c d H' => W c d σ H') F H (opD .strI [d]) Q := q
    have q3 := Post.grow g0 q
    obtain ⟨i, rfl⟩ : ∃ i, d = .int i := by cases d <;> first | exact ⟨_, rfl⟩ | exact q3.elim
    cases rv
    have q3 : Post X.K T (relD X.K T) _ F' H' (if i.natAbs < 2 ^ 90 then .ok (.str (intD i)) else .no) Q := q3
    split at q3
    · rename_i hi
      refine ⟨i, rfl, ?_, Post.ok g0.s q3 ?_⟩
      · by_cases h0 : i.natAbs = 0
        · rw [h0]
          decide
        · have := (Nat.log2_lt h0).mpr hi
          omega
      · show V.str ((toString i : String) : Str) = V.str ⟨(intD i).toArray⟩
        unfold intD
        rw [show @Str.ofString = @Str.ofStringByList from Str.ofString_eq_byList]
        rfl
    · exact q3.elim
/-- a field of the object that is being made -/
theorem s_selfF {x : String} {c k : Nat} {z : Str} (hN : X.N[(0 : Nat)]? = some z) (hv : Vis X.env.scope z) (hd : (z == ("__debug__" : Str)) = false) (hcd : (z == ("__classdict__" : Str)) = false) (K1 : FldOk X.K T c k x) :
    PE X (.Attribute (.Name z p2) (x : Str) pos) (rdE X.K T W fun env => env.mine c k) := by
  refine pe_of (pe_fld (pe_var hN hv hd hcd) rfl) fun σ H Q _ ⟨F, env, vw, q⟩ => ?_
  unfold Env.mine at q
  split at q
  · rename_i c' fs e
    split at q
    · rename_i hc
      subst hc
      obtain ⟨d, e2, q⟩ := post_ofO (α := D) (rel := relD X.K T) q
      obtain ⟨h1, dx, vs, h2, h3, h4⟩ := vw.me c' fs e
      obtain ⟨u, hu, ru⟩ := Reps.get h4 e2
      exact ⟨_, h1, _, _, dx, _, u, rfl, h2, K1.cl, K1.na, zip_look K1.nd K1.at_ hu, Post.ok vw.s q ru⟩
    · exact q.elim
  · exact q.elim
end
end Py

namespace Py
open PySem L2

/-! ### dict comprehensions whose keys are tuples -/
/-- the heap behind a turn's store -/
def PutT (D : Addr) (H : Hp) (y z : V) (H' : Hp) : Prop := ∃ kvs k b, y = .ref b ∧ H b = some (.tup (k.map kV)) ∧ H D = some (.dT kvs) ∧ kvs.length < sizeLine ∧ H' = upd H D (.dT (L2.putK kvs k z))
theorem put_ok {X : Cx} (hu : X.A.units + 1 < cLine) {pins : List (Addr × Obj)} {σ : L2.St} {H H' : Hp} {s : Shared} {E : Value → Shared → Prop} {D : Addr} {y z : V} {u r : Value} {Q : Unit → Shared → Prop} (I : Inv X pins σ H s) (hp : PutT D H y z H') (ry : RelV y u) (rz : RelV z r)
    (h : ∀ s', Inv X pins σ H' s' → Q () s') : wpAny (model X.prog X.w) X.A (dictSet D u r) Q E s := by
  obtain ⟨kvs, k, b, rfl, hb, hD, hz, rfl⟩ := hp
  obtain rfl : u = Value.ref b := ry
  obtain ⟨n1, n2, xs, rel, dd⟩ := dt_of I.hok hD
  have hxs : xs.length ≤ sizeLine := by
    rw [← Paired.length rel]
    exact n1
  have fits : (L2.putK kvs k z).length ≤ sizeLine := by
    have := length_putK kvs k z
    omega
  have room : (tupleKind (mixKind X.prog X.w)).room X.A := (by omega : X.A.units < cLine)
  refine wpAny_dictSet_heap (hsz := hxs) room (key_of I.hok hb) dd fun h' dd' same => h _ ?_
  obtain ⟨ob, es, ep, e1, e2, e3, e4, _, e5⟩ := dd'
  refine d_write I (by rw [hD]; exact True.intro) same ⟨ob, e1⟩ ⟨fits, n2, _, (rel.put k hb rz).keeps fun c ys ec => ?_, ob, es, ep, e1, e2, e3, e4, e5⟩
  rw [upd_ne (ne_of ec hD (fun z => nomatch z))]
  exact ec

section
variable {X : Cx}
def tDct (wi : TI) (g : TG) (tt : TT) (tk tv : TE) (vs : List Nat) : TE := fun σ H Q => wi σ H fun J H1 => ∀ D, H1 D = none → ∃ Wt : Nat → Nat → Hp → Prop, (∃ m, Wt 0 m (upd H1 D (.dT []))) ∧ ∀ i m H, Wt i m H →
  (J.stop i H ∧ Q (.ref D) H) ∨ (J.go i H ∧ ∃ Nx : Hp → Prop, (∀ H', Nx H' → ∃ m', m' < m ∧ Wt (i + 1) m' H') ∧ ∀ x H', J.yld i H x H' → g x (L2.wipe σ vs) H' fun σ2 H2 => L2.wipe σ2 vs = L2.wipe σ vs ∧ tt σ2 H2 fun b H3 =>
    if b = true then tk σ2 H3 fun y H4 => tv σ2 H4 fun z H5 => ∃ H6, PutT D H5 y z H6 ∧ Nx H6 else Nx H3)

/-- one turn's end, and the end of the walk, seen from the def -/
structure Blk (X : Cx) (pins : List (Addr × Obj)) (σ : L2.St) (s3 : Shared) (H3 : Hp) (scope : Scope) (ce : PySem.Env) (fp : List Addr) (vs : List Nat) (tn : Nat → Heap → Prop) : Prop where
  I3 : Inv X pins σ H3 s3
  f3 : ∀ b ∈ fp, FpOk X pins H3 b
  loc : ce.locals = s3.heap.objs.size
  keep : ∀ i h h', tn i h → (∀ b ∈ fp, ∀ o, h.get? b = some o → h'.get? b = some o) → tn i h'
  obj : ∀ i h, tn i h → ∀ b ∈ fp, ∃ o, h.get? b = some o ∧ ∀ v, o.data ≠ .cell v
section
variable {pins : List (Addr × Obj)} {σ : L2.St} {s3 : Shared} {H3 : Hp} {scope : Scope} {ce : PySem.Env} {fp : List Addr} {vs : List Nat} {tn : Nat → Heap → Prop}
theorem Blk.stat (B : Blk X pins σ s3 H3 scope ce fp vs tn) {σ' : L2.St} {H' : Hp} {s' : Shared} (J : Inv (X.blk s3 H3 scope ce fp) [] σ' H' s') (hn : ∀ b ∈ fp, H' b = none) : ∀ b ∈ fp, FpOk (X.blk s3 H3 scope ce fp) [] H' b := by
  intro b hb
  refine ⟨hn b hb, (J.ok.exf b hb).1, J.ok.exfs b hb, .inl hb, fun x c e => (J.ok.exf b hb).2 x c e, fun p hp => ?_⟩
  have hp : p ∈ ([] : List (Addr × Obj)) ++ [] := hp
  simp at hp
/-- the turn is over: the slots of the block are forgotten -/
theorem Blk.over (B : Blk X pins σ s3 H3 scope ce fp vs tn) {s7 s' : Shared} {σ8 : L2.St} {H' : Hp} {i : Nat} (J : Inv (X.blk s3 H3 scope ce fp) ([] ++ pinsAt fp s7.heap) σ8 H' s') (ht : tn i s7.heap) (hw : L2.wipe σ8 vs = L2.wipe σ vs) :
    Inv (X.blk s3 H3 scope ce fp) [] (L2.wipe σ vs) H' s' ∧ tn i s'.heap ∧ ∀ b ∈ fp, H' b = none := by
  have pinned : ∀ b ∈ fp, ∀ o, s7.heap.get? b = some o → s'.heap.get? b = some o ∧ H' b = none := by
    intro b hb o e
    have z := J.pin (b, o) (List.mem_append_right _ (List.mem_append_right _ (mem_pinsAt hb e)))
    exact ⟨z.1, z.2.1⟩
  refine ⟨(J.unpinned (pins := [])).weak (by rw [← hw, wipe_length]) (fun j v e => ?_), B.keep _ _ _ ht fun b hb o e => (pinned b hb o e).1, fun b hb => ?_⟩
  · rw [← hw] at e
    exact (wipe_some e).1
  · obtain ⟨o, e, _⟩ := B.obj _ _ ht b hb
    exact (pinned b hb o e).2
theorem Blk.back (B : Blk X pins σ s3 H3 scope ce fp vs tn) {σ' : L2.St} {H' : Hp} {s' : Shared} (J : Inv (X.blk s3 H3 scope ce fp) [] σ' H' s') : Inv X pins σ H' s' ∧ (∃ m, s'.heap.Ns s3.heap.objs.size m) ∧ FpOk X pins H' s3.heap.objs.size := by
  have out : Inv X pins σ H' s' := B.I3.call' (ch := fp) J.os J.base J.hok J.bare fun b hb => by
    obtain ⟨_, q1, _, q3, q4, q5⟩ := B.f3 b hb
    exact ⟨q3, q1, q4, q5⟩
  have fr : H' s3.heap.objs.size = none := by
    have z : H' ce.locals = none := J.free
    rw [B.loc] at z
    exact z
  obtain ⟨m, hn, _⟩ := J.loc
  have hn : s'.heap.Ns ce.locals m := hn
  rw [B.loc] at hn
  exact ⟨out, ⟨m, hn⟩, B.I3.fpOk (Nat.le_refl _) fr⟩
end
theorem pe_dct {kx vx tg iter : Expr} {ifs : List Expr} {scope : Scope} {own : List (Str × Nat)} {pos : Pos} {wi : TI} {g : TG} {tt : TT} {tk tv : TE} (hu : X.A.units + 1 < cLine) (hc : X.calm = true) (hN : X.N.Nodup) (hi : PI X tg iter wi) (ok : BlkOk X.N X.env.scope scope own)
    (hg : ∀ (s : Shared) (H : Hp) (C : Addr) (cl : List (Str × Addr)) (fp : List Addr), PG (X.blk s H scope (compEnvC scope cl C X.env) fp) tg g)
    (ht : ∀ (s : Shared) (H : Hp) (C : Addr) (cl : List (Str × Addr)) (fp : List Addr), PTs (X.blk s H scope (compEnvC scope cl C X.env) fp) ifs tt)
    (hk : ∀ (s : Shared) (H : Hp) (C : Addr) (cl : List (Str × Addr)) (fp : List Addr), PE (X.blk s H scope (compEnvC scope cl C X.env) fp) kx tk)
    (he : ∀ (s : Shared) (H : Hp) (C : Addr) (cl : List (Str × Addr)) (fp : List Addr), PE (X.blk s H scope (compEnvC scope cl C X.env) fp) vx tv) (hs : ∀ x, foldedSetIterable iter X.env x = pure x) :
    PE X (.DictComp kx vx [⟨tg, iter, ifs, 0⟩] scope pos) (tDct wi g tt tk tv (own.map (·.2))) := by
  refine ⟨fun pins s σ H Q I h => ?_⟩
  rw [arm_eval_DictComp]
  have cells : ∀ y ∈ scope.names, y.2 = .free → ∃ c, X.env.cells.lookup y.1 = some c := by
    intro y hy e
    rcases ok.free y hy e with q | q
    · exact I.ok.has _ (.inl q)
    · exact I.ok.has _ (.inr q)
  refine wpAny_comprehension_free (use := none) rfl hs (closure_ok cells) ok.kind (fun y hy e => by rw [ok.uniq y hy, e]) (thn (hi.run pins s σ H _ I h) fun xv s1 hx => thn hx fun itv s2 h2 => ?_)
  obtain ⟨it, fp, tn, J, H2, rfl, I2, Tn, st2, f2, q⟩ := h2
  refine wpAny_newObj_type (newEnv_comp ?_)
  have nD : H2 s2.heap.objs.size = none := I2.hok.fresh (Nat.le_refl _)
  obtain ⟨Wt, ⟨m0, w0⟩, turn⟩ := q s2.heap.objs.size nD
  generalize hD : s2.heap.objs.size = D at *
  generalize e3 : ({ s2 with heap := s2.heap.push { cls := .type "dict", data := .dict #[] } } : Shared) = s3
  have hp3 : s3.heap = s2.heap.push { cls := .type "dict", data := .dict #[] } := by rw [← e3]
  have I3 : Inv X pins σ (upd H2 D (.dT [])) s3 := by
    rw [← e3, ← hD]
    exact I2.laid (t' := s2.toks) (fun b o e => Heap.get?_push_of_some _ e) (Nat.le_refl _) (dt_empty s2.heap I2.big)
  have low : ∀ b ∈ fp, b < D := fun b hb => by
    obtain ⟨o, e, _⟩ := Tn.obj _ _ st2 b hb
    rw [← hD]
    exact Heap.lt_size e
  have f3 : ∀ b ∈ fp, FpOk X pins (upd H2 D (.dT [])) b ∧ b < s3.heap.objs.size := fun b hb => by
    have hlt := low b hb
    refine ⟨⟨?_, (f2 b hb).2⟩, ?_⟩
    · rw [upd_ne (Nat.ne_of_lt hlt)]
      exact (f2 b hb).1
    · rw [hp3, Heap.size_push, hD]
      exact Nat.lt_succ_of_lt hlt
  have st3 : tn 0 s3.heap := Tn.keep _ _ _ st2 fun b _ o e => by
    rw [hp3]
    exact Heap.get?_push_of_some _ e
  have I4 := block_start I3 ok hN f3
  have pg := hg s3 (upd H2 D (.dT [])) s3.heap.objs.size (cellsFrom (s3.heap.objs.size + 1) scope.names (cloFrom X.env.cells scope.names [])) fp
  have pt := ht s3 (upd H2 D (.dT [])) s3.heap.objs.size (cellsFrom (s3.heap.objs.size + 1) scope.names (cloFrom X.env.cells scope.names [])) fp
  have pk := hk s3 (upd H2 D (.dT [])) s3.heap.objs.size (cellsFrom (s3.heap.objs.size + 1) scope.names (cloFrom X.env.cells scope.names [])) fp
  have pv := he s3 (upd H2 D (.dT [])) s3.heap.objs.size (cellsFrom (s3.heap.objs.size + 1) scope.names (cloFrom X.env.cells scope.names [])) fp
  show codeAny _ _ (.compStart (.DictComp kx vx [⟨tg, iter, ifs, 0⟩] scope pos) 0 (.ref it) (.ref D) (compEnvC scope (cellsFrom (s3.heap.objs.size + 1) scope.names (cloFrom X.env.cells scope.names [])) s3.heap.objs.size X.env)) (compPost (model X.prog X.w) X.A X.xe none (EP X pins σ Q) (.ref D) s3.heap.objs.size) { s3 with heap := pushCells (s3.heap.push { cls := .type "dict", data := .dict #[] }) scope.names }
  generalize ec : compEnvC scope (cellsFrom (s3.heap.objs.size + 1) scope.names (cloFrom X.env.cells scope.names [])) s3.heap.objs.size X.env = ce at I4 pg pt pk pv ⊢
  have B : Blk X pins σ s3 (upd H2 D (.dT [])) scope ce fp (own.map (·.2)) tn := ⟨I3, fun b hb => (f3 b hb).1, by rw [← ec]; rfl, Tn.keep, Tn.obj⟩
  generalize e4 : ({ s3 with heap := pushCells (s3.heap.push { cls := .type "dict", data := .dict #[] }) scope.names } : Shared) = s4 at I4 ⊢
  have st4 : tn 0 s4.heap := Tn.keep _ _ _ st3 fun b _ o e => by
    rw [← e4]
    exact pushCells_keeps _ _ _ _ (Heap.get?_push_of_some _ e)
  have loop : codeAny (model X.prog X.w) X.A (.compLoop (.DictComp kx vx [⟨tg, iter, ifs, 0⟩] scope pos) 0 (.ref it) (.ref D) ce) (compPost (model X.prog X.w) X.A X.xe none (EP X pins σ Q) (.ref D) s3.heap.objs.size) s4 := by
    refine compLoop_anyD (fun n t => ∃ i Ht, (Inv (X.blk s3 (upd H2 D (.dT [])) scope ce fp) [] (L2.wipe σ (own.map (·.2))) Ht t ∧ tn i t.heap ∧ ∀ b ∈ fp, Ht b = none) ∧ Wt i n Ht) ?_ m0 ⟨0, _, ⟨I4, st4, fun b hb => (f3 b hb).1.1⟩, w0⟩
    rintro n t ⟨i, Ht, ⟨It, stt, nt⟩, wt⟩
    rcases turn i n Ht wt with ⟨stop, fin⟩ | ⟨go, Nx, hNx, step⟩
    · refine thnF (Tn.done (X.blk s3 (upd H2 D (.dT [])) scope ce fp) rfl rfl rfl hc i [] t _ Ht (fun _ _ => False) It (B.stat It nt) stt stop) fun r t2 ⟨hr, I5⟩ => ?_
      subst hr
      obtain ⟨I6, ⟨m, hns⟩, fo⟩ := B.back I5
      obtain ⟨o0, o1, o2, o3, o4, o5⟩ := fo
      exact ⟨m, hns, fun h'' sb => ⟨.ref D, Ht, I6.turned (t' := t2.toks) (fun b o hb e => (sb.2 b hb).trans e) o0 o1 o3 o4 o5, rfl, fin⟩⟩
    · refine thnF (Tn.item (X.blk s3 (upd H2 D (.dT [])) scope ce fp) rfl rfl rfl hc i [] t _ Ht (fun _ _ => False) It (B.stat It nt) stt go) fun r t2 ⟨u, hr, h6⟩ => ?_
      subst hr
      refine thnF h6 fun _ t3 ⟨x, H7, I7, r7, y7, st7, n7⟩ => ?_
      refine thnF (pg.run _ t3 _ H7 x u _ (I7.pinned (B.stat I7 n7) (Tn.obj _ _ st7)) r7 (step x H7 y7)) fun _ t4 ⟨σ8, H8, I8, hw8, q8⟩ => ?_
      refine thnF (pt.run _ t4 σ8 H8 _ I8 q8) fun b t5 ⟨H9, I9, q9⟩ => ?_
      have close : ∀ {t' : Shared} {H' : Hp}, Inv (X.blk s3 (upd H2 D (.dT [])) scope ce fp) ([] ++ pinsAt fp t3.heap) σ8 H' t' → Nx H' → ∃ m, m < n ∧ ∃ i Ht, (Inv (X.blk s3 (upd H2 D (.dT [])) scope ce fp) [] (L2.wipe σ (own.map (·.2))) Ht t' ∧ tn i t'.heap ∧ ∀ b ∈ fp, Ht b = none) ∧ Wt i m Ht := by
        intro t' H' J' nx
        obtain ⟨m', hm, w'⟩ := hNx H' nx
        exact ⟨m', hm, i + 1, H', B.over J' st7 hw8, w'⟩
      cases b with
      | false =>
        simp only [Bool.false_eq_true, if_false] at q9 ⊢
        exact close I9 q9
      | true =>
        simp only [if_true] at q9 ⊢
        refine thnF (pk.run _ t5 σ8 H9 _ I9 q9) fun z t6 ⟨yk, H10, I10, r10, q10⟩ => ?_
        refine thnF (pv.run _ t6 σ8 H10 _ I10 q10) fun z2 t7 ⟨yv, H11, I11, r11, H12, hp, nx⟩ => ?_
        exact put_ok (X := X.blk s3 (upd H2 D (.dT [])) scope ce fp) hu I11 hp r10 r11 fun t8 I12 => close I12 nx
  exact codeAny_compStart_dict loop (Tn.self X.A 0 _ _ _ st4 loop)
end
end Py

namespace Py
open PySem L2

section
variable {X : Cx} {T : Tab} {W : WX} {pos p2 p3 : Pos} {k : Nat} {tg : Expr}
theorem wipe_sub {σ : L2.St} {vs : List Nat} : ∀ ws : List Nat, (∀ v ∈ ws, v ∈ vs) → L2.wipe (L2.wipe σ ws) vs = L2.wipe σ vs
  | [], _ => rfl
  | w :: ws, h => by
    show L2.wipe ((L2.wipe σ ws : List (Option V)).set w none) vs = _
    rw [wipe_set (h w List.mem_cons_self)]
    exact wipe_sub ws fun v hv => h v (List.mem_cons_of_mem _ hv)
theorem drop_same {H : Hp} {D : Addr} : Same (ItX.dropH H D) H := fun b o e => by
  by_cases h : b = D
  · rw [h, ItX.dropH_same] at e
    cases e
  · rw [ItX.dropH_ne h] at e
    exact e
theorem drop_of {H : Hp} {D b : Addr} {o : HO} (e : H b = some o) (h : b ≠ D) : ItX.dropH H D b = some o := by
  rw [ItX.dropH_ne h]
  exact e
/-- the list beside the ground is left out -/
theorem Vw.less {F H : Hp} {σ : L2.St} {env : Env} {D : Addr} {us : List V} (vw : Vw X.K T F H σ env) (hF : F D = none) (hH : H D = some (.lst us)) : Vw X.K T F (ItX.dropH H D) σ env :=
  ⟨fun b o e => drop_of (vw.s b o e) (ne_of_none e hF), vw.l, vw.g, fun c fs e => by
    obtain ⟨h1, dx, vs, h2, h3⟩ := vw.me c fs e
    refine ⟨h1, dx, vs, drop_of h2 fun z => ?_, h3⟩
    rw [z, hH] at h2
    cases h2⟩
/-- an address that is not of the ground stays so -/
theorem Grow.off {F H F' H' : Hp} (g : Grow F H F' H') {D : Addr} {o : HO} (hF : F D = none) (hH : H D = some o) : F' D = none := by
  cases z : F' D with
  | none => rfl
  | some u =>
    rcases g.n D u z with q | q
    · rw [hF] at q
      cases q
    · rw [hH] at q
      cases q
/-- the ground, and a list that grows beside it -/
theorem Grow.beside {F H F' H' : Hp} (g : Grow F H F' H') {D : Addr} {o : HO} (hF : F' D = none) (hH : H D = none) : Grow F H F' (upd H' D o) :=
  ⟨g.f, fun b u z => by
    rw [upd_ne (ne_of_none z hF)]
    exact g.s _ _ z, fun b u z => by
    rw [upd_ne (ne_of_none z hH)]
    exact g.h _ _ z, g.n⟩
theorem compD2_cons {x : D} {xs : List D} {f : D → R (List D)} {r : List D} (h : compD2 (x :: xs) f = .ok r) : ∃ o q, f x = .ok o ∧ compD2 xs f = .ok q ∧ r = o ++ q := by
  have h : (match f x with
    | .ok o => (compD2 xs f).bind fun r => .ok (o ++ r)
    | _ => .no) = .ok r := h
  cases e : f x with
  | ok o =>
    rw [e] at h
    have h : ((compD2 xs f).bind fun r => .ok (o ++ r)) = .ok r := h
    cases e2 : compD2 xs f with
    | ok q =>
      rw [e2] at h
      cases h
      exact ⟨o, q, rfl, rfl, rfl⟩
    | ex c fs =>
      rw [e2] at h
      cases h
    | no =>
      rw [e2] at h
      cases h
  | ex c fs =>
    rw [e] at h
    cases h
  | no =>
    rw [e] at h
    cases h
theorem compD2_noex {f : D → R (List D)} : ∀ {xs : List D} {c : Nat} {fs : List D}, compD2 xs f ≠ .ex c fs
  | [], c, fs => fun h => by cases h
  | x :: xs, c, fs => fun h => by
    have h : (match f x with
      | .ok o => (compD2 xs f).bind fun r => .ok (o ++ r)
      | _ => .no) = .ex c fs := h
    split at h
    · cases e2 : compD2 xs f with
      | ok q =>
        rw [e2] at h
        cases h
      | ex c fs => exact compD2_noex e2
      | no =>
        rw [e2] at h
        cases h
    · cases h
theorem compD_cons2 {x : D} {xs : List D} {f : D → R (Option D)} {r : List D} (h : compD (x :: xs) f = .ok r) : ∃ o q, f x = .ok o ∧ compD xs f = .ok q ∧ r = putO [] o ++ q := by
  rw [compD_cons] at h
  cases e : f x with
  | ok o =>
    rw [e] at h
    cases e2 : compD xs f with
    | ok q =>
      rw [e2] at h
      refine ⟨o, q, rfl, rfl, ?_⟩
      cases o with
      | none =>
        cases h
        rfl
      | some d =>
        cases h
        rfl
    | ex c fs =>
      rw [e2] at h
      cases h
    | no =>
      rw [e2] at h
      cases h
  | ex c fs =>
    rw [e] at h
    cases h
  | no =>
    rw [e] at h
    cases h
/-- a turn's value, taken apart -/
theorem turn_of {β γ : Type} {b : R Env} {fc : Env → R Bool} {k : Env → R β} {z r : β} (h : (b.bind fun e => (fc e).bind fun t => if t then k e else .ok z) = .ok r) : ∃ e t, b = .ok e ∧ fc e = .ok t ∧ (if t then k e else .ok z) = .ok r := by
  cases b with
  | ok e =>
    have h : ((fc e).bind fun t => if t then k e else .ok z) = .ok r := h
    cases hc : fc e with
    | ok t =>
      rw [hc] at h
      exact ⟨e, t, rfl, hc, h⟩
    | ex c fs =>
      rw [hc] at h
      cases h
    | no =>
      rw [hc] at h
      cases h
  | ex c fs => cases h
  | no => cases h
theorem map_some {r : R D} {o : Option D} (h : r.map some = .ok o) : ∃ d, r = .ok d ∧ o = some d := by
  cases r with
  | ok d =>
    cases h
    exact ⟨d, rfl, rfl⟩
  | ex c fs => cases h
  | no => cases h
/-- a target takes an item of a walk -/
theorem tgt_ok {p : Pat} {vs : List Nat} {σ : L2.St} {G H : Hp} {env env' : Env} {d : D} {v : V} {Q : L2.St → Hp → Prop} (hp : ∀ i ∈ p.ix, i ∈ vs) (vw : Vw X.K T G H (L2.wipe σ vs) (wipeD env vs)) (r : Rep X.K T G d v) (e : bindG putE p d (wipeD env vs) = .ok env')
    (q : ∀ σ', Vw X.K T G H σ' env' → L2.wipe σ' vs = L2.wipe σ vs → Q σ' H) : gP X.K p v (L2.wipe σ vs) H Q :=
  gP_ok (put := putE) (Pr := fun σ' en => Vw X.K T G H σ' en ∧ L2.wipe σ' vs = L2.wipe σ vs) vw.s p (fun j u z σ' a hj r ⟨w1, w2⟩ => ⟨w1.put r, by rw [wipe_set (hp j hj)]; exact w2⟩) r e ⟨vw, wipe_sub vs fun _ h => h⟩ fun σ' ⟨w1, w2⟩ => q σ' w1 w2
/-- a test whose answer is known -/
theorem tst_ok {F H : Hp} {σ : L2.St} {env : Env} {fc : Env → R Bool} {t : Bool} {W : WX} {Q : Bool → Hp → Prop} (vw : Vw X.K T F H σ env) (e : fc env = .ok t) (q : ∀ F' H', LenOk X.K H → Grow F H F' H' → Q t H') : rdT X.K T W fc σ H Q := by
  intro L
  refine ⟨F, env, vw, ?_⟩
  rw [e]
  intro b F' H' g hb
  have hb : t = b := hb
  subst hb
  exact q F' H' L g
theorem val_ok {F H : Hp} {σ : L2.St} {env : Env} {fe : Env → R D} {d : D} {W : WX} {Q : VK} (vw : Vw X.K T F H σ env) (e : fe env = .ok d) (q : ∀ v F' H', Grow F H F' H' → Rep X.K T F' d v → Q v H') : rdE X.K T W fe σ H Q := by
  intro L
  refine ⟨F, env, vw, ?_⟩
  rw [e]
  exact q
theorem lc2_imp {vs vs2 : List Nat} {p q : Pat} {fi fj : Env → R (List D)} {fc fd : Env → R Bool} {fe : Env → R D} (hp : ∀ i ∈ p.ix, i ∈ vs) (hq : ∀ i ∈ q.ix, i ∈ vs2) {σ : L2.St} {H : Hp} {Q : VK}
    (h : ∃ F env, Vw X.K T F H σ env ∧ PostN X.K T (fun c d H' => W c d σ H') F H ((fi env).bind fun xs => (compD2 xs fun x => (bindG putE p x (wipeD env vs)).bind fun env1 => (fc env1).bind fun t =>
        if t then (fj env1).bind fun ys => compD ys fun y => (bindG putE q y (wipeD env1 vs2)).bind fun env2 => (fd env2).bind fun t => if t then (fe env2).map some else .ok none
        else .ok []).bind lenL) Q) :
    tLc2 (rdI X.K T W fi) (gP X.K p) (rdT X.K T W0 fc) (rdI X.K T W0 fj) (gP X.K q) (rdT X.K T W0 fd) (rdE X.K T W0 fe) vs vs2 σ H Q := by
  obtain ⟨F, env, vw, h⟩ := h
  refine vw.rd (Post.imp (PostN.bind (rel := fun F' ds J => Yields X.K T J F' ds) h) fun J H1 ⟨F1, ds, e1, g1, y, q1⟩ => ?_)
  intro Dl hD
  generalize hf : (fun x => (bindG putE p x (wipeD env vs)).bind fun env1 => (fc env1).bind fun t => if t = true then (fj env1).bind fun ys => compD ys fun y => (bindG putE q y (wipeD env1 vs2)).bind fun env2 => (fd env2).bind fun t => if t = true then (fe env2).map some else R.ok none else R.ok []) = f at q1
  obtain ⟨r, hr, hl, q2⟩ : ∃ r, compD2 ds f = .ok r ∧ r.length ≤ cap ∧ PostN X.K T (fun c d H' => W c d σ H') F1 H1 (.ok (.lst r)) Q := by
    cases e : compD2 ds f with
    | ok r =>
      rw [e] at q1
      have q1 : PostN X.K T (fun c d H' => W c d σ H') F1 H1 (if r.length ≤ cap then .ok (.lst r) else .no) Q := q1
      split at q1
      · rename_i hl
        exact ⟨r, rfl, hl, q1⟩
      · exact q1.elim
    | ex c fs => exact absurd e compD2_noex
    | no =>
      rw [e] at q1
      exact q1.elim
  have vw1 := (vw.grow g1).wipe vs
  refine ⟨fun i m H' => ∃ G acc us rest, i ≤ ds.length ∧ m = ds.length - i ∧ Grow F1 H1 G H' ∧ G Dl = none ∧ H' Dl = some (.lst us) ∧ Reps X.K T G acc us ∧ r = acc ++ rest ∧ compD2 (ds.drop i) f = .ok rest,
    ⟨ds.length, F1, [], [], r, Nat.zero_le _, rfl, (Grow.refl g1.s).beside (g1.s.free hD) hD, g1.s.free hD, upd_same, rfl, rfl, hr⟩, ?_⟩
  rintro i m H' ⟨G, acc, us, rest, hi, rfl, gr, hG, hH, ra, er, hc⟩
  by_cases hlt : i < ds.length
  · refine .inr ⟨y.go i H' (gr.f.trans gr.s) hlt, fun H' => ∃ G acc us rest, Grow F1 H1 G H' ∧ G Dl = none ∧ H' Dl = some (.lst us) ∧ Reps X.K T G acc us ∧ r = acc ++ rest ∧ compD2 (ds.drop (i + 1)) f = .ok rest, fun H' ⟨G, acc, us, rest, a1, a2, a3, a4, a5, a6⟩ => ⟨ds.length - (i + 1), by omega, G, acc, us, rest, hlt, rfl, a1, a2, a3, a4, a5, a6⟩, fun x H2 hy => ?_⟩
    obtain ⟨G2, g2, r2⟩ := y.yld i G H' x H2 _ gr.f gr.s (List.getElem?_eq_getElem hlt) hy
    rw [List.drop_eq_getElem_cons hlt] at hc
    obtain ⟨o, rest', ho, hc', erest⟩ := compD2_cons hc
    rw [← hf] at ho
    obtain ⟨env1, t, hb, hct, ht⟩ := turn_of (γ := Unit) ho
    have gr2 := gr.trans g2
    refine tgt_ok hp (vw1.grow gr2) r2 hb fun σ' w1 w2 => ⟨w2, ?_⟩
    refine tst_ok w1 hct fun F3 H3 _ g3 => ?_
    have gr3 := gr2.trans g3
    have hG3 := g3.off (g2.off hG hH) (g2.h _ _ hH)
    have hH3 := g3.h _ _ (g2.h _ _ hH)
    cases t with
    | false =>
      cases ht
      refine iteF ⟨F3, acc, us, rest', gr3, hG3, hH3, Reps.mono (g2.f.trans g3.f) ra, ?_, hc'⟩
      rw [er, erest]
      rfl
    | true =>
      have ht : ((fj env1).bind fun ys => compD ys fun y => (bindG putE q y (wipeD env1 vs2)).bind fun env2 => (fd env2).bind fun t => if t = true then (fe env2).map some else R.ok none) = .ok o := ht
      cases hj : fj env1 with
      | ex c fs =>
        rw [hj] at ht
        cases ht
      | no =>
        rw [hj] at ht
        cases ht
      | ok ys =>
      rw [hj] at ht
      have ht : (compD ys fun y => (bindG putE q y (wipeD env1 vs2)).bind fun env2 => (fd env2).bind fun t => if t = true then (fe env2).map some else R.ok none) = .ok o := ht
      generalize hg : (fun y => (bindG putE q y (wipeD env1 vs2)).bind fun env2 => (fd env2).bind fun t => if t = true then (fe env2).map some else R.ok none) = g at ht
      refine iteT fun L3 => ⟨F3, env1, w1.grow g3, ?_⟩
      rw [hj]
      intro J1 F4 H4 g4 y1
      have gr4 := gr3.trans g4
      have hG4 := g4.off hG3 hH3
      have hH4 := g4.h _ _ hH3
      have vw4 := (((w1.grow g3).grow g4).less hG4 hH4).wipe vs2
      refine ⟨fun j m H' => ∃ G acc us rest1, j ≤ ys.length ∧ m = ys.length - j ∧ Grow F4 (ItX.dropH H4 Dl) G H' ∧ Grow F1 H1 G H' ∧ G Dl = none ∧ H' Dl = some (.lst us) ∧ Reps X.K T G acc us ∧ r = acc ++ (rest1 ++ rest') ∧ compD (ys.drop j) g = .ok rest1,
        ⟨ys.length, F4, acc, us, o, Nat.zero_le _, rfl, ⟨Same.refl _, g4.s, drop_same, fun _ _ e => .inl e⟩, gr4, hG4, hH4, Reps.mono ((g2.f.trans g3.f).trans g4.f) ra, by rw [er, erest], ht⟩, ?_⟩
      rintro j m H5 ⟨G5, acc5, us5, rest5, hj5, rfl, gi, go5, hG5, hH5, ra5, er5, hc5⟩
      by_cases hlt2 : j < ys.length
      · refine .inr ⟨y1.go j H5 (gi.f.trans gi.s) hlt2, fun H' => ∃ G acc us rest1, Grow F4 (ItX.dropH H4 Dl) G H' ∧ Grow F1 H1 G H' ∧ G Dl = none ∧ H' Dl = some (.lst us) ∧ Reps X.K T G acc us ∧ r = acc ++ (rest1 ++ rest') ∧ compD (ys.drop (j + 1)) g = .ok rest1, fun H' ⟨G, acc, us, rest, a1, a2, a3, a4, a5, a6, a7⟩ => ⟨ys.length - (j + 1), by omega, G, acc, us, rest, hlt2, rfl, a1, a2, a3, a4, a5, a6, a7⟩, fun x H6 hy2 => ?_⟩
        obtain ⟨G6, g6, r6⟩ := y1.yld j G5 H5 x H6 _ gi.f gi.s (List.getElem?_eq_getElem hlt2) hy2
        rw [List.drop_eq_getElem_cons hlt2] at hc5
        obtain ⟨o6, rest6, ho6, hc6, e6⟩ := compD_cons2 hc5
        rw [← hg] at ho6
        obtain ⟨env2, t2, hb2, hct2, ht2⟩ := turn_of (γ := Unit) ho6
        refine tgt_ok hq ((vw4.grow gi).grow g6) r6 hb2 fun σ3 w3 w4 => ⟨w4, ?_⟩
        refine tst_ok w3 hct2 fun F7 H7 _ g7 => ?_
        have hG7 := g7.off (g6.off hG5 hH5) (g6.h _ _ hH5)
        have hH7 := g7.h _ _ (g6.h _ _ hH5)
        cases t2 with
        | false =>
          cases ht2
          refine iteF ⟨F7, acc5, us5, rest6, (gi.trans g6).trans g7, (go5.trans g6).trans g7, hG7, hH7, Reps.mono (g6.f.trans g7.f) ra5, ?_, hc6⟩
          rw [er5, e6]
          rfl
        | true =>
          obtain ⟨d, hd, e8⟩ := map_some (show (fe env2).map some = .ok o6 from ht2)
          subst e8
          refine iteT (val_ok (w3.grow g7) hd fun v F8 H8 g8 r8 => ?_)
          have hG8 := g8.off hG7 hH7
          have hH8 := g8.h _ _ hH7
          have er8 : r = (acc5 ++ [d]) ++ (rest6 ++ rest') := by
            rw [er5, e6]
            simp [putO]
          have hlen : us5.length < sizeLine := by
            rw [Reps.length ra5]
            have e9 := congrArg List.length er8
            simp only [List.length_append, List.length_singleton] at e9
            exact lt_line (by omega)
          have gq := ((gi.trans g6).trans g7).trans g8
          have gp := ((go5.trans g6).trans g7).trans g8
          refine ⟨us5, hH8, hlen, F8, acc5 ++ [d], us5 ++ [v], rest6, gq.beside hG8 ItX.dropH_same, gp.beside hG8 hD, hG8, upd_same, Reps.app (Reps.mono ((g6.f.trans g7.f).trans g8.f) ra5) (Reps.one r8), er8, hc6⟩
      · have hz : j = ys.length := by omega
        refine .inl ⟨y1.stop j H5 (gi.f.trans gi.s) (by omega), G5, acc5, us5, rest', go5, hG5, hH5, ra5, ?_, hc'⟩
        rw [hz, List.drop_length] at hc5
        cases hc5
        exact er5
  · have hz : i = ds.length := by omega
    refine .inl ⟨y.stop i H' (gr.f.trans gr.s) (by omega), ?_⟩
    rw [hz, List.drop_length] at hc
    cases hc
    rw [List.append_nil] at er
    subst er
    exact q2 Dl us G H' gr hD hG hH ra
end
end Py

namespace Py
open PySem L2

section
variable {X : Cx} {T : Tab} {W : WX} {pos p2 p3 : Pos} {k : Nat} {tg : Expr}
theorem any_keys {x : D} {k : List Key} (hx : keyT x = some k) : ∀ {ks : List D} {kvs : List (List Key × V)}, ks.map keyT = kvs.map (fun p => some p.1) → (ks.any fun z => D.eq z x) = (kvs.any fun p => decide (p.1 = k))
  | [], [], _ => rfl
  | [], _ :: _, h => by cases h
  | _ :: _, [], h => by cases h
  | z :: ks, p :: kvs, h => by
    injection h with h1 h2
    rw [List.any_cons, List.any_cons, any_keys hx h2, eq_keyT h1 hx]
theorem repl_reps {F : Hp} {x d : D} {k : List Key} {v : V} (hx : keyT x = some k) (rv : Rep X.K T F d v) : ∀ {ks vs : List D} {kvs : List (List Key × V)}, ks.map keyT = kvs.map (fun p => some p.1) → Reps X.K T F vs (kvs.map (·.2)) →
    Reps X.K T F (List.zipWith (fun a b => if D.eq a x then d else b) ks vs) ((kvs.map fun p => if p.1 = k then (p.1, v) else p).map (·.2))
  | [], vs, [], _, r => by
    cases vs with
    | nil => exact r
    | cons _ _ =>
      obtain ⟨_, _, z, _⟩ := r
      cases z
  | [], _, _ :: _, h, _ => by cases h
  | _ :: _, _, [], h, _ => by cases h
  | z :: ks, vs, p :: kvs, h, r => by
    injection h with h1 h2
    cases vs with
    | nil => cases r
    | cons e vs =>
      obtain ⟨u, q, e1, r1, r2⟩ := r
      injection e1 with e1 e2
      subst e1 e2
      refine ⟨_, _, rfl, ?_, repl_reps hx rv h2 r2⟩
      show Rep X.K T F (if D.eq z x = true then d else e) (if p.1 = k then (p.1, v) else p).2
      rw [eq_keyT h1 hx]
      by_cases hk : p.1 = k
      · rw [if_pos (decide_eq_true hk), if_pos hk]
        exact rv
      · rw [if_neg (by simp [hk]), if_neg hk]
        exact r1
theorem putKV_rep {F : Hp} {x d : D} {k : List Key} {v : V} (hx : keyT x = some k) (rv : Rep X.K T F d v) {ks vs : List D} {kvs : List (List Key × V)} (h : ks.map keyT = kvs.map (fun p => some p.1)) (r : Reps X.K T F vs (kvs.map (·.2))) :
    (putKV x d ks vs).1.map keyT = (L2.putK kvs k v).map (fun p => some p.1) ∧ Reps X.K T F (putKV x d ks vs).2 ((L2.putK kvs k v).map (·.2)) := by
  unfold putKV L2.putK
  rw [any_keys hx h]
  by_cases q : (kvs.any fun p => decide (p.1 = k)) = true
  · rw [if_pos q, if_pos q]
    refine ⟨?_, repl_reps hx rv h r⟩
    rw [h, List.map_map]
    refine List.map_congr_left fun p _ => ?_
    show some p.1 = some (if p.1 = k then (p.1, v) else p).1
    split <;> rfl
  · rw [if_neg q, if_neg q]
    refine ⟨?_, ?_⟩
    · rw [List.map_append, List.map_append, h]
      show _ ++ [keyT x] = _ ++ [some k]
      rw [hx]
    · rw [List.map_append]
      exact Reps.app r (Reps.one rv)
theorem putKV_len (x d : D) (ks vs : List D) : ks.length ≤ (putKV x d ks vs).1.length := by
  unfold putKV
  split
  · exact Nat.le_refl _
  · simp
theorem compP_len {f : D → R (Option (D × D))} : ∀ {xs ks vs kr vr : List D}, compP xs f ks vs = .ok (kr, vr) → ks.length ≤ kr.length ∧ kr.length ≤ cap ∧ kr ≠ []
  | [], ks, vs, kr, vr, h => by
    have h : (if ks.isEmpty || decide (cap < ks.length) then R.no else R.ok (ks, vs)) = .ok (kr, vr) := h
    split at h
    · cases h
    · rename_i hn
      cases h
      refine ⟨Nat.le_refl _, ?_, ?_⟩
      · by_cases hc : cap < ks.length
        · simp [hc] at hn
        · omega
      · intro e
        simp [e] at hn
  | x :: xs, ks, vs, kr, vr, h => by
    have h : (match f x with
      | .ok (some (k, v)) => if isTup k && keyD k then compP xs f (putKV k v ks vs).1 (putKV k v ks vs).2 else .no
      | .ok none => compP xs f ks vs
      | _ => .no) = .ok (kr, vr) := h
    split at h
    · rename_i k v _
      split at h
      · obtain ⟨h1, h2⟩ := compP_len h
        exact ⟨Nat.le_trans (putKV_len k v ks vs) h1, h2⟩
      · cases h
    · exact compP_len h
    · cases h
theorem compP_noex {f : D → R (Option (D × D))} : ∀ {xs ks vs : List D} {c : Nat} {fs : List D}, compP xs f ks vs ≠ .ex c fs
  | [], ks, vs, c, fs => fun h => by
    have h : (if ks.isEmpty || decide (cap < ks.length) then R.no else R.ok (ks, vs)) = .ex c fs := h
    split at h <;> cases h
  | x :: xs, ks, vs, c, fs => fun h => by
    have h : (match f x with
      | .ok (some (k, v)) => if isTup k && keyD k then compP xs f (putKV k v ks vs).1 (putKV k v ks vs).2 else .no
      | .ok none => compP xs f ks vs
      | _ => .no) = .ex c fs := h
    split at h
    · split at h
      · exact compP_noex h
      · cases h
    · exact compP_noex h
    · cases h
theorem keyT_of {x : D} (h : (isTup x && keyD x) = true) : ∃ k, keyT x = some k := by
  obtain ⟨h1, h2⟩ := Bool.and_eq_true_iff.mp h
  cases x <;> first | (cases h1; done) | skip
  exact keysF_of h2
theorem dct_imp {vs : List Nat} {p : Pat} {fi : Env → R (List D)} {fc : Env → R Bool} {fa fb : Env → R D} (hp : ∀ i ∈ p.ix, i ∈ vs) {σ : L2.St} {H : Hp} {Q : VK}
    (h : ∃ F env, Vw X.K T F H σ env ∧ Post X.K T (relD X.K T) (fun c d H' => W c d σ H') F H ((fi env).bind fun xs => (compP xs (fun x => (bindG putE p x (wipeD env vs)).bind fun env' => (fc env').bind fun t =>
        if t then (fa env').bind fun k => (fb env').map fun v => some (k, v) else .ok none) [] []).map dictP) Q) :
    tDct (rdI X.K T W fi) (gP X.K p) (rdT X.K T W0 fc) (rdE X.K T W0 fa) (rdE X.K T W0 fb) vs σ H Q := by
  obtain ⟨F, env, vw, h⟩ := h
  refine vw.rd (Post.imp (Post.bind (rel := fun F' ds J => Yields X.K T J F' ds) h) fun J H1 ⟨F1, ds, e1, g1, y, q1⟩ => ?_)
  intro Dl hD
  generalize hf : (fun x => (bindG putE p x (wipeD env vs)).bind fun env' => (fc env').bind fun t => if t = true then (fa env').bind fun k => (fb env').map fun v => some (k, v) else R.ok none) = f at q1
  obtain ⟨kr, vr, hr, q2⟩ : ∃ kr vr, compP ds f [] [] = .ok (kr, vr) ∧ Post X.K T (relD X.K T) (fun c d H' => W c d σ H') F1 H1 (.ok (.dict kr vr)) Q := by
    cases e : compP ds f [] [] with
    | ok r =>
      rw [e] at q1
      exact ⟨r.1, r.2, rfl, q1⟩
    | ex c fs => exact absurd e compP_noex
    | no =>
      rw [e] at q1
      exact q1.elim
  have vw1 := (vw.grow g1).wipe vs
  refine ⟨fun i m H' => ∃ G ks ws kvs, i ≤ ds.length ∧ m = ds.length - i ∧ Grow F1 H1 G H' ∧ G Dl = none ∧ H' Dl = some (.dT kvs) ∧ ks.map keyT = kvs.map (fun p => some p.1) ∧ Reps X.K T G ws (kvs.map (·.2)) ∧ compP (ds.drop i) f ks ws = .ok (kr, vr),
    ⟨ds.length, F1, [], [], [], Nat.zero_le _, rfl, (Grow.refl g1.s).beside (g1.s.free hD) hD, g1.s.free hD, upd_same, rfl, rfl, hr⟩, ?_⟩
  rintro i m H' ⟨G, ks, ws, kvs, hi, rfl, gr, hG, hH, hk, ra, hc⟩
  by_cases hlt : i < ds.length
  · refine .inr ⟨y.go i H' (gr.f.trans gr.s) hlt, fun H' => ∃ G ks ws kvs, Grow F1 H1 G H' ∧ G Dl = none ∧ H' Dl = some (.dT kvs) ∧ ks.map keyT = kvs.map (fun p => some p.1) ∧ Reps X.K T G ws (kvs.map (·.2)) ∧ compP (ds.drop (i + 1)) f ks ws = .ok (kr, vr),
      fun H' ⟨G, ks, ws, kvs, a1, a2, a3, a4, a5, a6⟩ => ⟨ds.length - (i + 1), by omega, G, ks, ws, kvs, hlt, rfl, a1, a2, a3, a4, a5, a6⟩, fun x H2 hy => ?_⟩
    obtain ⟨G2, g2, r2⟩ := y.yld i G H' x H2 _ gr.f gr.s (List.getElem?_eq_getElem hlt) hy
    have lens := compP_len hc
    rw [List.drop_eq_getElem_cons hlt] at hc
    have hc : (match f ds[i] with
      | .ok (some (k, v)) => if isTup k && keyD k then compP (ds.drop (i + 1)) f (putKV k v ks ws).1 (putKV k v ks ws).2 else .no
      | .ok none => compP (ds.drop (i + 1)) f ks ws
      | _ => .no) = .ok (kr, vr) := hc
    have gr2 := gr.trans g2
    cases hfx : f ds[i] with
    | ex c fs =>
      rw [hfx] at hc
      cases hc
    | no =>
      rw [hfx] at hc
      cases hc
    | ok o =>
    rw [hfx] at hc
    rw [← hf] at hfx
    obtain ⟨env1, t, hb, hct, ht⟩ := turn_of (γ := Unit) hfx
    refine tgt_ok hp (vw1.grow gr2) r2 hb fun σ' w1 w2 => ⟨w2, ?_⟩
    refine tst_ok w1 hct fun F3 H3 _ g3 => ?_
    have gr3 := gr2.trans g3
    have hG3 := g3.off (g2.off hG hH) (g2.h _ _ hH)
    have hH3 := g3.h _ _ (g2.h _ _ hH)
    cases t with
    | false =>
      cases ht
      exact iteF ⟨F3, ks, ws, kvs, gr3, hG3, hH3, hk, Reps.mono (g2.f.trans g3.f) ra, hc⟩
    | true =>
      have ht : ((fa env1).bind fun k => (fb env1).map fun v => some (k, v)) = .ok o := ht
      cases ha : fa env1 with
      | ex c fs =>
        rw [ha] at ht
        cases ht
      | no =>
        rw [ha] at ht
        cases ht
      | ok kd =>
      rw [ha] at ht
      cases hb2 : fb env1 with
      | ex c fs =>
        rw [hb2] at ht
        cases ht
      | no =>
        rw [hb2] at ht
        cases ht
      | ok vd =>
      rw [hb2] at ht
      cases ht
      have hc : (if isTup kd && keyD kd then compP (ds.drop (i + 1)) f (putKV kd vd ks ws).1 (putKV kd vd ks ws).2 else .no) = .ok (kr, vr) := hc
      split at hc
      · rename_i hkd
        obtain ⟨kk, ek⟩ := keyT_of hkd
        refine iteT (val_ok (w1.grow g3) ha fun yv F4 H4 g4 r4 => ?_)
        refine val_ok ((w1.grow g3).grow g4) hb2 fun zv F5 H5 g5 r5 => ?_
        have hG4 := g4.off hG3 hH3
        have hH4 := g4.h _ _ hH3
        have hG5 := g5.off hG4 hH4
        have hH5 := g5.h _ _ hH4
        obtain ⟨b, eb, hb⟩ := rep_keyT ek (Rep.mono g5.f r4)
        have gAll := (gr3.trans g4).trans g5
        have hlen : kvs.length < sizeLine := by
          have e1 := congrArg List.length hk
          rw [List.length_map, List.length_map] at e1
          rw [← e1]
          exact Nat.lt_of_le_of_lt (Nat.le_trans lens.1 lens.2.1) (by decide)
        obtain ⟨z1, z2⟩ := putKV_rep ek r5 hk (Reps.mono (((g2.f.trans g3.f).trans g4.f).trans g5.f) ra)
        exact ⟨_, ⟨kvs, kk, b, eb, g5.s _ _ hb, hH5, hlen, rfl⟩, F5, _, _, _, gAll.beside hG5 hD, hG5, upd_same, z1, z2, hc⟩
      · cases hc
  · have hz : i = ds.length := by omega
    refine .inl ⟨y.stop i H' (gr.f.trans gr.s) (by omega), ?_⟩
    have lens := compP_len hc
    rw [hz, List.drop_length] at hc
    have hc : (if ks.isEmpty || decide (cap < ks.length) then R.no else R.ok (ks, ws)) = .ok (kr, vr) := hc
    split at hc
    · cases hc
    · cases hc
      have gF : Grow F1 H1 (upd G Dl (.dT kvs)) H' := ⟨gr.f.trans (Same.upd hG), fun b u z => by
        by_cases hb : b = Dl
        · subst hb
          rw [upd_same] at z
          rw [hH]
          exact z
        · rw [upd_ne hb] at z
          exact gr.s _ _ z, gr.h, fun b u z => by
        by_cases hb : b = Dl
        · subst hb
          exact .inr hD
        · rw [upd_ne hb] at z
          exact gr.n b u z⟩
      exact q2 (.ref Dl) (upd G Dl (.dT kvs)) H' gF ⟨Dl, rfl, .inl ⟨kvs, upd_same, hk, Reps.mono (Same.upd hG) ra⟩⟩
end
end Py

namespace Py
open PySem L2

section
variable {X : Cx} {T : Tab} {W : WX} {N : Bool} {F0 H0 : Hp} {pos p2 p3 : Pos} {tg tg1 : Expr}
theorem lenL_lst {α : Type} (r : R α) (f : α → R (List D)) : ∀ d, (r.bind fun xs => (f xs).bind lenL) = .ok d → ∃ ds, d = .lst ds := by
  intro d h
  cases r with
  | ok a =>
    have h : (f a).bind lenL = .ok d := h
    cases hf : f a with
    | ok ds =>
      rw [hf] at h
      have h : (if ds.length ≤ cap then R.ok (D.lst ds) else .no) = .ok d := h
      split at h
      · cases h
        exact ⟨ds, rfl⟩
      · cases h
    | ex c fs =>
      rw [hf] at h
      cases h
    | no =>
      rw [hf] at h
      cases h
  | ex c fs => cases h
  | no => cases h
/-- what a comprehension with two fors computes -/
def lc2D (p q : Pat) (vs vs2 : List Nat) (fi fj : Env → R (List D)) (fc fd : Env → R Bool) (fe : Env → R D) (env : Env) : R D :=
  (fi env).bind fun xs => (compD2 xs fun x => (bindG putE p x (wipeD env vs)).bind fun env1 => (fc env1).bind fun t =>
    if t then (fj env1).bind fun ys => compD ys fun y => (bindG putE q y (wipeD env1 vs2)).bind fun env2 => (fd env2).bind fun t => if t then (fe env2).map some else .ok none
    else .ok []).bind lenL
variable {elt iter iter1 : Expr} {ifs ifs1 : List Expr} {scope : Scope} {own : List (Str × Nat)} {vs vs2 : List Nat} {p q : Pat} {fi fj : Env → R (List D)} {fc fd : Env → R Bool} {fe : Env → R D}
/-- the parts of such a comprehension -/
structure Lc2 (X : Cx) (T : Tab) (W : WX) (elt iter iter1 tg tg1 : Expr) (ifs ifs1 : List Expr) (scope : Scope) (own : List (Str × Nat)) (vs vs2 : List Nat) (p q : Pat) (fi fj : Env → R (List D)) (fc fd : Env → R Bool) (fe : Env → R D) : Prop where
  hc : X.calm = true
  nd : X.N.Nodup
  hi : PI X tg iter (rdI X.K T W fi)
  ok : BlkOk X.N X.env.scope scope own
  hv : own.map (·.2) = vs
  hw : ∀ i ∈ vs2, i ∈ vs
  hp : ∀ i ∈ p.ix, i ∈ vs
  hq : ∀ i ∈ q.ix, i ∈ vs2
  hg : ∀ (s : Shared) (H : Hp) (C : Addr) (cl : List (Str × Addr)) (fp : List Addr), PG (X.blk s H scope (compEnvC scope cl C X.env) fp) tg (gP X.K p)
  ht : ∀ (s : Shared) (H : Hp) (C : Addr) (cl : List (Str × Addr)) (fp : List Addr), PTs (X.blk s H scope (compEnvC scope cl C X.env) fp) ifs (rdT X.K T W0 fc)
  hi1 : ∀ (s : Shared) (H : Hp) (C : Addr) (cl : List (Str × Addr)) (fp : List Addr), PI (X.blk s H scope (compEnvC scope cl C X.env) fp) tg1 iter1 (rdI X.K T W0 fj)
  hg1 : ∀ (s : Shared) (H : Hp) (C : Addr) (cl : List (Str × Addr)) (fp : List Addr), PG (X.blk s H scope (compEnvC scope cl C X.env) fp) tg1 (gP X.K q)
  ht1 : ∀ (s : Shared) (H : Hp) (C : Addr) (cl : List (Str × Addr)) (fp : List Addr), PTs (X.blk s H scope (compEnvC scope cl C X.env) fp) ifs1 (rdT X.K T W0 fd)
  he : ∀ (s : Shared) (H : Hp) (C : Addr) (cl : List (Str × Addr)) (fp : List Addr), PE (X.blk s H scope (compEnvC scope cl C X.env) fp) elt (rdE X.K T W0 fe)
  hs : ∀ x, foldedSetIterable iter X.env x = pure x
  hs1 : ∀ env x, foldedSetIterable iter1 env x = pure x
theorem n_lc2 (L : Lc2 X T W elt iter iter1 tg tg1 ifs ifs1 scope own vs vs2 p q fi fj fc fd fe) : PE X (.ListComp elt [⟨tg, iter, ifs, 0⟩, ⟨tg1, iter1, ifs1, 0⟩] scope pos) (rdN X.K T W (lc2D p q vs vs2 fi fj fc fd fe)) := by
  have hv := L.hv
  subst hv
  exact pn_of (pe_lc2 L.hc L.nd L.hi L.ok L.hw L.hg L.ht L.hi1 L.hg1 L.ht1 L.he L.hs L.hs1) fun σ H Q _ ⟨F, env, vw, q⟩ => lc2_imp L.hp L.hq ⟨F, env, vw, q⟩
theorem s_lc2 (L : Lc2 X T W elt iter iter1 tg tg1 ifs ifs1 scope own vs vs2 p q fi fj fc fd fe) : PE X (.ListComp elt [⟨tg, iter, ifs, 0⟩, ⟨tg1, iter1, ifs1, 0⟩] scope pos) (rdE X.K T W (lc2D p q vs vs2 fi fj fc fd fe)) := by
  have hv := L.hv
  subst hv
  exact pe_of (pe_lc2 L.hc L.nd L.hi L.ok L.hw L.hg L.ht L.hi1 L.hg1 L.ht1 L.he L.hs L.hs1) fun σ H Q _ ⟨F, env, vw, q⟩ => lc2_imp L.hp L.hq ⟨F, env, vw, PostN.of q (lenL_lst _ _)⟩
theorem ss_setLc2 {m : Bool} {i : Nat} {y : Str} (L : Lc2 X T W elt iter iter1 tg tg1 ifs ifs1 scope own vs vs2 p q fi fj fc fd fe) (hy : X.N[i]? = some y) (hyl : X.env.scope.names.lookup y = some .local)
    (hsw : swapsWith (.ListComp elt [⟨tg, iter, ifs, 0⟩, ⟨tg1, iter1, ifs1, 0⟩] scope p3) (some (.Name y p2)) pos.line X.env = pure true) :
    PS X (.Assign [.Name y p2] (.ListComp elt [⟨tg, iter, ifs, 0⟩, ⟨tg1, iter1, ifs1, 0⟩] scope p3) pos) (rdS X.K T W N F0 H0 fun st => (lc2D p q vs vs2 fi fj fc fd fe (envS m st)).cf st fun d => if okM m d then (bindP (.v i) d st).cf st Cf.nx else .no) := by
  have hv := L.hv
  subst hv
  exact ps_of (ps_setLc2 L.hc L.nd hy hyl hsw L.hi L.ok L.hw L.hg L.ht L.hi1 L.hg1 L.ht1 L.he L.hs L.hs1) (asg_imp (p := .v i) (f := lc2D p q (own.map (·.2)) vs2 fi fj fc fd fe) fun σ H Q _ ⟨F, env, vw, z⟩ => lc2_imp L.hp L.hq ⟨F, env, vw, PostN.of z (lenL_lst _ _)⟩)
theorem ss_setLc2N {m : Bool} {i : Nat} {y : Str} (L : Lc2 X T W elt iter iter1 tg tg1 ifs ifs1 scope own vs vs2 p q fi fj fc fd fe) (hy : X.N[i]? = some y) (hyl : X.env.scope.names.lookup y = some .local)
    (hsw : swapsWith (.ListComp elt [⟨tg, iter, ifs, 0⟩, ⟨tg1, iter1, ifs1, 0⟩] scope p3) (some (.Name y p2)) pos.line X.env = pure true) :
    PS X (.Assign [.Name y p2] (.ListComp elt [⟨tg, iter, ifs, 0⟩, ⟨tg1, iter1, ifs1, 0⟩] scope p3) pos) (rdS X.K T W N F0 H0 fun st => (lc2D p q vs vs2 fi fj fc fd fe (envS m st)).cf st (newS m st i)) := by
  have hv := L.hv
  subst hv
  exact ps_of (ps_setLc2 L.hc L.nd hy hyl hsw L.hi L.ok L.hw L.hg L.ht L.hi1 L.hg1 L.ht1 L.he L.hs L.hs1) (asgN_imp (f := lc2D p q (own.map (·.2)) vs2 fi fj fc fd fe) fun σ H Q _ ⟨F, env, vw, z⟩ => lc2_imp (W := W) L.hp L.hq ⟨F, env, vw, z⟩)
/-- a dict's comprehension -/
def dcD (p : Pat) (vs : List Nat) (fi : Env → R (List D)) (fc : Env → R Bool) (fa fb : Env → R D) (env : Env) : R D :=
  (fi env).bind fun xs => (compP xs (fun x => (bindG putE p x (wipeD env vs)).bind fun env' => (fc env').bind fun t => if t then (fa env').bind fun k => (fb env').map fun v => some (k, v) else .ok none) [] []).map dictP
theorem s_dc {kx vx : Expr} {fa fb : Env → R D} (hu : X.A.units + 1 < cLine) (hc : X.calm = true) (nd : X.N.Nodup) (hi : PI X tg iter (rdI X.K T W fi)) (ok : BlkOk X.N X.env.scope scope own) (hv : own.map (·.2) = vs) (hp : ∀ i ∈ p.ix, i ∈ vs)
    (hg : ∀ (s : Shared) (H : Hp) (C : Addr) (cl : List (Str × Addr)) (fp : List Addr), PG (X.blk s H scope (compEnvC scope cl C X.env) fp) tg (gP X.K p))
    (ht : ∀ (s : Shared) (H : Hp) (C : Addr) (cl : List (Str × Addr)) (fp : List Addr), PTs (X.blk s H scope (compEnvC scope cl C X.env) fp) ifs (rdT X.K T W0 fc))
    (ha : ∀ (s : Shared) (H : Hp) (C : Addr) (cl : List (Str × Addr)) (fp : List Addr), PE (X.blk s H scope (compEnvC scope cl C X.env) fp) kx (rdE X.K T W0 fa))
    (hb : ∀ (s : Shared) (H : Hp) (C : Addr) (cl : List (Str × Addr)) (fp : List Addr), PE (X.blk s H scope (compEnvC scope cl C X.env) fp) vx (rdE X.K T W0 fb)) (hs : ∀ x, foldedSetIterable iter X.env x = pure x) :
    PE X (.DictComp kx vx [⟨tg, iter, ifs, 0⟩] scope pos) (rdE X.K T W (dcD p vs fi fc fa fb)) := by
  subst hv
  exact pe_of (pe_dct hu hc nd hi ok hg ht ha hb hs) fun σ H Q _ h => dct_imp hp h

/-! ### fields that are set -/
theorem putF_app : ∀ {ns : List Str} {vs : List V} {x : Str} {y : V}, ns.Nodup → ns[vs.length]? = some x → putF x y (ns.zip vs) = ns.zip (vs ++ [y])
  | [], vs, _, _, _, h => by simp at h
  | n :: ns, [], x, y, nd, h => by
    have h : n = x := by simpa using h
    subst h
    cases ns <;> rfl
  | n :: ns, v :: vs, x, y, nd, h => by
    obtain ⟨n1, n2⟩ := List.nodup_cons.mp nd
    have h : ns[vs.length]? = some x := by simpa using h
    have ne : n ≠ x := fun e => n1 (by rw [e]; exact List.mem_of_getElem? h)
    show (if n = x then (n, y) :: ns.zip vs else (n, v) :: putF x y (ns.zip vs)) = (n, v) :: ns.zip (vs ++ [y])
    rw [if_neg ne, putF_app n2 h]
theorem putF_set : ∀ {ns : List Str} {vs : List V} {k : Nat} {x : Str} {y : V}, ns.Nodup → ns[k]? = some x → k < vs.length → putF x y (ns.zip vs) = ns.zip (vs.set k y)
  | [], vs, k, _, _, _, h, _ => by simp at h
  | n :: ns, [], k, _, _, _, _, h => by simp at h
  | n :: ns, v :: vs, 0, x, y, _, h, _ => by
    have h : n = x := by simpa using h
    subst h
    show (if n = n then (n, y) :: ns.zip vs else (n, v) :: putF n y (ns.zip vs)) = _
    rw [if_pos rfl]
    rfl
  | n :: ns, v :: vs, k + 1, x, y, nd, h, hl => by
    obtain ⟨n1, n2⟩ := List.nodup_cons.mp nd
    have h : ns[k]? = some x := by simpa using h
    have ne : n ≠ x := fun e => n1 (by rw [e]; exact List.mem_of_getElem? h)
    show (if n = x then (n, y) :: ns.zip vs else (n, v) :: putF x y (ns.zip vs)) = (n, v) :: ns.zip (vs.set k y)
    rw [if_neg ne, putF_set n2 h (by simpa using hl)]
theorem ownO_of {st : Py.St} {i c : Nat} {k : List D → Cf} {D : Ends} (q : PostS X.K T W N F0 H0 D (ownO st i c k)) : ∃ fs, st[i]? = some (.o 2 (.obj c fs)) ∧ PostS X.K T W N F0 H0 D (k fs) := by
  unfold ownO at q
  split at q
  · rename_i c' fs e
    split at q
    · rename_i hc
      subst hc
      exact ⟨fs, e, q⟩
    · exact q.elim
  · exact q.elim
/-- x.f = e, x the object that is being made -/
theorem ss_setF {m : Bool} {i c k : Nat} {f : String} {x : Str} {e : Expr} {g : Env → R D} (hN : X.N[i]? = some x) (hv : Vis X.env.scope x) (hd : (x == ("__debug__" : Str)) = false) (hcd : (x == ("__classdict__" : Str)) = false) (K1 : FldOk X.K T c k f) (hfew : (T.flds c).length < 1000) (he : PE X e (rdE X.K T W g))
    (hs : swapsWith e (some (.Attribute (.Name x p2) (f : Str) p3)) pos.line X.env = pure false) :
    PS X (.Assign [.Attribute (.Name x p2) (f : Str) p3] e pos) (rdS X.K T W N F0 H0 fun st => ownO st i c fun fs => (g (envS m st)).cf st fun d => if okM m d then
      (if k < fs.length then .nx (st.set i (.o 2 (.obj c (fs.set k d)))) else if k = fs.length then .nx (st.set i (.o 2 (.obj c (fs ++ [d])))) else .no) else .no) := by
  refine ps_of (ps_fld (pe_var hN hv hd hcd) he hs) fun D σ H L ⟨F, fp, st, R, q⟩ => ?_
  obtain ⟨fs, es, q⟩ := ownO_of q
  show rdE X.K T W g σ H _
  refine cf_rd (rel := relD X.K T) (m := m) R q fun d u F' H' e1 g1 g2 r q2 => ?_
  split at q2
  · rename_i hm
    obtain ⟨F2, R2, r2⟩ := keep R hm g1 g2 r
    obtain ⟨v', k1, dx, vs', kr, k2, k5, k3, k4⟩ := R2.ow i 2 _ es
    subst kr
    have few : ((T.flds c).zip vs').length < 1000 := by
      rw [List.length_zip]
      omega
    refine ⟨.ref T.me, k1, T.me, _, dx, _, rfl, k2, K1.cl, K1.na, few, ?_⟩
    split at q2
    · rename_i hk
      rw [putF_set K1.nd K1.at_ (by rw [Reps.length k3]; exact hk)]
      exact q2 F2 _ fp σ (R2.changeO ⟨2, _, es⟩ k4 k1 ⟨dx, vs'.set k u, rfl, upd_same, by rw [List.length_set]; exact k5, Reps.set r2 k k3, k4⟩)
    · split at q2
      · rename_i hk
        have hl : vs'.length = k := by rw [Reps.length k3, hk]
        have hx : (T.flds c)[vs'.length]? = some (f : Str) := by
          rw [hl]
          exact K1.at_
        rw [putF_app K1.nd hx]
        exact q2 F2 _ fp σ (R2.changeO ⟨2, _, es⟩ k4 k1 ⟨dx, vs' ++ [u], rfl, upd_same, by rw [List.length_append]; exact (List.getElem?_eq_some_iff.mp hx).1, Reps.app k3 (Reps.one r2), k4⟩)
      · exact q2.elim
  · exact q2.elim
end
end Py

namespace Py
open PySem L2

/-! ### texts: join, split -/
theorem allStrs_reps {K : PySem.W.Frag} {T : Tab} {F : Hp} : ∀ {xs : List D} {r : List (List Nat)} {vs : List V}, allStrs xs = some r → Reps K T F xs vs → vs = (r.map SX.S).map V.str
  | [], r, vs, e, h => by
    cases e
    cases h
    rfl
  | x :: xs, r, vs, e, ⟨v, w, h1, h2, h3⟩ => by
    subst h1
    cases x <;> first | (cases e; done) | skip
    rename_i s
    unfold allStrs at e
    cases hq : allStrs xs with
    | none =>
      rw [hq] at e
      cases e
    | some q =>
      rw [hq] at e
      cases e
      have h2 : v = .str ⟨s.toArray⟩ := h2
      rw [allStrs_reps hq h3, h2]
      rfl
theorem joinL_eq (s : List Nat) : ∀ r : List (List Nat), TL.joinL s r = joinL s r
  | [] => rfl
  | [x] => rfl
  | x :: y :: r => by
    show x ++ (s ++ TL.joinL s (y :: r)) = x ++ s ++ joinL s (y :: r)
    rw [joinL_eq s (y :: r), List.append_assoc]
theorem joinL_sum (s : List Nat) : ∀ r : List (List Nat), (r.map List.length).sum ≤ (joinL s r).length
  | [] => Nat.le_refl _
  | [x] => by simp [joinL]
  | x :: y :: r => by
    have := joinL_sum s (y :: r)
    show x.length + ((y :: r).map List.length).sum ≤ (x ++ s ++ joinL s (y :: r)).length
    rw [List.length_append, List.length_append]
    omega
theorem splitC_ne (c : Nat) : ∀ l : List Nat, splitC c l ≠ []
  | [] => by simp [splitC]
  | x :: xs => by
    unfold splitC
    split
    · exact List.cons_ne_nil _ _
    · split
      · exact List.cons_ne_nil _ _
      · exact List.cons_ne_nil _ _
theorem splitC_no (c : Nat) : ∀ l : List Nat, ∀ p ∈ splitC c l, c ∉ p
  | [], p, h => by
    have e : p = [] := by simpa [splitC] using h
    subst e
    simp
  | x :: xs, p, h => by
    have ih := splitC_no c xs
    unfold splitC at h
    split at h
    · rcases List.mem_cons.mp h with e | h
      · subst e
        simp
      · exact ih p h
    · rename_i hx
      split at h
      · rename_i y ys e
        rcases List.mem_cons.mp h with q | h
        · subst q
          have := ih y (by rw [e]; exact List.mem_cons_self ..)
          intro m
          rcases List.mem_cons.mp m with q | q
          · exact hx q.symm
          · exact this q
        · exact ih p (by rw [e]; exact List.mem_cons_of_mem _ h)
      · have e : p = [x] := by simpa using h
        subst e
        intro m
        have : c = x := by simpa using m
        exact hx this.symm
theorem splitC_join (c : Nat) : ∀ l : List Nat, TL.joinL [c] (splitC c l) = l
  | [] => rfl
  | x :: xs => by
    have ih := splitC_join c xs
    unfold splitC
    split
    · rename_i hx
      subst hx
      cases hq : splitC x xs with
      | nil => exact absurd hq (splitC_ne x xs)
      | cons y ys =>
        rw [hq] at ih
        show [] ++ ([x] ++ TL.joinL [x] (y :: ys)) = x :: xs
        rw [ih]
        rfl
    · split
      · rename_i y ys e
        rw [e] at ih
        cases ys with
        | nil =>
          show x :: y = x :: xs
          rw [show y = xs from ih]
        | cons z zs =>
          show (x :: y) ++ ([c] ++ TL.joinL [c] (z :: zs)) = x :: xs
          rw [← ih]
          rfl
      · rename_i e
        exact absurd e (splitC_ne c xs)
theorem split_eq {c : Nat} (hc : c < 256) (l : List Nat) : Txt.split ⟨l.toArray⟩ ⟨#[c]⟩ = (splitC c l).map SX.S := by
  have e := SX.split_S (a := l) (b := [c]) (List.cons_ne_nil _ _) (by simp [hc])
  have e2 := SX.spl_join (c := c) (sep := []) (splitC_ne c l) (splitC_no c l)
  rw [splitC_join] at e2
  rw [e2] at e
  exact e
theorem splitC_len (c : Nat) : ∀ l : List Nat, (splitC c l).length ≤ l.length + 1
  | [] => Nat.le_refl _
  | x :: xs => by
    have ih := splitC_len c xs
    unfold splitC
    split
    · rw [List.length_cons, List.length_cons]
      omega
    · split
      · rename_i y ys e
        rw [e] at ih
        rw [List.length_cons] at ih ⊢
        rw [List.length_cons]
        omega
      · simp
theorem reps_strs {K : PySem.W.Frag} {T : Tab} {F : Hp} : ∀ r : List (List Nat), Reps K T F (r.map D.str) ((r.map SX.S).map V.str)
  | [] => rfl
  | x :: r => ⟨_, _, rfl, rfl, reps_strs r⟩
section
variable {X : Cx} {T : Tab} {W : WX} {pos p2 p3 tpos apos : Pos}
theorem s_join {a b : Expr} {f g : Env → R D} (hb : isBase a = true) (hp : isPlain b = true) (hl : (apos.endLine == pos.line) = true) (ha : PE X a (rdE X.K T W f)) (hbe : PE X b (rdE X.K T W g)) :
    PE X (.Call (.Attribute a "join" apos) [b] [] pos) (rdE X.K T W fun env => (((f env).bind fun x => (g env).map fun y => [x, y]).calm).bind (opD .join)) := by
  refine s_m1 PySem.F.slot_str_join PySem.F.type_str_join mt_join hb hp hl ha hbe (fun d d' h => ?_) (fun d d' c fs h => ?_) fun {W' F H Q s d' y} sF ry q => ?_
  · cases d <;> first | rfl | exact absurd rfl (h _)
  · unfold opD at h
    split at h <;> first | (cases h; done) | skip
    all_goals (repeat' split at h)
    all_goals first | (cases h; done) | skip
    all_goals simp_all
  · cases d' <;> first | exact q.elim | skip
    rename_i xs
    have q : Post X.K T (relD X.K T) W' F H (match allStrs xs with
      | some r => if (joinL s r).length ≤ 1000 ∧ r.length ≤ 1000 ∧ s.length ≤ 1000 then .ok (.str (joinL s r)) else .no
      | none => .no) Q := q
    split at q
    · rename_i r hr
      split at q
      · rename_i hc
        obtain ⟨c1, c2, c3⟩ := hc
        obtain ⟨p, vs, rfl, h1, h2⟩ := ry
        have e := allStrs_reps hr h2
        subst e
        refine ⟨⟨s.toArray⟩, p, r.map SX.S, rfl, rfl, .inl (.inl (.inl (sF _ _ h1))), ?_, ?_⟩
        · have e1 : (r.map SX.S).map (·.length) = r.map List.length := SX.lens r
          have e2 : (⟨s.toArray⟩ : Str).length = s.length := SX.S_len s
          rw [e1, e2, List.length_map]
          have := joinL_sum s r
          have e3 : r.length * s.length ≤ 1000 * 1000 := Nat.mul_le_mul c2 c3
          omega
        · have e3 : Txt.join ⟨s.toArray⟩ (r.map SX.S) = ⟨(joinL s r).toArray⟩ := (SX.join_S s r).trans (by rw [joinL_eq])
          rw [e3]
          exact Post.ok sF q rfl
      · exact q.elim
    · exact q.elim
theorem s_split {a b : Expr} {f g : Env → R D} (hb : isBase a = true) (hp : isPlain b = true) (hl : (apos.endLine == pos.line) = true) (ha : PE X a (rdE X.K T W f)) (hbe : PE X b (rdE X.K T W g)) :
    PE X (.Call (.Attribute a "split" apos) [b] [] pos) (rdE X.K T W fun env => (((f env).bind fun x => (g env).map fun y => [x, y]).calm).bind (opD .split)) := by
  refine s_m1 PySem.F.slot_str_split PySem.F.type_str_split mt_split hb hp hl ha hbe (fun d d' h => ?_) (fun d d' c fs h => ?_) fun {W' F H Q s d' y} sF ry q => ?_
  · cases d <;> first | rfl | exact absurd rfl (h _)
  · unfold opD at h
    split at h <;> first | (cases h; done) | skip
    all_goals (repeat' split at h)
    all_goals first | (cases h; done) | skip
    all_goals simp_all
  · cases d' <;> first | exact q.elim | skip
    rename_i t
    match t, q, ry with
    | [c], q, ry =>
      cases ry
      have q : Post X.K T (relD X.K T) W' F H (if s.length ≤ 1000 ∧ c < 256 then .ok (.lst ((splitC c s).map D.str)) else .no) Q := q
      split at q
      · rename_i hc
        refine ⟨_, _, rfl, rfl, rfl, ?_, fun p hn => ?_⟩
        · rw [show (⟨s.toArray⟩ : Str).length = s.length from SX.S_len s, sizeLine_eq]
          omega
        · rw [split_eq hc.2]
          exact q _ _ _ (Grow.new sF hn) ⟨p, _, rfl, upd_same, reps_strs _⟩
      · exact q.elim
    | [], q, _ => exact q.elim
    | _ :: _ :: _, q, _ => exact q.elim
end

/-! ### lists turned round, cleared -/
section
variable {X : Cx} {T : Tab} {W : WX} {N : Bool} {F0 H0 : Hp} {pos p2 apos cpos : Pos}
theorem Reps.rev {K : PySem.W.Frag} {T : Tab} {F : Hp} : ∀ {ds : List D} {vs : List V}, Reps K T F ds vs → Reps K T F ds.reverse vs.reverse
  | [], _, h => by
    cases h
    exact rfl
  | d :: ds, _, ⟨v, r, h1, h2, h3⟩ => by
    subst h1
    rw [List.reverse_cons, List.reverse_cons]
    exact Reps.app (Reps.rev h3) (Reps.one h2)
theorem ss_revL {i : Nat} {x : Str} (hN : X.N[i]? = some x) (hv : Vis X.env.scope x) (hd : (x == ("__debug__" : Str)) = false) (hcd : (x == ("__classdict__" : Str)) = false) (hline : (apos.endLine == cpos.line) = true) :
    PS X (.Expr (.Call (.Attribute (.Name x p2) "reverse" apos) [] [] cpos) pos) (rdS X.K T W N F0 H0 fun st => runO st (.revL i)) := by
  have hb := pe_bm0 (cpos := cpos) (apos := apos) PySem.F.plainAttrs_list PySem.F.slot_list_reverse PySem.F.type_list_reverse (mt_reverse (X := X)) (pe_var (pos := p2) hN hv hd hcd) (by rfl) hline
  refine ps_of (ps_expr hb (by rfl)) fun D σ H L ⟨F, fp, st, R, q⟩ => ?_
  obtain ⟨ds, es, q⟩ := ownL_of q
  obtain ⟨v, h1, p, vs, rfl, h2, h3, h4⟩ := R.ow i 1 _ es
  exact ⟨.ref p, h1, lst_ty h2, p, vs, rfl, rfl, h2, q F _ fp σ (R.change ⟨1, _, es⟩ h4 h1 (Reps.rev h3))⟩
theorem ss_clrL {i : Nat} {x : Str} (hN : X.N[i]? = some x) (hv : Vis X.env.scope x) (hd : (x == ("__debug__" : Str)) = false) (hcd : (x == ("__classdict__" : Str)) = false) (hline : (apos.endLine == cpos.line) = true) :
    PS X (.Expr (.Call (.Attribute (.Name x p2) "clear" apos) [] [] cpos) pos) (rdS X.K T W N F0 H0 fun st => runO st (.clrL i)) := by
  have hb := pe_bm0 (cpos := cpos) (apos := apos) PySem.F.plainAttrs_list PySem.F.slot_list_clear PySem.F.type_list_clear (mt_clear (X := X)) (pe_var (pos := p2) hN hv hd hcd) (by rfl) hline
  refine ps_of (ps_expr hb (by rfl)) fun D σ H L ⟨F, fp, st, R, q⟩ => ?_
  obtain ⟨ds, es, q⟩ := ownL_of q
  obtain ⟨v, h1, p, vs, rfl, h2, h3, h4⟩ := R.ow i 1 _ es
  exact ⟨.ref p, h1, lst_ty h2, p, vs, rfl, rfl, h2, q F _ fp σ (R.change ⟨1, _, es⟩ h4 h1 (show Reps X.K T F [] [] from rfl))⟩
end
end Py

namespace Py
open PySem L2

/-! ### does this piece of the language stand for that piece of the text -/
structure Sg where
  N : List Str
  sc : Scope
  free : List Str
def isDbg (x : Str) : Bool := (x == ("__debug__" : Str)) || (x == ("__classdict__" : Str))
def visB (sc : Scope) (x : Str) : Bool := match sc.names.lookup x with
  | some .local => true
  | some .cell => true
  | some .free => true
  | _ => false
def locB (sc : Scope) (x : Str) : Bool := match sc.names.lookup x with
  | some .local => true
  | some .cell => true
  | _ => false
def glB (sc : Scope) (x : Str) : Bool := match sc.names.lookup x with
  | some .globalImplicit => true
  | _ => false
theorem vis_of {sc : Scope} {x : Str} (h : visB sc x = true) : Vis sc x := by
  unfold visB at h
  unfold Vis
  split at h
  · exact .inl (by assumption)
  · exact .inr (.inl (by assumption))
  · exact .inr (.inr (by assumption))
  · cases h
theorem loc_of {sc : Scope} {x : Str} (h : locB sc x = true) : L2.Loc sc x := by
  unfold locB at h
  unfold L2.Loc
  split at h
  · exact .inl (by assumption)
  · exact .inr (by assumption)
  · cases h
theorem gl_of {sc : Scope} {x : Str} (h : glB sc x = true) : sc.names.lookup x = some .globalImplicit := by
  unfold glB at h
  split at h
  · assumption
  · cases h
mutual
/-- a target; sc: the block's own scope -/
def mP (N : List Str) (sc : Scope) : Pat → Expr → Bool
  | .v i, .Name x _ => decide (N[i]? = some x) && locB sc x
  | .tup ps, .Tuple es _ _ => mPs N sc ps es
  | _, _ => false
def mPs (N : List Str) (sc : Scope) : List Pat → List Expr → Bool
  | [], [] => true
  | p :: ps, e :: es => mP N sc p e && mPs N sc ps es
  | _, _ => false
end
mutual
/-- an expression that may be a test -/
def tstOk : E → Bool
  | .ife _ _ _ => false
  | .not a => tstOk a
  | .ands _ es => tstOks es
  | _ => true
def tstOks : Es → Bool
  | .nil => true
  | .cons e es => tstOk e && tstOks es
end
def nameB (x : Str) (y : String) : Bool := decide (x = (y : Str))
def isTupE : Expr → Bool
  | .Tuple _ _ _ => true
  | _ => false
/-- zip and enumerate want a tuple for a target -/
def itT : It → Expr → Bool
  | .op .zip _, tg => isTupE tg
  | .op .enum _, tg => isTupE tg
  | _, _ => true
mutual
def mE (h : Bool) (S : Sg) : E → Expr → Bool
  | .v i, .Name x _ => decide (S.N[i]? = some x) && (visB S.sc x && !isDbg x)
  | .non, .Constant .none _ _ => true
  | .tt, .Constant (.bool b) _ _ => b
  | .ff, .Constant (.bool b) _ _ => !b
  | .int i, .Constant (.int j) _ _ => decide (i = j)
  | .str z, .Constant (.str x) _ _ => decide (x = ⟨z.toArray⟩)
  | .glob x _, .Name y _ => nameB y x && (glB S.sc x && !isDbg x)
  | .bin o a b, .BinOp l op r _ => decide (op = bop o) && (mE h S a l && mE h S b r)
  | .neg a, .UnaryOp .USub x _ => mE h S a x
  | .cmp o a b, .Compare l [op] [r] _ => decide (op = cop o) && (!behindInMarks op r && (mE h S a l && mE h S b r))
  | .chain o o' a b c, .Compare l [op, op'] [r, r'] _ => decide (op = cop o) && (decide (op' = cop o') && (!lastMarks [op, op'] [r, r'] && (mE h S a l && (mE h S b r && mE h S c r'))))
  | .not a, .UnaryOp .Not x _ => mE h S a x
  | .ands o es, .BoolOp op vs _ => decide (op = if o then .And else .Or) && (!vs.isEmpty && mEs h S es vs)
  | .ife t a b, .IfExp c x y _ => tstOk t && (mE h S t c && (mE h S a x && mE h S b y))
  | .tup es, .Tuple xs _ _ => decide (xs.length ≤ 1000) && (xs.all isPlain && mEs h S es xs)
  | .lst es, .List xs _ => decide (xs.length ≤ 1000) && (xs.all isPlain && mEs h S es xs)
  | .idx a b, .Subscript x y _ => isPlain y && (mE h S a x && mE h S b y)
  | .slice a lo hi, .Subscript x (.Slice l u none _) _ => mE h S a x && (mO h S lo l && mO h S hi u)
  | .rev a, .Subscript x (.Slice none none (some (.UnaryOp .USub (.Constant (.int j) _ _) _)) _) _ => decide (j = 1) && mE h S a x
  | .call x _ _ es, .Call (.Name y _) as [] _ => !h && (nameB y x && (glB S.sc x && (!isDbg x && (!as.isEmpty && (as.all isPlain && mEs h S es as)))))
  | .bi f es, .Call (.Name y _) as [] _ => !h && (nameB y (biN f) && (glB S.sc (biN f) && (S.free.contains (biN f : Str) && (!as.isEmpty && (as.all isPlain && mEs h S es as)))))
  | .isin e t, .Call (.Name y _) [a, .Name z _] [] _ => nameB y "isinstance" && (glB S.sc ("isinstance" : Str) && (S.free.contains ("isinstance" : Str) && (isPlain a && (mE h S e a && (match t with
      | .exc x _ _ => nameB z x && (glB S.sc x && !isDbg x)
      | t => (match tyB t with
        | some b => nameB z b && (glB S.sc b && S.free.contains (b : Str))
        | none => false))))))
  | .lc own p it c e, .ListComp elt [⟨tg, iter, ifs, 0⟩] scope _ => !h && (blkC S.N S.sc scope (own.map fun q => ((q.1 : Str), q.2)) && ((p.ix.all fun i => (own.map (·.2)).contains i) && (mP S.N scope p tg && (mI h S it iter &&
      (itT it tg && (mC h { S with sc := relS scope S.sc } c ifs && mE h { S with sc := relS scope S.sc } e elt))))))
  | .lc2 own p it c own2 q jt d e, .ListComp elt [⟨tg, iter, ifs, 0⟩, ⟨tg1, iter1, ifs1, 0⟩] scope _ => !h && (blkC S.N S.sc scope (own.map fun q => ((q.1 : Str), q.2)) && (((p.ix.all fun i => (own.map (·.2)).contains i) && ((own2.all fun i => (own.map (·.2)).contains i) && (q.ix.all fun i => own2.contains i))) && ((mP S.N scope p tg && mP S.N scope q tg1) && (mI h S it iter &&
      (itT it tg && (itT jt tg1 && (mC h { S with sc := relS scope S.sc } c ifs && (mI h { S with sc := relS scope S.sc } jt iter1 && (mC h { S with sc := relS scope S.sc } d ifs1 && mE h { S with sc := relS scope S.sc } e elt)))))))))
  | .dc own p it c a b, .DictComp kx vx [⟨tg, iter, ifs, 0⟩] scope _ => !h && (blkC S.N S.sc scope (own.map fun q => ((q.1 : Str), q.2)) && ((p.ix.all fun i => (own.map (·.2)).contains i) && (mP S.N scope p tg && (mI h S it iter &&
      (itT it tg && (mC h { S with sc := relS scope S.sc } c ifs && (mE h { S with sc := relS scope S.sc } a kx && mE h { S with sc := relS scope S.sc } b vx)))))))
  | .op (.fld x _) (.cons e .nil), .Attribute b y _ => nameB y x && (isBase b && mE h S e b)
  | .op (.con x _) (.cons e .nil), .Attribute b y _ => nameB y x && (isBase b && mE h S e b)
  | .op (.prop x _) (.cons e .nil), .Attribute b y _ => !h && (nameB y x && (isBase b && mE h S e b))
  | .op (.meth x _) (.cons e es), .Call (.Attribute b y apos) as [] pos => !h && (nameB y x && (isBase b && (as.all isPlain && (decide (as.length < 29) && ((apos.endLine == pos.line) && (mE h S e b && mEs h S es as))))))
  | .op (.mk x _ _ _) es, .Call (.Name y _) as [] _ => !h && (nameB y x && (glB S.sc x && (!isDbg x && (!as.isEmpty && (as.all isPlain && mEs h S es as)))))
  | .op .count (.cons e (.cons e2 .nil)), .Call (.Attribute b y apos) [a] [] pos => nameB y "count" && (isBase b && (isPlain a && ((apos.endLine == pos.line) && (mE h S e b && mE h S e2 a))))
  | .op .join (.cons e (.cons e2 .nil)), .Call (.Attribute b y apos) [a] [] pos => nameB y "join" && (isBase b && (isPlain a && ((apos.endLine == pos.line) && (mE h S e b && mE h S e2 a))))
  | .op .split (.cons e (.cons e2 .nil)), .Call (.Attribute b y apos) [a] [] pos => nameB y "split" && (isBase b && (isPlain a && ((apos.endLine == pos.line) && (mE h S e b && mE h S e2 a))))
  | .op .strI (.cons e .nil), .Call (.Name y _) [a] [] _ => nameB y "str" && (glB S.sc ("str" : Str) && (S.free.contains ("str" : Str) && (isPlain a && mE h S e a)))
  | .ino neg _ a b, .Compare l [op] [r] _ => !h && (decide (op = if neg then .NotIn else .In) && (!behindInMarks op r && (mE h S a l && mE h S b r)))
  | .selfF x _ _, .Attribute (.Name z _) y _ => nameB y x && (decide (S.N[(0 : Nat)]? = some z) && (visB S.sc z && !isDbg z))
  | _, _ => false
def mO (h : Bool) (S : Sg) : EO → Option Expr → Bool
  | .none, none => true
  | .some e, some a => mE h S e a
  | _, _ => false
def mC (h : Bool) (S : Sg) : EO → List Expr → Bool
  | .none, [] => true
  | .some e, [a] => tstOk e && mE h S e a
  | _, _ => false
def mEs (h : Bool) (S : Sg) : Es → List Expr → Bool
  | .nil, [] => true
  | .cons e es, a :: as => mE h S e a && mEs h S es as
  | _, _ => false
def mI (h : Bool) (S : Sg) : It → Expr → Bool
  | .seq e, a => isPlain a && mE h S e a
  | .range e, .Call (.Name y _) [a] [] _ => nameB y "range" && (glB S.sc ("range" : Str) && (S.free.contains ("range" : Str) && (isPlain a && mE h S e a)))
  | .range2 e f, .Call (.Name y _) [a, b] [] _ => nameB y "range" && (glB S.sc ("range" : Str) && (S.free.contains ("range" : Str) && (isPlain a && (isPlain b && (mE h S e a && mE h S f b)))))
  | .op .zip (.cons e (.cons f .nil)), .Call (.Name y _) [a, b] [] _ => nameB y "zip" && (glB S.sc ("zip" : Str) && (S.free.contains ("zip" : Str) && (isPlain a && (isPlain b && (mE h S e a && mE h S f b)))))
  | .op .enum (.cons e .nil), .Call (.Name y _) [a] [] _ => nameB y "enumerate" && (glB S.sc ("enumerate" : Str) && (S.free.contains ("enumerate" : Str) && (isPlain a && mE h S e a)))
  | .op .rev (.cons e .nil), .Call (.Name y _) [a] [] _ => nameB y "reversed" && (glB S.sc ("reversed" : Str) && (S.free.contains ("reversed" : Str) && (isPlain a && mE h S e a)))
  | .op .str (.cons e .nil), a => isPlain a && mE h S e a
  | .op (.own _) (.cons e .nil), a => !h && (isPlain a && mE h S e a)
  | _, _ => false
end

/-! ### defs that hand back a new list -/
def spOfN (K : PySem.W.Frag) (T : Tab) (n : Nat) (f : Sem) : Sp := fun vs H Q E => ∃ F ds, ds.length = n ∧ Same F H ∧ Reps K T F ds vs ∧ PostN K T E F H (f ds) Q
def spRN (K : PySem.W.Frag) (T : Tab) (f : Sem) (dd : List D) : Sp := fun vs H Q E => ∃ F ds, Same F H ∧ Reps K T F ds vs ∧ PostN K T E F H (f (ds ++ dd)) Q
def GoodN (P : Program) (w : World) (K : PySem.W.Frag) (mg : Str → Option Value) (base : Heap) (T : Tab) (k : Nat) (x : String) (f : Sem) (dd : List D) : Prop :=
  ∃ g : Addr, mg (x : Str) = some (.ref g) ∧ PySem.W.keepIn K (.ref g) = true ∧ (∀ zs d, f zs = .ok d → ∃ ls, d = .lst ls) ∧ FnR P w K mg base (L2.CX P w) k g (spRN K T f dd)
theorem goodN_mk {P : Program} {w : World} {K : PySem.W.Frag} {mg : Str → Option Value} {base : Heap} {T : Tab} {k : Nat} {x : String} {f : Sem} {dd : List D} {g : Addr} {fd : FuncData} {ps : List Str} {dvs : List V} {ds : List Value} (hg : mg (x : Str) = some (.ref g)) (kp : PySem.W.keepIn K (.ref g) = true) (hb : Binds K fd ps ds) (hd : Vals dvs ds)
    (hr : ∀ F, Reps K T F dd dvs) (ha : ∀ zs, zs.length ≠ ps.length → f zs = .no) (hl : ∀ zs d, f zs = .ok d → ∃ ls, d = .lst ls) (F : FnOk P w K mg base (L2.CX P w) k g fd ps (spOfN K T ps.length f)) : GoodN P w K mg base T k x f dd :=
  ⟨g, hg, kp, hl, FnR.imp (fnR_of F hb hd) fun vs H Q E ⟨F1, d1, s1, r1, q1⟩ => ⟨F1, d1 ++ dd, Decidable.byContradiction fun hn => by
    rw [ha _ hn] at q1
    exact q1, s1, Reps.app r1 (hr F1), q1⟩⟩
theorem GoodN.good {P : Program} {w : World} {K : PySem.W.Frag} {mg : Str → Option Value} {base : Heap} {T : Tab} {k : Nat} {x : String} {f : Sem} {dd : List D} (h : GoodN P w K mg base T k x f dd) : Good P w K mg base T k x f dd := by
  obtain ⟨g, h1, h2, h7, h8⟩ := h
  exact ⟨g, h1, h2, FnR.imp h8 fun vs H Q E ⟨F, ds, q2, q3, q4⟩ => ⟨F, ds, q2, q3, PostN.of q4 fun d e => h7 _ _ e⟩⟩
section
variable {X : Cx} {T : Tab} {W : WX} {pos p2 : Pos}
theorem s_callN {k : Nat} {x : String} {f : Sem} {dd : List D} {e : Expr} {es : List Expr} {g : Env → R (List D)} (G : GoodN X.prog X.w X.K X.mg X.base T k x f dd) (hr : Room k X.A) (hg : Gl X (x : Str)) (tk : Takes X W) (hd : (((x : Str)) == ("__debug__" : Str)) = false)
    (hp : ((e :: es).all isPlain) = true) (ha : PA X (e :: es) (rdA X.K T W g)) : PE X (.Call (.Name (x : Str) p2) (e :: es) [] pos) (rdN X.K T W fun env => (g env).bind fun xs => f (xs ++ dd)) := by
  obtain ⟨a, h1, h2, h7, h6⟩ := G
  have hp' : (isPlain e && es.all isPlain) = true := hp
  obtain ⟨p1, p2'⟩ := Bool.and_eq_true_iff.mp hp'
  refine pn_of (pe_callR (E := fun σ cls d H => W cls d σ H) h6 hr hg h1 h2 (fun σ => passAt tk σ) ha hd (star_plain p1 es X.env) (star_none p2')) fun σ H Q _ ⟨F, env, vw, q⟩ => ?_
  refine vw.rd (Post.imp (PostN.bind (rel := relL X.K T) q) fun vs H1 ⟨F1, d1, e1, g1, r1, q1⟩ => ?_)
  exact ⟨F1, d1, g1.s, r1, q1⟩
end

/-! ### what a piece leans on -/
inductive Need where
  | call (x : String) (f : Sem) (dd : List D)
  | isexc (x : String) (cs al : List Nat)
  | glob (x : String) (d : D)
  | raise (x : String) (c : Nat)
  | catch_ (x : String) (cs al : List Nat)
  | callN (x : String) (f : Sem) (dd : List D)
  | fld (x : String) (tab : List (Nat × Nat))
  | con (x : String) (tab : List (Nat × D))
  | prop (x : String) (tab : List (Nat × Sem))
  | meth (x : String) (tab : List (Nat × Sem × List D))
  | mk (x : String) (c : Nat) (f : Sem) (dd : List D)
  | ino (tab : List (Nat × Sem))
  | own (tab : List (Nat × Nat))
  | fldS (x : String) (c k : Nat)
def Need.ok (P : Program) (w : World) (K : PySem.W.Frag) (mg : Str → Option Value) (base : Heap) (T : Tab) (k : Nat) : Need → Prop
  | .call x f dd => Good P w K mg base T k x f dd
  | .isexc x cs al => IsExc K mg T x cs al
  | .glob x d => ∃ u v, mg (x : Str) = some u ∧ RelV v u ∧ ∀ F, Rep K T F d v
  | .raise x c => ExcOk P w K mg T x c
  | .catch_ x cs al => ∃ C, mg (x : Str) = some (.ref C) ∧ ∀ c, al.contains c = true → PySem.W.exmOne K (.ref (T.addr c)) (.ref C) = some (cs.contains c) ∧ ExcC K (T.addr c)
  | .callN x f dd => GoodN P w K mg base T k x f dd
  | .fld x tab => ∀ c i, look c tab = some i → FldOk K T c i x
  | .con x tab => ∀ c d, look c tab = some d → ConOk K T c x d
  | .prop x tab => 0 < k ∧ ∀ c g, look c tab = some g → GoodP P w K mg base T (k - 1) c x g
  | .meth x tab => ∀ c f dd, look c tab = some (f, dd) → GoodM P w K mg base T k c x f dd
  | .mk x c f dd => 0 < k ∧ GoodC P w K mg base T (k - 1) x c f dd
  | .ino tab => ∀ c f, look c tab = some f → GoodI P w K mg base T k c f
  | .own tab => ∀ c i, look c tab = some i → GoodT P w K mg base T k c i
  | .fldS x c i => FldOk K T c i x ∧ (T.flds c).length < 1000
abbrev Need.at (X : Cx) (T : Tab) (k : Nat) (n : Need) : Prop := n.ok X.prog X.w X.K X.mg X.base T k
def Op.needs : Op → List Need
  | .fld x tab => [.fld x tab]
  | .con x tab => [.con x tab]
  | .prop x tab => [.prop x tab]
  | .meth x tab => [.meth x tab]
  | .mk x c f dd => [.mk x c f dd]
  | _ => []
def IOp.needs : IOp → List Need
  | .own tab => [.own tab]
  | _ => []
mutual
def E.needs : E → List Need
  | .v _ => []
  | .non => []
  | .tt => []
  | .ff => []
  | .int _ => []
  | .str _ => []
  | .glob x d => [.glob x d]
  | .bin _ a b => a.needs ++ b.needs
  | .neg a => a.needs
  | .cmp _ a b => a.needs ++ b.needs
  | .chain _ _ a b c => a.needs ++ (b.needs ++ c.needs)
  | .not a => a.needs
  | .ands _ es => es.needs
  | .ife t a b => t.needs ++ (a.needs ++ b.needs)
  | .tup es => es.needs
  | .lst es => es.needs
  | .idx a b => a.needs ++ b.needs
  | .slice a lo hi => a.needs ++ (lo.needs ++ hi.needs)
  | .rev a => a.needs
  | .call x f dd es => .call x f dd :: es.needs
  | .bi _ es => es.needs
  | .isin e t => (match t with
    | .exc x cs al => [.isexc x cs al]
    | _ => []) ++ e.needs
  | .lc _ _ it c e => it.needs ++ (c.needs ++ e.needs)
  | .lc2 _ _ it c _ _ jt d e => it.needs ++ (c.needs ++ (jt.needs ++ (d.needs ++ e.needs)))
  | .dc _ _ it c a b => it.needs ++ (c.needs ++ (a.needs ++ b.needs))
  | .op o es => o.needs ++ es.needs
  | .ino _ tab a b => .ino tab :: (a.needs ++ b.needs)
  | .selfF x c k => [.fldS x c k]
def EO.needs : EO → List Need
  | .none => []
  | .some e => e.needs
def Es.needs : Es → List Need
  | .nil => []
  | .cons e es => e.needs ++ es.needs
def It.needs : It → List Need
  | .seq e => e.needs
  | .range a => a.needs
  | .range2 a b => a.needs ++ b.needs
  | .op o es => o.needs ++ es.needs
end

/-! ### where one stands -/
structure Ctx (h : Bool) (X : Cx) (T : Tab) (W : WX) (k : Nat) (S : Sg) : Prop where
  hN : X.N = S.N
  sc : X.env.scope = S.sc
  nd : X.N.Nodup
  un : X.A.units + 65 < cLine
  calm : h = false → X.calm = true
  room : h = false → Room k X.A
  tk : Takes X W
  free : ∀ x, S.free.contains x = true → X.mg x = none
  nox : h = false → ∀ b, T.exc b = none
  ise : ∀ a c, T.exc a = some (c, []) → CallR X (.builtin "isinstance") (rIsE X.K (T.addr c) a)
section
variable {X : Cx} {T : Tab} {W : WX} {k : Nat} {S : Sg} {h : Bool}
theorem Ctx.blk (hf : h = false) (C : Ctx h X T W k S) {s : Shared} {H : Hp} {scope : Scope} {Cc : Addr} {cl : List (Str × Addr)} {fp : List Addr} : Ctx h (X.blk s H scope (compEnvC scope cl Cc X.env) fp) T W0 k { S with sc := relS scope S.sc } where
  hN := C.hN
  sc := by
    rw [← C.sc]
    rfl
  nd := C.nd
  un := C.un
  calm := fun _ => C.calm hf
  room := fun _ => C.room hf
  tk := takes0
  free := C.free
  nox := C.nox
  ise := fun a c e => by
    rw [C.nox hf a] at e
    cases e
theorem ba {a b : Bool} (h : (a && b) = true) : a = true ∧ b = true := Bool.and_eq_true_iff.mp h
theorem name_of {x : Str} {y : String} (h : nameB x y = true) : x = (y : Str) := of_decide_eq_true h
theorem dbg1 {x : Str} (h : (!isDbg x) = true) : (x == ("__debug__" : Str)) = false := by
  unfold isDbg at h
  rw [Bool.not_or] at h
  have := (ba h).1
  simpa using this
theorem dbg2 {x : Str} (h : (!isDbg x) = true) : (x == ("__classdict__" : Str)) = false := by
  unfold isDbg at h
  rw [Bool.not_or] at h
  have := (ba h).2
  simpa using this
/-! targets -/
mutual
theorem pg_of {fnk : ∀ x, locB scb x = true → L2.Loc X.env.scope x ∧ (X.fn x = true ∨ X.env.scope.names.lookup x = some .local)} (nd : X.N.Nodup) (hc : X.calm = true) : ∀ (p : Pat) (e : Expr), mP X.N scb p e = true → PG X e (gP X.K p)
  | .v i, e, hm => by
    cases e <;> first | (cases hm; done) | skip
    rename_i x pos
    obtain ⟨h1, h2⟩ := ba hm
    obtain ⟨h3, h4⟩ := fnk x h2
    exact pg_name nd (of_decide_eq_true h1) h3 h4
  | .tup ps, e, hm => by
    cases e <;> first | (cases hm; done) | skip
    rename_i es kk pos
    have hm : mPs X.N scb ps es = true := hm
    obtain ⟨h1, h2⟩ := mPs_len hm
    exact pg_tup hc (pgs_of (fnk := fnk) nd hc ps es hm) h1 h2
theorem pgs_of {fnk : ∀ x, locB scb x = true → L2.Loc X.env.scope x ∧ (X.fn x = true ∨ X.env.scope.names.lookup x = some .local)} (nd : X.N.Nodup) (hc : X.calm = true) : ∀ (ps : List Pat) (es : List Expr), mPs X.N scb ps es = true → PGs X es (gPs X.K ps)
  | [], es, hm => by
    cases es with
    | nil => exact pgs_nil
    | cons _ _ => cases hm
  | p :: ps, es, hm => by
    cases es with
    | nil => cases hm
    | cons e es =>
      have hm : (mP X.N scb p e && mPs X.N scb ps es) = true := hm
      obtain ⟨h1, h2⟩ := ba hm
      refine pgs_cons (pg_of (fnk := fnk) nd hc p e h1) (pgs_of (fnk := fnk) nd hc ps es h2) ?_
      cases p <;> cases e <;> first | (cases h1; done) | rfl
theorem mPs_len : ∀ {ps : List Pat} {es : List Expr} {N : List Str} {sc : Scope} {env : PySem.Env}, mPs N sc ps es = true → (assignEach es env).length = ps.length ∧ (assignEach es env).findIdx? (·.1) = none
  | [], es, N, sc, env, hm => by
    cases es with
    | nil => exact ⟨rfl, rfl⟩
    | cons _ _ => cases hm
  | p :: ps, es, N, sc, env, hm => by
    cases es with
    | nil => cases hm
    | cons e es =>
      have hm : (mP N sc p e && mPs N sc ps es) = true := hm
      obtain ⟨h1, h2⟩ := ba hm
      obtain ⟨q1, q2⟩ := mPs_len (env := env) h2
      have e1 : assignEach (e :: es) env = (false, assign e env) :: assignEach es env := by
        cases p <;> cases e <;> first | (cases h1; done) | rfl
      rw [e1]
      refine ⟨by rw [List.length_cons, q1, List.length_cons], ?_⟩
      rw [List.findIdx?_cons]
      simp [q2]
end
end
end Py

namespace Py
open PySem L2

theorem ba3 {a b c : Bool} (h : (a && (b && c)) = true) : a = true ∧ b = true ∧ c = true := by
  simpa only [Bool.and_eq_true] using h
theorem ba4 {a b c d : Bool} (h : (a && (b && (c && d))) = true) : a = true ∧ b = true ∧ c = true ∧ d = true := by
  simpa only [Bool.and_eq_true] using h
theorem ba5 {a b c d e : Bool} (h : (a && (b && (c && (d && e)))) = true) : a = true ∧ b = true ∧ c = true ∧ d = true ∧ e = true := by
  simpa only [Bool.and_eq_true] using h
theorem ba6 {a b c d e f : Bool} (h : (a && (b && (c && (d && (e && f))))) = true) : a = true ∧ b = true ∧ c = true ∧ d = true ∧ e = true ∧ f = true := by
  simpa only [Bool.and_eq_true] using h
theorem ba7 {a b c d e f g : Bool} (h : (a && (b && (c && (d && (e && (f && g)))))) = true) : a = true ∧ b = true ∧ c = true ∧ d = true ∧ e = true ∧ f = true ∧ g = true := by
  simpa only [Bool.and_eq_true] using h
theorem ba8 {a b c d e f g h' : Bool} (h : (a && (b && (c && (d && (e && (f && (g && h'))))))) = true) : a = true ∧ b = true ∧ c = true ∧ d = true ∧ e = true ∧ f = true ∧ g = true ∧ h' = true := by
  simpa only [Bool.and_eq_true] using h
theorem evs_len : ∀ (es : Es) {as : List Expr} {h : Bool} {S : Sg}, mEs h S es as = true → ∀ env ds, evs env es = .ok ds → ds.length = as.length
  | .nil, as, h, S, hm, env, ds, e => by
    cases as with
    | nil =>
      cases e
      rfl
    | cons _ _ => cases hm
  | .cons x es, as, h, S, hm, env, ds, e => by
    cases as with
    | nil => cases hm
    | cons a as =>
      have hm : (mE h S x a && mEs h S es as) = true := hm
      obtain ⟨_, h2⟩ := ba hm
      have e : ((ev env x).bind fun x => (evs env es).map fun xs => x :: xs) = .ok ds := e
      cases hx : ev env x with
      | ok v =>
        rw [hx] at e
        cases hy : evs env es with
        | ok r =>
          rw [hy] at e
          cases e
          rw [List.length_cons, List.length_cons, evs_len es h2 env r hy]
        | ex c fs =>
          rw [hy] at e
          cases e
        | no =>
          rw [hy] at e
          cases e
      | ex c fs =>
        rw [hx] at e
        cases e
      | no =>
        rw [hx] at e
        cases e
theorem pe_eq {X : Cx} {a : Expr} {K : PySem.W.Frag} {T : Tab} {W : WX} {f g : Env → R D} (e : ∀ env, f env = g env) (h : PE X a (rdE K T W f)) : PE X a (rdE K T W g) := by
  rw [← funext e]
  exact h
theorem pt_eq {X : Cx} {a : Expr} {K : PySem.W.Frag} {T : Tab} {W : WX} {f g : Env → R Bool} (e : ∀ env, f env = g env) (h : PT X a (rdT K T W f)) : PT X a (rdT K T W g) := by
  rw [← funext e]
  exact h
theorem pw_eq {X : Cx} {a : Expr} {K : PySem.W.Frag} {T : Tab} {W : WX} {f g : Env → R Bool} (e : ∀ env, f env = g env) (h : PW X a (rdT K T W f)) : PW X a (rdT K T W g) := by
  rw [← funext e]
  exact h
theorem evt_cmp {r : R Bool} : (r.map D.bool).bind truth = r := by cases r <;> rfl
theorem evt_not {r : R D} : (r.bind fun x => (truth x).map fun t => D.bool (!t)).bind truth = (r.bind truth).map not := by
  cases r with
  | ok x =>
    show ((truth x).map fun t => D.bool (!t)).bind truth = (truth x).map not
    cases truth x <;> rfl
  | ex c fs => rfl
  | no => rfl
theorem bind_bind {α β γ : Type} {r : R α} {f : α → R β} {g : β → R γ} : (r.bind f).bind g = r.bind fun x => (f x).bind g := by cases r <;> rfl
theorem evt_and {r q : R D} {o : Bool} : (r.bind fun x => (truth x).bind fun t => if t = o then q else .ok x).bind truth = (r.bind truth).bind fun t => if t = o then q.bind truth else .ok t := by
  cases r with
  | ok x =>
    show ((truth x).bind fun t => if t = o then q else .ok x).bind truth = (truth x).bind fun t => if t = o then q.bind truth else .ok t
    cases hx : truth x with
    | ok t =>
      show (if t = o then q else .ok x).bind truth = if t = o then q.bind truth else .ok t
      by_cases ht : t = o
      · rw [if_pos ht, if_pos ht]
      · rw [if_neg ht, if_neg ht]
        exact hx
    | ex c fs => rfl
    | no => rfl
  | ex c fs => rfl
  | no => rfl
theorem relS_lookup {sc : Scope} {x : Str} (g : Str → NameKind → Bool) : ∀ (l : List (Str × NameKind)), (l.map fun (n, k) => if g n k then (n, NameKind.cell) else (n, k)).lookup x = (l.lookup x).map fun k => if g x k then .cell else k
  | [] => rfl
  | (n, k) :: r => by
    rw [List.map_cons]
    by_cases hx : x = n
    · subst hx
      show ((if g x k then (x, NameKind.cell) else (x, k)) :: _).lookup x = _
      by_cases hg : g x k = true
      · rw [if_pos hg, List.lookup_cons_self, List.lookup_cons_self]
        simp [hg]
      · rw [if_neg hg, List.lookup_cons_self, List.lookup_cons_self]
        simp [hg]
    · have hb : (x == n) = false := by simpa using hx
      show ((if g n k then (n, NameKind.cell) else (n, k)) :: _).lookup x = _
      have ih := relS_lookup (sc := sc) (x := x) g r
      by_cases hg : g n k = true
      · rw [if_pos hg]
        simp only [List.lookup, hb]
        exact ih
      · rw [if_neg hg]
        simp only [List.lookup, hb]
        exact ih
theorem fnk_blk {X : Cx} {s : Shared} {H : Hp} {scope : Scope} {C : Addr} {cl : List (Str × Addr)} {fp : List Addr} (x : Str) (h : locB scope x = true) :
    L2.Loc (X.blk s H scope (compEnvC scope cl C X.env) fp).env.scope x ∧ ((X.blk s H scope (compEnvC scope cl C X.env) fp).fn x = true ∨ (X.blk s H scope (compEnvC scope cl C X.env) fp).env.scope.names.lookup x = some .local) := by
  have e : (X.blk s H scope (compEnvC scope cl C X.env) fp).env.scope.names.lookup x = (scope.names.lookup x).map fun k => if (k == .free && X.env.scope.kind == .function && X.env.scope.names.lookup x == some .cell) then .cell else k :=
    relS_lookup (sc := scope) (fun n k => k == .free && X.env.scope.kind == .function && X.env.scope.names.lookup n == some .cell) scope.names
  rcases loc_of h with h | h
  · rw [h] at e
    have e : (X.blk s H scope (compEnvC scope cl C X.env) fp).env.scope.names.lookup x = some .local := e
    exact ⟨.inl e, .inr e⟩
  · rw [h] at e
    have e : (X.blk s H scope (compEnvC scope cl C X.env) fp).env.scope.names.lookup x = some .cell := e
    refine ⟨.inr e, .inl ?_⟩
    show (scope.names.lookup x == some .cell) = true
    rw [h]
    rfl
theorem iter_plain {a : Expr} (h : isPlain a = true) (env : PySem.Env) (x : Value) : foldedSetIterable a env x = pure x := by
  cases a <;> first | rfl | cases h
theorem mI_plain {N : List Str} {h : Bool} {S : Sg} {it : It} {a : Expr} (hm : mI h S it a = true) : isPlain a = true := by
  cases it with
  | seq e => exact (ba hm).1
  | range e =>
    cases a <;> first | rfl | cases hm
  | range2 e f =>
    cases a <;> first | rfl | cases hm
  | op o es =>
    cases o with
    | str =>
      cases es with
      | nil => cases a <;> cases hm
      | cons e es =>
        cases es with
        | nil => exact (ba hm).1
        | cons _ _ => cases a <;> cases hm
    | own t =>
      cases es with
      | nil => cases a <;> cases hm
      | cons e es =>
        cases es with
        | nil => exact (ba3 hm).2.1
        | cons _ _ => cases a <;> cases hm
    | _ => 
      cases es with
      | nil => cases a <;> cases hm
      | cons e es =>
        cases es with
        | nil => cases a <;> first | rfl | cases hm
        | cons f es =>
          cases es with
          | nil => cases a <;> first | rfl | cases hm
          | cons _ _ => cases a <;> cases hm

section
variable {T : Tab} {k : Nat} {h : Bool}
theorem left_of {α : Type} {P : α → Prop} {l r : List α} (q : ∀ n ∈ l ++ r, P n) : ∀ n ∈ l, P n := fun n m => q n (List.mem_append.mpr (.inl m))
theorem right_of {α : Type} {P : α → Prop} {l r : List α} (q : ∀ n ∈ l ++ r, P n) : ∀ n ∈ r, P n := fun n m => q n (List.mem_append.mpr (.inr m))
theorem gl_at {X : Cx} {S : Sg} {x : Str} (e : X.env.scope = S.sc) (hg : glB S.sc x = true) : Gl X x := by
  show X.env.scope.names.lookup x = _
  rw [e]
  exact gl_of hg
theorem free_at {X : Cx} {W : WX} {S : Sg} {x : Str} (C : Ctx h X T W k S) (hf : S.free.contains x = true) : X.mg x = none := C.free x hf
theorem not_of {b : Bool} (h : (!b) = true) : b = false := by
  cases b
  · rfl
  · cases h
theorem evt_cmp2 {r q : R D} {f : D → D → R Bool} : (r.bind fun x => q.bind fun y => (f x y).map D.bool).bind truth = r.bind fun x => q.bind fun y => f x y := by
  cases r with
  | ok x =>
    cases q with
    | ok y => exact evt_cmp
    | ex c fs => rfl
    | no => rfl
  | ex c fs => rfl
  | no => rfl
theorem evt_cmp3 {r q w : R D} {f g : D → D → R Bool} : (r.bind fun x => q.bind fun y => (f x y).bind fun t => if t then w.bind fun z => (g y z).map D.bool else .ok (.bool false)).bind truth = r.bind fun x => q.bind fun y => (f x y).bind fun t => if t then w.bind fun z => g y z else .ok false := by
  cases r with
  | ok x =>
    cases q with
    | ok y =>
      show ((f x y).bind fun t => if t then w.bind fun z => (g y z).map D.bool else .ok (.bool false)).bind truth = (f x y).bind fun t => if t then w.bind fun z => g y z else .ok false
      cases f x y with
      | ok t =>
        cases t with
        | true =>
          show (w.bind fun z => (g y z).map D.bool).bind truth = w.bind fun z => g y z
          cases w with
          | ok z => exact evt_cmp
          | ex c fs => rfl
          | no => rfl
        | false => rfl
      | ex c fs => rfl
      | no => rfl
    | ex c fs => rfl
    | no => rfl
  | ex c fs => rfl
  | no => rfl
theorem both {X : Cx} {W : WX} {a : Expr} {e : E} (he : ∀ whole, isTrue a X.env whole = (do let v ← whole; standAt a.pos; holding [v] (truthy v))) (p : PE X a (rdE X.K T W fun env => ev env e)) : PE X a (rdE X.K T W fun env => ev env e) ∧ (tstOk e = true → PT X a (rdT X.K T W fun env => evt env e)) :=
  ⟨p, fun _ => s_truth p he⟩
theorem lc2_h {h : Bool} {S : Sg} {own : List (String × Nat)} {p : Pat} {it : It} {c : EO} {own2 : List Nat} {q : Pat} {jt : It} {d : EO} {e : E} {elt tg iter tg1 iter1 : Expr} {ifs ifs1 : List Expr} {scope : Scope} {pos : Pos} (hm : mE h S (.lc2 own p it c own2 q jt d e) (.ListComp elt [⟨tg, iter, ifs, 0⟩, ⟨tg1, iter1, ifs1, 0⟩] scope pos) = true) :
    mI h S it iter = true ∧ itT it tg = true ∧ mC h { S with sc := relS scope S.sc } c ifs = true ∧ mI h { S with sc := relS scope S.sc } jt iter1 = true ∧ itT jt tg1 = true ∧ mC h { S with sc := relS scope S.sc } d ifs1 = true ∧ mE h { S with sc := relS scope S.sc } e elt = true := by
  obtain ⟨h0, h1, h2, h3, hm⟩ := ba5 hm
  obtain ⟨h4, h5, h6, h7, h8, h9, h10⟩ := ba7 hm
  exact ⟨h4, h5, h7, h8, h6, h9, h10⟩
theorem lc2_of {h : Bool} {k : Nat} {T : Tab} {X : Cx} {W : WX} {S : Sg} {own : List (String × Nat)} {p : Pat} {it : It} {c : EO} {own2 : List Nat} {q : Pat} {jt : It} {d : EO} {e : E} {elt tg iter tg1 iter1 : Expr} {ifs ifs1 : List Expr} {scope : Scope} {pos : Pos} (C : Ctx h X T W k S)
    (k1 : PI X tg iter (rdI X.K T W fun env => evi env it))
    (k2 : ∀ (s : Shared) (H : Hp) (Cc : Addr) (cl : List (Str × Addr)) (fp : List Addr), PTs (X.blk s H scope (compEnvC scope cl Cc X.env) fp) ifs (rdT X.K T W0 fun env => evc env c))
    (k3 : ∀ (s : Shared) (H : Hp) (Cc : Addr) (cl : List (Str × Addr)) (fp : List Addr), PI (X.blk s H scope (compEnvC scope cl Cc X.env) fp) tg1 iter1 (rdI X.K T W0 fun env => evi env jt))
    (k4 : ∀ (s : Shared) (H : Hp) (Cc : Addr) (cl : List (Str × Addr)) (fp : List Addr), PTs (X.blk s H scope (compEnvC scope cl Cc X.env) fp) ifs1 (rdT X.K T W0 fun env => evc env d))
    (k5 : ∀ (s : Shared) (H : Hp) (Cc : Addr) (cl : List (Str × Addr)) (fp : List Addr), PE (X.blk s H scope (compEnvC scope cl Cc X.env) fp) elt (rdE X.K T W0 fun env => ev env e))
    (hm : mE h S (.lc2 own p it c own2 q jt d e) (.ListComp elt [⟨tg, iter, ifs, 0⟩, ⟨tg1, iter1, ifs1, 0⟩] scope pos) = true) :
    Lc2 X T W elt iter iter1 tg tg1 ifs ifs1 scope (own.map fun q => ((q.1 : Str), q.2)) (own.map (·.2)) own2 p q (fun env => evi env it) (fun env => evi env jt) (fun env => evc env c) (fun env => evc env d) (fun env => ev env e) := by
  obtain ⟨h0, h1, h2, h3, hm2⟩ := ba5 hm
  obtain ⟨h2a, h2b, h2c⟩ := ba3 h2
  obtain ⟨h3a, h3b⟩ := ba h3
  obtain ⟨h4, h5, h6, h7, h8, h9, h10⟩ := ba7 hm2
  have hf := not_of h0
  exact ⟨C.calm hf, C.nd, k1, blkOk_by (by rw [C.hN, C.sc]; exact h1), by rw [List.map_map]; rfl, fun i hi => List.contains_iff_mem.mp (List.all_eq_true.mp h2b i hi), fun i hi => List.contains_iff_mem.mp (List.all_eq_true.mp h2a i hi), fun i hi => List.contains_iff_mem.mp (List.all_eq_true.mp h2c i hi),
    fun s H Cc cl fp => pg_of (scb := scope) (fnk := fnk_blk) C.nd (C.calm hf) p tg (by rw [C.hN]; exact h3a), k2, k3, fun s H Cc cl fp => pg_of (scb := scope) (fnk := fnk_blk) C.nd (C.calm hf) q tg1 (by rw [C.hN]; exact h3b),
    k4, k5, iter_plain (mI_plain (N := []) h4) _, fun env x => iter_plain (mI_plain (N := []) h8) env x⟩
theorem op_one {r : R D} {α : Type} {f : List D → R α} : (r.bind fun x => f [x]) = (r.bind fun x => (R.ok []).map fun xs => x :: xs).bind f := by cases r <;> rfl
theorem op_two {r q : R D} {α : Type} {f : List D → R α} : (r.bind fun x => q.bind fun y => f [x, y]) = (r.bind fun x => (q.bind fun y => (R.ok []).map fun xs => y :: xs).map fun xs => x :: xs).bind f := by
  cases r with
  | ok x => cases q <;> rfl
  | ex c fs => rfl
  | no => rfl
theorem op_twoC {r q : R D} {α : Type} {f : List D → R α} : (((r.bind fun x => q.map fun y => [x, y]).calm).bind f) = ((r.bind fun x => (q.bind fun y => (R.ok []).map fun xs => y :: xs).map fun xs => x :: xs).calm).bind f := by
  cases r with
  | ok x => cases q <;> rfl
  | ex c fs => rfl
  | no => rfl
theorem pi_eq {X : Cx} {tg a : Expr} {K : PySem.W.Frag} {T : Tab} {W : WX} {f g : Env → R (List D)} (e : ∀ env, f env = g env) (h : PI X tg a (rdI K T W f)) : PI X tg a (rdI K T W g) := by
  rw [← funext e]
  exact h
mutual
theorem sndE : ∀ (e : E) {X : Cx} {W : WX} {S : Sg} (C : Ctx h X T W k S) (a : Expr), mE h S e a = true → (∀ n ∈ e.needs, n.at X T k) → PE X a (rdE X.K T W fun env => ev env e) ∧ (tstOk e = true → PT X a (rdT X.K T W fun env => evt env e))
  | .v i, X, W, S, C, a, hm, q => by
    cases a <;> first | (cases hm; done) | skip
    obtain ⟨h1, h2, h3⟩ := ba3 hm
    refine both (fun _ => rfl) (s_var (by rw [C.hN]; exact of_decide_eq_true h1) (by rw [C.sc]; exact vis_of h2) (dbg1 h3) (dbg2 h3))
  | .non, X, W, S, C, a, hm, q => by
    cases a <;> first | (cases hm; done) | skip
    rename_i c j p
    cases c <;> first | (cases hm; done) | skip
    exact both (fun _ => rfl) s_non
  | .tt, X, W, S, C, a, hm, q => by
    cases a <;> first | (cases hm; done) | skip
    rename_i c j p
    cases c <;> first | (cases hm; done) | skip
    rename_i b
    cases b
    · cases hm
    · exact both (fun _ => rfl) s_bool
  | .ff, X, W, S, C, a, hm, q => by
    cases a <;> first | (cases hm; done) | skip
    rename_i c j p
    cases c <;> first | (cases hm; done) | skip
    rename_i b
    cases b
    · exact both (fun _ => rfl) s_bool
    · cases hm
  | .int i, X, W, S, C, a, hm, q => by
    cases a <;> first | (cases hm; done) | skip
    rename_i c j p
    cases c <;> first | (cases hm; done) | skip
    rename_i b
    have e : i = b := of_decide_eq_true hm
    subst e
    exact both (fun _ => rfl) s_int
  | .str z, X, W, S, C, a, hm, q => by
    cases a <;> first | (cases hm; done) | skip
    rename_i c j p
    cases c <;> first | (cases hm; done) | skip
    exact both (fun _ => rfl) (s_str (of_decide_eq_true hm))
  | .glob x d, X, W, S, C, a, hm, q => by
    cases a <;> first | (cases hm; done) | skip
    obtain ⟨h1, h2, h3⟩ := ba3 hm
    obtain ⟨u, v, g1, g2, g3⟩ := q _ (List.mem_singleton.mpr rfl)
    have hx := name_of h1
    subst hx
    exact both (fun _ => rfl) (s_c (pe_glob (gl_at C.sc h2) g1 g2 (dbg1 h3)) g3)
  | .bin o x y, X, W, S, C, a, hm, q => by
    cases a <;> first | (cases hm; done) | skip
    obtain ⟨h1, h2, h3⟩ := ba3 hm
    rw [of_decide_eq_true h1]
    exact both (fun _ => rfl) (s_bin (sndE x C _ h2 (left_of q)).1 (sndE y C _ h3 (right_of q)).1)
  | .neg x, X, W, S, C, a, hm, q => by
    cases a <;> first | (cases hm; done) | skip
    rename_i o y p
    cases o <;> first | (cases hm; done) | skip
    exact both (fun _ => rfl) (s_neg (sndE x C _ hm q).1)
  | .cmp o x y, X, W, S, C, a, hm, q => by
    cases a <;> first | (cases hm; done) | skip
    rename_i l os rs p
    match os, rs, hm with
    | [op], [r], hm =>
      obtain ⟨h1, h2, h3, h4⟩ := ba4 hm
      have h1 := of_decide_eq_true h1
      subst h1
      have p1 := (sndE x C _ h3 (left_of q)).1
      have p2 := (sndE y C _ h4 (right_of q)).1
      exact ⟨s_cmp C.un (not_of h2) p1 p2, fun _ => pt_eq (fun env => evt_cmp2.symm) (st_cmp C.un (not_of h2) p1 p2)⟩
  | .chain o o' x y z, X, W, S, C, a, hm, q => by
    cases a <;> first | (cases hm; done) | skip
    rename_i l os rs p
    match os, rs, hm with
    | [op, op'], [r, r'], hm =>
      obtain ⟨h1, h1', h2, h3, h4, h5⟩ := ba6 hm
      have h1 := of_decide_eq_true h1
      subst h1
      have h1' := of_decide_eq_true h1'
      subst h1'
      have p1 := (sndE x C _ h3 (left_of q)).1
      have p2 := (sndE y C _ h4 (left_of (right_of q))).1
      have p3 := (sndE z C _ h5 (right_of (right_of q))).1
      exact ⟨s_chain C.un (not_of h2) p1 p2 p3, fun _ => pt_eq (fun env => evt_cmp3.symm) (st_chain C.un (not_of h2) p1 p2 p3)⟩
  | .not x, X, W, S, C, a, hm, q => by
    cases a <;> first | (cases hm; done) | skip
    rename_i o y p
    cases o <;> first | (cases hm; done) | skip
    exact ⟨s_not (sndE x C _ hm q).1, fun ht => pt_eq (fun env => evt_not.symm) (st_not ((sndE x C _ hm q).2 ht))⟩
  | .ands o es, X, W, S, C, a, hm, q => by
    cases a <;> first | (cases hm; done) | skip
    obtain ⟨h1, h2, h3⟩ := ba3 hm
    rw [of_decide_eq_true h1]
    exact ⟨(sndA es o C _ h3 (not_of h2) q).1, fun ht => ((sndA es o C _ h3 (not_of h2) q).2 ht).pt⟩
  | .ife t x y, X, W, S, C, a, hm, q => by
    cases a <;> first | (cases hm; done) | skip
    obtain ⟨h0, h1, h2, h3⟩ := ba4 hm
    refine ⟨pe_eq (fun env => ?_) (s_ife ((sndE t C _ h1 (left_of q)).2 h0) (sndE x C _ h2 (left_of (right_of q))).1 (sndE y C _ h3 (right_of (right_of q))).1), fun ht => by cases ht⟩
    show ((ev env t).bind truth).bind _ = (ev env t).bind _
    rw [bind_bind]
  | .tup es, X, W, S, C, a, hm, q => by
    cases a <;> first | (cases hm; done) | skip
    obtain ⟨h1, h2, h3⟩ := ba3 hm
    exact both (fun _ => rfl) (s_tup 0 (of_decide_eq_true h1) (sndEs es C _ h3 h2 q) (evs_len es h3))
  | .lst es, X, W, S, C, a, hm, q => by
    cases a <;> first | (cases hm; done) | skip
    obtain ⟨h1, h2, h3⟩ := ba3 hm
    exact both (fun _ => rfl) (s_lst (of_decide_eq_true h1) (sndEs es C _ h3 h2 q) (evs_len es h3))
  | .idx x y, X, W, S, C, a, hm, q => by
    cases a <;> first | (cases hm; done) | skip
    obtain ⟨h1, h2, h3⟩ := ba3 hm
    exact both (fun _ => rfl) (s_idx C.un h1 (sndE x C _ h2 (left_of q)).1 (sndE y C _ h3 (right_of q)).1)
  | .slice x lo hi, X, W, S, C, a, hm, q => by
    cases a <;> first | (cases hm; done) | skip
    rename_i b c p
    cases c <;> first | (cases hm; done) | skip
    rename_i l u st p2
    cases st with
    | some _ => cases hm
    | none =>
      obtain ⟨h1, h2, h3⟩ := ba3 hm
      exact both (fun _ => rfl) (s_slice (sndE x C _ h1 (left_of q)).1 (sndO lo C _ h2 (left_of (right_of q))) (sndO hi C _ h3 (right_of (right_of q))))
  | .rev x, X, W, S, C, a, hm, q => by
    cases a <;> first | (cases hm; done) | skip
    rename_i b c p
    cases c <;> first | (cases hm; done) | skip
    rename_i l u st p2
    cases l with
    | some _ => cases hm
    | none =>
    cases u with
    | some _ => cases hm
    | none =>
    cases st with
    | none => cases hm
    | some st =>
    cases st <;> first | (cases hm; done) | skip
    rename_i o b2 p3
    cases o <;> first | (cases hm; done) | skip
    cases b2 <;> first | (cases hm; done) | skip
    rename_i c j p4
    cases c <;> first | (cases hm; done) | skip
    rename_i j2
    obtain ⟨h1, h2⟩ := ba hm
    have h1 := of_decide_eq_true h1
    subst h1
    exact both (fun _ => rfl) (s_rev (sndE x C _ h2 q).1)
  | .call x f dd es, X, W, S, C, a, hm, q => by
    cases a <;> first | (cases hm; done) | skip
    rename_i fn as kw p
    cases fn <;> first | (cases hm; done) | skip
    rename_i y p2
    cases kw with
    | cons _ _ => cases hm
    | nil =>
      obtain ⟨h0, h1, h2, h3, h4, h5, h6⟩ := ba7 hm
      rw [name_of h1]
      cases as with
      | nil => cases h4
      | cons b bs => exact both (fun _ => rfl) (s_call (q _ (List.mem_cons_self ..)) (C.room (not_of h0)) (gl_at C.sc h2) C.tk (dbg1 h3) h5 (sndEs es C _ h6 h5 fun n m => q n (List.mem_cons_of_mem _ m)))
  | .bi f es, X, W, S, C, a, hm, q => by
    cases a <;> first | (cases hm; done) | skip
    rename_i fn as kw p
    cases fn <;> first | (cases hm; done) | skip
    rename_i y p2
    cases kw with
    | cons _ _ => cases hm
    | nil =>
      obtain ⟨h0, h1, h2, h3, h4, h5, h6⟩ := ba7 hm
      rw [name_of h1]
      cases as with
      | nil => cases h4
      | cons b bs => exact both (fun _ => rfl) (s_bi (C.calm (not_of h0)) (gl_at C.sc h2) (C.free _ h3) h5 (sndEs es C _ h6 h5 q))
  | .isin e t, X, W, S, C, a, hm, q => by
    cases a <;> first | (cases hm; done) | skip
    rename_i fn as kw p
    cases fn <;> first | (cases hm; done) | skip
    rename_i y p2
    match as, kw, hm with
    | [b, .Name z p3], [], hm =>
      obtain ⟨h1, h2, h3, h4, h5, h6⟩ := ba6 hm
      rw [name_of h1]
      cases t with
      | exc x cs al =>
        obtain ⟨h6, h7, h8⟩ := ba3 h6
        rw [name_of h6]
        exact both (fun _ => rfl) (s_isexc (q _ (List.mem_cons_self ..)) C.ise (gl_at C.sc h2) (C.free _ h3) (gl_at C.sc h7) (dbg1 h8) h4 (sndE e C _ h5 fun n m => q n (List.mem_cons_of_mem _ m)).1)
      | _ =>
        obtain ⟨h6, h7, h8⟩ := ba3 h6
        rw [name_of h6]
        exact both (fun _ => rfl) (s_isin rfl (gl_at C.sc h2) (C.free _ h3) (gl_at C.sc h7) (C.free _ h8) h4 (sndE e C _ h5 q).1)
  | .lc own p it c e, X, W, S, C, a, hm, q => by
    cases a <;> first | (cases hm; done) | skip
    rename_i elt gens scope pos
    match gens, hm with
    | [⟨tg, iter, ifs, 0⟩], hm =>
      obtain ⟨h0, h1, h2, h3, h4, ht, h5, h6⟩ := ba8 hm
      refine both (fun _ => rfl) (s_lc (vs := own.map (·.2)) (C.calm (not_of h0)) C.nd (sndI it C iter h4 ht (left_of q)).1 (own := own.map fun q => ((q.1 : Str), q.2)) (blkOk_by (by rw [C.hN, C.sc]; exact h1)) ?_ ?_ (fun s H Cc cl fp => ?_) (fun s H Cc cl fp => ?_) (fun s H Cc cl fp => ?_) (iter_plain (mI_plain (N := []) h4) _))
      · rw [List.map_map]
        rfl
      · intro i hi
        exact List.contains_iff_mem.mp (List.all_eq_true.mp h2 i hi)
      · exact pg_of (scb := scope) (fnk := fnk_blk) C.nd (C.calm (not_of h0)) p tg (by rw [C.hN]; exact h3)
      · exact sndC c (C.blk (not_of h0)) ifs h5 (left_of (right_of q))
      · exact (sndE e (C.blk (not_of h0)) elt h6 (right_of (right_of q))).1
  | .lc2 own p it c own2 qq jt d e, X, W, S, C, a, hm, q => by
    cases a <;> first | (cases hm; done) | skip
    rename_i elt gens scope pos
    match gens, hm with
    | [⟨tg, iter, ifs, 0⟩, ⟨tg1, iter1, ifs1, 0⟩], hm =>
      obtain ⟨z1, z2, z3, z4, z5, z6, z7⟩ := lc2_h hm
      have h0 := not_of (ba hm).1
      exact both (fun _ => rfl) (s_lc2 (lc2_of (pos := pos) C (sndI it C iter z1 z2 (left_of q)).1 (fun s H Cc cl fp => sndC c (C.blk h0) ifs z3 (left_of (right_of q))) (fun s H Cc cl fp => (sndI jt (C.blk h0) iter1 z4 z5 (left_of (right_of (right_of q)))).1)
        (fun s H Cc cl fp => sndC d (C.blk h0) ifs1 z6 (left_of (right_of (right_of (right_of q))))) (fun s H Cc cl fp => (sndE e (C.blk h0) elt z7 (right_of (right_of (right_of (right_of q))))).1) hm))
  | .dc own p it c x y, X, W, S, C, a, hm, q => by
    cases a <;> first | (cases hm; done) | skip
    rename_i kx vx gens scope pos
    match gens, hm with
    | [⟨tg, iter, ifs, 0⟩], hm =>
      have h0 := (ba hm).1
      obtain ⟨h1, h2, h3, h4, ht, h5, h6, h7⟩ := ba8 (ba hm).2
      refine both (fun _ => rfl) (s_dc (vs := own.map (·.2)) (Nat.lt_of_le_of_lt (Nat.add_le_add_left (by decide) _) C.un) (C.calm (not_of h0)) C.nd (sndI it C iter h4 ht (left_of q)).1 (own := own.map fun q => ((q.1 : Str), q.2)) (blkOk_by (by rw [C.hN, C.sc]; exact h1)) ?_ ?_ (fun s H Cc cl fp => ?_) (fun s H Cc cl fp => ?_) (fun s H Cc cl fp => ?_) (fun s H Cc cl fp => ?_) (iter_plain (mI_plain (N := []) h4) _))
      · rw [List.map_map]
        rfl
      · intro i hi
        exact List.contains_iff_mem.mp (List.all_eq_true.mp h2 i hi)
      · exact pg_of (scb := scope) (fnk := fnk_blk) C.nd (C.calm (not_of h0)) p tg (by rw [C.hN]; exact h3)
      · exact sndC c (C.blk (not_of h0)) ifs h5 (left_of (right_of q))
      · exact (sndE x (C.blk (not_of h0)) kx h6 (left_of (right_of (right_of q)))).1
      · exact (sndE y (C.blk (not_of h0)) vx h7 (right_of (right_of (right_of q)))).1
  | .op o .nil, X, W, S, C, a, hm, q => by
    cases o <;> cases a <;> first | (cases hm; done) | skip
    rename_i x c f dd fn as kw p
    cases fn <;> first | (cases hm; done) | skip
    rename_i y p2
    cases kw with
    | cons _ _ => cases hm
    | nil =>
      obtain ⟨h0, h1, h2, h3, h4, h5, h6⟩ := ba7 hm
      cases as with
      | nil => cases h4
      | cons _ _ => cases h6
  | .op o (.cons e es), X, W, S, C, a, hm, q => by
    cases o with
    | sset => cases a <;> cases hm
    | fld x tab =>
      cases a <;> first | (cases es <;> cases hm; done) | skip
      cases es with
      | cons _ _ => cases hm
      | nil =>
        obtain ⟨h1, h2, h3⟩ := ba3 hm
        rw [name_of h1]
        exact both (fun _ => rfl) (pe_eq (fun env => op_one) (s_fld (q _ (List.mem_cons_self ..)) h2 (sndE e C _ h3 (left_of fun n m => q n (List.mem_cons_of_mem _ m))).1))
    | con x tab =>
      cases a <;> first | (cases es <;> cases hm; done) | skip
      cases es with
      | cons _ _ => cases hm
      | nil =>
        obtain ⟨h1, h2, h3⟩ := ba3 hm
        rw [name_of h1]
        exact both (fun _ => rfl) (pe_eq (fun env => op_one) (s_con (q _ (List.mem_cons_self ..)) h2 (sndE e C _ h3 (left_of fun n m => q n (List.mem_cons_of_mem _ m))).1))
    | prop x tab =>
      cases a <;> first | (cases es <;> cases hm; done) | skip
      cases es with
      | cons _ _ => cases hm
      | nil =>
        obtain ⟨h0, h1, h2, h3⟩ := ba4 hm
        rw [name_of h1]
        obtain ⟨k1, k2⟩ := q _ (List.mem_cons_self ..)
        exact both (fun _ => rfl) (pe_eq (fun env => op_one) (s_prop k2 (by rw [Nat.sub_add_cancel k1]; exact C.room (not_of h0)) h2 (sndE e C _ h3 (left_of fun n m => q n (List.mem_cons_of_mem _ m))).1))
    | meth x tab =>
      cases a <;> first | (cases hm; done) | skip
      rename_i fn as kw p
      cases fn <;> first | (cases hm; done) | skip
      cases kw with
      | cons _ _ => cases hm
      | nil =>
        obtain ⟨h0, h1, h2, h3, h4, h5, h6, h7⟩ := ba8 hm
        rw [name_of h1]
        have q2 : ∀ n ∈ e.needs ++ es.needs, n.at X T k := fun n m => q n (List.mem_cons_of_mem _ m)
        refine both (fun _ => rfl) (s_meth (q _ (List.mem_cons_self ..)) (C.room (not_of h0)) C.tk h2 h3 (of_decide_eq_true h4) h5 ?_ (sndE e C _ h6 (left_of q2)).1 (sndEs es C _ h7 h3 (right_of q2)))
        intro ez env ds he
        subst ez
        have := evs_len es h7 env ds he
        exact List.length_eq_zero_iff.mp this
    | mk x c f dd =>
      cases a <;> first | (cases hm; done) | skip
      rename_i fn as kw p
      cases fn <;> first | (cases hm; done) | skip
      rename_i y p2
      cases kw with
      | cons _ _ => cases hm
      | nil =>
        obtain ⟨h0, h1, h2, h3, h4, h5, h6⟩ := ba7 hm
        rw [name_of h1]
        obtain ⟨k1, k2⟩ := q _ (List.mem_cons_self ..)
        cases as with
        | nil => cases h4
        | cons b bs => exact both (fun _ => rfl) (s_mk k2 (by rw [Nat.sub_add_cancel k1]; exact C.room (not_of h0)) (gl_at C.sc h2) C.tk (dbg1 h3) h5 (sndEs (.cons e es) C _ h6 h5 fun n m => q n (List.mem_cons_of_mem _ m)))
    | count =>
      cases es with
      | nil => cases a <;> cases hm
      | cons e2 es =>
      cases es with
      | cons _ _ => cases a <;> cases hm
      | nil =>
      cases a <;> first | (cases hm; done) | skip
      rename_i fn as kw p
      cases fn <;> first | (cases hm; done) | skip
      match as, kw, hm with
      | [b], [], hm =>
        obtain ⟨h1, h2, h3, h4, h5, h6⟩ := ba6 hm
        rw [name_of h1]
        exact both (fun _ => rfl) (pe_eq (fun env => op_twoC) (s_count h2 h3 h4 (sndE e C _ h5 (left_of q)).1 (sndE e2 C _ h6 (left_of (right_of q))).1))
    | join =>
      cases es with
      | nil => cases a <;> cases hm
      | cons e2 es =>
      cases es with
      | cons _ _ => cases a <;> cases hm
      | nil =>
      cases a <;> first | (cases hm; done) | skip
      rename_i fn as kw p
      cases fn <;> first | (cases hm; done) | skip
      match as, kw, hm with
      | [b], [], hm =>
        obtain ⟨h1, h2, h3, h4, h5, h6⟩ := ba6 hm
        rw [name_of h1]
        exact both (fun _ => rfl) (pe_eq (fun env => op_twoC) (s_join h2 h3 h4 (sndE e C _ h5 (left_of q)).1 (sndE e2 C _ h6 (left_of (right_of q))).1))
    | split =>
      cases es with
      | nil => cases a <;> cases hm
      | cons e2 es =>
      cases es with
      | cons _ _ => cases a <;> cases hm
      | nil =>
      cases a <;> first | (cases hm; done) | skip
      rename_i fn as kw p
      cases fn <;> first | (cases hm; done) | skip
      match as, kw, hm with
      | [b], [], hm =>
        obtain ⟨h1, h2, h3, h4, h5, h6⟩ := ba6 hm
        rw [name_of h1]
        exact both (fun _ => rfl) (pe_eq (fun env => op_twoC) (s_split h2 h3 h4 (sndE e C _ h5 (left_of q)).1 (sndE e2 C _ h6 (left_of (right_of q))).1))
    | strI =>
      cases es with
      | cons _ _ => cases a <;> cases hm
      | nil =>
      cases a <;> first | (cases hm; done) | skip
      rename_i fn as kw p
      cases fn <;> first | (cases hm; done) | skip
      match as, kw, hm with
      | [b], [], hm =>
        obtain ⟨h1, h2, h3, h4, h5⟩ := ba5 hm
        rw [name_of h1]
        exact both (fun _ => rfl) (pe_eq (fun env => op_one) (s_strI (gl_at C.sc h2) (C.free _ h3) h4 (sndE e C _ h5 (left_of q)).1))
  | .ino neg tab x y, X, W, S, C, a, hm, q => by
    cases a <;> first | (cases hm; done) | skip
    rename_i l os rs p
    match os, rs, hm with
    | [op], [r], hm =>
      obtain ⟨h0, h1, h2, h3, h4⟩ := ba5 hm
      have h1 := of_decide_eq_true h1
      subst h1
      have p1 := (sndE x C _ h3 (left_of fun n m => q n (List.mem_cons_of_mem _ m))).1
      have p2 := (sndE y C _ h4 (right_of fun n m => q n (List.mem_cons_of_mem _ m))).1
      have nd := q _ (List.mem_cons_self ..)
      exact ⟨s_ino nd (C.room (not_of h0)) (not_of h2) p1 p2, fun _ => pt_eq (fun env => evt_cmp2.symm) (st_ino nd (C.room (not_of h0)) (not_of h2) p1 p2)⟩
  | .selfF x c i, X, W, S, C, a, hm, q => by
    cases a <;> first | (cases hm; done) | skip
    rename_i b y pos
    cases b <;> first | (cases hm; done) | skip
    obtain ⟨h1, h2, h3, h4⟩ := ba4 hm
    rw [name_of h1]
    exact both (fun _ => rfl) (s_selfF (by rw [C.hN]; exact of_decide_eq_true h2) (by rw [C.sc]; exact vis_of h3) (dbg1 h4) (dbg2 h4) (q _ (List.mem_singleton.mpr rfl)).1)
theorem sndA : ∀ (es : Es) (o : Bool) {X : Cx} {W : WX} {S : Sg} (C : Ctx h X T W k S) (as : List Expr) {pos : Pos}, mEs h S es as = true → as.isEmpty = false → (∀ n ∈ es.needs, n.at X T k) →
    PE X (.BoolOp (if o then .And else .Or) as pos) (rdE X.K T W fun env => eva env o es) ∧ (tstOks es = true → PW X (.BoolOp (if o then .And else .Or) as pos) (rdT X.K T W fun env => (eva env o es).bind truth))
  | .nil, o, X, W, S, C, as, pos, hm, he, q => by
    cases as with
    | nil => cases he
    | cons _ _ => cases hm
  | .cons e .nil, o, X, W, S, C, as, pos, hm, he, q => by
    match as, hm with
    | a :: as, hm =>
      obtain ⟨h1, h2⟩ := ba hm
      cases as with
      | cons _ _ => cases h2
      | nil =>
        have z := sndE e C a h1 (left_of q)
        refine ⟨s_and1 z.1, fun ht => ?_⟩
        have w := z.2 (ba ht).1
        cases o with
        | true => exact st_and1 w
        | false => exact st_or1 w
  | .cons e (.cons e2 es), o, X, W, S, C, as, pos, hm, he, q => by
    match as, hm with
    | a :: as, hm =>
      obtain ⟨h1, h2⟩ := ba hm
      cases as with
      | nil => cases h2
      | cons a2 as =>
        have z := sndE e C a h1 (left_of q)
        have y := sndA (.cons e2 es) o C (a2 :: as) (pos := pos) h2 rfl (right_of q)
        cases o with
        | true =>
          refine ⟨s_and z.1 y.1, fun ht => ?_⟩
          have ht : (tstOk e && tstOks (.cons e2 es)) = true := ht
          exact pw_eq (fun env => (evt_and (o := true)).symm) (st_and (z.2 (ba ht).1) (y.2 (ba ht).2))
        | false =>
          refine ⟨s_or z.1 y.1, fun ht => ?_⟩
          have ht : (tstOk e && tstOks (.cons e2 es)) = true := ht
          exact pw_eq (fun env => (evt_and (o := false)).symm) (st_or (z.2 (ba ht).1) (y.2 (ba ht).2))
theorem sndEs : ∀ (es : Es) {X : Cx} {W : WX} {S : Sg} (C : Ctx h X T W k S) (as : List Expr), mEs h S es as = true → as.all isPlain = true → (∀ n ∈ es.needs, n.at X T k) → PA X as (rdA X.K T W fun env => evs env es)
  | .nil, X, W, S, C, as, hm, hp, q => by
    cases as with
    | nil => exact s_nil
    | cons _ _ => cases hm
  | .cons e es, X, W, S, C, as, hm, hp, q => by
    match as, hm, hp with
    | a :: as, hm, hp =>
      obtain ⟨h1, h2⟩ := ba hm
      obtain ⟨p1, p2⟩ := ba (show (isPlain a && as.all isPlain) = true from hp)
      exact s_cons (sndE e C a h1 (left_of q)).1 (sndEs es C as h2 p2 (right_of q)) (star_plain p1 _ _)
theorem sndO : ∀ (e : EO) {X : Cx} {W : WX} {S : Sg} (C : Ctx h X T W k S) (a : Option Expr), mO h S e a = true → (∀ n ∈ e.needs, n.at X T k) → PO X a (rdO X.K T W fun env => evo env e)
  | .none, X, W, S, C, a, hm, q => by
    cases a with
    | none => exact s_nopart
    | some _ => cases hm
  | .some e, X, W, S, C, a, hm, q => by
    cases a with
    | none => cases hm
    | some a => exact s_part (sndE e C a hm q).1
theorem sndC : ∀ (e : EO) {X : Cx} {W : WX} {S : Sg} (C : Ctx h X T W k S) (a : List Expr), mC h S e a = true → (∀ n ∈ e.needs, n.at X T k) → PTs X a (rdT X.K T W fun env => evc env e)
  | .none, X, W, S, C, a, hm, q => by
    cases a with
    | nil => exact s_ifs0
    | cons _ _ => cases hm
  | .some e, X, W, S, C, a, hm, q => by
    match a, hm with
    | [a], hm =>
      obtain ⟨h1, h2⟩ := ba hm
      exact s_ifs1 ((sndE e C a h2 q).2 h1)
theorem sndI : ∀ (e : It) {X : Cx} {W : WX} {S : Sg} (C : Ctx h X T W k S) {tg : Expr} (a : Expr), mI h S e a = true → itT e tg = true → (∀ n ∈ e.needs, n.at X T k) → PI X tg a (rdI X.K T W fun env => evi env e) ∧ (e.rng = true → PI X tg a (rdR X.K T W fun env => evi env e))
  | .seq e, X, W, S, C, tg, a, hm, ht, q => ⟨s_seq (sndE e C a (ba hm).2 q).1, fun hr => by cases hr⟩
  | .range e, X, W, S, C, tg, a, hm, ht, q => by
    cases a <;> first | (cases hm; done) | skip
    rename_i fn as kw p
    cases fn <;> first | (cases hm; done) | skip
    rename_i y p2
    match as, kw, hm with
    | [b], [], hm =>
      obtain ⟨h1, h2, h3, h4, h5⟩ := ba5 hm
      rw [name_of h1]
      have z := s_range (tg := tg) (pos := p) (p2 := p2) (gl_at C.sc h2) (C.free _ h3) h4 (sndE e C b h5 q).1
      exact ⟨pi_weak z, fun _ => z⟩
  | .range2 e f, X, W, S, C, tg, a, hm, ht, q => by
    cases a <;> first | (cases hm; done) | skip
    rename_i fn as kw p
    cases fn <;> first | (cases hm; done) | skip
    rename_i y p2
    match as, kw, hm with
    | [b, c], [], hm =>
      obtain ⟨h1, h2, h3, h4, h5, h6, h7⟩ := ba7 hm
      rw [name_of h1]
      have z := s_range2 (tg := tg) (pos := p) (p2 := p2) (gl_at C.sc h2) (C.free _ h3) h4 h5 (sndE e C b h6 (left_of q)).1 (sndE f C c h7 (right_of q)).1
      exact ⟨pi_weak z, fun _ => z⟩
  | .op o .nil, X, W, S, C, tg, a, hm, ht, q => by
    cases o <;> cases a <;> cases hm
  | .op o (.cons e .nil), X, W, S, C, tg, a, hm, ht, q => by
    refine ⟨?_, fun hr => by cases hr⟩
    cases o with
    | zip => cases a <;> cases hm
    | enum =>
      cases a <;> first | (cases hm; done) | skip
      rename_i fn as kw p
      cases fn <;> first | (cases hm; done) | skip
      match as, kw, hm with
      | [b], [], hm =>
        obtain ⟨h1, h2, h3, h4, h5⟩ := ba5 hm
        rw [name_of h1]
        cases tg <;> first | (cases ht; done) | skip
        exact pi_eq (fun env => op_one) (s_enum (gl_at C.sc h2) (C.free _ h3) h4 (sndE e C b h5 (left_of q)).1)
    | rev =>
      cases a <;> first | (cases hm; done) | skip
      rename_i fn as kw p
      cases fn <;> first | (cases hm; done) | skip
      match as, kw, hm with
      | [b], [], hm =>
        obtain ⟨h1, h2, h3, h4, h5⟩ := ba5 hm
        rw [name_of h1]
        exact pi_eq (fun env => op_one) (s_revI (gl_at C.sc h2) (C.free _ h3) h4 (sndE e C b h5 (left_of q)).1)
    | str =>
      obtain ⟨h1, h2⟩ := ba hm
      exact pi_eq (fun env => op_one) (s_iterS (sndE e C a h2 (left_of q)).1)
    | own tab =>
      obtain ⟨h0, h1, h2⟩ := ba3 hm
      exact pi_eq (fun env => op_one) (s_own (q _ (List.mem_cons_self ..)) (C.room (not_of h0)) (sndE e C a h2 (left_of fun n m => q n (List.mem_cons_of_mem _ m))).1)
  | .op o (.cons e (.cons f .nil)), X, W, S, C, tg, a, hm, ht, q => by
    refine ⟨?_, fun hr => by cases hr⟩
    cases o <;> cases a <;> first | (cases hm; done) | skip
    rename_i fn as kw p
    cases fn <;> first | (cases hm; done) | skip
    match as, kw, hm with
    | [b, c], [], hm =>
      obtain ⟨h1, h2, h3, h4, h5, h6, h7⟩ := ba7 hm
      rw [name_of h1]
      cases tg <;> first | (cases ht; done) | skip
      exact pi_eq (fun env => op_two) (s_zip (gl_at C.sc h2) (C.free _ h3) h4 h5 (sndE e C b h6 (left_of q)).1 (sndE f C c h7 (left_of (right_of q))).1)
  | .op o (.cons e (.cons f (.cons _ _))), X, W, S, C, tg, a, hm, ht, q => by
    cases o <;> cases a <;> cases hm
end
end
end Py

namespace Py
open PySem L2

/-! ### expressions whose value is a new list -/
def isNew : E → Bool
  | .lst _ => true
  | .lc _ _ _ _ _ => true
  | .lc2 _ _ _ _ _ _ _ _ _ => true
  | .bin .add _ _ => true
  | .bin .mul _ _ => true
  | .slice _ _ _ => true
  | .rev _ => true
  | .bi .list _ => true
  | .call _ _ _ _ => true
  | _ => false
def E.needsN : E → List Need
  | .call x f dd es => .callN x f dd :: es.needs
  | e => e.needs
section
variable {T : Tab} {k : Nat} {h : Bool}
theorem lc2_at {X : Cx} {W : WX} {S : Sg} {own : List (String × Nat)} {p : Pat} {it : It} {c : EO} {own2 : List Nat} {qq : Pat} {jt : It} {d : EO} {e : E} {elt tg iter tg1 iter1 : Expr} {ifs ifs1 : List Expr} {scope : Scope} {pos : Pos} (C : Ctx h X T W k S)
    (hm : mE h S (.lc2 own p it c own2 qq jt d e) (.ListComp elt [⟨tg, iter, ifs, 0⟩, ⟨tg1, iter1, ifs1, 0⟩] scope pos) = true) (q : ∀ n ∈ (E.lc2 own p it c own2 qq jt d e).needs, n.at X T k) :
    Lc2 X T W elt iter iter1 tg tg1 ifs ifs1 scope (own.map fun q => ((q.1 : Str), q.2)) (own.map (·.2)) own2 p qq (fun env => evi env it) (fun env => evi env jt) (fun env => evc env c) (fun env => evc env d) (fun env => ev env e) := by
  obtain ⟨z1, z2, z3, z4, z5, z6, z7⟩ := lc2_h hm
  have h0 := not_of (ba hm).1
  exact lc2_of (pos := pos) C (sndI it C iter z1 z2 (left_of q)).1 (fun s H Cc cl fp => sndC c (C.blk h0) ifs z3 (left_of (right_of q))) (fun s H Cc cl fp => (sndI jt (C.blk h0) iter1 z4 z5 (left_of (right_of (right_of q)))).1)
    (fun s H Cc cl fp => sndC d (C.blk h0) ifs1 z6 (left_of (right_of (right_of (right_of q))))) (fun s H Cc cl fp => (sndE e (C.blk h0) elt z7 (right_of (right_of (right_of (right_of q))))).1) hm
theorem sndN : ∀ (e : E) {X : Cx} {W : WX} {S : Sg} (C : Ctx h X T W k S) (a : Expr), mE h S e a = true → isNew e = true → (∀ n ∈ e.needsN, n.at X T k) → PE X a (rdN X.K T W fun env => ev env e) := by
  intro e X W S C a hm hn q
  cases e <;> first | (cases hn; done) | skip
  · rename_i o x y
    have ho : o = .add ∨ o = .mul := by
      cases o <;> first | exact .inl rfl | exact .inr rfl | cases hn
    cases a <;> first | (cases hm; done) | skip
    obtain ⟨h1, h2, h3⟩ := ba3 hm
    rw [of_decide_eq_true h1]
    exact n_bin ho (sndE x C _ h2 (left_of q)).1 (sndE y C _ h3 (right_of q)).1
  · rename_i es
    cases a <;> first | (cases hm; done) | skip
    obtain ⟨h1, h2, h3⟩ := ba3 hm
    exact n_lst (of_decide_eq_true h1) (sndEs es C _ h3 h2 q) (evs_len es h3)
  · rename_i x lo hi
    cases a <;> first | (cases hm; done) | skip
    rename_i b c p
    cases c <;> first | (cases hm; done) | skip
    rename_i l u st p2
    cases st with
    | some _ => cases hm
    | none =>
      obtain ⟨h1, h2, h3⟩ := ba3 hm
      exact n_slice (sndE x C _ h1 (left_of q)).1 (sndO lo C _ h2 (left_of (right_of q))) (sndO hi C _ h3 (right_of (right_of q)))
  · rename_i x
    cases a <;> first | (cases hm; done) | skip
    rename_i b c p
    cases c <;> first | (cases hm; done) | skip
    rename_i l u st p2
    cases l with
    | some _ => cases hm
    | none =>
    cases u with
    | some _ => cases hm
    | none =>
    cases st with
    | none => cases hm
    | some st =>
    cases st <;> first | (cases hm; done) | skip
    rename_i o b2 p3
    cases o <;> first | (cases hm; done) | skip
    cases b2 <;> first | (cases hm; done) | skip
    rename_i c j p4
    cases c <;> first | (cases hm; done) | skip
    rename_i j2
    obtain ⟨h1, h2⟩ := ba hm
    have h1 := of_decide_eq_true h1
    subst h1
    exact n_rev (sndE x C _ h2 q).1
  · rename_i x f dd es
    cases a <;> first | (cases hm; done) | skip
    rename_i fn as kw p
    cases fn <;> first | (cases hm; done) | skip
    rename_i y p2
    cases kw with
    | cons _ _ => cases hm
    | nil =>
      obtain ⟨h0, h1, h2, h3, h4, h5, h6⟩ := ba7 hm
      rw [name_of h1]
      cases as with
      | nil => cases h4
      | cons b bs => exact s_callN (q _ (List.mem_cons_self ..)) (C.room (not_of h0)) (gl_at C.sc h2) C.tk (dbg1 h3) h5 (sndEs es C _ h6 h5 fun n m => q n (List.mem_cons_of_mem _ m))
  · rename_i f es
    cases f <;> first | (cases hn; done) | skip
    cases a <;> first | (cases hm; done) | skip
    rename_i fn as kw p
    cases fn <;> first | (cases hm; done) | skip
    rename_i y p2
    cases kw with
    | cons _ _ => cases hm
    | nil =>
      obtain ⟨h0, h1, h2, h3, h4, h5, h6⟩ := ba7 hm
      rw [name_of h1]
      cases as with
      | nil => cases h4
      | cons b bs => exact n_list (gl_at C.sc h2) (C.free _ h3) h5 (sndEs es C _ h6 h5 q)
  · rename_i own p it c e
    cases a <;> first | (cases hm; done) | skip
    rename_i elt gens scope pos
    match gens, hm with
    | [⟨tg, iter, ifs, 0⟩], hm =>
      obtain ⟨h0, h1, h2, h3, h4, ht, h5, h6⟩ := ba8 hm
      refine n_lc (vs := own.map (·.2)) (C.calm (not_of h0)) C.nd (sndI it C iter h4 ht (left_of q)).1 (own := own.map fun q => ((q.1 : Str), q.2)) (blkOk_by (by rw [C.hN, C.sc]; exact h1)) ?_ ?_ (fun s H Cc cl fp => ?_) (fun s H Cc cl fp => ?_) (fun s H Cc cl fp => ?_) (iter_plain (mI_plain (N := []) h4) _)
      · rw [List.map_map]
        rfl
      · intro i hi
        exact List.contains_iff_mem.mp (List.all_eq_true.mp h2 i hi)
      · exact pg_of (scb := scope) (fnk := fnk_blk) C.nd (C.calm (not_of h0)) p tg (by rw [C.hN]; exact h3)
      · exact sndC c (C.blk (not_of h0)) ifs h5 (left_of (right_of q))
      · exact (sndE e (C.blk (not_of h0)) elt h6 (right_of (right_of q))).1
  · rename_i own p it c own2 qq jt d e
    cases a <;> first | (cases hm; done) | skip
    rename_i elt gens scope pos
    match gens, hm with
    | [⟨tg, iter, ifs, 0⟩, ⟨tg1, iter1, ifs1, 0⟩], hm => exact n_lc2 (lc2_at C hm q)
end

/-! ### statements -/
def isComp : Expr → Bool
  | .ListComp _ _ _ _ => true
  | .SetComp _ _ _ _ => true
  | .DictComp _ _ _ _ _ => true
  | _ => false
def locO (sc : Scope) (x : Str) : Bool := match sc.names.lookup x with
  | some .local => true
  | _ => false
/-- is the old value of the name x swapped in while the comprehension runs -/
def swB (sc : Scope) (x : Str) (p : Pos) : Expr → Bool
  | .ListComp _ _ scope pos => locO sc x && (p.line == pos.line && !(scope.names.any fun (n, k) => n == x && (k == .local || k == .cell)))
  | _ => false
/-- a value for a name: it is no set's or dict's comprehension; a list's is swapped or not -/
def asgB : Expr → Bool
  | .SetComp _ _ _ _ => false
  | .DictComp _ _ _ _ _ => false
  | _ => true
def noTup : Expr → Bool
  | .Tuple _ _ _ => false
  | _ => true
theorem sw_false {e : Expr} {x : Str} {p : Pos} {l : Nat} {env : PySem.Env} (hk : env.scope.kind = .function) (ha : asgB e = true) (h : swB env.scope x p e = false) : swapsWith e (some (.Name x p)) l env = pure false := by
  cases e <;> first | rfl | (cases ha; done) | skip
  rename_i elt gs scope pos
  have hb : (env.blockKind == .function) = true := by
    unfold Env.blockKind
    rw [hk]
    rfl
  unfold swapsWith
  show pure (env.blockKind == .function && env.kindOf x == some .local && p.line == pos.line && !(scope.names.any fun (n, k) => n == x && (k == .local || k == .cell))) = pure false
  rw [hb]
  have h : (locO env.scope x && (p.line == pos.line && !(scope.names.any fun (n, k) => n == x && (k == .local || k == .cell)))) = false := h
  have hl : (env.kindOf x == some .local) = locO env.scope x := by
    show (env.scope.names.lookup x == some .local) = _
    unfold locO
    split
    · rename_i e
      rw [e]
      rfl
    · rename_i hne
      cases hq : env.scope.names.lookup x with
      | none => rfl
      | some kd => cases kd <;> first | rfl | exact absurd hq hne
  rw [hl, Bool.true_and, Bool.and_assoc, h]
theorem sw_none {e : Expr} {l : Nat} {env : PySem.Env} (ha : isComp e = false) : swapsWith e none l env = pure false := by
  cases e <;> first | rfl | cases ha
theorem sw_of {sc : Scope} {x : Str} {p : Pos} {e : Expr} (h : swB sc x p e = true) : ∃ elt gs scope pos, e = .ListComp elt gs scope pos ∧ sc.names.lookup x = some .local ∧ (p.line == pos.line) = true ∧ (scope.names.any fun (n, k) => n == x && (k == .local || k == .cell)) = false := by
  cases e <;> first | (cases h; done) | skip
  rename_i elt gs scope pos
  obtain ⟨h1, h2, h3⟩ := ba3 h
  refine ⟨elt, gs, scope, pos, rfl, ?_, h2, not_of h3⟩
  unfold locO at h1
  split at h1
  · assumption
  · cases h1

def Need.hot : Need → Bool
  | .isexc _ _ _ => true
  | .glob _ _ => true
  | _ => false

mutual
def mS (N h : Bool) (S : Sg) : Py.S → Stmt → Bool
  | .asg _ p e, .Assign [tg] v _ => (match p, tg with
    | .v i, .Name x _ => decide (S.N[i]? = some x) && locB S.sc x && asgB v
    | .tup ps, .Tuple es _ _ => !h && (mPs S.N S.sc ps es && (!isComp v && noTup v))
    | _, _ => false) && mE h S e v
  | .asgN _ i e, .Assign [.Name x _] v _ => decide (S.N[i]? = some x) && (locB S.sc x && (asgB v && (isNew e && mE h S e v)))
  | .aug i o e, .AugAssign (.Name x _) op v _ => decide (S.N[i]? = some x) && (locB S.sc x && (decide (op = bop o) && ((o == .add || (o == .sub || o == .mul)) && mE h S e v)))
  | .expr e, .Expr v _ => !isComp v && mE h S e v
  | .app _ i e, .Expr (.Call (.Attribute (.Name x _) y apos) [v] [] cpos) _ => decide (S.N[i]? = some x) && (visB S.sc x && (!isDbg x && (nameB y "append" && ((apos.endLine == cpos.line) && (isPlain v && mE h S e v)))))
  | .setI _ i j e, .Assign [.Subscript (.Name x _) b _] v _ => decide (S.N[i]? = some x) && (visB S.sc x && (!isDbg x && (isPlain b && (mE h S j b && mE h S e v))))
  | .ret e, .Return (some v) _ => !N && mE h S e v
  | .retN e, .Return (some v) _ => N && (isNew e && mE h S e v)
  | .retO i, .Return (some (.Name x _)) _ => N && (decide (S.N[i]? = some x) && (visB S.sc x && !isDbg x))
  | .ifs c a b, .If t ba bb _ => tstOk c && (mE h S c t && (mSs N h S a ba && mSs N h S b bb))
  | .forr p it b, .For tg iter body [] _ => !h && (mP S.N S.sc p tg && (mI h S it iter && (itT it tg && mSs N h S b body)))
  | .op (.setF _ i _ _ f e), .Assign [.Attribute (.Name x _) y _] v _ => decide (S.N[i]? = some x) && (visB S.sc x && (!isDbg x && (nameB y f && mE h S e v)))
  | .op (.revL i), .Expr (.Call (.Attribute (.Name x _) y apos) [] [] cpos) _ => decide (S.N[i]? = some x) && (visB S.sc x && (!isDbg x && (nameB y "reverse" && (apos.endLine == cpos.line))))
  | .op (.clrL i), .Expr (.Call (.Attribute (.Name x _) y apos) [] [] cpos) _ => decide (S.N[i]? = some x) && (visB S.sc x && (!isDbg x && (nameB y "clear" && (apos.endLine == cpos.line))))
  | .whil c b, .While t body [] _ => !h && (tstOk c && (mE h S c t && mSs N h S b body))
  | .brk, .Break _ => true
  | .cont, .Continue _ => true
  | .pass, .Pass _ => true
  | .raise x c, .Raise (some (.Call (.Name y _) [.Constant (.str _) _ _] [] _)) none _ => !h && (nameB y x && (glB S.sc x && !isDbg x))
  | .tri b x _ _ (some i) hd, .Try body [.ExceptHandler (some (.Name y _)) (some n) (b₀ :: suite) _] [] [] _ => !h && (nameB y x && (glB S.sc x && (!isDbg x && (decide (S.N[i]? = some n) && (locO S.sc n && (mSs N h S b body && (mSs N true S hd (b₀ :: suite) && hd.needs.all Need.hot)))))))
  | _, _ => false
def mSs (N h : Bool) (S : Sg) : Ss → List Stmt → Bool
  | .nil, [] => true
  | .cons (.frz _) ss, l => mSs N h S ss l
  | .cons s ss, x :: l => mS N h S s x && mSs N h S ss l
  | _, _ => false
def S.needs : Py.S → List Need
  | .asg _ _ e => e.needs
  | .asgN _ _ e => e.needsN
  | .aug _ _ e => e.needs
  | .expr e => e.needs
  | .app _ _ e => e.needs
  | .setI _ _ j e => j.needs ++ e.needs
  | .ret e => e.needs
  | .retN e => e.needsN
  | .retO _ => []
  | .ifs c a b => c.needs ++ (a.needs ++ b.needs)
  | .forr _ it b => it.needs ++ b.needs
  | .whil c b => c.needs ++ b.needs
  | .brk => []
  | .cont => []
  | .pass => []
  | .raise x c => [.raise x c]
  | .raiseF _ _ es => es.needs
  | .op (.setF _ _ c k f e) => .fldS f c k :: e.needs
  | .op _ => []
  | .frz _ => []
  | .tri b x cs al _ hd => .catch_ x cs al :: (b.needs ++ hd.needs)
def Ss.needs : Ss → List Need
  | .nil => []
  | .cons s ss => s.needs ++ ss.needs
end
end Py

namespace Py
open PySem L2

theorem no_op {o : Op} {es : Es} {h : Bool} {S : Sg} {elt : Expr} {gs : List Comprehension} {sc : Scope} {pos : Pos} : mE h S (.op o es) (.ListComp elt gs sc pos) = false := by
  cases o <;> first | rfl | (rcases es with _ | ⟨e, _ | ⟨e2, _ | _⟩⟩ <;> rfl)
structure SCtx (h : Bool) (X : Cx) (T : Tab) (W : WX) (k : Nat) (S : Sg) : Prop extends Ctx h X T W k S where
  stk : X.stack = X.env :: X.outer
  frm : X.env.frame = some X.env.locals
  own : h = false → PassesOwn (model X.prog X.w) X.A X.env X.xe
  fn : ∀ x, X.fn x = true
  kind : X.env.scope.kind = .function
section
variable {T : Tab} {k : Nat} {h : Bool} {X : Cx} {W : WX} {S : Sg}
theorem SCtx.fnk (C : SCtx h X T W k S) (x : Str) (hx : locB S.sc x = true) : L2.Loc X.env.scope x ∧ (X.fn x = true ∨ X.env.scope.names.lookup x = some .local) := by
  refine ⟨?_, .inl (C.fn x)⟩
  rw [C.sc]
  exact loc_of hx
theorem SCtx.tr (hf : h = false) (C : SCtx h X T W k S) {W' : WX} {pn : List (Addr × Obj)} {xe : Value → Shared → Prop} (tk : Takes (X.tr pn xe) W') (po : PassesOwn (model X.prog X.w) X.A X.env xe) : SCtx h (X.tr pn xe) T W' k S where
  hN := C.hN
  sc := C.sc
  nd := C.nd
  un := C.un
  calm := C.calm
  room := C.room
  tk := tk
  free := C.free
  nox := C.nox
  ise := fun a c e => by
    rw [C.nox hf a] at e
    cases e
  stk := C.stk
  frm := C.frm
  own := fun _ => po
  fn := C.fn
  kind := C.kind
theorem SCtx.suite (hf : h = false) (C : SCtx h X T W k S) {a : Addr} {oe : Obj} {pn : List (Addr × Obj)} {c : Nat} {fs : List D} {d : Option Addr} {H : Hp} (ex : ExcC X.K (T.addr c)) (r : ExR X.K T c fs d H) (hz : Zc (.ref (T.addr c)) d oe) (hv : ∃ vs, oe.data = .fields vs) :
    SCtx true (X.suite a ((a, oe) :: pn)) (T.hot a c fs) W0 k S where
  hN := C.hN
  sc := C.sc
  nd := C.nd
  un := C.un
  calm := fun z => by cases z
  room := fun z => by cases z
  tk := takes0
  free := C.free
  nox := fun z => by cases z
  ise := fun b c' e => by
    have e : (if b = a then some (c, fs) else none) = some (c', []) := e
    by_cases hb : b = a
    · rw [if_pos hb] at e
      cases e
      subst hb
      rcases r with ⟨_, hd⟩ | ⟨hn, _⟩
      · subst hd
        exact call_isE ex hz hv
      · exact absurd rfl hn
    · rw [if_neg hb] at e
      cases e
  stk := C.stk
  frm := C.frm
  own := fun z => by cases z
  fn := C.fn
  kind := C.kind
theorem Need.toHot {n : Need} (hx : ∀ b, T.exc b = none) (hh : n.hot = true) {a : Addr} {c : Nat} {fs : List D} {pn : List (Addr × Obj)} (q : n.at X T k) : n.at (X.suite a pn) (T.hot a c fs) k := by
  cases n <;> first | (cases hh; done) | skip
  · obtain ⟨C, h1, h2⟩ := (q : IsExc X.K X.mg T _ _ _).g
    exact (⟨⟨C, h1, h2⟩⟩ : IsExc X.K X.mg (T.hot a c fs) _ _ _)
  · obtain ⟨u, v, h1, h2, h3⟩ := q
    exact ⟨u, v, h1, h2, fun F => Rep.toX (T := T) (T' := T.hot a c fs) rfl rfl hx (h3 F)⟩
theorem ps_eq {K : PySem.W.Frag} {N : Bool} {F0 H0 : Hp} {s : Stmt} {f g : Py.St → Cf} (e : ∀ st, f st = g st) (p : PS X s (rdS K T W N F0 H0 f)) : PS X s (rdS K T W N F0 H0 g) := by
  rw [← funext e]
  exact p
theorem pss_eq {K : PySem.W.Frag} {N : Bool} {F0 H0 : Hp} {s : List Stmt} {f g : Py.St → Cf} (e : ∀ st, f st = g st) (p : PSs X s (rdS K T W N F0 H0 f)) : PSs X s (rdS K T W N F0 H0 g) := by
  rw [← funext e]
  exact p
end
section
variable {k : Nat} {H0 : Hp}
theorem snd_asg {N h : Bool} {T : Tab} {X : Cx} {W : WX} {S : Sg} {F0 : Hp} (C : SCtx h X T W k S) {m : Bool} {p : Pat} {e : E} {tg v : Expr} {pos : Pos} (hm : mS N h S (.asg m p e) (.Assign [tg] v pos) = true) (q : ∀ n ∈ e.needs, n.at X T k) :
    PS X (.Assign [tg] v pos) (rdS X.K T W N F0 H0 fun st => run st (.asg m p e)) := by
  obtain ⟨h1, h2⟩ := ba hm
  cases p with
  | v i =>
    cases tg <;> first | (cases h1; done) | skip
    rename_i x p2
    obtain ⟨h3, h4⟩ := ba h1
    obtain ⟨h3, h5⟩ := ba h3
    have hi : X.N[i]? = some x := by
      rw [C.hN]
      exact of_decide_eq_true h3
    obtain ⟨l1, l2⟩ := C.fnk x h5
    by_cases hs : swB S.sc x p2 v = true
    · obtain ⟨elt, gens, scope, p3, e1, e2, e3, e4⟩ := sw_of hs
      subst e1
      by_cases hl : ∃ own p it c own2 qq jt d e', e = .lc2 own p it c own2 qq jt d e'
      · obtain ⟨own, p, it, c, own2, qq, jt, d, e', rfl⟩ := hl
        match gens, h2 with
        | [⟨tg, iter, ifs, 0⟩, ⟨tg1, iter1, ifs1, 0⟩], h2 =>
          exact ps_eq (fun st => Eq.refl (run st (.asg m (.v i) (.lc2 own p it c own2 qq jt d e')))) (ss_setLc2 (lc2_at (pos := p3) C.toCtx h2 q) hi (by rw [C.sc]; exact e2) (sw_true C.kind (by rw [C.sc]; exact e2) e3 e4))
      cases e <;> first | (cases h2; done) | (exact absurd ⟨_, _, _, _, _, _, _, _, _, rfl⟩ hl) | (rw [no_op] at h2; cases h2; done) | skip
      rename_i own p it c e
      match gens, h2 with
      | [⟨tg, iter, ifs, 0⟩], h2 =>
        obtain ⟨h0, h1, h2, h3, h4, ht, h5, h6⟩ := ba8 h2
        refine ps_eq (fun st => Eq.refl (run st (.asg m (.v i) (.lc own p it c e)))) (ss_setLc (fi := fun env => evi env it) (fc := fun env => evc env c) (fe := fun env => ev env e) (p := p) (vs := own.map (·.2)) (C.calm (not_of h0)) C.nd hi (by rw [C.sc]; exact e2) (sw_true C.kind (by rw [C.sc]; exact e2) e3 e4) (sndI it C.toCtx iter h4 ht (left_of q)).1 (own := own.map fun q => ((q.1 : Str), q.2)) (blkOk_by (by rw [C.hN, C.sc]; exact h1)) ?_ ?_ (fun s H Cc cl fp => ?_) (fun s H Cc cl fp => ?_) (fun s H Cc cl fp => ?_) (iter_plain (mI_plain (N := []) h4) _))
        · rw [List.map_map]
          rfl
        · intro i hi
          exact List.contains_iff_mem.mp (List.all_eq_true.mp h2 i hi)
        · exact pg_of (scb := scope) (fnk := fnk_blk) C.nd (C.calm (not_of h0)) p tg (by rw [C.hN]; exact h3)
        · exact sndC c (C.toCtx.blk (not_of h0)) ifs h5 (left_of (right_of q))
        · exact (sndE e (C.toCtx.blk (not_of h0)) elt h6 (right_of (right_of q))).1
    · exact ss_set C.nd hi l1 l2 (sndE e C.toCtx v h2 q).1 (sw_false C.kind h4 (by rw [C.sc]; exact Bool.eq_false_iff.mpr hs))
  | tup ps =>
    cases tg <;> first | (cases h1; done) | skip
    rename_i es kk p2
    obtain ⟨h0, h3, h4, h5⟩ := ba4 h1
    refine ss_asg (pg_of (scb := S.sc) (fnk := C.fnk) C.nd (C.calm (not_of h0)) (.tup ps) _ (by rw [C.hN]; exact h3)) (sndE e C.toCtx v h2 q).1 ?_ ?_ (by rfl)
    · cases v <;> first | rfl | cases h4
    · cases v <;> first | rfl | cases h5
theorem snd_asgN {N h : Bool} {T : Tab} {X : Cx} {W : WX} {S : Sg} {F0 : Hp} (C : SCtx h X T W k S) {m : Bool} {i : Nat} {e : E} {tg v : Expr} {pos : Pos} (hm : mS N h S (.asgN m i e) (.Assign [tg] v pos) = true) (q : ∀ n ∈ e.needsN, n.at X T k) :
    PS X (.Assign [tg] v pos) (rdS X.K T W N F0 H0 fun st => run st (.asgN m i e)) := by
  cases tg <;> first | (cases hm; done) | skip
  rename_i x p2
  obtain ⟨h3, h5, h4, hn, h2⟩ := ba5 hm
  have hi : X.N[i]? = some x := by
    rw [C.hN]
    exact of_decide_eq_true h3
  obtain ⟨l1, l2⟩ := C.fnk x h5
  by_cases hs : swB S.sc x p2 v = true
  · obtain ⟨elt, gens, scope, p3, e1, e2, e3, e4⟩ := sw_of hs
    subst e1
    by_cases hl : ∃ own p it c own2 qq jt d e', e = .lc2 own p it c own2 qq jt d e'
    · obtain ⟨own, p, it, c, own2, qq, jt, d, e', rfl⟩ := hl
      match gens, h2 with
      | [⟨tg, iter, ifs, 0⟩, ⟨tg1, iter1, ifs1, 0⟩], h2 =>
        exact ps_eq (fun st => Eq.refl (run st (.asgN m i (.lc2 own p it c own2 qq jt d e')))) (ss_setLc2N (lc2_at (pos := p3) C.toCtx h2 q) hi (by rw [C.sc]; exact e2) (sw_true C.kind (by rw [C.sc]; exact e2) e3 e4))
    cases e <;> first | (cases h2; done) | (exact absurd ⟨_, _, _, _, _, _, _, _, _, rfl⟩ hl) | (rw [no_op] at h2; cases h2; done) | skip
    rename_i own p it c e
    match gens, h2 with
    | [⟨tg, iter, ifs, 0⟩], h2 =>
      obtain ⟨h0, h1, h2, h3, h4, ht, h5, h6⟩ := ba8 h2
      refine ps_eq (fun st => Eq.refl (run st (.asgN m i (.lc own p it c e)))) (ss_setLcN (fi := fun env => evi env it) (fc := fun env => evc env c) (fe := fun env => ev env e) (p := p) (vs := own.map (·.2)) (C.calm (not_of h0)) C.nd hi (by rw [C.sc]; exact e2) (sw_true C.kind (by rw [C.sc]; exact e2) e3 e4) (sndI it C.toCtx iter h4 ht (left_of q)).1 (own := own.map fun q => ((q.1 : Str), q.2)) (blkOk_by (by rw [C.hN, C.sc]; exact h1)) ?_ ?_ (fun s H Cc cl fp => ?_) (fun s H Cc cl fp => ?_) (fun s H Cc cl fp => ?_) (iter_plain (mI_plain (N := []) h4) _))
      · rw [List.map_map]
        rfl
      · intro i hi
        exact List.contains_iff_mem.mp (List.all_eq_true.mp h2 i hi)
      · exact pg_of (scb := scope) (fnk := fnk_blk) C.nd (C.calm (not_of h0)) p tg (by rw [C.hN]; exact h3)
      · exact sndC c (C.toCtx.blk (not_of h0)) ifs h5 (left_of (right_of q))
      · exact (sndE e (C.toCtx.blk (not_of h0)) elt h6 (right_of (right_of q))).1
  · exact ss_setN C.nd hi l1 l2 (sndN e C.toCtx v h2 hn q) (sw_false C.kind h4 (by rw [C.sc]; exact Bool.eq_false_iff.mpr hs))
mutual
theorem sndS : ∀ (s : Py.S) {N h : Bool} {T : Tab} {X : Cx} {W : WX} {S : Sg} {F0 : Hp} (C : SCtx h X T W k S) (a : Stmt), mS N h S s a = true → (∀ n ∈ s.needs, n.at X T k) → PS X a (rdS X.K T W N F0 H0 fun st => run st s)
  | .asg m p e, N, h, T, X, W, S, F0, C, a, hm, q => by
    cases a <;> first | (cases hm; done) | skip
    rename_i tgs v pos
    match tgs, hm with
    | [tg], hm => exact snd_asg C hm q
  | .asgN m i e, N, h, T, X, W, S, F0, C, a, hm, q => by
    cases a <;> first | (cases hm; done) | skip
    rename_i tgs v pos
    match tgs, hm with
    | [.Name x p2], hm => exact snd_asgN C hm q
  | .aug i o e, N, h, T, X, W, S, F0, C, a, hm, q => by
    cases a <;> first | (cases hm; done) | skip
    rename_i tg op v pos
    cases tg <;> first | (cases hm; done) | skip
    rename_i x p2
    obtain ⟨h1, h2, h3, h4, h5⟩ := ba5 hm
    obtain ⟨l1, l2⟩ := C.fnk x h2
    rw [of_decide_eq_true h3]
    exact ss_aug (by
      cases o <;> first | exact .inl rfl | exact .inr (.inl rfl) | exact .inr (.inr rfl) | cases h4) C.nd (by rw [C.hN]; exact of_decide_eq_true h1) l1 l2 (sndE e C.toCtx v h5 q).1
  | .expr e, N, h, T, X, W, S, F0, C, a, hm, q => by
    cases a <;> first | (cases hm; done) | skip
    rename_i v pos
    obtain ⟨h1, h2⟩ := ba hm
    exact ss_expr (sndE e C.toCtx v h2 q).1 (sw_none (not_of h1))
  | .app m i e, N, h, T, X, W, S, F0, C, a, hm, q => by
    cases a <;> first | (cases hm; done) | skip
    rename_i v pos
    cases v <;> first | (cases hm; done) | skip
    rename_i f as kw cpos
    cases f <;> first | (cases hm; done) | skip
    rename_i o y apos
    cases o <;> first | (cases hm; done) | skip
    rename_i x p2
    match as, kw, hm with
    | [v], [], hm =>
      obtain ⟨h1, h2, h3, h4, h5, h6, h7⟩ := ba7 hm
      rw [name_of h4]
      exact ss_app (by rw [C.hN]; exact of_decide_eq_true h1) (by rw [C.sc]; exact vis_of h2) (dbg1 h3) (dbg2 h3) h6 h5 (sndE e C.toCtx v h7 q).1
  | .setI m i j e, N, h, T, X, W, S, F0, C, a, hm, q => by
    cases a <;> first | (cases hm; done) | skip
    rename_i tgs v pos
    match tgs, hm with
    | [.Subscript (.Name x p2) b tpos], hm =>
      obtain ⟨h1, h2, h3, h4, h5, h6⟩ := ba6 hm
      exact ss_setI (by rw [C.hN]; exact of_decide_eq_true h1) (by rw [C.sc]; exact vis_of h2) (dbg1 h3) (dbg2 h3) (sndE e C.toCtx v h6 (right_of q)).1 (sndE j C.toCtx b h5 (left_of q)).1 (fun {to ti t} ho hi hs => pg_sub ho hi hs (by
        cases b <;> first | (intro _; rfl) | cases h4)) (by cases v <;> rfl) (by cases v <;> rfl) (by rfl)
  | .ret e, N, h, T, X, W, S, F0, C, a, hm, q => by
    cases a <;> first | (cases hm; done) | skip
    rename_i v pos
    cases v with
    | none => cases hm
    | some v =>
      obtain ⟨h1, h2⟩ := ba hm
      have h1 := not_of h1
      subst h1
      exact ss_ret (sndE e C.toCtx v h2 q).1
  | .retN e, N, h, T, X, W, S, F0, C, a, hm, q => by
    cases a <;> first | (cases hm; done) | skip
    rename_i v pos
    cases v with
    | none => cases hm
    | some v =>
      obtain ⟨h1, h2, h3⟩ := ba3 hm
      subst h1
      exact ss_retN (sndN e C.toCtx v h3 h2 q)
  | .retO i, N, h, T, X, W, S, F0, C, a, hm, q => by
    cases a <;> first | (cases hm; done) | skip
    rename_i v pos
    match v, hm with
    | some (.Name x p2), hm =>
      obtain ⟨h1, h2, h3, h4⟩ := ba4 hm
      subst h1
      exact ss_retO (by rw [C.hN]; exact of_decide_eq_true h2) (by rw [C.sc]; exact vis_of h3) (dbg1 h4) (dbg2 h4)
  | .ifs c b1 b2, N, h, T, X, W, S, F0, C, a, hm, q => by
    cases a <;> first | (cases hm; done) | skip
    obtain ⟨h1, h2, h3, h4⟩ := ba4 hm
    exact ss_if ((sndE c C.toCtx _ h2 (left_of q)).2 h1) (sndSs b1 C _ h3 (left_of (right_of q))) (sndSs b2 C _ h4 (right_of (right_of q)))
  | .forr p it b, N, h, T, X, W, S, F0, C, a, hm, q => by
    cases a <;> first | (cases hm; done) | skip
    rename_i tg iter body els pos
    cases els with
    | cons _ _ => cases hm
    | nil =>
      obtain ⟨h0, h1, h2, ht, h3⟩ := ba5 hm
      have pg := pg_of (scb := S.sc) (fnk := C.fnk) C.nd (C.calm (not_of h0)) p tg (by rw [C.hN]; exact h1)
      cases hr : it.rng with
      | false =>
        refine ps_eq (fun st => ?_) (ss_for (p := p) (fi := fun env => evi env it) (fb := fun st => runs st b) (C.own (not_of h0)) (C.calm (not_of h0)) (sndI it C.toCtx iter h2 ht (left_of q)).1 pg (fun F0 => sndSs b C _ h3 (right_of q)) (iter_plain (mI_plain (N := []) h2) _))
        show _ = run st (.forr p it b)
        unfold run
        rw [hr]
      | true =>
        refine ps_eq (fun st => ?_) (ss_forR (p := p) (fi := fun env => evi env it) (fb := fun st => runs st b) (C.own (not_of h0)) (C.calm (not_of h0)) ((sndI it C.toCtx iter h2 ht (left_of q)).2 hr) pg (fun F0 => sndSs b C _ h3 (right_of q)) (iter_plain (mI_plain (N := []) h2) _))
        show _ = run st (.forr p it b)
        unfold run
        rw [hr]
  | .whil c b, N, h, T, X, W, S, F0, C, a, hm, q => by
    cases a <;> first | (cases hm; done) | skip
    rename_i t body els pos
    cases els with
    | cons _ _ => cases hm
    | nil =>
      obtain ⟨h0, h1, h2, h3⟩ := ba4 hm
      exact ss_while (C.own (not_of h0)) ((sndE c C.toCtx _ h2 (left_of q)).2 h1) (sndSs b C _ h3 (right_of q))
  | .brk, N, h, T, X, W, S, F0, C, a, hm, q => by
    cases a <;> first | (cases hm; done) | skip
    exact ss_brk
  | .cont, N, h, T, X, W, S, F0, C, a, hm, q => by
    cases a <;> first | (cases hm; done) | skip
    exact ss_cont
  | .pass, N, h, T, X, W, S, F0, C, a, hm, q => by
    cases a <;> first | (cases hm; done) | skip
    exact ss_pass
  | .raise x c, N, h, T, X, W, S, F0, C, a, hm, q => by
    cases a <;> first | (cases hm; done) | skip
    rename_i e cs pos
    cases e with
    | none => cases hm
    | some e =>
      cases e <;> first | (cases hm; done) | skip
      rename_i f as kw p4
      cases f <;> first | (cases hm; done) | skip
      rename_i y p2
      cases as with
      | nil => cases hm
      | cons v as =>
        cases v <;> first | (cases hm; done) | skip
        rename_i cc j p3
        cases cc <;> first | (cases hm; done) | skip
        rename_i m
        cases as with
        | cons _ _ => cases hm
        | nil =>
          cases kw with
          | cons _ _ => cases hm
          | nil =>
            cases cs with
            | some _ => cases hm
            | none =>
              obtain ⟨h0, h1, h2, h3⟩ := ba4 hm
              rw [name_of h1]
              exact ss_raise (q _ (List.mem_singleton.mpr rfl)) (C.calm (not_of h0)) C.tk (gl_at C.sc h2) (dbg1 h3)
  | .frz i, N, h, T, X, W, S, F0, C, a, hm, q => by
    cases a <;> cases hm
  | .raiseF x c es, N, h, T, X, W, S, F0, C, a, hm, q => by
    cases a <;> cases hm
  | .op (.setF m i c k f e), N, h, T, X, W, S, F0, C, a, hm, q => by
    cases a <;> first | (cases hm; done) | skip
    rename_i tgs v pos
    match tgs, hm with
    | [.Attribute (.Name x p2) y p3], hm =>
      obtain ⟨h1, h2, h3, h4, h5⟩ := ba5 hm
      rw [name_of h4]
      obtain ⟨k1, k2⟩ := q _ (List.mem_cons_self ..)
      refine ps_eq (fun st => Eq.refl (run st (.op (.setF m i c k f e)))) (ss_setF (by rw [C.hN]; exact of_decide_eq_true h1) (by rw [C.sc]; exact vis_of h2) (dbg1 h3) (dbg2 h3) k1 k2 (sndE e C.toCtx v h5 fun n m => q n (List.mem_cons_of_mem _ m)).1 ?_)
      cases v <;> rfl
  | .op (.revL i), N, h, T, X, W, S, F0, C, a, hm, q => by
    cases a <;> first | (cases hm; done) | skip
    rename_i v pos
    cases v <;> first | (cases hm; done) | skip
    rename_i f as kw cpos
    cases f <;> first | (cases hm; done) | skip
    rename_i o y apos
    cases o <;> first | (cases hm; done) | skip
    match as, kw, hm with
    | [], [], hm =>
      obtain ⟨h1, h2, h3, h4, h5⟩ := ba5 hm
      rw [name_of h4]
      exact ss_revL (by rw [C.hN]; exact of_decide_eq_true h1) (by rw [C.sc]; exact vis_of h2) (dbg1 h3) (dbg2 h3) h5
  | .op (.clrL i), N, h, T, X, W, S, F0, C, a, hm, q => by
    cases a <;> first | (cases hm; done) | skip
    rename_i v pos
    cases v <;> first | (cases hm; done) | skip
    rename_i f as kw cpos
    cases f <;> first | (cases hm; done) | skip
    rename_i o y apos
    cases o <;> first | (cases hm; done) | skip
    match as, kw, hm with
    | [], [], hm =>
      obtain ⟨h1, h2, h3, h4, h5⟩ := ba5 hm
      rw [name_of h4]
      exact ss_clrL (by rw [C.hN]; exact of_decide_eq_true h1) (by rw [C.sc]; exact vis_of h2) (dbg1 h3) (dbg2 h3) h5
  | .tri b x cs al i hd, N, h, T, X, W, S, F0, C, a, hm, q => by
    cases i with
    | none => cases a <;> cases hm
    | some i =>
      cases a <;> first | (cases hm; done) | skip
      rename_i body hs els fin pos
      cases hs with
      | nil => cases hm
      | cons hh hs =>
        obtain ⟨ty, nm, su, p3⟩ := hh
        cases ty with
        | none => cases hm
        | some ty =>
          cases ty <;> first | (cases hm; done) | skip
          rename_i y p2
          cases nm with
          | none => cases hm
          | some n =>
            cases su with
            | nil => cases hm
            | cons b₀ suite =>
              cases hs with
              | cons _ _ => cases hm
              | nil =>
              cases els with
              | cons _ _ => cases hm
              | nil =>
              cases fin with
              | cons _ _ => cases hm
              | nil =>
              obtain ⟨h0, h1, h2, h3, h4, hm⟩ := ba6 hm
              obtain ⟨h5, h6, h7, h8⟩ := ba4 hm
              rw [name_of h1]
              have hf := not_of h0
              obtain ⟨Cv, g1, g2⟩ := q _ (List.mem_cons_self ..)
              have q1 : ∀ n ∈ b.needs, n.at X T k := fun n m => q n (List.mem_cons_of_mem _ (List.mem_append.mpr (.inl m)))
              have q2 : ∀ n ∈ hd.needs, n.at X T k := fun n m => q n (List.mem_cons_of_mem _ (List.mem_append.mpr (.inr m)))
              have hln : X.env.kindOf n = some .local := by
                show X.env.scope.names.lookup n = _
                rw [C.sc]
                unfold locO at h5
                split at h5
                · assumption
                · cases h5
              have hb : ∀ (W : WX) (pn : List (Addr × Obj)) (xe : Value → Shared → Prop), Takes (X.tr pn xe) W → PassesOwn (model X.prog X.w) X.A X.env xe → PSs (X.tr pn xe) body (rdS X.K T W N F0 H0 fun st => runs st b) :=
                fun W pn xe tk po => sndSs b (C.tr hf tk po) body h6 q1
              have hsu : ∀ (a : Addr) (oe : Obj) (c : Nat) (fs : List D) (d : Option Addr) (H : Hp) (pn : List (Addr × Obj)), al.contains c = true → ExR X.K T c fs d H → Zc (.ref (T.addr c)) d oe → (∃ vs, oe.data = .fields vs) → PSs (X.suite a ((a, oe) :: pn)) (b₀ :: suite) (rdS X.K (T.hot a c fs) W0 N F0 H0 fun st => runs st hd) := by
                intro a oe c fs d H pn hc hr hz hv
                have C' := C.suite (a := a) (pn := pn) hf (g2 c hc).2 hr hz hv
                have q' : ∀ n ∈ hd.needs, n.at (X.suite a ((a, oe) :: pn)) (T.hot a c fs) k := fun n m => Need.toHot (C.nox hf) (List.all_eq_true.mp h8 n m) (q2 n m)
                exact sndSs hd C' (b₀ :: suite) h7 q'
              have ct : Catch X T x cs al := ⟨⟨Cv, ⟨gl_at C.sc h2, dbg1 h3, .inl g1⟩, fun c hc => (g2 c hc).1⟩⟩
              have z := ss_try (pos := pos) (p2 := p2) (p3 := p3) (C.nox hf) C.stk C.frm C.nd (by rw [C.hN]; exact of_decide_eq_true h4) hln ct C.tk hb hsu
              exact z
theorem sndSs : ∀ (s : Ss) {N h : Bool} {T : Tab} {X : Cx} {W : WX} {S : Sg} {F0 : Hp} (C : SCtx h X T W k S) (a : List Stmt), mSs N h S s a = true → (∀ n ∈ s.needs, n.at X T k) → PSs X a (rdS X.K T W N F0 H0 fun st => runs st s)
  | .nil, N, h, T, X, W, S, F0, C, a, hm, q => by
    cases a with
    | nil => exact ss_nil
    | cons _ _ => cases hm
  | .cons s ss, N, h, T, X, W, S, F0, C, a, hm, q => by
    by_cases hz : ∃ i, s = .frz i
    · obtain ⟨i, rfl⟩ := hz
      exact ss_frz i (sndSs ss C a hm (right_of q))
    · cases a with
      | nil => cases s <;> first | (cases hm; done) | exact absurd ⟨_, rfl⟩ hz
      | cons a as =>
        have hm' : (mS N h S s a && mSs N h S ss as) = true := by
          cases s <;> first | exact hm | exact absurd ⟨_, rfl⟩ hz
        obtain ⟨h1, h2⟩ := ba hm'
        exact ss_cons (sndS s C a h1 (left_of q)) (sndSs ss C as h2 (right_of q))
end
end
end Py

namespace Py
open PySem PySem.Spec PyProof.Rows L2

/-! ### a def of the text -/
section
variable {P : Program} {w : World} {K : PySem.W.Frag} {mg : Str → Option Value} {base : Heap} {T : Tab} {k : Nat} {nm qual : Str} {params : Arguments} {body : List Stmt} {scope : Scope} {dvs : List V} {kws : List (Str × V)} {f : Addr} {fd : FuncData} {N ps free : List Str} {b : Ss}
theorem start_rel {F H : Hp} {n : Nat} {ds : List D} {vs : List V} (s : Same F H) (r : Reps K T F ds vs) (hn : N.length = n) : StR K T F H F H (fun _ _ => False) (L2.start N vs) (startS n ds) where
  s := s
  h0 := Same.refl H
  f0 := Same.refl F
  n := fun _ _ e => .inl e
  l := by
    have e := Reps.length r
    show (startS n ds).length = (L2.start N vs : List (Option V)).length
    unfold startS L2.start
    show _ = (vs.map some ++ List.replicate (N.length - vs.length) none).length
    rw [List.length_append, List.length_append, List.length_map, List.length_map, List.length_replicate, List.length_replicate, e, hn]
  fr := fun i d e => by
    unfold startS at e
    by_cases hi : i < ds.length
    · rw [List.getElem?_append_left (by rw [List.length_map]; exact hi), List.getElem?_map] at e
      cases hd : ds[i]? with
      | none =>
        rw [hd] at e
        cases e
      | some d' =>
        rw [hd] at e
        cases e
        obtain ⟨v, h1, h2⟩ := Reps.get r hd
        refine ⟨v, ?_, h2⟩
        show (vs.map some ++ List.replicate (N.length - vs.length) none)[i]? = _
        rw [List.getElem?_append_left (by rw [List.length_map, Reps.length r]; exact hi), List.getElem?_map, h1]
        rfl
    · rw [List.getElem?_append_right (by rw [List.length_map]; omega), List.getElem?_replicate] at e
      split at e <;> cases e
  ow := fun i k d e => by
    unfold startS at e
    by_cases hi : i < ds.length
    · rw [List.getElem?_append_left (by rw [List.length_map]; exact hi), List.getElem?_map] at e
      cases hd : ds[i]? with
      | none =>
        rw [hd] at e
        cases e
      | some d' =>
        rw [hd] at e
        cases e
    · rw [List.getElem?_append_right (by rw [List.length_map]; omega), List.getElem?_replicate] at e
      split at e <;> cases e
  no := fun _ _ z => z.elim
  dj := fun _ _ _ z => z.elim
  fF := fun _ _ z => z.elim
theorem sctx_of {cdv : Value} {A : Around} {outer : List PySem.Env} {s : Shared} {H : Hp} {E : XK} (S : FnScope N ps scope) (hfree : ∀ x, free.contains x = true → mg x = none) (hx : ∀ a, T.exc a = none) (hr : Room k (A.deeper (envOfC qual scope s.heap.objs.size f cdv))) :
    SCtx false (cxOf (L2.CX P w) P w K mg base N qual scope f cdv A outer s H E) T (fun cls d _ H => E cls d H) k ⟨N, scope, free⟩ where
  hN := rfl
  sc := rfl
  nd := S.nd
  un := by
    have := hr.un
    show (A.deeper (envOfC qual scope s.heap.objs.size f cdv)).units + 65 < cLine
    omega
  calm := fun _ => rfl
  room := fun _ => hr
  tk := takes_of rfl rfl rfl rfl
  free := hfree
  nox := fun _ => hx
  ise := fun a c e => by
    rw [hx a] at e
    cases e
  stk := rfl
  frm := rfl
  own := fun _ => passes_of rfl
  fn := fun _ => rfl
  kind := S.kind
theorem spOf_len {n : Nat} {g : Sem} : ∀ vs H Q E, spOf K T n g vs H Q E → vs.length = n := fun vs H Q E ⟨F, ds, h1, h2, h3, h4⟩ => (Reps.length h3).trans h1
theorem spOfN_len {n : Nat} {g : Sem} : ∀ vs H Q E, spOfN K T n g vs H Q E → vs.length = n := fun vs H Q E ⟨F, ds, h1, h2, h3, h4⟩ => (Reps.length h3).trans h1
theorem def_body {n : Nat} {cdv : Value} {A : Around} {outer : List PySem.Env} {s : Shared} {H : Hp} {vs : List V} {Q : VK} {E : XK} (S : FnScope N ps scope) (hfree : ∀ x, free.contains x = true → mg x = none) (hm : mSs false false ⟨N, scope, free⟩ b body = true) (hx : ∀ a, T.exc a = none)
    (q : ∀ n ∈ b.needs, n.ok P w K mg base T k) (hn : ps.length = n) (hr : Room k (A.deeper (envOfC qual scope s.heap.objs.size f cdv))) (hsp : spOf K T n (defD N.length n b) vs H Q E) :
    ∃ t, PSs (cxOf (L2.CX P w) P w K mg base N qual scope f cdv A outer s H E) body t ∧ t { nx := fun _ H' => Q .non H', rt := Q } (L2.start N vs) H := by
  obtain ⟨F0, ds, h1, h2, h3, h4⟩ := hsp
  refine ⟨rdS K T (fun cls d _ H => E cls d H) false F0 H (fun st => runs st b), sndSs b (N := false) (F0 := F0) (H0 := H) (sctx_of S hfree hx hr) body hm q, ?_⟩
  refine fun _ => ⟨F0, _, startS N.length ds, start_rel h2 h3 rfl, ?_⟩
  have h4 : Post K T (relD K T) E F0 H (if ds.length = n then fin (runs (startS N.length ds) b) else .no) Q := h4
  rw [if_pos h1] at h4
  show PostS K T (fun cls d _ H => E cls d H) false F0 H { nx := fun _ H' => Q .non H', rt := Q } (runs (startS N.length ds) b)
  cases hq : runs (startS N.length ds) b with
  | nx st =>
    rw [hq] at h4
    intro F1 H1 fp σ R
    exact h4 .non F1 H1 (R.back (Grow.refl R.s)) rfl
  | rt d =>
    rw [hq] at h4
    exact fun v F1 H1 g r => h4 v F1 H1 g r
  | ex c fs st =>
    rw [hq] at h4
    exact fun dx F1 H1 fp σ R e => h4 dx H1 R.h0 e
  | bk st =>
    rw [hq] at h4
    exact h4.elim
  | ct st =>
    rw [hq] at h4
    exact h4.elim
  | no =>
    rw [hq] at h4
    exact h4.elim
theorem def_ok (F : FunD K nm qual params body scope dvs kws f fd) (S : FnScope N ps scope) (hfree : ∀ x, free.contains x = true → mg x = none) (hm : mSs false false ⟨N, scope, free⟩ b body = true) (hx : ∀ a, T.exc a = none)
    (q : ∀ n ∈ b.needs, n.ok P w K mg base T k) : FnOk P w K mg base (L2.CX P w) (k + 1) f fd ps (spOf K T ps.length (defD N.length ps.length b)) :=
  F.ok S spOf_len fun cdv A outer s H vs Q E hr hsp => def_body S hfree hm hx q rfl hr hsp
theorem def_okN (F : FunD K nm qual params body scope dvs kws f fd) (S : FnScope N ps scope) (hfree : ∀ x, free.contains x = true → mg x = none) (hm : mSs true false ⟨N, scope, free⟩ b body = true) (hx : ∀ a, T.exc a = none)
    (q : ∀ n ∈ b.needs, n.ok P w K mg base T k) : FnOk P w K mg base (L2.CX P w) (k + 1) f fd ps (spOfN K T ps.length (defN N.length ps.length b)) := by
  refine F.ok S spOfN_len fun cdv A outer s H vs Q E hr ⟨F0, ds, h1, h2, h3, h4⟩ => ?_
  refine ⟨rdS K T (fun cls d _ H => E cls d H) true F0 H (fun st => runs st b), sndSs b (N := true) (F0 := F0) (H0 := H) (sctx_of S hfree hx hr) body hm q, ?_⟩
  refine fun _ => ⟨F0, _, startS N.length ds, start_rel h2 h3 rfl, ?_⟩
  have h4 : PostN K T E F0 H (match (if ds.length = ps.length then fin (runs (startS N.length ds) b) else .no) with
    | .ok (.lst l) => .ok (.lst l)
    | .ok _ => .no
    | r => r) Q := h4
  rw [if_pos h1] at h4
  show PostS K T (fun cls d _ H => E cls d H) true F0 H { nx := fun _ H' => Q .non H', rt := Q } (runs (startS N.length ds) b)
  cases hq : runs (startS N.length ds) b with
  | nx st =>
    rw [hq] at h4
    exact h4.elim
  | rt d =>
    rw [hq] at h4
    cases d <;> first | exact h4.elim | skip
    intro l p vs' F1 H1 e
    cases e
    exact h4 p vs' F1 H1
  | ex c fs st =>
    rw [hq] at h4
    exact fun dx F1 H1 fp σ R e => h4 dx H1 R.h0 e
  | bk st =>
    rw [hq] at h4
    exact h4.elim
  | ct st =>
    rw [hq] at h4
    exact h4.elim
  | no =>
    rw [hq] at h4
    exact h4.elim
theorem defD_arity {n k : Nat} {b : Ss} : ∀ zs : List D, zs.length ≠ k → defD n k b zs = .no := fun zs h => if_neg h
theorem defN_arity {n k : Nat} {b : Ss} : ∀ zs : List D, zs.length ≠ k → defN n k b zs = .no := fun zs h => by
  unfold defN
  rw [defD_arity zs h]
theorem defN_lst {n k : Nat} {b : Ss} : ∀ (zs : List D) (d : D), defN n k b zs = .ok d → ∃ l, d = .lst l := fun zs d h => by
  unfold defN at h
  cases hq : defD n k b zs with
  | ok d' =>
    rw [hq] at h
    cases d' <;> first | (cases h; done) | skip
    cases h
    exact ⟨_, rfl⟩
  | ex c fs =>
    rw [hq] at h
    cases h
  | no =>
    rw [hq] at h
    cases h
abbrev Plain (nm qual : Str) (params : Arguments) (body : List Stmt) (scope : Scope) (ps : List Str) : Prop := ∀ (kV doc pm : Value) (an : Option Addr) (cdv ct : Value) (us : List Value), us.length = ps.length → bindArgs (PySem.W.fnOf nm qual params body scope .none kV doc pm an cdv ct) ⟨us, []⟩ = pure (ps.zip us)
def allP {α : Type} (p : α → Prop) : List α → Prop
  | [] => True
  | x :: xs => p x ∧ allP p xs
theorem allP_mem {α : Type} {p : α → Prop} : ∀ {l : List α}, allP p l → ∀ x ∈ l, p x
  | y :: ys, h, x, m => by
    cases m with
    | head => exact h.1
    | tail _ m => exact allP_mem h.2 x m
theorem good_of {x : String} (hg : mg (x : Str) = some (.ref f)) (F : FunD K nm qual params body scope [] [] f fd) (S : FnScope N ps scope) (hb : Plain nm qual params body scope ps) (hfree : ∀ x, free.contains x = true → mg x = none) (hm : mSs false false ⟨N, scope, free⟩ b body = true) (hx : ∀ a, T.exc a = none)
    (q : allP (fun n => n.ok P w K mg base T k) b.needs) : Good P w K mg base T (k + 1) x (defD N.length ps.length b) [] :=
  good_mk hg F.kp (F.bindsN hb) .nil (fun _ => rfl) defD_arity (def_ok F S hfree hm hx (allP_mem q))
theorem goodN_of {x : String} (hg : mg (x : Str) = some (.ref f)) (F : FunD K nm qual params body scope [] [] f fd) (S : FnScope N ps scope) (hb : Plain nm qual params body scope ps) (hfree : ∀ x, free.contains x = true → mg x = none) (hm : mSs true false ⟨N, scope, free⟩ b body = true) (hx : ∀ a, T.exc a = none)
    (q : allP (fun n => n.ok P w K mg base T k) b.needs) : GoodN P w K mg base T (k + 1) x (defN N.length ps.length b) [] :=
  goodN_mk hg F.kp (F.bindsN hb) .nil (fun _ => rfl) defN_arity defN_lst (def_okN F S hfree hm hx (allP_mem q))
theorem Good.mono {x : String} {g : Sem} {dd : List D} {j : Nat} (h : Good P w K mg base T j x g dd) (hj : j ≤ k) : Good P w K mg base T k x g dd := by
  obtain ⟨a, h1, h2, h7⟩ := h
  exact ⟨a, h1, h2, h7.mono hj⟩
theorem GoodN.mono {x : String} {g : Sem} {dd : List D} {j : Nat} (h : GoodN P w K mg base T j x g dd) (hj : j ≤ k) : GoodN P w K mg base T k x g dd := by
  obtain ⟨a, h1, h2, h8, h7⟩ := h
  exact ⟨a, h1, h2, h8, h7.mono hj⟩
theorem good_rec {x : String} {b : Sem → Ss} {j : Nat} (hg : mg (x : Str) = some (.ref f)) (F : FunD K nm qual params body scope [] [] f fd) (S : FnScope N ps scope) (hb : Plain nm qual params body scope ps) (hfree : ∀ x, free.contains x = true → mg x = none) (hm : ∀ g, mSs false false ⟨N, scope, free⟩ (b g) body = true) (hx : ∀ a, T.exc a = none)
    (q : ∀ g j, k ≤ j → Good P w K mg base T j x g [] → allP (fun n => n.ok P w K mg base T j) (b g).needs) : ∀ m, Good P w K mg base T (k + m) x (itD N.length ps.length b m) []
  | 0 => ⟨f, hg, F.kp, fun A outer s H us vs Q E hr e0 r ⟨_, _, _, _, z⟩ => z.elim⟩
  | m + 1 => good_mk hg F.kp (F.bindsN hb) .nil (fun _ => rfl) defD_arity (def_ok (k := k + m) F S hfree (hm _) hx (allP_mem (q _ (k + m) (Nat.le_add_right _ _) (good_rec (j := j) hg F S hb hfree hm hx q m))))
end

/-! ### def f(a, .., *v) -/
section
variable {P : Program} {w : World} {K : PySem.W.Frag} {mg : Str → Option Value} {base : Heap} {T : Tab} {k : Nat} {nm qual : Str} {params : Arguments} {body : List Stmt} {scope : Scope} {dvs : List V} {kws : List (Str × V)} {f : Addr} {fd : FuncData} {N ps free : List Str} {b : Ss} {pv : Str}
abbrev PlainS (nm qual : Str) (params : Arguments) (body : List Stmt) (scope : Scope) (ps : List Str) (pv : Str) : Prop := ∀ (kV doc pm : Value) (an : Option Addr) (cdv ct : Value) (us rest : List Value), us.length = ps.length →
  bindArgs (PySem.W.fnOf nm qual params body scope .none kV doc pm an cdv ct) ⟨us ++ rest, []⟩ = (newTuple rest >>= fun t => pure (ps.zip us ++ [(pv, t)]))
theorem goodS_of {x : String} (hg : mg (x : Str) = some (.ref f)) (F : FunD K nm qual params body scope [] kws f fd) (S : FnScope N (ps ++ [pv]) scope) (hb : PlainS nm qual params body scope ps pv) (hfree : ∀ x, free.contains x = true → mg x = none) (hm : mSs false false ⟨N, scope, free⟩ b body = true) (hx : ∀ a, T.exc a = none)
    (q : allP (fun n => n.ok P w K mg base T k) b.needs) : Good P w K mg base T (k + 1) x (defS N.length ps.length b) [] := by
  have kp := F.kp
  obtain ⟨oc, od, dV, kV, doc, pm, an, cdv, ct, osl, rfl, lk, hcd, hD, _⟩ := F.ex
  obtain rfl : dV = .none := by
    rcases hD with ⟨_, e⟩ | ⟨e, _⟩
    · exact e
    · exact absurd rfl e
  have R := StX.fn_star (CX := L2.CX P w) (P := P) (w := w) (mg := mg) (base := base) (k := k) (sp := spOf K T (ps.length + 1) (defD N.length (ps.length + 1) b)) lk hcd S StX.cxUp (fun us rest hl => hb kV doc pm an cdv ct us rest hl) fun A outer s H vs Q E hr hsp => def_body S hfree hm hx (allP_mem q) (by rw [List.length_append]; rfl) hr hsp
  refine ⟨f, hg, kp, FnR.imp R fun vs H Q E ⟨F1, ds, s1, r1, q1⟩ => ?_⟩
  have q1 : Post K T (relD K T) E F1 H (if ps.length ≤ (ds ++ []).length ∧ (ds ++ []).length ≤ 1000 then defD N.length (ps.length + 1) b ((ds ++ []).take ps.length ++ [.tup ((ds ++ []).drop ps.length)]) else .no) Q := q1
  rw [List.append_nil] at q1
  split at q1
  · rename_i hl
    have lv := Reps.length r1
    refine ⟨vs.take ps.length, vs.drop ps.length, (List.take_append_drop _ _).symm, by rw [List.length_take]; omega, by rw [List.length_drop, sizeLine_eq]; omega, fun p hp => ?_⟩
    have hF : F1 p = none := s1.free hp
    refine ⟨upd F1 p (.tup (vs.drop ps.length)), ds.take ps.length ++ [.tup (ds.drop ps.length)], ?_, (Grow.new s1 hp).s, Reps.app (Reps.mono (Same.upd hF) (Reps.take _ r1)) (Reps.one (show Rep K T (upd F1 p (.tup (vs.drop ps.length))) (.tup (ds.drop ps.length)) (.ref p) from ⟨p, _, rfl, upd_same, Reps.mono (Same.upd hF) (Reps.drop _ r1)⟩)), Post.grow (Grow.new s1 hp) q1⟩
    rw [List.length_append, List.length_take]
    show min _ _ + 1 = _
    omega
  · exact q1.elim
end

/-! ### own classes -/
section
variable {P : Program} {w : World} {K : PySem.W.Frag} {mg : Str → Option Value} {base : Heap} {T : Tab} {k : Nat} {nm qual : Str} {params : Arguments} {body : List Stmt} {scope : Scope} {dvs : List V} {kws : List (Str × V)} {f : Addr} {fd : FuncData} {N ps free : List Str} {b : Ss}
theorem start_relI {F H0 : Hp} {x dx : Addr} {c n : Nat} {ds : List D} {vs : List V} (s : Same F H0) (r : Reps K T F ds vs) (hn : N.length = n) (hx : H0 x = none) (hd : H0 dx = none) (hne : dx ≠ x) :
    StR K { T with me := x } F H0 F (upd (upd H0 dx (.own x)) x (.ins (T.addr c) dx [])) (fun i a => i = 0 ∧ a = x) (L2.start N (V.ref x :: vs)) (startI n c ds) := by
  have e := Reps.length r
  have h0 : Same H0 (upd (upd H0 dx (.own x)) x (.ins (T.addr c) dx [])) := (Same.upd hd).trans (Same.upd (by rw [upd_ne (Ne.symm hne)]; exact hx))
  have gt : ∀ i d, (startI n c ds)[i]? = some (.v d) → ∃ j, i = j + 1 ∧ ds[j]? = some d := by
    intro i d q
    unfold startI at q
    cases i with
    | zero => cases q
    | succ i =>
      rw [List.getElem?_cons_succ] at q
      by_cases hi : i < ds.length
      · rw [List.getElem?_append_left (by rw [List.length_map]; exact hi), List.getElem?_map] at q
        cases hd : ds[i]? with
        | none =>
          rw [hd] at q
          cases q
        | some d' =>
          rw [hd] at q
          cases q
          exact ⟨i, rfl, hd⟩
      · rw [List.getElem?_append_right (by rw [List.length_map]; omega), List.getElem?_replicate] at q
        split at q <;> cases q
  have go : ∀ i k d, (startI n c ds)[i]? = some (.o k d) → i = 0 ∧ k = 2 ∧ d = .obj c [] := by
    intro i k d q
    unfold startI at q
    cases i with
    | zero =>
      cases q
      exact ⟨rfl, rfl, rfl⟩
    | succ i =>
      rw [List.getElem?_cons_succ] at q
      by_cases hi : i < ds.length
      · rw [List.getElem?_append_left (by rw [List.length_map]; exact hi), List.getElem?_map] at q
        cases hd : ds[i]? <;> (rw [hd] at q; cases q)
      · rw [List.getElem?_append_right (by rw [List.length_map]; omega), List.getElem?_replicate] at q
        split at q <;> cases q
  exact {
    s := s.trans h0
    h0 := h0
    f0 := Same.refl F
    n := fun _ _ e => .inl e
    l := by
      show (startI n c ds).length = (L2.start N (V.ref x :: vs) : List (Option V)).length
      unfold startI L2.start
      show _ = ((V.ref x :: vs).map some ++ List.replicate (N.length - (V.ref x :: vs).length) none).length
      rw [List.length_cons, List.length_append, List.length_append, List.length_map, List.length_map, List.length_replicate, List.length_replicate, List.length_cons, e, hn]
      omega
    fr := fun i d q => by
      obtain ⟨j, rfl, hj⟩ := gt i d q
      obtain ⟨v, h1, h2⟩ := Reps.get r hj
      refine ⟨v, ?_, h2⟩
      have hl : j < vs.length := (List.getElem?_eq_some_iff.mp h1).1
      show ((V.ref x :: vs).map some ++ List.replicate (N.length - (V.ref x :: vs).length) none)[j + 1]? = _
      rw [List.map_cons, List.cons_append, List.getElem?_cons_succ, List.getElem?_append_left (by rw [List.length_map]; exact hl), List.getElem?_map, h1]
      rfl
    ow := fun i k d q => by
      obtain ⟨rfl, rfl, rfl⟩ := go i k d q
      refine ⟨.ref x, rfl, dx, [], rfl, ?_, Nat.zero_le _, rfl, fun a => ⟨fun z => z.2, fun z => ⟨rfl, z⟩⟩⟩
      rw [List.zip_nil_right]
      exact upd_same
    no := fun i a z => by
      obtain ⟨rfl, _⟩ := z
      exact ⟨2, .obj c [], rfl⟩
    dj := fun i j a z y => z.1.trans y.1.symm
    fF := fun i a z => by
      obtain ⟨_, rfl⟩ := z
      exact ⟨s.free hx, hx, _, upd_same⟩ }
theorem spI_len {c n : Nat} {g : Sem} : ∀ vs H Q E, spI K T c n g vs H Q E → vs.length = n := fun vs H Q E ⟨F, H0, x, dx, ds, ws, e, h1, _, _, _, _, _, r, _⟩ => by
  rw [e, List.length_cons, Reps.length r]
  exact h1
theorem Need.me {n : Need} {y : Addr} (q : n.ok P w K mg base T k) : n.ok P w K mg base { T with me := y } k := by
  cases n with
  | isexc x cs al => exact (⟨(q : IsExc K mg T x cs al).g⟩ : IsExc K mg { T with me := y } x cs al)
  | raise x c =>
    have q : ExcOk P w K mg T x c := q
    exact (⟨q.g, q.x, q.k, q.s, q.t⟩ : ExcOk P w K mg { T with me := y } x c)
  | fld x tab => exact fun c i e => ⟨(q c i e).cl, (q c i e).na, (q c i e).at_, (q c i e).nd⟩
  | con x tab => exact fun c d e => ⟨(q c d e).cl, (q c d e).con, (q c d e).na⟩
  | fldS x c i => exact ⟨⟨q.1.cl, q.1.na, q.1.at_, q.1.nd⟩, q.2⟩
  | _ => exact q
theorem def_okI {c nf : Nat} (F : FunD K nm qual params body scope dvs kws f fd) (S : FnScope N ps scope) (hfree : ∀ x, free.contains x = true → mg x = none) (hm : mSs false false ⟨N, scope, free⟩ b body = true) (hx : ∀ a, T.exc a = none)
    (q : ∀ n ∈ b.needs, n.ok P w K mg base T k) : FnOk P w K mg base (L2.CX P w) (k + 1) f fd ps (spI K T c ps.length (initD N.length ps.length c nf b)) := by
  refine F.ok S spI_len fun cdv A outer s H vs Q E hr ⟨F0, H0, x, dx, ds, ws, e1, h1, h2, hx0, hd0, hne, eH, h3, h4⟩ => ?_
  subst e1 eH
  refine ⟨rdS K { T with me := x } (fun cls d _ H => E cls d H) false F0 H0 (fun st => runs st b), sndSs b (N := false) (T := { T with me := x }) (F0 := F0) (H0 := H0) (sctx_of S hfree hx hr) body hm (fun n m => Need.me (q n m)), ?_⟩
  refine fun _ => ⟨F0, _, startI N.length c ds, start_relI h2 h3 rfl hx0 hd0 hne, ?_⟩
  have h4 : Post K T (relD K T) E F0 H0 (if ds.length + 1 = ps.length then finI c nf (runs (startI N.length c ds) b) else .no) (fun v H' => v = .ref x → Q .non H') := h4
  rw [if_pos h1] at h4
  show PostS K { T with me := x } (fun cls d _ H => E cls d H) false F0 H0 { nx := fun _ H' => Q .non H', rt := Q } (runs (startI N.length c ds) b)
  cases hq : runs (startI N.length c ds) b with
  | nx st =>
    rw [hq] at h4
    intro F1 H1 fp σ R
    have h4 : Post K T (relD K T) E F0 H0 (match st[(0 : Nat)]? with
      | some (.o 2 (.obj c' fs)) => if c' = c ∧ fs.length = nf then .ok (.obj c fs) else .no
      | _ => .no) (fun v H' => v = .ref x → Q .non H') := h4
    split at h4
    · rename_i c' fs es
      split at h4
      · rename_i hc
        obtain ⟨rfl, hc⟩ := hc
        obtain ⟨v, k1, dx', vs', kr, k2, k5, k3, k4⟩ := R.ow 0 2 _ es
        have kx : H1 x = some (.ins (T.addr c') dx' ((T.flds c').zip vs')) := k2
        obtain ⟨z1, z2, z3⟩ := R.fF 0 x ((k4 x).mpr rfl)
        refine h4 (.ref x) (upd F1 x (.ins (T.addr c') dx' ((T.flds c').zip vs'))) H1 ⟨R.f0.trans (Same.upd z1), fun b o e => ?_, R.h0, fun b o e => ?_⟩ ⟨x, dx', vs', rfl, upd_same, k5, Reps.mono (Same.upd z1) k3⟩ rfl
        · by_cases hb : b = x
          · subst hb
            rw [upd_same] at e
            rw [← e]
            exact kx
          · rw [upd_ne hb] at e
            exact R.s _ _ e
        · by_cases hb : b = x
          · subst hb
            exact .inr z2
          · rw [upd_ne hb] at e
            exact R.n b o e
      · exact h4.elim
    · exact h4.elim
  | rt d =>
    rw [hq] at h4
    exact h4.elim
  | ex c fs st =>
    rw [hq] at h4
    exact fun dx F1 H1 fp σ R e => h4 dx H1 R.h0 e
  | bk st =>
    rw [hq] at h4
    exact h4.elim
  | ct st =>
    rw [hq] at h4
    exact h4.elim
  | no =>
    rw [hq] at h4
    exact h4.elim
theorem initD_arity {n k c nf : Nat} {b : Ss} : ∀ zs : List D, zs.length + 1 ≠ k → initD n k c nf b zs = .no := fun zs h => if_neg h
/-- the first parameters' values are passed, no default is used -/
abbrev PlainD (nm qual : Str) (params : Arguments) (body : List Stmt) (scope : Scope) (ps : List Str) (j : Nat) : Prop := ∀ (T : Addr) (kV doc pm : Value) (an : Option Addr) (cdv ct : Value) (us its : List Value), us.length = ps.length → its.length = j →
  ∃ k, bindArgs (PySem.W.fnOf nm qual params body scope (.ref T) kV doc pm an cdv ct) ⟨us, []⟩ = seqItems? (.ref T) >>= k ∧ k (some its.toArray) = pure (ps.zip us)
theorem binds_full (F : FunD K nm qual params body scope dvs kws f fd) (hd : dvs ≠ []) (h : PlainD nm qual params body scope ps dvs.length) : Binds K fd ps [] := by
  obtain ⟨ds, h1, h2⟩ := F.binds1 (ps := ps) ps.length dvs.length hd (by omega) fun T kV doc pm an cdv ct us its l1 l2 => by
    obtain ⟨k, e1, e2⟩ := h T kV doc pm an cdv ct us its l1 l2
    refine ⟨k, e1, ?_⟩
    rw [List.drop_of_length_le (by omega), List.append_nil]
    exact e2
  rw [List.drop_of_length_le (Nat.le_refl _)] at h1
  cases h1
  exact h2
theorem goodC_of {x : String} {c nf : Nat} (hg : mg (x : Str) = some (.ref (T.addr c))) (M : Mk K (T.addr c) f) (F : FunD K nm qual params body scope dvs kws f fd) (S : FnScope N ps scope) (hb : Binds K fd ps []) (hfree : ∀ x, free.contains x = true → mg x = none) (hm : mSs false false ⟨N, scope, free⟩ b body = true) (hx : ∀ a, T.exc a = none)
    (q : allP (fun n => n.ok P w K mg base T k) b.needs) : GoodC P w K mg base T (k + 1) x c (initD N.length ps.length c nf b) [] :=
  ⟨f, fd, ps, [], [], hg, M, hb, .nil, fun _ => rfl, initD_arity, def_okI F S hfree hm hx (allP_mem q)⟩
theorem goodM_of {m : String} {c : Nat} (cl : Cls K (T.addr c)) (me : Meth K (T.addr c) (m : Str) f) (nf : (T.flds c).contains (m : Str) = false) (F : FunD K nm qual params body scope dvs kws f fd) (S : FnScope N ps scope) (hb : Binds K fd ps []) (hfree : ∀ x, free.contains x = true → mg x = none) (hm : mSs false false ⟨N, scope, free⟩ b body = true) (hx : ∀ a, T.exc a = none)
    (q : allP (fun n => n.ok P w K mg base T k) b.needs) : GoodM P w K mg base T (k + 1) c m (defD N.length ps.length b) [] :=
  ⟨f, fd, ps, [], [], cl, me, nf, hb, .nil, fun _ => rfl, defD_arity, def_ok F S hfree hm hx (allP_mem q)⟩
theorem goodP_of {x : String} {c : Nat} {p : Addr} (cl : Cls K (T.addr c)) (pr : PropOf K (T.addr c) (x : Str) p f) (F : FunD K nm qual params body scope dvs kws f fd) (S : FnScope N ps scope) (hb : Binds K fd ps []) (hfree : ∀ x, free.contains x = true → mg x = none) (hm : mSs false false ⟨N, scope, free⟩ b body = true) (hx : ∀ a, T.exc a = none)
    (q : allP (fun n => n.ok P w K mg base T k) b.needs) : GoodP P w K mg base T (k + 1) c x (defD N.length ps.length b) :=
  ⟨p, f, fd, ps, cl, pr, hb, defD_arity, def_ok F S hfree hm hx (allP_mem q)⟩
theorem goodI_of {c : Nat} (cl : Cls K (T.addr c)) (me : Meth K (T.addr c) ("__contains__" : Str) f) (F : FunD K nm qual params body scope dvs kws f fd) (S : FnScope N ps scope) (hb : Binds K fd ps []) (h2 : ps.length = 2) (hfree : ∀ x, free.contains x = true → mg x = none) (hm : mSs false false ⟨N, scope, free⟩ b body = true) (hx : ∀ a, T.exc a = none)
    (q : allP (fun n => n.ok P w K mg base T k) b.needs) : GoodI P w K mg base T (k + 1) c (defD N.length ps.length b) :=
  ⟨f, fd, ps, cl, me.at_, me.fn, hb, h2, def_ok F S hfree hm hx (allP_mem q)⟩
theorem goodT_of {c i : Nat} {fl : Str} (cl : Cls K (T.addr c)) (me : Meth K (T.addr c) ("__iter__" : Str) f) (na : NoAttr K (T.addr c) fl) (hfl : (T.flds c)[i]? = some fl) (hnd : (T.flds c).Nodup) (F : FunD K nm qual params body scope [] [] f fd) (S : FnScope N ps scope) (hb : Binds K fd ps []) (h1 : ps.length = 1) (hm : mg ("iter" : Str) = none) (hB : iterB N scope fl body = true) :
    GoodT P w K mg base T 1 c i := ⟨f, fl, me.at_, me.fn, hfl, hnd, it_ok F S h1 hb cl na hm hB⟩
variable {j : Nat}
theorem GoodM.mono {c : Nat} {m : String} {g : Sem} {dd : List D} (h : GoodM P w K mg base T j c m g dd) (hj : j ≤ k) : GoodM P w K mg base T k c m g dd := by
  obtain ⟨a, fd, ps, dvs, ds, h1, h2, h3, h4, h5, h6, h7, h8⟩ := h
  exact ⟨a, fd, ps, dvs, ds, h1, h2, h3, h4, h5, h6, h7, h8.mono hj⟩
theorem GoodP.mono {c : Nat} {x : String} {g : Sem} (h : GoodP P w K mg base T j c x g) (hj : j ≤ k) : GoodP P w K mg base T k c x g := by
  obtain ⟨p, a, fd, ps, h1, h2, h3, h4, h5⟩ := h
  exact ⟨p, a, fd, ps, h1, h2, h3, h4, h5.mono hj⟩
theorem GoodC.mono {c : Nat} {x : String} {g : Sem} {dd : List D} (h : GoodC P w K mg base T j x c g dd) (hj : j ≤ k) : GoodC P w K mg base T k x c g dd := by
  obtain ⟨a, fd, ps, dvs, ds, h1, h2, h3, h4, h5, h6, h7⟩ := h
  exact ⟨a, fd, ps, dvs, ds, h1, h2, h3, h4, h5, h6, h7.mono hj⟩
theorem GoodI.mono {c : Nat} {g : Sem} (h : GoodI P w K mg base T j c g) (hj : j ≤ k) : GoodI P w K mg base T k c g := by
  obtain ⟨a, fd, ps, h1, h2, h3, h4, h5, h6⟩ := h
  exact ⟨a, fd, ps, h1, h2, h3, h4, h5, h6.mono hj⟩
theorem GoodT.mono {c i : Nat} (h : GoodT P w K mg base T j c i) (hj : j ≤ k) : GoodT P w K mg base T k c i := by
  obtain ⟨g, f, h1, h2, h3, h4, h5⟩ := h
  exact ⟨g, f, h1, h2, h3, h4, ⟨fun A outer s H a dx l fs Q hr => h5.run A outer s H a dx l fs Q (hr.mono hj)⟩⟩
end

/-! ### the law's end -/
theorem law_end {l : PySem.W.OpenLaw} {n k : Nat} {q : Program} {loose : List Str} {XP : (Str → Option Value) → Heap → Prop} {YP : World → Heap → Prop} {d : DefRec} {x : Str}
    (hn : l.most = some n) (hn2 : n ≤ sizeLine) (hdf : d.params.defaults = []) (hr : Room k callerA) {g : Sem} (hg : ∀ ns : List Int, ns.length ≤ n → g [.scr ns] = .ok (.bool true))
    (F : ∀ (w : World) (mg : Str → Option Value) (fa : Addr) (h : Heap), YP w h → h.Ns mainGlobals mg → mg d.name = some (.ref fa) →
      ∃ (K : PySem.W.Frag) (fd : FuncData) (T : Tab), K.In h ∧ (∀ (s : Shared) (u : Value), BindsTo s fd ⟨[u], []⟩ [(x, u)]) ∧
        ∀ base : Heap, K.In base → base.Ns mainGlobals mg → FnOk l.prog w K mg base (L2.CX l.prog w) k fa fd [x] (spOf K T 1 g)) :
    PySem.W.WalkO q loose XP YP l.row.toRowW d [] (fun f vs => PySem.call f vs) := by
  refine Att.attach_call hn hdf fun w s₀ s₁ mg mb fa o pm cd doc a vs ns G Y ho hd hcd hmg hobj hints hlen hgn => ?_
  obtain ⟨K, fd, T, KX, hb, hF⟩ := F w mg fa _ Y G.T.g hmg
  exact law_call KX G.T.g G.T.b G.T.builtins G.T.nolimit hgn hobj hints (Nat.le_trans hlen hn2) hr hF hb (fun H hO hS => ⟨fun b => H b, [.scr ns], rfl, Same.refl H, ⟨_, _, rfl, ⟨a, rfl, hS⟩, rfl⟩, by
    rw [hg ns hlen]
    exact fun v F' H' _ r => r⟩) fun H e s' ⟨_, _, _, _, _, _, _, _, _, _, _, _, z⟩ => z
end Py

namespace Py
open PySem PySem.Spec PyProof.Rows L2

/-! ### properties: the getter's def -/
/-- the property x of the class C, its getter -/
def prO (K : PySem.W.Frag) (C x : Str) : Addr := He.ma K (He.ga K C) x
def prG (K : PySem.W.Frag) (C x : Str) : Addr := match PySem.W.recIn K (prO K C x) "property" with
  | some (.ref g :: _) => g
  | _ => 0
def prB (K : PySem.W.Frag) (C x : Str) : Bool := He.eqO (PySem.W.findIn K (.ref (He.ga K C)) x) (some (some (.ref (prO K C x)))) && (He.eqO (PySem.W.specialIn K (.ref (prO K C x)) "__get__") (some (some (.builtin "property.__get__"))) && (decide (PySem.W.takesIn K (.ref (prO K C x)) = some true) && (match PySem.W.recIn K (prO K C x) "property" with
  | some (.ref _ :: _) => true
  | _ => false)))
theorem prB_ok {K : PySem.W.Frag} {C x : Str} (h : prB K C x = true) : PropOf K (He.ga K C) x (prO K C x) (prG K C x) := by
  obtain ⟨h1, h2, h3, h4⟩ := ba4 h
  refine ⟨He.eqO_ok h1, He.eqO_ok h2, of_decide_eq_true h3, ?_⟩
  unfold prG
  split at h4
  · rename_i g r e
    exact ⟨r, by rw [e]⟩
  · cases h4
/-- what stands at an address: a def -/
def obA (K : PySem.W.Frag) (a : Addr) : He.FnW := (K.lookup a).bind fun o => match o.data with
  | .func z => some (z.name, z.qualname, z.params, z.body, z.scope, z.globals, z.closure, z.builtins)
  | _ => none
def okA (K : PySem.W.Frag) (a : Addr) (d : He.DefD) : Bool := ((K.lookup a).map fun o => match o.data with
  | .func z => PySem.W.codeIn K z.code d.qual && He.dflB K z.defaults (d.dvs K) && He.kwdB K z.kwdefaults (d.kws K)
  | _ => false) == some true && PySem.W.keepIn K (.ref a)
theorem funA {K : PySem.W.Frag} {a : Addr} {d : He.DefD} (e : obA K a = d.val) (c : okA K a d = true) : ∃ z, FunD K d.name d.qual d.params d.body d.scope (d.dvs K) (d.kws K) a z := by
  obtain ⟨c1, kp⟩ := ba c
  have c1 := beq_iff_eq.mp c1
  unfold obA at e
  cases q : K.lookup a with
  | none =>
    rw [q] at c1
    cases c1
  | some o =>
    rw [q] at c1 e
    obtain ⟨u1, u2, u3, u4⟩ := o
    have c1 := Option.some.inj c1
    cases u3 with
    | func z =>
      obtain ⟨k12, k3⟩ := ba c1
      obtain ⟨k1, k2⟩ := ba k12
      cases z
      have e := Option.some.inj e
      simp only [Prod.mk.injEq] at e
      obtain ⟨g1, g2, g3, g4, g5, g6, g7, g8⟩ := e
      simp only at g1 g2 g3 g4 g5 g6 g7 g8 k1 k2 k3
      subst g1 g2 g3 g4 g5 g6 g7 g8
      exact ⟨_, ⟨u1, u2, _, _, _, _, _, _, _, u4, rfl, q, k1, He.dflB_ok k2, He.kwdB_ok k3⟩, kp⟩
    | _ => cases c1

/-! ### the head's Hook: facts, defs, getters, more Bools -/
abbrev AlQ : Type := He.AlD × List He.FnW × List Bool
def obsQ (fa : List He.Fa) (fn pr : List He.DefD) (ex : PySem.W.Frag → List Bool) (K : PySem.W.Frag) : AlQ := (He.obsD fa fn K, pr.map (fun d => obA K (prG K d.at_.1 d.name)), ex K ++ pr.map fun d => okA K (prG K d.at_.1 d.name) d && prB K d.at_.1 d.name)
def valQ (fn pr : List He.DefD) (yes : List Bool) : AlQ := (He.valD fn, pr.map He.DefD.val, yes ++ pr.map fun _ => true)
def obsP (n : Nat) (fa : List He.Fa) (fn pr : List He.DefD) (ex : PySem.W.Frag → List Bool) (g : Addr → Option Obj) : AlQ := obsQ fa fn pr ex (He.frG g (He.asD g n))
structure SaysQ (fa : List He.Fa) (fn pr : List He.DefD) (ex : PySem.W.Frag → List Bool) (K : PySem.W.Frag) : Prop where
  d : He.SaysD fa fn K
  x : ∀ b ∈ ex K, b = true
  g : ∀ d ∈ pr, PropOf K (He.ga K d.at_.1) d.name (prO K d.at_.1 d.name) (prG K d.at_.1 d.name) ∧ ∃ z, FunD K d.name d.qual d.params d.body d.scope (d.dvs K) (d.kws K) (prG K d.at_.1 d.name) z
theorem maps_eq {α β : Type} {f g : α → β} : ∀ {l : List α}, l.map f = l.map g → ∀ a ∈ l, f a = g a
  | x :: xs, h, a, m => by
    rw [List.map_cons, List.map_cons] at h
    injection h with h1 h2
    cases m with
    | head => exact h1
    | tail _ m => exact maps_eq h2 a m
theorem saysQ_of {fa : List He.Fa} {fn pr : List He.DefD} {ex : PySem.W.Frag → List Bool} {yes : List Bool} (hy : ∀ b ∈ yes, b = true) {K : PySem.W.Frag} (e : obsQ fa fn pr ex K = valQ fn pr yes) : SaysQ fa fn pr ex K := by
  have e1 : He.obsD fa fn K = He.valD fn := congrArg (fun z : AlQ => z.1) e
  have e2 : pr.map (fun d => obA K (prG K d.at_.1 d.name)) = pr.map He.DefD.val := congrArg (fun z : AlQ => z.2.1) e
  have e3 : (ex K ++ pr.map fun d => okA K (prG K d.at_.1 d.name) d && prB K d.at_.1 d.name) = yes ++ pr.map fun _ => true := congrArg (fun z : AlQ => z.2.2) e
  have all : ∀ b ∈ ex K ++ pr.map fun d => okA K (prG K d.at_.1 d.name) d && prB K d.at_.1 d.name, b = true := by
    rw [e3]
    intro b hb
    rcases List.mem_append.mp hb with q | q
    · exact hy b q
    · obtain ⟨_, _, rfl⟩ := List.mem_map.mp q
      rfl
  refine ⟨e1, fun b hb => all b (List.mem_append.mpr (.inl hb)), fun d hd => ?_⟩
  obtain ⟨k1, k2⟩ := ba (all _ (List.mem_append.mpr (.inr (List.mem_map.mpr ⟨d, hd, rfl⟩))))
  exact ⟨prB_ok k2, funA (maps_eq e2 d hd) k1⟩
def hookP (n : Nat) (fa : List He.Fa) (fn pr : List He.DefD) (ex : PySem.W.Frag → List Bool) (yes : List Bool) (hy : ∀ b ∈ yes, b = true) : PySem.W.Hook where
  α := AlQ
  obs := fun s => obsP n fa fn pr ex s.heap.get?
  val := fun _ => valQ fn pr yes
  says := fun _ h => ∃ K : PySem.W.Frag, K.In h ∧ SaysQ fa fn pr ex K
  of := fun _ s e => ⟨He.frG s.heap.get? (He.asD s.heap.get? n), He.frG_in, saysQ_of hy e⟩
  keeps := fun _ _ _ ⟨K, hK, c⟩ k => ⟨K, PySem.W.Frag.In.keeps hK k, c⟩
theorem obsP_eq {n : Nat} {fa : List He.Fa} {fn pr : List He.DefD} {ex : PySem.W.Frag → List Bool} {yes : List Bool} {hy : ∀ b ∈ yes, b = true} {g : Addr → Option Obj} {s : Shared} (h : ∀ a, g a = s.heap.get? a) : obsP n fa fn pr ex g = (hookP n fa fn pr ex yes hy).obs s := by
  have e : g = s.heap.get? := funext h
  rw [e]
  rfl
/-- an exception class, as isinstance looks at it -/
def xcB (K : PySem.W.Frag) (x : Str) : Bool :=
  He.eqO (PySem.W.findIn K (.ref (He.ga K x)) "__getattribute__") (some (some (.builtin "BaseException.__getattribute__"))) && (He.eqO (PySem.W.findIn K (.ref (He.ga K x)) "__getattr__") (some none) && (decide (PySem.W.subIn K (.ref (He.ga K x)) (.type "BaseException") = some true) && (PySem.W.hasDictIn K (He.ga K x) && (He.eqO (PySem.W.findIn K (.ref (He.ga K x)) "__class__") (some (some (.builtin "object.__class__"))) && (He.eqO (PySem.W.specialIn K (.builtin "object.__class__") "__get__") (some (some (.builtin "getset_descriptor.__get__"))) && (decide (PySem.W.takesIn K (.builtin "object.__class__") = some true) && decide (PySem.W.mroIn K (He.ga K x) (.type "object") = some true)))))))
theorem xcB_ok {K : PySem.W.Frag} {x : Str} (h : xcB K x = true) : ExcC K (He.ga K x) := by
  obtain ⟨h1, h2, h3, h4, h5, h6, h7, h8⟩ := ba8 h
  exact ⟨He.eqO_ok h1, He.eqO_ok h2, of_decide_eq_true h3, h4, He.eqO_ok h5, He.eqO_ok h6, of_decide_eq_true h7, of_decide_eq_true h8⟩
def kitB3 (K : PySem.W.Frag) (x y : Str) (b : Bool) : Bool := decide (PySem.W.kitOne K (.ref (He.ga K x)) (.ref (He.ga K y)) = some b)
theorem kitB3_ok {K : PySem.W.Frag} {x y : Str} {b : Bool} (h : kitB3 K x y b = true) : PySem.W.kitOne K (.ref (He.ga K x)) (.ref (He.ga K y)) = some b := of_decide_eq_true h
/-! ### tables row by row -/
theorem LookNil {α : Type} {P : Nat → α → Prop} : ∀ c y, look c ([] : List (Nat × α)) = some y → P c y := fun c y e => by cases e
theorem LookCons {α : Type} {P : Nat → α → Prop} {k : Nat} {a : α} {r : List (Nat × α)} (h : P k a) (t : ∀ c y, look c r = some y → P c y) : ∀ c y, look c ((k, a) :: r) = some y → P c y := fun c y e => by
  unfold look at e
  split at e
  · rename_i hk
    subst hk
    cases e
    exact h
  · exact t c y e
theorem LookMNil {P : Nat → Sem → List D → Prop} : ∀ c f dd, look c ([] : List (Nat × Sem × List D)) = some (f, dd) → P c f dd := fun c f dd e => by cases e
theorem LookMCons {P : Nat → Sem → List D → Prop} {k : Nat} {g : Sem} {es : List D} {r : List (Nat × Sem × List D)} (h : P k g es) (t : ∀ c f dd, look c r = some (f, dd) → P c f dd) : ∀ c f dd, look c ((k, (g, es)) :: r) = some (f, dd) → P c f dd := fun c f dd e => by
  unfold look at e
  split at e
  · rename_i hk
    subst hk
    cases e
    exact h
  · exact t c f dd e
theorem AlNil {P : Nat → Prop} : ∀ c, ([] : List Nat).contains c = true → P c := fun c e => by cases e
theorem AlCons {P : Nat → Prop} {a : Nat} {l : List Nat} (h : P a) (t : ∀ c, l.contains c = true → P c) : ∀ c, (a :: l).contains c = true → P c := fun c e => by
  rw [List.contains_cons] at e
  rcases Bool.or_eq_true_iff.mp e with q | q
  · have : c = a := by simpa using q
    subst this
    exact h
  · exact t c q
end Py

namespace Py
/-! plain steps of evaluation -/
section
variable {env : Env} {st : St}
@[simp] theorem ev_v {i} : ev env (.v i) = env.get i := rfl
@[simp] theorem ev_non : ev env .non = .ok .non := rfl
@[simp] theorem ev_tt : ev env .tt = .ok (.bool true) := rfl
@[simp] theorem ev_ff : ev env .ff = .ok (.bool false) := rfl
@[simp] theorem ev_int {i} : ev env (.int i) = .ok (.int i) := rfl
@[simp] theorem ev_str {s} : ev env (.str s) = .ok (.str s) := rfl
@[simp] theorem ev_glob {x d} : ev env (.glob x d) = .ok d := rfl
@[simp] theorem ev_bin {o a b} : ev env (.bin o a b) = (ev env a).bind fun x => (ev env b).bind fun y => binD o x y := rfl
@[simp] theorem ev_neg {a} : ev env (.neg a) = (ev env a).bind negD := rfl
@[simp] theorem ev_cmp {o a b} : ev env (.cmp o a b) = (ev env a).bind fun x => (ev env b).bind fun y => (cmpD o x y).map D.bool := rfl
@[simp] theorem ev_chain {o o' a b c} : ev env (.chain o o' a b c) = (ev env a).bind fun x => (ev env b).bind fun y => (cmpD o x y).bind fun t =>
      if t then (ev env c).bind fun z => (cmpD o' y z).map D.bool else .ok (.bool false) := rfl
@[simp] theorem ev_not {a} : ev env (.not a) = (ev env a).bind fun x => (truth x).map fun t => D.bool (!t) := rfl
@[simp] theorem ev_ands {o es} : ev env (.ands o es) = eva env o es := rfl
@[simp] theorem ev_ife {t a b} : ev env (.ife t a b) = (ev env t).bind fun x => (truth x).bind fun t => if t then ev env a else ev env b := rfl
@[simp] theorem ev_tup {es} : ev env (.tup es) = (evs env es).map D.tup := rfl
@[simp] theorem ev_lst {es} : ev env (.lst es) = (evs env es).map D.lst := rfl
@[simp] theorem ev_idx {a b} : ev env (.idx a b) = (ev env a).bind fun x => (ev env b).bind fun y => idxD x y := rfl
@[simp] theorem ev_slice {a lo hi} : ev env (.slice a lo hi) = (ev env a).bind fun x => (evo env lo).bind fun l => (evo env hi).bind fun h => sliceD l h x := rfl
@[simp] theorem ev_rev {a} : ev env (.rev a) = (ev env a).bind revD := rfl
@[simp] theorem ev_call {x s dd es} : ev env (.call x s dd es) = (evs env es).bind fun xs => s (xs ++ dd) := rfl
@[simp] theorem ev_bi {f es} : ev env (.bi f es) = (evs env es).bind (biD f) := rfl
@[simp] theorem ev_isin {e t} : ev env (.isin e t) = (ev env e).bind fun x => (tyD t x).map D.bool := rfl
@[simp] theorem ev_lc {own p it c e} : ev env (.lc own p it c e) = (evi env it).bind fun xs => (compD xs fun x =>
      (bindG putE p x (wipeD env (own.map (·.2)))).bind fun env' => (evc env' c).bind fun t =>
        if t then (ev env' e).map some else .ok none).map D.lst := rfl
@[simp] theorem ev_lc2 {own p it c own2 q jt d e} : ev env (.lc2 own p it c own2 q jt d e) = (evi env it).bind fun xs => (compD2 xs fun x =>
      (bindG putE p x (wipeD env (own.map (·.2)))).bind fun env1 => (evc env1 c).bind fun t =>
        if t then (evi env1 jt).bind fun ys => compD ys fun y =>
          (bindG putE q y (wipeD env1 own2)).bind fun env2 => (evc env2 d).bind fun t =>
            if t then (ev env2 e).map some else .ok none
        else .ok []).bind lenL := rfl
@[simp] theorem ev_dc {own p it c a b} : ev env (.dc own p it c a b) = (evi env it).bind fun xs => (compP xs (fun x =>
      (bindG putE p x (wipeD env (own.map (·.2)))).bind fun env' => (evc env' c).bind fun t =>
        if t then (ev env' a).bind fun k => (ev env' b).map fun v => some (k, v) else .ok none) [] []).map dictP := rfl
@[simp] theorem ev_op {o es} : ev env (.op o es) = (if o.calm then (evs env es).calm else evs env es).bind (opD o) := rfl
@[simp] theorem ev_ino {neg tab a b} : ev env (.ino neg tab a b) = (ev env a).bind fun x => (ev env b).bind fun y => (inO neg tab x y).map D.bool := rfl
@[simp] theorem ev_selfF {x c k} : ev env (.selfF x c k) = env.mine c k := rfl
@[simp] theorem calm_fld {x tab} : (Op.fld x tab).calm = false := rfl
@[simp] theorem calm_con {x tab} : (Op.con x tab).calm = false := rfl
@[simp] theorem calm_prop {x tab} : (Op.prop x tab).calm = false := rfl
@[simp] theorem calm_meth {x tab} : (Op.meth x tab).calm = true := rfl
@[simp] theorem calm_mk {x c f dd} : (Op.mk x c f dd).calm = false := rfl
@[simp] theorem calm_count : Op.count.calm = true := rfl
@[simp] theorem calm_join : Op.join.calm = true := rfl
@[simp] theorem calm_split : Op.split.calm = true := rfl
@[simp] theorem calm_strI : Op.strI.calm = false := rfl
@[simp] theorem calm_ok {α : Type} {a : α} : (R.ok a).calm = .ok a := rfl
@[simp] theorem opD_fld {x tab c fs} : opD (.fld x tab) [.obj c fs] = (match look c tab with
    | some k => ofO fs[k]?
    | none => .no) := rfl
@[simp] theorem opD_con {x tab c fs} : opD (.con x tab) [.obj c fs] = ofO (look c tab) := rfl
@[simp] theorem opD_prop {x tab c fs} : opD (.prop x tab) [.obj c fs] = (match look c tab with
    | some f => (f [.obj c fs]).calm
    | none => .no) := rfl
@[simp] theorem opD_meth {x tab c fs as} : opD (.meth x tab) (.obj c fs :: as) = (match look c tab with
    | some (f, dd) => f (.obj c fs :: as ++ dd)
    | none => .no) := rfl
@[simp] theorem opD_mk {x c f dd as} : opD (.mk x c f dd) as = f (as ++ dd) := by cases as <;> rfl
@[simp] theorem opD_count {s c} : opD .count [.str s, .str [c]] = .ok (.int (s.count c)) := rfl
@[simp] theorem opD_strI {i} : opD .strI [.int i] = if i.natAbs < 2 ^ 90 then .ok (.str (intD i)) else .no := rfl
@[simp] theorem look_hit {α : Type} {c : Nat} {a : α} {r} : look c ((c, a) :: r) = some a := if_pos rfl
@[simp] theorem inO_obj {neg tab x c fs} : inO neg tab x (.obj c fs) = (match look c tab with
    | some f => (match f [.obj c fs, x] with
      | .ok (.bool b) => .ok (if neg then !b else b)
      | _ => .no)
    | none => .no) := rfl
@[simp] theorem evi_op {o es} : evi env (.op o es) = (evs env es).bind (iopD o) := rfl
@[simp] theorem iop_zipT {xs ys} : iopD .zip [.tup xs, .tup ys] = .ok (zipD xs ys) := rfl
@[simp] theorem iop_zipL {xs ys} : iopD .zip [.lst xs, .lst ys] = .ok (zipD xs ys) := rfl
@[simp] theorem iop_enumL {xs} : iopD .enum [.lst xs] = .ok (enumD 0 xs) := rfl
@[simp] theorem iop_enumT {xs} : iopD .enum [.tup xs] = .ok (enumD 0 xs) := rfl
@[simp] theorem iop_rev {xs} : iopD .rev [.lst xs] = .ok xs.reverse := rfl
@[simp] theorem iop_str {s} : iopD .str [.str s] = if s.length ≤ cap then .ok (s.map fun c => .str [c]) else .no := rfl
@[simp] theorem iop_own {tab c fs} : iopD (.own tab) [.obj c fs] = (match look c tab with
    | some k => (match fs[k]? with
      | some (.lst xs) => .ok xs
      | some (.tup xs) => .ok xs
      | _ => .no)
    | none => .no) := rfl
@[simp] theorem it_rngo {o es} : (It.op o es).rng = false := rfl
@[simp] theorem runO_setF {m i c k f e} : runO st (.setF m i c k f e) = ownO st i c fun fs => (ev (envS m st) e).cf st fun d => if okM m d then
      (if k < fs.length then .nx (st.set i (.o 2 (.obj c (fs.set k d)))) else if k = fs.length then .nx (st.set i (.o 2 (.obj c (fs ++ [d])))) else .no) else .no := rfl
@[simp] theorem runO_revL {i} : runO st (.revL i) = ownL st i fun ds => .nx (st.set i (.o 1 (.lst ds.reverse))) := rfl
@[simp] theorem runO_clrL {i} : runO st (.clrL i) = ownL st i fun _ => .nx (st.set i (.o 1 (.lst []))) := rfl
@[simp] theorem ownO_0 {c c' : Nat} {fs : List D} {k : List D → Cf} {st : St} : ownO (.o 2 (.obj c' fs) :: st) 0 c k = if c' = c then k fs else .no := rfl
@[simp] theorem finI_nx {c nf c' : Nat} {fs : List D} {st : St} : finI c nf (.nx (.o 2 (.obj c' fs) :: st)) = if c' = c ∧ fs.length = nf then .ok (.obj c fs) else .no := rfl
@[simp] theorem finI_ex {c nf c' : Nat} {fs : List D} {st : St} : finI c nf (.ex c' fs st) = .ex c' fs := rfl
@[simp] theorem startI_e {n c as} : startI n c as = .o 2 (.obj c []) :: (as.map Sl.v ++ List.replicate (n - (as.length + 1)) .u) := rfl
@[simp] theorem eva_one {o e} : eva env o (.cons e .nil) = ev env e := rfl
@[simp] theorem eva_two {o e e2 es} : eva env o (.cons e (.cons e2 es)) = (ev env e).bind fun x => (truth x).bind fun t => if t = o then eva env o (.cons e2 es) else .ok x := rfl
@[simp] theorem evo_none : evo env .none = .ok none := rfl
@[simp] theorem evo_some {e} : evo env (.some e) = (ev env e).bind partI := rfl
@[simp] theorem evc_none : evc env .none = .ok true := rfl
@[simp] theorem evc_some {e} : evc env (.some e) = (ev env e).bind truth := rfl
@[simp] theorem evs_nil : evs env .nil = .ok [] := rfl
@[simp] theorem evs_cons {e es} : evs env (.cons e es) = (ev env e).bind fun x => (evs env es).map fun xs => x :: xs := rfl
@[simp] theorem evi_seq {e} : evi env (.seq e) = (ev env e).bind seqD := rfl
@[simp] theorem evi_range {a} : evi env (.range a) = (ev env a).bind fun x => match x with
    | .int n => if n ≤ (cap : Int) ∧ -bigI ≤ n then .ok (rangeD 0 n) else .no
    | _ => .no := rfl
@[simp] theorem evi_range2 {a b} : evi env (.range2 a b) = (ev env a).bind fun x => (ev env b).bind fun y => match x, y with
    | .int m, .int n => if -bigI ≤ m ∧ m ≤ bigI ∧ -bigI ≤ n ∧ n ≤ bigI ∧ n - m ≤ (cap : Int) then .ok (rangeD m n) else .no
    | _, _ => .no := rfl
@[simp] theorem run_asg {m p e} : run st (.asg m p e) = (ev (envS m st) e).cf st fun d => if okM m d then (bindP p d st).cf st Cf.nx else .no := rfl
@[simp] theorem run_asgN {m i e} : run st (.asgN m i e) = (ev (envS m st) e).cf st (newS m st i) := rfl
@[simp] theorem run_op {o} : run st (.op o) = runO st o := rfl
@[simp] theorem run_raiseF {x c es} : run st (.raiseF x c es) = (evs (envS true st) es).cf st fun ds => if ds.all D.scalar && !ds.isEmpty then .ex c ds st else .no := rfl
@[simp] theorem run_aug {i o e} : run st (.aug i o e) = (Env.get (envS true st) i).cf st fun x => (ev (envS true st) e).cf st fun y => (binD o x y).cf st fun z =>
      if z.scalar then .nx (st.set i (.v z)) else .no := rfl
@[simp] theorem run_expr {e} : run st (.expr e) = (ev (envS true st) e).cf st fun _ => .nx st := rfl
@[simp] theorem run_app {m i e} : run st (.app m i e) = ownL st i fun ds => (ev (envS m st) e).cf st fun d => if okM m d && decide (ds.length < cap) then .nx (st.set i (.o 1 (.lst (ds ++ [d])))) else .no := rfl
@[simp] theorem run_setI {m i j e} : run st (.setI m i j e) = ownL st i fun ds => (ev (envS m st) e).cf st fun d => if okM m d then (ev (envS true st) j).cf st fun k => atS ds.length k fun n => .nx (st.set i (.o 1 (.lst (ds.set n d)))) else .no := rfl
@[simp] theorem run_ret {e} : run st (.ret e) = (ev (envS true st) e).cf st fun d => .rt d := rfl
@[simp] theorem run_retN {e} : run st (.retN e) = (ev (envS true st) e).cf st retL := rfl
@[simp] theorem run_retO {i} : run st (.retO i) = ownL st i fun ds => .rt (.lst ds) := rfl
@[simp] theorem run_ifs {c a b} : run st (.ifs c a b) = (evt (envS true st) c).cf st fun t => if t then runs st a else runs st b := rfl
@[simp] theorem run_forr {p it b} : run st (.forr p it b) = (evi (envS it.rng st) it).cf st fun xs => forD xs (fun x st => (bindP p x st).cf st fun st' => runs st' b) st := rfl
@[simp] theorem run_whil {c b} : run st (.whil c b) = whileD cap (fun st => evt (envS true st) c) (fun st => runs st b) st := rfl
@[simp] theorem run_brk : run st .brk = .bk st := rfl
@[simp] theorem run_cont : run st .cont = .ct st := rfl
@[simp] theorem run_pass : run st .pass = .nx st := rfl
@[simp] theorem run_raise {x c} : run st (.raise x c) = .ex c [] st := rfl
@[simp] theorem run_frz {i} : run st (.frz i) = .nx (st.set i (frzS st[i]?)) := rfl
@[simp] theorem run_tri {b x cs al i h} : run st (.tri b x cs al i h) = match runs st b with
    | .ex c fs st1 => if al.contains c then (if cs.contains c then catchD i (runs (catchS i c fs st1) h) else .ex c fs st1) else .no
    | r => r := rfl
@[simp] theorem runs_nil : runs st .nil = .nx st := rfl
def thenC (r : Cf) (k : St → Cf) : Cf := match r with
  | .nx st' => k st'
  | r => r
@[simp] theorem runs_cons {s ss} : runs st (.cons s ss) = thenC (run st s) fun st' => runs st' ss := rfl
@[simp] theorem thenC_nx {k : St → Cf} : thenC (.nx st) k = k st := rfl
@[simp] theorem thenC_rt {k : St → Cf} {d} : thenC (.rt d) k = .rt d := rfl
@[simp] theorem thenC_ex {k : St → Cf} {c fs} : thenC (.ex c fs st) k = .ex c fs st := rfl
@[simp] theorem thenC_bk {k : St → Cf} : thenC (.bk st) k = .bk st := rfl
@[simp] theorem thenC_ct {k : St → Cf} : thenC (.ct st) k = .ct st := rfl
@[simp] theorem cf_ok {α : Type} {a : α} {k : α → Cf} : R.cf st (.ok a) k = k a := rfl
@[simp] theorem cf_ex {α : Type} {c fs} {k : α → Cf} : R.cf st (.ex c fs : R α) k = .ex c fs st := rfl
@[simp] theorem it_rng1 {a} : (It.range a).rng = true := rfl
@[simp] theorem it_rng2 {a b} : (It.range2 a b).rng = true := rfl
@[simp] theorem it_rng0 {a} : (It.seq a).rng = false := rfl
def envL (m : Bool) (st : St) : List (Option D) := st.map (if m then Sl.rd else Sl.fr)
@[simp] theorem envS_e {m : Bool} {st : St} : envS m st = ⟨envL m st, meS st⟩ := rfl
@[simp] theorem envL_cons {m : Bool} {s : Sl} {st : St} : envL m (s :: st) = (if m then Sl.rd s else Sl.fr s) :: envL m st := by cases m <;> rfl
@[simp] theorem envL_nil {m : Bool} : envL m [] = [] := rfl
@[simp] theorem meS_v {d : D} {st : St} : meS (.v d :: st) = none := rfl
@[simp] theorem meS_u {st : St} : meS (.u :: st) = none := rfl
@[simp] theorem meS_1 {d : D} {st : St} : meS (.o 1 d :: st) = none := by cases d <;> rfl
@[simp] theorem meS_2 {c : Nat} {fs : List D} {st : St} : meS (.o 2 (.obj c fs) :: st) = some (c, fs) := rfl
@[simp] theorem get_0 {x : D} {l : List (Option D)} {me} : Env.get ⟨some x :: l, me⟩ 0 = .ok x := rfl
@[simp] theorem get_s {o : Option D} {l : List (Option D)} {me} {n : Nat} : Env.get ⟨o :: l, me⟩ (n + 1) = Env.get ⟨l, me⟩ n := rfl
@[simp] theorem mine_e {l : List (Option D)} {c c' : Nat} {fs : List D} {k : Nat} : Env.mine ⟨l, some (c, fs)⟩ c' k = if c = c' then ofO fs[k]? else .no := rfl
@[simp] theorem bindP_v {i d} : bindP (.v i) d st = .ok (st.set i (.v d)) := rfl
theorem bindP_tup {ps d} : bindP (.tup ps) d st = match d with
    | .tup ds => bindGs putP ps ds st
    | _ => .no := rfl
@[simp] theorem bindGs_nil {α : Type} {put : Nat → D → α → α} {a : α} : bindGs put [] [] a = .ok a := rfl
@[simp] theorem bindGs_cons {α : Type} {put : Nat → D → α → α} {a : α} {p ps d ds} : bindGs put (p :: ps) (d :: ds) a = (bindG put p d a).bind fun b => bindGs put ps ds b := rfl
@[simp] theorem bindG_v {α : Type} {put : Nat → D → α → α} {a : α} {i d} : bindG put (.v i) d a = .ok (put i d a) := rfl
@[simp] theorem putP_e {i d} : putP i d st = st.set i (.v d) := rfl
@[simp] theorem putE_e {i d} {l : List (Option D)} {me} : putE i d ⟨l, me⟩ = ⟨l.set i (some d), if i = 0 then none else me⟩ := rfl
/-- slot v is empty -/
def clrE (v : Nat) (env : Env) : Env := ⟨env.l.set v none, if v = 0 then none else env.me⟩
@[simp] theorem wipe_nil {env : Env} : wipeD env [] = env := rfl
@[simp] theorem wipe_cons {env : Env} {v vs} : wipeD env (v :: vs) = clrE v (wipeD env vs) := rfl
@[simp] theorem clrE_e {v} {l : List (Option D)} {me} : clrE v ⟨l, me⟩ = ⟨l.set v none, if v = 0 then none else me⟩ := rfl
@[simp] theorem evt_e {e} : evt env e = (ev env e).bind truth := rfl
@[simp] theorem truth_b {b} : truth (.bool b) = .ok b := rfl
@[simp] theorem truth_i {i} : truth (.int i) = .ok (i != 0) := rfl
@[simp] theorem start_e {n as} : startS n as = as.map Sl.v ++ List.replicate (n - as.length) .u := rfl
@[simp] theorem fin_rt {d} : fin (.rt d) = .ok d := rfl
@[simp] theorem fin_nx : fin (.nx st) = .ok .non := rfl
@[simp] theorem fin_ex {c fs} : fin (.ex c fs st) = .ex c fs := rfl
@[simp] theorem okM_f {d} : okM false d = true := rfl
theorem okM_t {d} : okM true d = d.kept := rfl
@[simp] theorem bi_len_tup {xs} : biD .len [.tup xs] = .ok (.int xs.length) := rfl
@[simp] theorem bi_len_lst {xs} : biD .len [.lst xs] = .ok (.int xs.length) := rfl
@[simp] theorem bi_len_scr {xs} : biD .len [.scr xs] = .ok (.int xs.length) := rfl
@[simp] theorem bi_int_int {i} : biD .int [.int i] = .ok (.int i) := rfl
@[simp] theorem bi_int_bool {b} : biD .int [.bool b] = .ok (.int (if b then 1 else 0)) := rfl
@[simp] theorem bi_abs {i} : biD .abs [.int i] = .ok (.int (if i < 0 then -i else i)) := rfl
@[simp] theorem bi_tuple_lst {xs} : biD .tuple [.lst xs] = .ok (.tup xs) := rfl
@[simp] theorem bi_tuple_tup {xs} : biD .tuple [.tup xs] = .ok (.tup xs) := rfl
@[simp] theorem bi_list_lst {xs} : biD .list [.lst xs] = .ok (.lst xs) := rfl
@[simp] theorem bi_list_tup {xs} : biD .list [.tup xs] = .ok (.lst xs) := rfl
@[simp] theorem bi_max {i j} : biD .max [.int i, .int j] = .ok (.int (if j > i then j else i)) := rfl
@[simp] theorem bi_min {i j} : biD .min [.int i, .int j] = .ok (.int (if j < i then j else i)) := rfl
@[simp] theorem bin_add {i j} : binD .add (.int i) (.int j) = .ok (.int (i + j)) := rfl
@[simp] theorem bin_sub {i j} : binD .sub (.int i) (.int j) = .ok (.int (i - j)) := rfl
@[simp] theorem bin_mul {i j} : binD .mul (.int i) (.int j) = if mulOk i j then .ok (.int (i * j)) else .no := rfl
@[simp] theorem bin_mod {i j} : binD .mod (.int i) (.int j) = if 0 < j then .ok (.int (i % j)) else .no := rfl
@[simp] theorem bin_fdiv {i j} : binD .fdiv (.int i) (.int j) = if 0 < j ∧ j < 1073741824 then .ok (.int (i / j)) else .no := rfl
@[simp] theorem bin_add_tup {s t} : binD .add (.tup s) (.tup t) = if s.length + t.length ≤ cap then .ok (.tup (s ++ t)) else .no := rfl
@[simp] theorem bin_add_lst {s t} : binD .add (.lst s) (.lst t) = if s.length + t.length ≤ cap then .ok (.lst (s ++ t)) else .no := rfl
@[simp] theorem bin_add_str {s t} : binD .add (.str s) (.str t) = if s.length + t.length ≤ cap then .ok (.str (s ++ t)) else .no := rfl
@[simp] theorem neg_int {i} : negD (.int i) = .ok (.int (-i)) := rfl
@[simp] theorem cmp_lt {i j} : cmpD .lt (.int i) (.int j) = .ok (decide (i < j)) := rfl
@[simp] theorem cmp_le {i j} : cmpD .le (.int i) (.int j) = .ok (decide (i ≤ j)) := rfl
@[simp] theorem cmp_gt {i j} : cmpD .gt (.int i) (.int j) = .ok (decide (j < i)) := rfl
@[simp] theorem cmp_ge {i j} : cmpD .ge (.int i) (.int j) = .ok (decide (j ≤ i)) := rfl
@[simp] theorem cmp_eq_int {i j : Int} : cmpD .eq (.int i) (.int j) = .ok (i == j) := rfl
@[simp] theorem cmp_ne_int {i j : Int} : cmpD .ne (.int i) (.int j) = .ok (!(i == j)) := rfl
@[simp] theorem cmp_eq_bool {i j : Bool} : cmpD .eq (.bool i) (.bool j) = .ok (i == j) := rfl
@[simp] theorem cmp_ne_bool {i j : Bool} : cmpD .ne (.bool i) (.bool j) = .ok (!(i == j)) := rfl
@[simp] theorem cmp_is_nn : cmpD .is .non .non = .ok true := rfl
@[simp] theorem cmp_isn_nn : cmpD .isn .non .non = .ok false := rfl
@[simp] theorem cmp_is_tup {xs} : cmpD .is (.tup xs) .non = .ok false := rfl
@[simp] theorem cmp_isn_tup {xs} : cmpD .isn (.tup xs) .non = .ok true := rfl
@[simp] theorem cmp_is_lst {xs} : cmpD .is (.lst xs) .non = .ok false := rfl
@[simp] theorem cmp_isn_lst {xs} : cmpD .isn (.lst xs) .non = .ok true := rfl
@[simp] theorem cmp_is_int {i} : cmpD .is (.int i) .non = .ok false := rfl
@[simp] theorem cmp_isn_int {i} : cmpD .isn (.int i) .non = .ok true := rfl
@[simp] theorem cmp_is_str {z} : cmpD .is (.str z) .non = .ok false := rfl
@[simp] theorem cmp_isn_str {z} : cmpD .isn (.str z) .non = .ok true := rfl
@[simp] theorem cmp_is_bool {b} : cmpD .is (.bool b) .non = .ok false := rfl
@[simp] theorem cmp_isn_bool {b} : cmpD .isn (.bool b) .non = .ok true := rfl
@[simp] theorem cmp_is_dict {ks}{vs} : cmpD .is (.dict ks vs) .non = .ok false := rfl
@[simp] theorem cmp_isn_dict {ks}{vs} : cmpD .isn (.dict ks vs) .non = .ok true := rfl
@[simp] theorem cmp_is_obj {c}{fs} : cmpD .is (.obj c fs) .non = .ok false := rfl
@[simp] theorem cmp_isn_obj {c}{fs} : cmpD .isn (.obj c fs) .non = .ok true := rfl
@[simp] theorem idx_tup {xs i} : idxD (.tup xs) (.int i) = ofO (atI xs i) := rfl
@[simp] theorem idx_lst {xs i} : idxD (.lst xs) (.int i) = ofO (atI xs i) := rfl
@[simp] theorem idx_scr {ns i} : idxD (.scr ns) (.int i) = ofO ((atI ns i).map D.int) := rfl
@[simp] theorem ofO_some {d} : ofO (some d) = .ok d := rfl
@[simp] theorem seq_tup {xs} : seqD (.tup xs) = .ok xs := rfl
@[simp] theorem seq_lst {xs} : seqD (.lst xs) = .ok xs := rfl
@[simp] theorem rev_lst {xs} : revD (.lst xs) = .ok (.lst xs.reverse) := rfl
@[simp] theorem part_int {i} : partI (.int i) = .ok (some i) := rfl
@[simp] theorem slice_tup {lo hi xs} : sliceD lo hi (.tup xs) = .ok (.tup (cutL xs lo hi)) := rfl
@[simp] theorem slice_lst {lo hi xs} : sliceD lo hi (.lst xs) = .ok (.lst (cutL xs lo hi)) := rfl
theorem atI_nat {α : Type} (xs : List α) (i : Nat) : atI xs (i : Int) = xs[i]? := by
  unfold atI ixN
  have h0 : (0 : Int) ≤ (i : Int) := Int.natCast_nonneg i
  rw [if_pos h0]
  by_cases h : i < xs.length
  · rw [if_pos (by omega)]
    rfl
  · rw [if_neg (by omega), List.getElem?_eq_none (by omega)]
    rfl
theorem atI_0 {α : Type} (xs : List α) : atI xs 0 = xs[0]? := atI_nat xs 0
theorem atI_1 {α : Type} (xs : List α) : atI xs 1 = xs[1]? := atI_nat xs 1
theorem atI_2 {α : Type} (xs : List α) : atI xs 2 = xs[2]? := atI_nat xs 2
theorem rangeD_nat (n : Nat) : rangeD 0 (n : Int) = (List.range n).map fun (i : Nat) => D.int (i : Int) := by
  unfold rangeD
  simp
end
theorem defD_eq {n k : Nat} {b : Ss} {as : List D} (h : as.length = k) : defD n k b as = fin (runs (startS n as) b) := if_pos h
theorem okcap {n : Nat} (h : n ≤ 1000) : (n : Int) ≤ (cap : Int) ∧ -bigI ≤ (n : Int) := by
  unfold cap bigI
  omega
theorem fin_if {p : Prop} [Decidable p] {a b : Cf} : fin (if p then a else b) = if p then fin a else fin b := by split <;> rfl
theorem sIx_none {n d : Nat} : sIx n d none = d := rfl
theorem sIx_nat {n d i : Nat} : sIx n d (some (i : Int)) = min i n := by
  show (if (i : Int) < 0 then ((i : Int) + (n : Int)).toNat else min (i : Int).toNat n) = min i n
  have h : ¬ ((i : Int) < 0) := Int.not_lt.mpr (Int.natCast_nonneg i)
  rw [if_neg h, Int.toNat_natCast]
theorem cut_to {α : Type} {xs : List α} {p : Nat} (h : p ≤ xs.length) : cutL xs none (some (p : Int)) = xs.take p := by
  unfold cutL
  rw [sIx_none, sIx_nat, Nat.min_eq_left h]
  rfl
theorem cut_from {α : Type} {xs : List α} {p : Nat} (h : p ≤ xs.length) : cutL xs (some (p : Int)) none = xs.drop p := by
  unfold cutL
  rw [sIx_none, sIx_nat, Nat.min_eq_left h, List.take_of_length_le]
  rw [List.length_drop]
  omega
/-! loops -/
theorem forD_nil {f : D → St → Cf} {st : St} : forD [] f st = .nx st := rfl
theorem forD_cons {f : D → St → Cf} {st : St} {x xs} : forD (x :: xs) f st = match f x st with
    | .nx st' => forD xs f st'
    | .ct st' => forD xs f st'
    | .bk st' => .nx st'
    | r => r := rfl
/-- a search: it goes on while P, returns d at the first that is not -/
theorem forD_all {f : D → St → Cf} {d : D} {P : D → Bool} {I : St → Prop} : ∀ {xs : List D}, (∀ x ∈ xs, ∀ st, I st → (P x = true → ∃ st', f x st = .nx st' ∧ I st') ∧ (P x = false → f x st = .rt d)) → ∀ st, I st →
    (xs.all P = true → ∃ st', forD xs f st = .nx st' ∧ I st') ∧ (xs.all P = false → forD xs f st = .rt d)
  | [], _, st, hI => ⟨fun _ => ⟨st, rfl, hI⟩, fun h => (by cases h)⟩
  | x :: xs, h, st, hI => by
    obtain ⟨h1, h2⟩ := h x (List.mem_cons_self ..) st hI
    have ih := forD_all (f := f) (d := d) (P := P) (I := I) (xs := xs) fun y hy => h y (List.mem_cons_of_mem _ hy)
    rw [List.all_cons, forD_cons]
    cases hx : P x with
    | true =>
      obtain ⟨st', e, hI'⟩ := h1 hx
      rw [e]
      exact ih st' hI'
    | false =>
      rw [h2 hx]
      exact ⟨fun z => (by cases z), fun _ => rfl⟩
/-- the same, to the def's end -/
theorem fin_search {f : D → St → Cf} {d : D} {P : D → Bool} {I : St → Prop} {xs : List D} {st : St} {k : St → Cf} {v : R D} (h : ∀ x ∈ xs, ∀ st, I st → f x st = .rt d ∧ P x = false ∨ ∃ st', f x st = .nx st' ∧ I st' ∧ P x = true) (hI : I st)
    (hk : ∀ st', I st' → fin (k st') = v) : fin (thenC (forD xs f st) k) = if xs.all P then v else .ok d := by
  obtain ⟨h1, h2⟩ := forD_all (f := f) (d := d) (P := P) (I := I) (xs := xs) (fun x hx st hI => ⟨fun hp => by
    rcases h x hx st hI with ⟨_, q⟩ | ⟨st', q1, q2, _⟩
    · rw [hp] at q
      cases q
    · exact ⟨st', q1, q2⟩, fun hp => by
    rcases h x hx st hI with ⟨q, _⟩ | ⟨st', _, _, q⟩
    · exact q
    · rw [hp] at q
      cases q⟩) st hI
  cases ha : xs.all P with
  | true =>
    obtain ⟨st', e, hI'⟩ := h1 ha
    rw [e]
    exact hk st' hI'
  | false =>
    rw [h2 ha]
    rfl
/-- a loop that runs through; J at the items that are left -/
theorem forD_thru {f : D → St → Cf} (J : List D → St → Prop) : ∀ {xs : List D}, (∀ x r st, J (x :: r) st → ∃ st', f x st = .nx st' ∧ J r st') → ∀ st, J xs st → ∃ st', forD xs f st = .nx st' ∧ J [] st'
  | [], _, st, hJ => ⟨st, rfl, hJ⟩
  | x :: xs, h, st, hJ => by
    obtain ⟨st', e, hJ'⟩ := h x xs st hJ
    rw [forD_cons, e]
    exact forD_thru J h st' hJ'
/-- a loop that runs through, then the rest -/
theorem thru {f : D → St → Cf} (J : List D → St → Prop) {xs : List D} {st : St} {k : St → Cf} {r : R D} (h : ∀ x r st, J (x :: r) st → ∃ st', f x st = .nx st' ∧ J r st') (hJ : J xs st) (hk : ∀ st', J [] st' → fin (k st') = r) : fin (thenC (forD xs f st) k) = r := by
  obtain ⟨st', e, hJ'⟩ := forD_thru J h st hJ
  rw [e]
  exact hk st' hJ'
theorem comp_ok {f : D → R (Option D)} {g : D → Option D} : ∀ {xs : List D}, (∀ x ∈ xs, f x = .ok (g x)) → compD xs f = .ok (xs.filterMap g)
  | [], _ => rfl
  | x :: xs, h => by
    have ih := comp_ok (f := f) (g := g) (xs := xs) fun y hy => h y (List.mem_cons_of_mem _ hy)
    have hx := h x (List.mem_cons_self ..)
    show (match f x with
      | .ok o => (compD xs f).bind fun r => .ok (match o with
        | some d => d :: r
        | none => r)
      | _ => .no) = _
    rw [hx, ih]
    cases hg : g x with
    | none =>
      rw [List.filterMap_cons_none hg]
      rfl
    | some d =>
      rw [List.filterMap_cons_some hg]
      rfl
/-! tuples and lists of ints -/
def ti (xs : List Int) : D := .tup (xs.map D.int)
def li (xs : List Int) : D := .lst (xs.map D.int)
/-- the i-th -/
def nth (xs : List Int) (i : Nat) : Int := xs.getD i 0
theorem map_at {xs : List Int} {i : Nat} (h : i < xs.length) : (xs.map D.int)[i]? = some (.int (nth xs i)) := by
  unfold nth
  rw [List.getElem?_map, List.getElem?_eq_getElem h, List.getD_eq_getElem?_getD, List.getElem?_eq_getElem h]
  rfl
theorem atI_ti {xs : List Int} {i : Nat} (h : i < xs.length) : atI (xs.map D.int) (i : Int) = some (.int (nth xs i)) := by
  rw [atI_nat, map_at h]
/-- xs at least ys, place by place -/
def geB (xs ys : List Int) : Bool := (List.range xs.length).all fun i => decide (nth ys i ≤ nth xs i)
theorem geB_iff {xs ys : List Int} : geB xs ys = true ↔ ∀ i, i < xs.length → nth ys i ≤ nth xs i := by
  unfold geB
  rw [List.all_eq_true]
  exact ⟨fun h i hi => of_decide_eq_true (h i (List.mem_range.mpr hi)), fun h i hi => decide_eq_true (h i (List.mem_range.mp hi))⟩
end Py

namespace Py
/-! steps -/
@[simp] theorem bindG_tup {α : Type} {put : Nat → D → α → α} {a : α} {ps ds} : bindG put (.tup ps) (.tup ds) a = bindGs put ps ds a := rfl
@[simp] theorem bindP_tup' {ps ds} {st : St} : bindP (.tup ps) (.tup ds) st = bindGs putP ps ds st := rfl
@[simp] theorem bin_pow {i j : Int} : binD .pow (.int i) (.int j) = if 0 ≤ j ∧ j ≤ 1000000 ∧ i.natAbs < 2 ^ 64 then .ok (.int (i ^ j.toNat)) else .no := rfl
@[simp] theorem bin_mul_lst {s : List D} {n : Int} : binD .mul (.lst s) (.int n) = if n ≤ (cap : Int) ∧ -(cap : Int) ≤ n ∧ s.length * n.toNat ≤ cap then .ok (.lst (repD s n)) else .no := rfl
@[simp] theorem bin_mul_tup {s : List D} {n : Int} : binD .mul (.tup s) (.int n) = if -1000 ≤ n ∧ n ≤ 1000 ∧ s.length ≤ 1000 ∧ s ≠ [] then .ok (.tup (repD s n)) else .no := rfl
@[simp] theorem len_str {z : List Nat} : biD .len [.str z] = if z.length ≤ cap then .ok (.int z.length) else .no := rfl
@[simp] theorem idx_str {z : List Nat} {i : Int} : idxD (.str z) (.int i) = if z.length ≤ cap then ofO ((Py.atI z i).map fun c => D.str [c]) else .no := rfl
@[simp] theorem slice_str {lo hi : Option Int} {z : List Nat} : sliceD lo hi (.str z) = if z.length ≤ cap then .ok (.str (cutL z lo hi)) else .no := rfl
theorem mul_l {i j : Int} (h : i.natAbs < 2 ^ 64) : mulOk i j = true := by
  unfold mulOk
  rw [decide_eq_true h]
  rfl
theorem mul_r {i j : Int} (h : j.natAbs < 2 ^ 64) : mulOk i j = true := by
  unfold mulOk
  rw [decide_eq_true h, Bool.or_true]
theorem mulOk_1 {x : Int} : mulOk x 1 = true := by
  unfold mulOk
  simp
theorem mulOk_m {x : Int} : mulOk x (-1) = true := by
  unfold mulOk
  simp
theorem okc {n : Nat} (h : n ≤ 100000) : (n : Int) ≤ (cap : Int) ∧ -bigI ≤ (n : Int) := by
  unfold cap bigI
  omega
theorem stepP {Pr : R D → Prop} {A : Cf} {K : St → Cf} {I : St → Prop} (hA : ∃ st', A = .nx st' ∧ I st') (hK : ∀ st', I st' → Pr (fin (K st'))) : Pr (fin (thenC A K)) := by
  obtain ⟨st', e, h⟩ := hA
  rw [e]
  exact hK st' h
@[simp] theorem thenC_id {r : Cf} : thenC r (fun st' => .nx st') = r := by cases r <;> rfl
theorem stepN {A : Cf} {K : St → Cf} {I J : St → Prop} (hA : ∃ st', A = .nx st' ∧ I st') (hK : ∀ st', I st' → ∃ st'', K st' = .nx st'' ∧ J st'') : ∃ st'', thenC A K = .nx st'' ∧ J st'' := by
  obtain ⟨st', e, h⟩ := hA
  rw [e]
  exact hK st' h
theorem stepE {A : Cf} {K : St → Cf} {st' : St} (hA : A = .nx st') : thenC A K = K st' := by
  rw [hA]
  rfl
theorem forD_to {f : D → St → Cf} {I : St → Prop} (J : List D → St → Prop) {xs : List D} {st : St} (h : ∀ x r st, J (x :: r) st → ∃ st', f x st = .nx st' ∧ J r st') (hJ : J xs st) (hI : ∀ st', J [] st' → I st') : ∃ st', forD xs f st = .nx st' ∧ I st' := by
  obtain ⟨st', e, q⟩ := forD_thru J h st hJ
  exact ⟨st', e, hI st' q⟩
theorem fin_go {f : D → St → Cf} {I : St → Prop} {xs : List D} {st : St} {k : St → Cf} {v : R D} (h : ∀ x ∈ xs, ∀ st, I st → ∃ st', f x st = .nx st' ∧ I st') (hI : I st) (hk : ∀ st', I st' → fin (k st') = v) : fin (thenC (forD xs f st) k) = v := by
  have e := fin_search (f := f) (d := .non) (P := fun _ => true) (I := I) (xs := xs) (st := st) (k := k) (v := v) (fun x hx st hI => by
    obtain ⟨st', h1, h2⟩ := h x hx st hI
    exact .inr ⟨st', h1, h2, rfl⟩) hI hk
  rw [e, if_pos]
  exact List.all_eq_true.mpr fun _ _ => rfl
/-- a loop that goes through, whatever comes then -/
theorem for_go {f : D → St → Cf} {I : St → Prop} {xs : List D} {st : St} (h : ∀ x ∈ xs, ∀ st, I st → ∃ st', f x st = .nx st' ∧ I st') (hI : I st) : ∃ st', forD xs f st = .nx st' ∧ I st' := by
  have := forD_all (f := f) (d := .non) (P := fun _ => true) (I := I) (xs := xs) (fun x hx st hI => ⟨fun _ => h x hx st hI, fun q => by cases q⟩) st hI
  exact this.1 (List.all_eq_true.mpr fun _ _ => rfl)
/-- a loop that goes through; S: what stands when these items are done -/
theorem for_acc {α : Type} {k : α → D} {f : D → St → Cf} (S : List α → St → Prop) {xs : List α} {st : St} (h : ∀ done a rest, xs = done ++ a :: rest → ∀ st, S done st → ∃ st', f (k a) st = .nx st' ∧ S (done ++ [a]) st') (h0 : S [] st) : ∃ st', forD (xs.map k) f st = .nx st' ∧ S xs st' := by
  have : ∀ (rest done : List α) (st : St), xs = done ++ rest → S done st → ∃ st', forD (rest.map k) f st = .nx st' ∧ S xs st' := by
    intro rest
    induction rest with
    | nil =>
      intro done st e q
      rw [List.append_nil] at e
      rw [e]
      exact ⟨st, rfl, q⟩
    | cons a rest ih =>
      intro done st e q
      obtain ⟨st', e1, q1⟩ := h done a rest e st q
      obtain ⟨st2, e2, q2⟩ := ih (done ++ [a]) st' (by rw [e, List.append_assoc]; rfl) q1
      refine ⟨st2, ?_, q2⟩
      rw [List.map_cons, forD_cons, e1]
      exact e2
  exact this xs [] st rfl h0
theorem fin_acc {α : Type} {k : α → D} {f : D → St → Cf} (S : List α → St → Prop) {xs : List α} {st : St} {K : St → Cf} {r : R D} (h : ∀ done a rest, xs = done ++ a :: rest → ∀ st, S done st → ∃ st', f (k a) st = .nx st' ∧ S (done ++ [a]) st') (h0 : S [] st) (hk : ∀ st', S xs st' → fin (K st') = r) : fin (thenC (forD (xs.map k) f st) K) = r := by
  obtain ⟨st', e, q⟩ := for_acc S h h0
  rw [e]
  exact hk st' q
theorem acc_to {α : Type} {k : α → D} {f : D → St → Cf} {I : St → Prop} (S : List α → St → Prop) {xs : List α} {st : St} (h : ∀ done a rest, xs = done ++ a :: rest → ∀ st, S done st → ∃ st', f (k a) st = .nx st' ∧ S (done ++ [a]) st') (h0 : S [] st) (hI : ∀ st', S xs st' → I st') : ∃ st', forD (xs.map k) f st = .nx st' ∧ I st' := by
  obtain ⟨st', e, q⟩ := for_acc S h h0
  exact ⟨st', e, hI st' q⟩
/-- the place of an item of a range -/
theorem range_at {n : Nat} {done rest : List Nat} {i : Nat} (e : List.range n = done ++ i :: rest) : done.length = i ∧ i < n := by
  have h1 := congrArg (fun z => z[done.length]?) e
  simp only [List.getElem?_append_right (Nat.le_refl _), Nat.sub_self, List.getElem?_cons_zero] at h1
  obtain ⟨h2, h3⟩ := List.getElem?_eq_some_iff.mp h1
  have h4 : done.length = i := by simpa using h3
  have h5 : done.length < n := by simpa using h2
  exact ⟨h4, by omega⟩
theorem all_go {β : Type} {Φ : Cf → β} {f : D → St → Cf} {I : St → Prop} {xs : List D} {st : St} {k : St → Cf} {v : β} (h : ∀ x ∈ xs, ∀ st, I st → ∃ st', f x st = .nx st' ∧ I st') (hI : I st) (hk : ∀ st', I st' → Φ (k st') = v) : Φ (thenC (forD xs f st) k) = v := by
  obtain ⟨st', e, q⟩ := for_go h hI
  rw [e]
  exact hk st' q
/-! lists -/
theorem atI_last {α : Type} {xs : List α} {t : α} : Py.atI (xs ++ [t]) (-1) = some t := by
  unfold Py.atI Py.ixN
  rw [if_neg (by decide), List.length_append, if_pos (by simp; omega)]
  show (xs ++ [t])[((-1 : Int) + ((xs.length + 1 : Nat) : Int)).toNat]? = some t
  have : ((-1 : Int) + ((xs.length + 1 : Nat) : Int)).toNat = xs.length := by omega
  rw [this]
  simp
theorem atS_last {n : Nat} {k : Nat → Cf} : atS (n + 1) (.int (-1)) k = k n := by
  have : Py.ixN (n + 1) (-1) = some n := by
    unfold Py.ixN
    rw [if_neg (by decide), if_pos (by omega)]
    congr 1
    omega
  unfold atS
  simp only [this]
theorem ixN_nat {n p : Nat} (h : p < n) : ixN n (p : Int) = some p := by
  unfold ixN
  rw [if_pos (by omega), if_pos (by omega)]
  rfl
theorem atS_nat {n p : Nat} (h : p < n) {k : Nat → Cf} : atS n (.int (p : Int)) k = k p := by
  unfold atS
  simp only [ixN_nat h]
theorem atS_0 {n : Nat} (h : 0 < n) {k : Nat → Cf} : atS n (.int 0) k = k 0 := atS_nat (p := 0) h
theorem atI_get {α : Type} {xs : List α} {i : Nat} (h : i < xs.length) : atI xs (i : Int) = some xs[i] := by
  rw [atI_nat, List.getElem?_eq_getElem h]
theorem nth_mem {xs : List Int} {i : Nat} (h : i < xs.length) : nth xs i ∈ xs := by
  unfold nth
  rw [List.getD_eq_getElem?_getD, List.getElem?_eq_getElem h]
  exact List.getElem_mem h
theorem nth_get {xs : List Int} {i : Nat} (h : i < xs.length) : nth xs i = xs[i] := by
  unfold nth
  rw [List.getD_eq_getElem?_getD, List.getElem?_eq_getElem h]
  rfl
theorem nth_app {xs : List Int} {x : Int} {i : Nat} : nth (xs ++ [x]) i = if i < xs.length then nth xs i else if i = xs.length then x else 0 := by
  unfold nth
  by_cases h : i < xs.length
  · rw [if_pos h, List.getD_eq_getElem?_getD, List.getElem?_append_left h, List.getD_eq_getElem?_getD]
  · rw [if_neg h, List.getD_eq_getElem?_getD, List.getElem?_append_right (by omega)]
    by_cases e : i = xs.length
    · subst e
      simp
    · rw [if_neg e]
      have : i - xs.length ≠ 0 := by omega
      rw [List.getElem?_eq_none (by simp; omega)]
      rfl
theorem nth_set {xs : List Int} {p i : Nat} {x : Int} (h : p < xs.length) : nth (xs.set p x) i = if i = p then x else nth xs i := by
  unfold nth
  rw [List.getD_eq_getElem?_getD, List.getD_eq_getElem?_getD, List.getElem?_set]
  by_cases e : p = i
  · subst e
    rw [if_pos rfl, if_pos h, if_pos rfl]
    rfl
  · rw [if_neg e, if_neg fun z => e z.symm]
theorem nth_range {F : Nat → Int} {n i : Nat} (h : i < n) : nth ((List.range n).map F) i = F i := by
  unfold nth
  simp [List.getElem?_map, List.getElem?_range h]
theorem nth_ext {xs ys : List Int} (hl : xs.length = ys.length) (h : ∀ i, i < xs.length → nth xs i = nth ys i) : xs = ys := by
  refine List.ext_getElem hl fun i h1 h2 => ?_
  have := h i h1
  rwa [nth_get h1, nth_get h2] at this
@[simp] theorem len_ti {xs : List Int} : biD .len [ti xs] = .ok (.int xs.length) := by
  show R.ok (D.int ((xs.map D.int).length : Nat)) = _
  rw [List.length_map]
@[simp] theorem len_li {xs : List Int} : biD .len [li xs] = .ok (.int xs.length) := by
  show R.ok (D.int ((xs.map D.int).length : Nat)) = _
  rw [List.length_map]
@[simp] theorem tuple_li {xs : List Int} : biD .tuple [li xs] = .ok (ti xs) := rfl
@[simp] theorem tuple_ti {xs : List Int} : biD .tuple [ti xs] = .ok (ti xs) := rfl
@[simp] theorem list_ti {xs : List Int} : biD .list [ti xs] = .ok (li xs) := rfl
@[simp] theorem list_li {xs : List Int} : biD .list [li xs] = .ok (li xs) := rfl
@[simp] theorem seq_ti {xs : List Int} : seqD (ti xs) = .ok (xs.map D.int) := rfl
@[simp] theorem seq_li {xs : List Int} : seqD (li xs) = .ok (xs.map D.int) := rfl
theorem idx_ti {xs : List Int} {i : Nat} (h : i < xs.length) : idxD (ti xs) (.int (i : Int)) = .ok (.int (nth xs i)) := by
  show ofO (atI _ _) = _
  rw [atI_ti h]
  rfl
theorem idx_li {xs : List Int} {i : Nat} (h : i < xs.length) : idxD (li xs) (.int (i : Int)) = .ok (.int (nth xs i)) := by
  show ofO (atI _ _) = _
  rw [atI_ti h]
  rfl
theorem ti_kept (xs : List Int) : (ti xs).kept = true := by
  show D.kepts (xs.map D.int) = true
  induction xs with
  | nil => rfl
  | cons x xs ih => exact ih
/-! comprehensions -/
theorem comp_filter {P : Nat → Bool} {f : D → R (Option D)} {n : Nat} (h : ∀ i, i < n → f (.int (i : Int)) = .ok (if P i then some (.int (i : Int)) else none)) :
    compD ((List.range n).map fun (i : Nat) => D.int (i : Int)) f = .ok (((List.range n).filter P).map fun (i : Nat) => D.int (i : Int)) := by
  rw [comp_ok (g := fun x => match x with | .int i => if P i.toNat then some x else none | _ => none) fun x hx => by
    obtain ⟨i, hi, rfl⟩ := List.mem_map.mp hx
    simp [h i (List.mem_range.mp hi)]]
  congr 1
  generalize List.range n = l
  induction l with
  | nil => rfl
  | cons a l ih =>
    rw [List.map_cons, List.filterMap_cons]
    by_cases hp : P a = true
    · rw [List.filter_cons_of_pos hp]
      simp [hp, ih]
    · rw [List.filter_cons_of_neg hp]
      simp [hp, ih]
theorem comp_id {l : List D} : compD l (fun x => R.ok (some x)) = .ok l := by
  rw [comp_ok (g := some) fun _ _ => rfl]
  rw [List.filterMap_some]
theorem comp_map {α β : Type} {k : α → D} {m : β → D} {F : α → β} {f : D → R (Option D)} {xs : List α} (h : ∀ a ∈ xs, f (k a) = .ok (some (m (F a)))) : compD (xs.map k) f = .ok ((xs.map F).map m) := by
  induction xs with
  | nil => rfl
  | cons a xs ih =>
    have ih := ih fun b hb => h b (List.mem_cons_of_mem _ hb)
    show (match f (k a) with
      | .ok o => (compD (xs.map k) f).bind fun r => .ok (match o with
        | some d => d :: r
        | none => r)
      | _ => .no) = _
    rw [h a (List.mem_cons_self ..), ih]
    rfl
theorem comp_filt {α : Type} {k : α → D} {P : α → Bool} {f : D → R (Option D)} {xs : List α} (h : ∀ a ∈ xs, f (k a) = .ok (if P a then some (k a) else none)) : compD (xs.map k) f = .ok ((xs.filter P).map k) := by
  induction xs with
  | nil => rfl
  | cons a xs ih =>
    have ih := ih fun b hb => h b (List.mem_cons_of_mem _ hb)
    show (match f (k a) with
      | .ok o => (compD (xs.map k) f).bind fun r => .ok (match o with
        | some d => d :: r
        | none => r)
      | _ => .no) = _
    rw [h a (List.mem_cons_self ..), ih]
    by_cases hp : P a = true
    · rw [List.filter_cons_of_pos hp, if_pos hp]
      rfl
    · rw [List.filter_cons_of_neg hp, if_neg hp]
      rfl
theorem comp_fm {α β : Type} {k : α → D} {m : β → D} {F : α → β} {P : α → Bool} {f : D → R (Option D)} {xs : List α} (h : ∀ a ∈ xs, f (k a) = .ok (if P a then some (m (F a)) else none)) : compD (xs.map k) f = .ok (((xs.filter P).map F).map m) := by
  induction xs with
  | nil => rfl
  | cons a xs ih =>
    have ih := ih fun b hb => h b (List.mem_cons_of_mem _ hb)
    show (match f (k a) with
      | .ok o => (compD (xs.map k) f).bind fun r => .ok (match o with
        | some d => d :: r
        | none => r)
      | _ => .no) = _
    rw [h a (List.mem_cons_self ..), ih]
    by_cases hp : P a = true
    · rw [List.filter_cons_of_pos hp, if_pos hp]
      rfl
    · rw [List.filter_cons_of_neg hp, if_neg hp]
      rfl
theorem comp_ints {F : Nat → Int} {f : D → R (Option D)} {n : Nat} (h : ∀ i, i < n → f (.int (i : Int)) = .ok (some (.int (F i)))) : compD ((List.range n).map fun (i : Nat) => D.int (i : Int)) f = .ok (((List.range n).map F).map D.int) :=
  comp_map fun i hi => h i (List.mem_range.mp hi)
theorem comp_li {F : Nat → Int} {f : D → R (Option D)} {n : Nat} (h : ∀ i, i < n → f (.int (i : Int)) = .ok (some (.int (F i)))) : R.map D.lst (compD ((List.range n).map fun (i : Nat) => D.int (i : Int)) f) = .ok (li ((List.range n).map F)) := by
  rw [comp_ints h]
  rfl
theorem comp2_map {α : Type} {k : α → D} {F : α → List D} {f : D → R (List D)} {xs : List α} (h : ∀ a ∈ xs, f (k a) = .ok (F a)) : compD2 (xs.map k) f = .ok (xs.flatMap F) := by
  induction xs with
  | nil => rfl
  | cons a xs ih =>
    have ih := ih fun b hb => h b (List.mem_cons_of_mem _ hb)
    show (match f (k a) with
      | .ok o => (compD2 (xs.map k) f).bind fun r => .ok (o ++ r)
      | _ => .no) = _
    rw [h a (List.mem_cons_self ..), ih]
    rfl
theorem rangeD_map {lo hi : Int} {n : Nat} (h : hi - lo = (n : Int)) : rangeD lo hi = (List.range n).map fun (i : Nat) => D.int (lo + (i : Int)) := by
  unfold rangeD
  rw [h, Int.toNat_natCast]
/-! zip, pairs -/
theorem zip_ti {xs ys : List Int} (hl : xs.length = ys.length) : zipD (xs.map D.int) (ys.map D.int) = (List.range xs.length).map fun i => D.tup [.int (nth xs i), .int (nth ys i)] := by
  induction xs generalizing ys with
  | nil => cases ys <;> rfl
  | cons x xs ih =>
    cases ys with
    | nil => cases hl
    | cons y ys =>
      show D.tup [.int x, .int y] :: zipD (xs.map D.int) (ys.map D.int) = _
      rw [ih (by simpa using hl), List.length_cons, List.range_succ_eq_map, List.map_cons, List.map_map]
      rfl
theorem allInts_map : ∀ xs : List Int, allInts (xs.map D.int) = some xs
  | [] => rfl
  | x :: xs => by
    show (match isInt (.int x), allInts (xs.map D.int) with
      | some i, some r => some (i :: r)
      | _, _ => none) = _
    rw [allInts_map xs]
    rfl
@[simp] theorem sum_ti {xs : List Int} : biD .sum [ti xs] = .ok (.int xs.sum) := by
  show (match allInts (xs.map D.int) with
    | some ns => R.ok (D.int ns.sum)
    | none => .no) = _
  rw [allInts_map]
@[simp] theorem sum_li {xs : List Int} : biD .sum [li xs] = .ok (.int xs.sum) := by
  show (match allInts (xs.map D.int) with
    | some ns => R.ok (D.int ns.sum)
    | none => .no) = _
  rw [allInts_map]
theorem eq_ti : ∀ {xs ys : List Int}, D.eq (ti xs) (ti ys) = (xs == ys)
  | [], [] => rfl
  | [], _ :: _ => rfl
  | _ :: _, [] => rfl
  | x :: xs, y :: ys => by
    have ih := eq_ti (xs := xs) (ys := ys)
    show (x == y && D.eq (ti xs) (ti ys)) = (x == y && xs == ys)
    rw [ih]
theorem key_ti {xs : List Int} : keyD (ti xs) = true := by
  show (xs.map D.int).all keyF = true
  rw [List.all_eq_true]
  intro d hd
  obtain ⟨i, _, rfl⟩ := List.mem_map.mp hd
  rfl
theorem any_ti {cs : List (List Int)} {c : List Int} : ((cs.map ti).any fun z => D.eq z (ti c)) = cs.contains c := by
  rw [List.any_map]
  induction cs with
  | nil => rfl
  | cons x cs ih =>
    rw [List.any_cons, List.contains_cons, ih]
    show (D.eq (ti x) (ti c) || _) = _
    rw [eq_ti, show (x == c) = (c == x) from Bool.eq_iff_iff.mpr (by rw [beq_iff_eq, beq_iff_eq]; exact ⟨Eq.symm, Eq.symm⟩)]
theorem allT_ti {cs : List (List Int)} : (cs.map ti).all isTup = true := by
  rw [List.all_eq_true]
  intro d hd
  obtain ⟨i, _, rfl⟩ := List.mem_map.mp hd
  rfl
theorem dictOk_ti {cs : List (List Int)} {c : List Int} (h : cs ≠ []) : dictOk (cs.map ti) (ti c) = true := by
  unfold dictOk
  have h1 : (cs.map ti).isEmpty = false := by
    cases cs with
    | nil => exact absurd rfl h
    | cons _ _ => rfl
  rw [h1]
  show (true && (keyD (ti c) && (cs.map ti).all isTup)) = true
  rw [key_ti, allT_ti]
  rfl
/-- 0 .. n - 1 as data -/
def ixs (n : Nat) : List D := (List.range n).map fun (i : Nat) => D.int (i : Int)
theorem in_dict {cs : List (List Int)} {vs : List D} {c : List Int} (h : cs ≠ []) : inD (ti c) (.dict (cs.map ti) vs) = .ok (cs.contains c) := by
  show (if dictOk (cs.map ti) (ti c) then R.ok ((cs.map ti).any fun z => D.eq z (ti c)) else .no) = _
  rw [if_pos (dictOk_ti h), any_ti]
theorem enum_cons {n : Nat} {x : D} {xs : List D} : enumD n (x :: xs) = .tup [.int n, x] :: enumD (n + 1) xs := rfl
/-- a dict of distinct cases by their numbers -/
theorem compP_num {f : D → R (Option (D × D))} (h : ∀ (i : Nat) (c : List Int), f (.tup [.int i, ti c]) = .ok (some (ti c, .int i))) : ∀ (rest done : List (List Int)), (done ++ rest).Nodup → (done ++ rest).length ≤ cap → done ++ rest ≠ [] →
    compP (enumD done.length (rest.map ti)) f (done.map ti) (ixs done.length) = .ok ((done ++ rest).map ti, ixs (done ++ rest).length)
  | [], done, hn, hc, he => by
    rw [List.append_nil] at hc he ⊢
    show (if (done.map ti).isEmpty || decide (cap < (done.map ti).length) then R.no else .ok (done.map ti, ixs done.length)) = _
    have h1 : (done.map ti).isEmpty = false := by
      cases done with
      | nil => exact absurd rfl he
      | cons _ _ => rfl
    rw [h1, List.length_map, decide_eq_false (by omega)]
    rfl
  | c :: rest, done, hn, hc, he => by
    have hm : done.contains c = false := by
      cases q : done.contains c with
      | false => rfl
      | true =>
        exact absurd rfl ((List.nodup_append.mp hn).2.2 c (List.contains_iff_mem.mp q) c (List.mem_cons_self ..))
    have pk : putKV (ti c) (.int (done.length : Nat)) (done.map ti) (ixs done.length) = ((done ++ [c]).map ti, ixs (done ++ [c]).length) := by
      unfold putKV
      rw [any_ti, hm, if_neg Bool.false_ne_true, List.map_append, List.length_append]
      unfold ixs
      show (_, _) = (_, (List.range (done.length + 1)).map _)
      rw [List.range_succ, List.map_append]
      rfl
    have e2 : done ++ c :: rest = (done ++ [c]) ++ rest := by
      rw [List.append_assoc]
      rfl
    have ih := compP_num h rest (done ++ [c]) (by rw [← e2]; exact hn) (by rw [← e2]; exact hc) (by rw [← e2]; exact he)
    rw [List.map_cons, enum_cons]
    show (match f (.tup [.int (done.length : Nat), ti c]) with
      | .ok (some (k, v)) => if isTup k && keyD k then compP (enumD (done.length + 1) (rest.map ti)) f (putKV k v (done.map ti) (ixs done.length)).1 (putKV k v (done.map ti) (ixs done.length)).2 else .no
      | .ok none => compP (enumD (done.length + 1) (rest.map ti)) f (done.map ti) (ixs done.length)
      | _ => .no) = _
    rw [h]
    show (if isTup (ti c) && keyD (ti c) then compP (enumD (done.length + 1) (rest.map ti)) f (putKV (ti c) (.int (done.length : Nat)) (done.map ti) (ixs done.length)).1 (putKV (ti c) (.int (done.length : Nat)) (done.map ti) (ixs done.length)).2 else .no) = _
    rw [pk, key_ti, e2, ← ih, List.length_append]
    rfl
theorem compP_num0 {f : D → R (Option (D × D))} {cs : List (List Int)} (h : ∀ (i : Nat) (c : List Int), f (.tup [.int i, ti c]) = .ok (some (ti c, .int i))) (hn : cs.Nodup) (hc : cs.length ≤ cap) (he : cs ≠ []) : compP (enumD 0 (cs.map ti)) f [] [] = .ok (cs.map ti, ixs cs.length) :=
  compP_num h cs [] hn hc he
theorem enum_ti' : ∀ (xs : List Int) (n : Nat), enumD n (xs.map D.int) = (List.range xs.length).map fun i => D.tup [.int ((n + i : Nat) : Int), .int (nth xs i)]
  | [], _ => rfl
  | x :: xs, n => by
    have ih := enum_ti' xs (n + 1)
    rw [List.map_cons, enum_cons, ih, List.length_cons, List.range_succ_eq_map, List.map_cons, List.map_map]
    congr 1
    refine List.map_congr_left fun i hi => ?_
    show D.tup [.int ((n + 1 + i : Nat) : Int), .int (nth xs i)] = D.tup [.int ((n + (i + 1) : Nat) : Int), .int (nth (x :: xs) (i + 1))]
    rw [show n + 1 + i = n + (i + 1) by omega]
    rfl
theorem enum_ti {xs : List Int} : enumD 0 (xs.map D.int) = (List.range xs.length).map fun (i : Nat) => D.tup [.int (i : Int), .int (nth xs i)] := by
  rw [enum_ti' xs 0]
  refine List.map_congr_left fun i hi => ?_
  rw [Nat.zero_add]
theorem good_ti {n : Nat} {xs : List Int} : (ti xs).good (n + 1) = true := by
  show (decide (0 < n + 1) && D.goods n (xs.map D.int)) = true
  rw [decide_eq_true (Nat.zero_lt_succ n), Bool.true_and]
  induction xs with
  | nil => rfl
  | cons x xs ih => exact ih
theorem goods_ti {n : Nat} {cs : List (List Int)} : D.goods (n + 1) (cs.map ti) = true := by
  induction cs with
  | nil => rfl
  | cons x xs ih =>
    show ((ti x).good (n + 1) && D.goods (n + 1) (xs.map ti)) = true
    rw [good_ti, ih]
    rfl
theorem cmp_eq_ti {a b : List Int} : cmpD .eq (ti a) (ti b) = .ok (a == b) := by
  show (if (ti a).good 8 && (ti b).good 8 then R.ok (D.eq (ti a) (ti b)) else .no) = _
  rw [good_ti, good_ti, eq_ti]
  rfl
theorem in_lst_ti {cs : List (List Int)} {c : List Int} : inD (ti c) (.lst (cs.map ti)) = .ok (cs.contains c) := by
  show (if (ti c).good 8 && D.goods 8 (cs.map ti) then R.ok ((cs.map ti).any fun z => D.eq z (ti c)) else .no) = _
  rw [good_ti, goods_ti, any_ti]
  rfl
theorem cmp_nin_ti {cs : List (List Int)} {c : List Int} : cmpD .nin (ti c) (.lst (cs.map ti)) = .ok (!cs.contains c) := by
  show (inD (ti c) (.lst (cs.map ti))).map not = _
  rw [in_lst_ti]
  rfl
theorem sum_set : ∀ {xs : List Int} {p : Nat} {v : Int}, p < xs.length → (xs.set p v).sum = xs.sum - nth xs p + v
  | [], _, _, h => absurd h (Nat.not_lt_zero _)
  | x :: xs, 0, v, _ => by
    show (v :: xs).sum = (x :: xs).sum - x + v
    rw [List.sum_cons, List.sum_cons]
    omega
  | x :: xs, p + 1, v, h => by
    have ih := sum_set (xs := xs) (p := p) (v := v) (by simpa using h)
    show (x :: xs.set p v).sum = (x :: xs).sum - nth xs p + v
    rw [List.sum_cons, List.sum_cons, ih]
    omega
theorem sum_le : ∀ {xs ys : List Int}, xs.length = ys.length → (∀ i, i < xs.length → nth xs i ≤ nth ys i) → xs.sum ≤ ys.sum ∧ (xs.sum = ys.sum → xs = ys)
  | [], [], _, _ => ⟨Int.le_refl _, fun _ => rfl⟩
  | [], _ :: _, h, _ => by cases h
  | _ :: _, [], h, _ => by cases h
  | x :: xs, y :: ys, h, g => by
    have h0 : x ≤ y := g 0 (Nat.zero_lt_succ _)
    obtain ⟨i1, i2⟩ := sum_le (xs := xs) (ys := ys) (by simpa using h) fun i hi => g (i + 1) (by simpa using hi)
    rw [List.sum_cons, List.sum_cons]
    refine ⟨by omega, fun e => ?_⟩
    rw [i2 (by omega), show x = y by omega]
theorem take_sum {xs : List Int} {p : Nat} (h : p < xs.length) : (xs.take (p + 1)).sum = (xs.take p).sum + nth xs p := by
  rw [List.take_succ_eq_append_getElem h, List.sum_append, nth_get h]
  simp
/-! ascending -/
def lx (a b : List Int) : Prop := ∃ i, (∀ j, j < i → nth a j = nth b j) ∧ nth a i < nth b i
theorem lx_irr {a : List Int} : ¬ lx a a := fun ⟨_, _, h⟩ => Int.lt_irrefl _ h
theorem lx_asym {a b : List Int} : lx a b → ¬ lx b a := fun ⟨i, h1, h2⟩ ⟨j, g1, g2⟩ => by
  by_cases c : i < j
  · have := g1 i c
    omega
  · by_cases c2 : j < i
    · have := h1 j c2
      omega
    · have : i = j := by omega
      subst this
      omega
theorem asc_eq : ∀ {l m : List (List Int)}, l.Pairwise lx → m.Pairwise lx → (∀ x, x ∈ l ↔ x ∈ m) → l = m
  | [], [], _, _, _ => rfl
  | [], y :: m, _, _, h => absurd ((h y).mpr (List.mem_cons_self ..)) (by simp)
  | x :: l, [], _, _, h => absurd ((h x).mp (List.mem_cons_self ..)) (by simp)
  | x :: l, y :: m, h1, h2, h => by
    obtain ⟨a1, a2⟩ := List.pairwise_cons.mp h1
    obtain ⟨b1, b2⟩ := List.pairwise_cons.mp h2
    have e : x = y := by
      rcases List.mem_cons.mp ((h x).mp (List.mem_cons_self ..)) with q | q
      · exact q
      · rcases List.mem_cons.mp ((h y).mpr (List.mem_cons_self ..)) with r | r
        · exact r.symm
        · exact absurd (b1 x q) (lx_asym (a1 y r))
    subst e
    rw [asc_eq a2 b2 fun z => ⟨fun hz => by
      rcases List.mem_cons.mp ((h z).mp (List.mem_cons_of_mem _ hz)) with q | q
      · subst q
        exact absurd (a1 z hz) lx_irr
      · exact q, fun hz => by
      rcases List.mem_cons.mp ((h z).mpr (List.mem_cons_of_mem _ hz)) with q | q
      · subst q
        exact absurd (b1 z hz) lx_irr
      · exact q⟩]
/-! limits, cases -/
def Case (L c : List Int) : Prop := c.length = L.length ∧ ∀ i, i < L.length → 0 ≤ nth c i ∧ nth c i ≤ nth L i
/-- limits: 5 at most, from 1 to 3 -/
def Lim (L : List Int) : Prop := L.length ≤ 5 ∧ ∀ x ∈ L, 1 ≤ x ∧ x ≤ 3
theorem Lim.at {L : List Int} (h : Lim L) {i : Nat} (hi : i < L.length) : 1 ≤ nth L i ∧ nth L i ≤ 3 := h.2 _ (nth_mem hi)
/-- 0 .. l -/
def upto (l : Int) : List Int := (List.range (l + 1).toNat).map fun (i : Nat) => (i : Int)
theorem mem_upto {l v : Int} : v ∈ upto l ↔ 0 ≤ v ∧ v ≤ l := by
  unfold upto
  rw [List.mem_map]
  constructor
  · rintro ⟨i, hi, rfl⟩
    have := List.mem_range.mp hi
    omega
  · intro h
    exact ⟨v.toNat, List.mem_range.mpr (by omega), by omega⟩
theorem upto_D {l : Int} : rangeD 0 (l + 1) = (upto l).map D.int := by
  unfold rangeD upto
  rw [List.map_map]
  simp
theorem upto_D' {l : Int} : rangeD 0 l = (upto (l - 1)).map D.int := by
  have := upto_D (l := l - 1)
  rwa [Int.sub_add_cancel] at this
theorem flat_len {α β : Type} {f : α → List β} {k : Nat} : ∀ {xs : List α}, (∀ a ∈ xs, (f a).length ≤ k) → (xs.flatMap f).length ≤ k * xs.length
  | [], _ => Nat.zero_le _
  | x :: xs, h => by
    have h1 := h x (List.mem_cons_self ..)
    have h2 := flat_len (f := f) (k := k) (xs := xs) fun a ha => h a (List.mem_cons_of_mem _ ha)
    rw [List.flatMap_cons, List.length_append, List.length_cons, Nat.mul_succ]
    omega
def grow (cs : List (List Int)) (l : Int) : List (List Int) := cs.flatMap fun c => (upto l).map fun v => c ++ [v]
/-- all cases -/
def allC (L : List Int) : List (List Int) := L.foldl grow [[]]
theorem allC_snoc {L : List Int} {l : Int} : allC (L ++ [l]) = grow (allC L) l := by
  unfold allC
  rw [List.foldl_append]
  rfl
theorem list_snoc {α : Type} {P : List α → Prop} (h0 : P []) (h1 : ∀ l a, P l → P (l ++ [a])) (l : List α) : P l := by
  have : ∀ n, ∀ l : List α, l.length = n → P l := by
    intro n
    induction n with
    | zero =>
      intro l hl
      rw [List.length_eq_zero_iff.mp hl]
      exact h0
    | succ n ih =>
      intro l hl
      rcases List.eq_nil_or_concat l with e | ⟨r, a, e⟩
      · rw [e] at hl
        cases hl
      · rw [List.concat_eq_append] at e
        subst e
        exact h1 r a (ih r (by simpa using hl))
  exact this _ l rfl
theorem mem_allC {L : List Int} : ∀ {c : List Int}, c ∈ allC L ↔ Case L c := by
  refine list_snoc (P := fun L => ∀ {c : List Int}, c ∈ allC L ↔ Case L c) ?_ ?_ L
  · intro c
    show c ∈ [[]] ↔ _
    rw [List.mem_singleton]
    constructor
    · rintro rfl
      exact ⟨rfl, fun i hi => absurd hi (Nat.not_lt_zero _)⟩
    · intro h
      exact List.length_eq_zero_iff.mp h.1
  · intro L l ih c
    rw [allC_snoc]
    unfold grow
    rw [List.mem_flatMap]
    constructor
    · rintro ⟨c', h1, h2⟩
      obtain ⟨v, hv, rfl⟩ := List.mem_map.mp h2
      obtain ⟨q1, q2⟩ := ih.mp h1
      have hv := mem_upto.mp hv
      refine ⟨by simp [q1], fun i hi => ?_⟩
      rw [nth_app, nth_app, q1]
      by_cases z : i < L.length
      · rw [if_pos z, if_pos z]
        exact q2 i z
      · have z2 : i = L.length := by
          simp at hi
          omega
        rw [if_neg z, if_neg z, if_pos z2, if_pos z2]
        exact hv
    · rintro ⟨h1, h2⟩
      rcases List.eq_nil_or_concat c with e | ⟨r, a, e⟩
      · subst e
        simp at h1
      · rw [List.concat_eq_append] at e
        subst e
        have hr : r.length = L.length := by simpa using h1
        refine ⟨r, ih.mpr ⟨hr, fun i hi => ?_⟩, List.mem_map.mpr ⟨a, mem_upto.mpr ?_, rfl⟩⟩
        · have := h2 i (by simp; omega)
          rwa [nth_app, nth_app, if_pos (by omega), if_pos hi] at this
        · have := h2 L.length (by simp)
          have a1 : nth (r ++ [a]) L.length = a := by rw [nth_app, hr, if_neg (Nat.lt_irrefl _), if_pos rfl]
          have a2 : nth (L ++ [l]) L.length = l := by rw [nth_app, if_neg (Nat.lt_irrefl _), if_pos rfl]
          rwa [a1, a2] at this
theorem upto_len {l : Int} (h : 0 ≤ l) : (upto l).length = (l + 1).toNat := by
  unfold upto
  rw [List.length_map, List.length_range]
theorem grow_len {cs : List (List Int)} {l : Int} : (grow cs l).length = cs.length * (upto l).length := by
  unfold grow
  induction cs with
  | nil => simp
  | cons c cs ih =>
    rw [List.flatMap_cons, List.length_append, ih, List.length_map, List.length_cons, Nat.succ_mul, Nat.add_comm]
theorem allC_len {L : List Int} (h : ∀ x ∈ L, 1 ≤ x ∧ x ≤ 3) : (allC L).length ≤ 4 ^ L.length ∧ 1 ≤ (allC L).length := by
  revert h
  refine list_snoc (P := fun L => (∀ x ∈ L, 1 ≤ x ∧ x ≤ 3) → (allC L).length ≤ 4 ^ L.length ∧ 1 ≤ (allC L).length) ?_ ?_ L
  · intro _
    exact ⟨Nat.le_refl _, Nat.le_refl _⟩
  · intro L l ih h
    obtain ⟨i1, i2⟩ := ih fun x hx => h x (List.mem_append.mpr (.inl hx))
    have hl := h l (List.mem_append.mpr (.inr (List.mem_singleton.mpr rfl)))
    rw [allC_snoc, grow_len, upto_len (by omega), List.length_append]
    have e : (l + 1).toNat ≤ 4 ∧ 1 ≤ (l + 1).toNat := by omega
    constructor
    · show _ ≤ 4 ^ (L.length + 1)
      rw [Nat.pow_succ]
      exact Nat.mul_le_mul i1 e.1
    · exact Nat.mul_le_mul i2 e.2
theorem allC_ne {L : List Int} (h : Lim L) : allC L ≠ [] := by
  intro e
  have := (allC_len h.2).2
  rw [e] at this
  exact absurd this (by decide)
theorem allC_cap {L : List Int} (h : Lim L) : (allC L).length ≤ 1024 := by
  have := (allC_len h.2).1
  have h5 := h.1
  calc (allC L).length ≤ 4 ^ L.length := this
    _ ≤ 4 ^ 5 := Nat.pow_le_pow_right (by decide) h5
    _ = 1024 := by decide
theorem nodup_upto {l : Int} : (upto l).Nodup := by
  unfold upto
  rw [List.nodup_iff_pairwise_ne, List.pairwise_map]
  refine List.Pairwise.imp ?_ List.nodup_range
  intro a b h e
  exact h (by omega)
theorem nodup_allC {L : List Int} : (allC L).Nodup := by
  refine list_snoc (P := fun L => (allC L).Nodup) ?_ ?_ L
  · show [[]].Nodup
    simp
  · intro L l ih
    rw [allC_snoc]
    have key : ∀ cs : List (List Int), cs.Nodup → (∀ c ∈ cs, c.length = L.length) → (grow cs l).Nodup := by
      intro cs
      induction cs with
      | nil =>
        intro _ _
        exact List.nodup_nil
      | cons c cs ihc =>
        intro h1 h2
        obtain ⟨n1, n2⟩ := List.nodup_cons.mp h1
        show ((upto l).map (fun v => c ++ [v]) ++ grow cs l).Nodup
        rw [List.nodup_append]
        refine ⟨?_, ihc n2 fun c' hc' => h2 c' (List.mem_cons_of_mem _ hc'), ?_⟩
        · rw [List.nodup_iff_pairwise_ne, List.pairwise_map]
          refine List.Pairwise.imp ?_ (nodup_upto (l := l))
          intro a b h e
          exact h (by simpa using e)
        · intro a ha b hb e
          subst e
          obtain ⟨v, _, rfl⟩ := List.mem_map.mp ha
          obtain ⟨c', hc', h3⟩ := List.mem_flatMap.mp hb
          obtain ⟨v', _, e'⟩ := List.mem_map.mp h3
          have : c' = c := by
            have : (c' ++ [v']).take L.length = (c ++ [v]).take L.length := congrArg (fun z => z.take L.length) e'
            rw [List.take_append_of_le_length (by rw [h2 c' (List.mem_cons_of_mem _ hc')]; exact Nat.le_refl _), List.take_append_of_le_length (by rw [h2 c (List.mem_cons_self ..)]; exact Nat.le_refl _), ← h2 c' (List.mem_cons_of_mem _ hc'), List.take_length, h2 c' (List.mem_cons_of_mem _ hc'), ← h2 c (List.mem_cons_self ..), List.take_length] at this
            exact this
          subst this
          exact n1 hc'
    exact key _ ih fun c hc => (mem_allC.mp hc).1
theorem asc_upto {l : Int} : (upto l).Pairwise (· < ·) := by
  unfold upto
  rw [List.pairwise_map]
  refine List.Pairwise.imp ?_ (List.pairwise_lt_range (n := (l + 1).toNat))
  intro a b h
  omega
theorem asc_grow {n : Nat} {l : Int} : ∀ {cs : List (List Int)}, cs.Pairwise lx → (∀ c ∈ cs, c.length = n) → (grow cs l).Pairwise lx
  | [], _, _ => List.Pairwise.nil
  | c :: cs, h1, h2 => by
    obtain ⟨a1, a2⟩ := List.pairwise_cons.mp h1
    have lc := h2 c (List.mem_cons_self ..)
    show ((upto l).map (fun v => c ++ [v]) ++ grow cs l).Pairwise lx
    rw [List.pairwise_append]
    refine ⟨?_, asc_grow a2 fun c' hc' => h2 c' (List.mem_cons_of_mem _ hc'), ?_⟩
    · rw [List.pairwise_map]
      refine List.Pairwise.imp ?_ asc_upto
      intro a b h
      refine ⟨n, fun j hj => ?_, ?_⟩
      · rw [nth_app, nth_app, if_pos (by omega), if_pos (by omega)]
      · have q : ∀ v : Int, nth (c ++ [v]) n = v := fun v => by rw [nth_app, lc, if_neg (Nat.lt_irrefl _), if_pos rfl]
        rw [q, q]
        exact h
    · intro a ha b hb
      obtain ⟨v, _, rfl⟩ := List.mem_map.mp ha
      obtain ⟨c', hc', h3⟩ := List.mem_flatMap.mp hb
      obtain ⟨v', _, rfl⟩ := List.mem_map.mp h3
      have lc' := h2 c' (List.mem_cons_of_mem _ hc')
      obtain ⟨i, g1, g2⟩ := a1 c' hc'
      have hi : i < n := by
        by_cases z : i < n
        · exact z
        · have e1 : nth c i = 0 := by
            unfold nth
            rw [List.getD_eq_getElem?_getD, List.getElem?_eq_none (by omega)]
            rfl
          have e2 : nth c' i = 0 := by
            unfold nth
            rw [List.getD_eq_getElem?_getD, List.getElem?_eq_none (by omega)]
            rfl
          omega
      refine ⟨i, fun j hj => ?_, ?_⟩
      · rw [nth_app, nth_app, if_pos (by omega), if_pos (by omega)]
        exact g1 j hj
      · rw [nth_app, nth_app, if_pos (by omega), if_pos (by omega)]
        exact g2
theorem asc_allC {L : List Int} : (allC L).Pairwise lx := by
  refine list_snoc (P := fun L => (allC L).Pairwise lx) ?_ ?_ L
  · show [[]].Pairwise lx
    exact List.pairwise_singleton ..
  · intro L l ih
    rw [allC_snoc]
    exact asc_grow (n := L.length) ih fun c hc => (mem_allC.mp hc).1
end Py

namespace LawP
open Py
def c_LETTERS : D := (.str [97, 98, 99, 100, 101, 102, 103, 104, 105, 106, 107, 108, 109, 110, 111, 112, 113, 114, 115, 116, 117, 118, 119, 120, 121, 122])
/-- _law_shape(_law_draws_here); slots 0 _law_draws_here, 1 _law_pool, 2 _law_pro, 3 _law_con, 4 _law_tops, 5 _law_n, 6 _law_side, 7 _law_at, 8 _law_letter -/
def b_law_shape : Ss := (.cons (.asg false (.v 1) (.str [97, 98, 99, 100, 101, 102, 103, 104, 105, 106, 107, 108, 109, 110, 111, 112, 113, 114, 115, 116, 117, 118, 119, 120, 121, 122])) (.cons (.asg false (.v 2) (.str [])) (.cons (.asg false (.v 3) (.str [])) (.cons (.asgN false 4 (.lst .nil)) (.cons (.forr (.v 5) (.range (.bin .add (.int 1) (.bin .mod (.bi .int (.cons (.idx (.v 0) (.int 0)) .nil)) (.int 5)))) (.cons (.asg false (.v 6) (.bin .mod (.bi .int (.cons (.idx (.v 0) (.bin .add (.int 1) (.bin .mul (.int 2) (.v 5)))) .nil)) (.int 4))) (.cons (.ifs (.ands true (.cons (.cmp .eq (.v 6) (.int 3)) (.cons (.cmp .gt (.bi .len (.cons (.v 4) .nil)) (.int 0)) (.cons (.cmp .lt (.idx (.v 4) (.neg (.int 1))) (.int 3)) .nil)))) (.cons (.setI true 4 (.neg (.int 1)) (.bin .add (.idx (.v 4) (.neg (.int 1))) (.int 1))) .nil) (.cons (.ifs (.cmp .eq (.v 6) (.int 2)) (.cons (.app false 4 (.int 1)) .nil) (.cons (.asg false (.v 7) (.bin .mod (.bi .int (.cons (.idx (.v 0) (.bin .add (.int 2) (.bin .mul (.int 2) (.v 5)))) .nil)) (.bi .len (.cons (.v 1) .nil)))) (.cons (.asg false (.v 8) (.idx (.v 1) (.v 7))) (.cons (.asg false (.v 1) (.bin .add (.slice (.v 1) .none (.some (.v 7))) (.slice (.v 1) (.some (.bin .add (.v 7) (.int 1))) .none))) (.cons (.ifs (.cmp .eq (.v 6) (.int 1)) (.cons (.asg false (.v 3) (.bin .add (.v 3) (.v 8))) .nil) (.cons (.asg false (.v 2) (.bin .add (.v 2) (.v 8))) .nil)) .nil))))) .nil)) .nil))) (.cons (.ret (.tup (.cons (.v 2) (.cons (.v 3) (.cons (.bi .tuple (.cons (.v 4) .nil)) .nil))))) .nil))))))
def f_law_shape : Sem := defD 9 1 b_law_shape
/-- _law_cell(_law_script, _law_k); slots 0 _law_script, 1 _law_k -/
def b_law_cell : Ss := (.cons (.ifs (.cmp .lt (.v 1) (.bi .len (.cons (.v 0) .nil))) (.cons (.ret (.bi .int (.cons (.idx (.v 0) (.v 1)) .nil))) .nil) .nil) (.cons (.ret (.int 0)) .nil))
def f_law_cell : Sem := defD 2 2 b_law_cell
/-- _law_draws(_law_script, _law_k, _law_many); slots 0 _law_script, 1 _law_k, 2 _law_many, 3 _law_cell_here, 4 _law_seed, 5 _law_draws_here, 6 _law_n, 7 _law_one, 8 _law_two -/
def b_law_draws : Ss := (.cons (.asg false (.v 3) (.bi .abs (.cons (.call "_law_cell" f_law_cell [] (.cons (.v 0) (.cons (.v 1) .nil))) .nil))) (.cons (.asg false (.v 4) (.bin .mod (.bi .int (.cons (.bin .add (.bin .add (.v 3) (.bin .mul (.int 7919) (.v 1))) (.int 1)) .nil)) (.int 2147483629))) (.cons (.asgN false 5 (.lst .nil)) (.cons (.ifs (.cmp .ge (.v 3) (.bin .pow (.int 10) (.int 18))) (.cons (.forr (.v 6) (.range (.v 2)) (.cons (.ifs (.cmp .gt (.v 3) (.int 0)) (.cons (.app false 5 (.bin .mod (.bi .int (.cons (.v 3) .nil)) (.int 1000))) (.cons (.asg false (.v 3) (.bin .fdiv (.v 3) (.int 1000))) .nil)) .nil) .nil)) .nil) .nil) (.cons (.forr (.v 6) (.range2 (.bi .len (.cons (.v 5) .nil)) (.v 2)) (.cons (.asg false (.v 7) (.bin .mod (.bi .int (.cons (.bin .add (.bin .add (.bin .mul (.v 4) (.int 48271)) (.bin .mul (.v 6) (.int 69621))) (.int 17)) .nil)) (.int 2147483629))) (.cons (.asg false (.v 8) (.bin .mod (.bi .int (.cons (.bin .add (.bin .add (.bin .mul (.v 7) (.v 7)) (.v 4)) (.v 6)) .nil)) (.int 998244353))) (.cons (.app false 5 (.bin .mod (.bi .int (.cons (.bin .fdiv (.v 8) (.int 11)) .nil)) (.int 1000))) .nil)))) (.cons (.ret (.v 5)) .nil))))))
def f_law_draws : Sem := defD 9 3 b_law_draws
/-- _law_limits(_law_shape_here); slots 0 _law_shape_here -/
def b_law_limits : Ss := (.cons (.ret (.bin .add (.bin .mul (.lst (.cons (.int 1) .nil)) (.bin .add (.bi .len (.cons (.idx (.v 0) (.int 0)) .nil)) (.bi .len (.cons (.idx (.v 0) (.int 1)) .nil)))) (.bi .list (.cons (.idx (.v 0) (.int 2)) .nil)))) .nil)
def f_law_limits : Sem := defD 1 1 b_law_limits
/-- _law_cases(_law_limits_here); slots 0 _law_limits_here, 1 _law_cases_here, 2 _law_limit, 3 _law_longer, 4 _law_k, 5 _law_level -/
def b_law_cases : Ss := (.cons (.asg false (.v 1) (.lst (.cons (.tup .nil) .nil))) (.cons (.forr (.v 2) (.seq (.v 0)) (.cons (.asgN false 3 (.lst .nil)) (.cons (.forr (.v 4) (.range (.bi .len (.cons (.v 1) .nil))) (.cons (.forr (.v 5) (.range (.bin .add (.v 2) (.int 1))) (.cons (.app false 3 (.bin .add (.idx (.v 1) (.v 4)) (.tup (.cons (.v 5) .nil)))) .nil)) .nil)) (.cons (.frz 3) (.cons (.asg false (.v 1) (.v 3)) .nil))))) (.cons (.ret (.v 1)) .nil)))
def f_law_cases : Sem := defD 6 1 b_law_cases
/-- _law_case(_law_draws_here, _law_at, _law_limits_here); slots 0 _law_draws_here, 1 _law_at, 2 _law_limits_here, 3 _law_p -/
def b_law_case : Ss := (.cons (.ret (.bi .tuple (.cons (.lc [("_law_p", 3)] (.v 3) (.range (.bi .len (.cons (.v 2) .nil))) .none (.bin .mod (.bi .int (.cons (.idx (.v 0) (.bin .add (.v 1) (.v 3))) .nil)) (.bin .add (.idx (.v 2) (.v 3)) (.int 1)))) .nil))) .nil)
def f_law_case : Sem := defD 4 3 b_law_case
/-- distinct_letters(text); slots 0 text, 1 letter -/
def b_distinct_letters : Ss := (.cons (.forr (.v 1) (.op .str (.cons (.v 0) .nil)) (.cons (.ifs (.ands false (.cons (.cmp .nin (.v 1) (.glob "LETTERS" c_LETTERS)) (.cons (.cmp .gt (.op .count (.cons (.v 0) (.cons (.v 1) .nil))) (.int 1)) .nil))) (.cons (.ret .ff) .nil) .nil) .nil)) (.cons (.ret .tt) .nil))
def f_distinct_letters : Sem := defD 2 1 b_distinct_letters
/-- all_cases(limits); slots 0 limits, 1 cases, 2 limit, 3 case, 4 level -/
def b_all_cases : Ss := (.cons (.asg false (.v 1) (.lst (.cons (.tup .nil) .nil))) (.cons (.forr (.v 2) (.seq (.v 0)) (.cons (.asg false (.v 1) (.lc2 [("case", 3), ("level", 4)] (.v 3) (.seq (.v 1)) .none [4] (.v 4) (.range (.bin .add (.v 2) (.int 1))) .none (.bin .add (.v 3) (.tup (.cons (.v 4) .nil))))) .nil)) (.cons (.ret (.v 1)) .nil)))
def f_all_cases : Sem := defD 5 1 b_all_cases
/-- Forum.__init__(self, pro, con, tops); slots 0 self, 1 pro, 2 con, 3 tops, 4 top, 5 limits, 6 place, 7 level, 8 number, 9 case -/
def b_Forum_init : Ss := (.cons (.forr (.v 4) (.seq (.v 3)) (.cons (.ifs (.not (.chain .le .le (.int 1) (.v 4) (.op (.con "TOPS" [(100, (.int 3))]) (.cons (.v 0) .nil)))) (.cons (.raise "NoForum" 1) .nil) .nil) .nil)) (.cons (.asg false (.v 5) (.bin .add (.bin .mul (.tup (.cons (.int 1) .nil)) (.bin .add (.bi .len (.cons (.v 1) .nil)) (.bi .len (.cons (.v 2) .nil)))) (.bi .tuple (.cons (.v 3) .nil)))) (.cons (.ifs (.ands false (.cons (.not (.call "distinct_letters" f_distinct_letters [] (.cons (.bin .add (.v 1) (.v 2)) .nil))) (.cons (.not (.chain .le .le (.int 1) (.bi .sum (.cons (.v 5) .nil)) (.op (.con "STEPS" [(100, (.int 5))]) (.cons (.v 0) .nil)))) .nil))) (.cons (.raise "NoForum" 1) .nil) .nil) (.cons (.op (.setF false 0 100 0 "pro" (.v 1))) (.cons (.op (.setF false 0 100 1 "con" (.v 2))) (.cons (.op (.setF false 0 100 2 "tops" (.bi .tuple (.cons (.v 3) .nil)))) (.cons (.op (.setF false 0 100 3 "limits" (.v 5))) (.cons (.op (.setF false 0 100 4 "steps" (.bi .tuple (.cons (.lc2 [("place", 6), ("level", 7)] (.v 6) (.range (.bi .len (.cons (.v 5) .nil))) .none [7] (.v 7) (.range (.idx (.v 5) (.v 6))) .none (.tup (.cons (.v 6) (.cons (.bin .add (.v 7) (.int 1)) .nil)))) .nil)))) (.cons (.op (.setF false 0 100 5 "_cases" (.call "all_cases" f_all_cases [] (.cons (.v 5) .nil)))) (.cons (.op (.setF false 0 100 6 "_numbers" (.dc [("number", 8), ("case", 9)] (.tup [(.v 8), (.v 9)]) (.op .enum (.cons (.selfF "_cases" 100 5) .nil)) .none (.v 9) (.v 8)))) .nil))))))))))
def f_Forum_init : Sem := initD 10 4 100 7 b_Forum_init
/-- _law_by_one(_law_x, _law_y); slots 0 _law_x, 1 _law_y, 2 _law_places, 3 _law_p -/
def b_law_by_one : Ss := (.cons (.asg false (.v 2) (.lc [("_law_p", 3)] (.v 3) (.range (.bi .len (.cons (.v 0) .nil))) (.some (.cmp .ne (.idx (.v 0) (.v 3)) (.idx (.v 1) (.v 3)))) (.v 3))) (.cons (.ret (.ands true (.cons (.cmp .eq (.bi .len (.cons (.v 2) .nil)) (.int 1)) (.cons (.cmp .eq (.idx (.v 1) (.idx (.v 2) (.int 0))) (.bin .add (.idx (.v 0) (.idx (.v 2) (.int 0))) (.int 1))) .nil)))) .nil))
def f_law_by_one : Sem := defD 4 2 b_law_by_one
/-- Forum.__contains__(self, case); slots 0 self, 1 case -/
def b_Forum_contains : Ss := (.cons (.ret (.cmp .inn (.v 1) (.op (.fld "_numbers" [(100, 6)]) (.cons (.v 0) .nil)))) .nil)
def f_Forum_contains : Sem := defD 2 2 b_Forum_contains
/-- require_cases(forum); slots 0 forum, 1 cases, 2 case -/
def b_require_cases : Ss := (.cons (.forr (.v 2) (.seq (.v 1)) (.cons (.ifs (.ino true [(100, f_Forum_contains)] (.v 2) (.v 0)) (.cons (.raise "NoCase" 5) .nil) .nil) .nil)) .nil)
def f_require_cases : Sem := defS 3 1 b_require_cases
/-- moved(case, place, by); slots 0 case, 1 place, 2 by -/
def b_moved : Ss := (.cons (.ret (.bin .add (.bin .add (.slice (.v 0) .none (.some (.v 1))) (.tup (.cons (.bin .add (.idx (.v 0) (.v 1)) (.v 2)) .nil))) (.slice (.v 0) (.some (.bin .add (.v 1) (.int 1))) .none))) .nil)
def f_moved : Sem := defD 3 3 b_moved
/-- stronger_by_one(forum, case); slots 0 forum, 1 case, 2 places, 3 place -/
def b_stronger_by_one : Ss := (.cons (.expr (.call "require_cases" f_require_cases [] (.cons (.v 0) (.cons (.v 1) .nil)))) (.cons (.asg false (.v 2) (.lc [("place", 3)] (.v 3) (.range (.bi .len (.cons (.v 1) .nil))) (.some (.cmp .lt (.idx (.v 1) (.v 3)) (.idx (.op (.fld "limits" [(100, 3)]) (.cons (.v 0) .nil)) (.v 3)))) (.v 3))) (.cons (.retN (.lc [("place", 3)] (.v 3) (.op .rev (.cons (.bi .list (.cons (.v 2) .nil)) .nil)) .none (.call "moved" f_moved [] (.cons (.v 1) (.cons (.v 3) (.cons (.int 1) .nil)))))) .nil)))
def f_stronger_by_one : Sem := defN 4 2 b_stronger_by_one
/-- weaker_by_one(forum, case); slots 0 forum, 1 case, 2 place, 3 level -/
def b_weaker_by_one : Ss := (.cons (.expr (.call "require_cases" f_require_cases [] (.cons (.v 0) (.cons (.v 1) .nil)))) (.cons (.retN (.lc [("place", 2), ("level", 3)] (.tup [(.v 2), (.v 3)]) (.op .enum (.cons (.v 1) .nil)) (.some (.cmp .gt (.v 3) (.int 0))) (.call "moved" f_moved [] (.cons (.v 1) (.cons (.v 2) (.cons (.neg (.int 1)) .nil)))))) .nil))
def f_weaker_by_one : Sem := defN 4 2 b_weaker_by_one
/-- _law_same(_law_told, _law_due); slots 0 _law_told, 1 _law_due, 2 _law_k -/
def b_law_same (g : Sem) : Ss := (.cons (.ifs (.ands false (.cons (.isin (.v 0) .bool) (.cons (.isin (.v 1) .bool) .nil))) (.cons (.ret (.ands true (.cons (.isin (.v 0) .bool) (.cons (.isin (.v 1) .bool) (.cons (.cmp .eq (.v 0) (.v 1)) .nil))))) .nil) .nil) (.cons (.ifs (.isin (.v 1) .int) (.cons (.ret (.ands true (.cons (.isin (.v 0) .int) (.cons (.cmp .eq (.v 0) (.v 1)) .nil)))) .nil) .nil) (.cons (.ifs (.isin (.v 1) .str) (.cons (.ret (.ands true (.cons (.isin (.v 0) .str) (.cons (.cmp .eq (.v 0) (.v 1)) .nil)))) .nil) .nil) (.cons (.ifs (.cmp .is (.v 1) .non) (.cons (.ret (.cmp .is (.v 0) .non)) .nil) .nil) (.cons (.ifs (.isin (.v 1) .tuple) (.cons (.ifs (.ands false (.cons (.not (.isin (.v 0) .tuple)) (.cons (.cmp .ne (.bi .len (.cons (.v 0) .nil)) (.bi .len (.cons (.v 1) .nil))) .nil))) (.cons (.ret .ff) .nil) .nil) .nil) (.cons (.ifs (.ands false (.cons (.not (.isin (.v 0) .list)) (.cons (.cmp .ne (.bi .len (.cons (.v 0) .nil)) (.bi .len (.cons (.v 1) .nil))) .nil))) (.cons (.ret .ff) .nil) .nil) .nil)) (.cons (.forr (.v 2) (.range (.bi .len (.cons (.v 1) .nil))) (.cons (.ifs (.not (.call "_law_same" g [] (.cons (.idx (.v 0) (.v 2)) (.cons (.idx (.v 1) (.v 2)) .nil)))) (.cons (.ret .ff) .nil) .nil) .nil)) (.cons (.ret .tt) .nil)))))))
def f_law_same : Sem := itD 3 2 b_law_same 8
/-- _law_near_ones(_law_forum, _law_cases_here, _law_x); slots 0 _law_forum, 1 _law_cases_here, 2 _law_x, 3 _law_up, 4 _law_z, 5 _law_down, 6 _law_first, 7 _law_second -/
def b_law_near_ones : Ss := (.cons (.asg false (.v 3) (.lc [("_law_z", 4)] (.v 4) (.seq (.v 1)) (.some (.call "_law_by_one" f_law_by_one [] (.cons (.v 2) (.cons (.v 4) .nil)))) (.v 4))) (.cons (.asg false (.v 5) (.lc [("_law_z", 4)] (.v 4) (.seq (.v 1)) (.some (.call "_law_by_one" f_law_by_one [] (.cons (.v 4) (.cons (.v 2) .nil)))) (.v 4))) (.cons (.asgN false 6 (.call "stronger_by_one" f_stronger_by_one [] (.cons (.v 0) (.cons (.v 2) .nil)))) (.cons (.asgN false 7 (.call "weaker_by_one" f_weaker_by_one [] (.cons (.v 0) (.cons (.v 2) .nil)))) (.cons (.ifs (.ands false (.cons (.not (.call "_law_same" f_law_same [] (.cons (.v 6) (.cons (.v 3) .nil)))) (.cons (.not (.call "_law_same" f_law_same [] (.cons (.v 7) (.cons (.v 5) .nil)))) .nil))) (.cons (.ret .ff) .nil) .nil) (.cons (.app false 6 (.v 2)) (.cons (.app false 7 (.v 2)) (.cons (.op (.revL 6)) (.cons (.op (.revL 7)) (.cons (.ret (.ands true (.cons (.call "_law_same" f_law_same [] (.cons (.call "stronger_by_one" f_stronger_by_one [] (.cons (.v 0) (.cons (.v 2) .nil))) (.cons (.v 3) .nil))) (.cons (.call "_law_same" f_law_same [] (.cons (.call "weaker_by_one" f_weaker_by_one [] (.cons (.v 0) (.cons (.v 2) .nil))) (.cons (.v 5) .nil))) .nil)))) .nil))))))))))
def f_law_near_ones : Sem := defD 8 3 b_law_near_ones
/-- _law_above(_law_x, _law_y); slots 0 _law_x, 1 _law_y, 2 _law_p -/
def b_law_above : Ss := (.cons (.forr (.v 2) (.range (.bi .len (.cons (.v 0) .nil))) (.cons (.ifs (.cmp .lt (.idx (.v 0) (.v 2)) (.idx (.v 1) (.v 2))) (.cons (.ret .ff) .nil) .nil) .nil)) (.cons (.ret .tt) .nil))
def f_law_above : Sem := defD 3 2 b_law_above
/-- _law_is_chain(_law_told, _law_x, _law_y); slots 0 _law_told, 1 _law_x, 2 _law_y, 3 _law_here, 4 _law_k, 5 _law_lower, 6 _law_p -/
def b_law_is_chain : Ss := (.cons (.ifs (.not (.call "_law_above" f_law_above [] (.cons (.v 2) (.cons (.v 1) .nil)))) (.cons (.ret (.call "_law_same" f_law_same [] (.cons (.v 0) (.cons (.lst .nil) .nil)))) .nil) .nil) (.cons (.ifs (.ands false (.cons (.not (.isin (.v 0) .list)) (.cons (.cmp .ne (.bi .len (.cons (.v 0) .nil)) (.bin .sub (.bin .add (.int 1) (.bi .sum (.cons (.v 2) .nil))) (.bi .sum (.cons (.v 1) .nil)))) .nil))) (.cons (.ret .ff) .nil) .nil) (.cons (.asg false (.v 3) (.v 1)) (.cons (.forr (.v 4) (.range (.bi .len (.cons (.v 0) .nil))) (.cons (.ifs (.not (.call "_law_same" f_law_same [] (.cons (.idx (.v 0) (.v 4)) (.cons (.v 3) .nil)))) (.cons (.ret .ff) .nil) .nil) (.cons (.asg false (.v 5) (.lc [("_law_p", 6)] (.v 6) (.range (.bi .len (.cons (.v 1) .nil))) (.some (.cmp .lt (.idx (.v 3) (.v 6)) (.idx (.v 2) (.v 6)))) (.v 6))) (.cons (.ifs (.cmp .gt (.bi .len (.cons (.v 5) .nil)) (.int 0)) (.cons (.asg false (.v 3) (.bin .add (.bin .add (.slice (.v 3) .none (.some (.idx (.v 5) (.int 0)))) (.tup (.cons (.bin .add (.idx (.v 3) (.idx (.v 5) (.int 0))) (.int 1)) .nil))) (.slice (.v 3) (.some (.bin .add (.idx (.v 5) (.int 0)) (.int 1))) .none))) .nil) .nil) .nil)))) (.cons (.ret (.cmp .eq (.v 3) (.v 2))) .nil)))))
def f_law_is_chain : Sem := defD 7 3 b_law_is_chain
/-- at_least(x, y); slots 0 x, 1 y, 2 place -/
def b_at_least : Ss := (.cons (.forr (.v 2) (.range (.bi .len (.cons (.v 0) .nil))) (.cons (.ifs (.cmp .lt (.idx (.v 0) (.v 2)) (.idx (.v 1) (.v 2))) (.cons (.ret .ff) .nil) .nil) .nil)) (.cons (.ret .tt) .nil))
def f_at_least : Sem := defD 3 2 b_at_least
/-- shortest_chain(forum, low, high); slots 0 forum, 1 low, 2 high, 3 chain, 4 place, 5 _ -/
def b_shortest_chain : Ss := (.cons (.expr (.call "require_cases" f_require_cases [] (.cons (.v 0) (.cons (.v 1) (.cons (.v 2) .nil))))) (.cons (.ifs (.not (.call "at_least" f_at_least [] (.cons (.v 2) (.cons (.v 1) .nil)))) (.cons (.retN (.lst .nil)) .nil) .nil) (.cons (.asgN false 3 (.lst (.cons (.v 1) .nil))) (.cons (.forr (.v 4) (.range (.bi .len (.cons (.v 1) .nil))) (.cons (.forr (.v 5) (.range (.bin .sub (.idx (.v 2) (.v 4)) (.idx (.v 1) (.v 4)))) (.cons (.app true 3 (.call "moved" f_moved [] (.cons (.idx (.v 3) (.neg (.int 1))) (.cons (.v 4) (.cons (.int 1) .nil))))) .nil)) .nil)) (.cons (.retO 3) .nil)))))
def f_shortest_chain : Sem := defN 6 3 b_shortest_chain
/-- between(forum, low, high); slots 0 forum, 1 low, 2 high, 3 case -/
def b_between : Ss := (.cons (.ifs (.ands false (.cons (.ino true [(100, f_Forum_contains)] (.v 1) (.v 0)) (.cons (.ino true [(100, f_Forum_contains)] (.v 2) (.v 0)) .nil))) (.cons (.raise "NoCase" 5) .nil) .nil) (.cons (.ret (.lc [("case", 3)] (.v 3) (.op (.own [(100, 5)]) (.cons (.v 0) .nil)) (.some (.ands true (.cons (.call "at_least" f_at_least [] (.cons (.v 3) (.cons (.v 1) .nil))) (.cons (.call "at_least" f_at_least [] (.cons (.v 2) (.cons (.v 3) .nil))) .nil)))) (.v 3))) .nil))
def f_between : Sem := defD 4 3 b_between
/-- _law_on_the_way(_law_forum, _law_x, _law_y); slots 0 _law_forum, 1 _law_x, 2 _law_y, 3 _law_told, 4 _law_inside, 5 _law_k -/
def b_law_on_the_way : Ss := (.cons (.asgN false 3 (.call "shortest_chain" f_shortest_chain [] (.cons (.v 0) (.cons (.v 1) (.cons (.v 2) .nil))))) (.cons (.ifs (.not (.call "_law_is_chain" f_law_is_chain [] (.cons (.v 3) (.cons (.v 1) (.cons (.v 2) .nil))))) (.cons (.ret .ff) .nil) .nil) (.cons (.asg false (.v 4) (.call "between" f_between [] (.cons (.v 0) (.cons (.v 1) (.cons (.v 2) .nil))))) (.cons (.forr (.v 5) (.range (.bi .len (.cons (.v 3) .nil))) (.cons (.ifs (.cmp .nin (.idx (.v 3) (.v 5)) (.v 4)) (.cons (.ret .ff) .nil) .nil) (.cons (.ifs (.ands true (.cons (.cmp .gt (.v 5) (.int 0)) (.cons (.cmp .nin (.idx (.v 3) (.v 5)) (.call "stronger_by_one" f_stronger_by_one [] (.cons (.v 0) (.cons (.idx (.v 3) (.bin .sub (.v 5) (.int 1))) .nil)))) .nil))) (.cons (.ret .ff) .nil) .nil) .nil))) (.cons (.app false 3 (.v 1)) (.cons (.setI false 3 (.int 0) (.v 2)) (.cons (.ret (.call "_law_is_chain" f_law_is_chain [] (.cons (.call "shortest_chain" f_shortest_chain [] (.cons (.v 0) (.cons (.v 1) (.cons (.v 2) .nil)))) (.cons (.v 1) (.cons (.v 2) .nil))))) .nil)))))))
def f_law_on_the_way : Sem := defD 6 3 b_law_on_the_way
/-- _law_bad_case(_law_draws_here, _law_at, _law_limits_here); slots 0 _law_draws_here, 1 _law_at, 2 _law_limits_here, 3 _law_case_here, 4 _law_p, 5 _law_place, 6 _law_how -/
def b_law_bad_case : Ss := (.cons (.asgN false 3 (.lc [("_law_p", 4)] (.v 4) (.range (.bi .len (.cons (.v 2) .nil))) .none (.bin .mod (.bi .int (.cons (.idx (.v 0) (.bin .add (.bin .add (.v 1) (.int 1)) (.v 4))) .nil)) (.bin .add (.idx (.v 2) (.v 4)) (.int 1))))) (.cons (.asg false (.v 5) (.bin .mod (.bi .int (.cons (.idx (.v 0) (.bin .add (.v 1) (.int 6))) .nil)) (.bi .len (.cons (.v 2) .nil)))) (.cons (.asg false (.v 6) (.bin .mod (.bi .int (.cons (.idx (.v 0) (.v 1)) .nil)) (.int 6))) (.cons (.ifs (.cmp .eq (.v 6) (.int 0)) (.cons (.ret (.tup .nil)) .nil) .nil) (.cons (.ifs (.cmp .eq (.v 6) (.int 1)) (.cons (.ret (.bi .tuple (.cons (.bin .add (.slice (.v 3) .none (.some (.v 5))) (.slice (.v 3) (.some (.bin .add (.v 5) (.int 1))) .none)) .nil))) .nil) .nil) (.cons (.ifs (.cmp .eq (.v 6) (.int 2)) (.cons (.ret (.bi .tuple (.cons (.bin .add (.v 3) (.lst (.cons (.int 0) .nil))) .nil))) .nil) .nil) (.cons (.setI false 3 (.v 5) (.idx (.lst (.cons (.neg (.int 1)) (.cons (.bin .add (.idx (.v 2) (.v 5)) (.int 1)) (.cons (.bin .add (.bin .pow (.int 10) (.int 20)) (.v 5)) .nil)))) (.bin .sub (.v 6) (.int 3)))) (.cons (.ret (.bi .tuple (.cons (.v 3) .nil))) .nil))))))))
def f_law_bad_case : Sem := defD 7 3 b_law_bad_case
/-- _law_refused(_law_kind, _law_forum, _law_x, _law_y); slots 0 _law_kind, 1 _law_forum, 2 _law_x, 3 _law_y, 4 e -/
def b_law_refused : Ss := (.cons (.tri (.cons (.ifs (.cmp .eq (.v 0) (.int 0)) (.cons (.expr (.call "stronger_by_one" f_stronger_by_one [] (.cons (.v 1) (.cons (.v 2) .nil)))) .nil) (.cons (.ifs (.cmp .eq (.v 0) (.int 1)) (.cons (.expr (.call "weaker_by_one" f_weaker_by_one [] (.cons (.v 1) (.cons (.v 2) .nil)))) .nil) (.cons (.expr (.call "shortest_chain" f_shortest_chain [] (.cons (.v 1) (.cons (.v 2) (.cons (.v 3) .nil))))) .nil)) .nil)) .nil) "CourtError" [1, 5] [1, 5] (some 4) (.cons (.ret (.isin (.v 4) (.exc "NoCase" [5] [1, 5]))) .nil)) (.cons (.ret .ff) .nil))
def f_law_refused : Sem := defD 5 4 b_law_refused
/-- Forum.weakest_case(self); slots 0 self -/
def b_Forum_weakest_case : Ss := (.cons (.ret (.bin .mul (.tup (.cons (.int 0) .nil)) (.bi .len (.cons (.op (.fld "limits" [(100, 3)]) (.cons (.v 0) .nil)) .nil)))) .nil)
def f_Forum_weakest_case : Sem := defD 1 1 b_Forum_weakest_case
/-- Forum.strongest_case(self); slots 0 self -/
def b_Forum_strongest_case : Ss := (.cons (.ret (.op (.fld "limits" [(100, 3)]) (.cons (.v 0) .nil))) .nil)
def f_Forum_strongest_case : Sem := defD 1 1 b_Forum_strongest_case
/-- law(_law_script); slots 0 _law_script, 1 _law_shape_here, 2 _law_other, 3 _law_limits_here, 4 _law_cases_here, 5 _law_x, 6 _law_y, 7 _law_how, 8 _law_p, 9 _law_forum, 10 _law_second, 11 _law_z, 12 _law_case_here, 13 _law_bad, 14 _law_worse, 15 _law_kind -/
def b_law : Ss := (.cons (.asg false (.v 1) (.call "_law_shape" f_law_shape [] (.cons (.call "_law_draws" f_law_draws [] (.cons (.v 0) (.cons (.int 0) (.cons (.int 11) .nil)))) .nil))) (.cons (.asg false (.v 2) (.call "_law_shape" f_law_shape [] (.cons (.call "_law_draws" f_law_draws [] (.cons (.v 0) (.cons (.int 1) (.cons (.int 11) .nil)))) .nil))) (.cons (.asg false (.v 3) (.call "_law_limits" f_law_limits [] (.cons (.v 1) .nil))) (.cons (.asg false (.v 4) (.call "_law_cases" f_law_cases [] (.cons (.v 3) .nil))) (.cons (.asg false (.v 5) (.call "_law_case" f_law_case [] (.cons (.call "_law_draws" f_law_draws [] (.cons (.v 0) (.cons (.int 2) (.cons (.int 5) .nil)))) (.cons (.int 0) (.cons (.v 3) .nil))))) (.cons (.asg false (.v 6) (.call "_law_case" f_law_case [] (.cons (.call "_law_draws" f_law_draws [] (.cons (.v 0) (.cons (.int 3) (.cons (.int 5) .nil)))) (.cons (.int 0) (.cons (.v 3) .nil))))) (.cons (.asg false (.v 7) (.bin .mod (.bi .int (.cons (.idx (.call "_law_draws" f_law_draws [] (.cons (.v 0) (.cons (.int 4) (.cons (.int 1) .nil)))) (.int 0)) .nil)) (.int 6))) (.cons (.ifs (.cmp .eq (.v 7) (.int 1)) (.cons (.asg false (.v 6) (.v 5)) .nil) .nil) (.cons (.ifs (.cmp .eq (.v 7) (.int 2)) (.cons (.asg false (.v 6) (.bi .tuple (.cons (.lc [("_law_p", 8)] (.v 8) (.range (.bi .len (.cons (.v 5) .nil))) .none (.bi .max (.cons (.idx (.v 5) (.v 8)) (.cons (.idx (.v 6) (.v 8)) .nil)))) .nil))) .nil) .nil) (.cons (.ifs (.cmp .eq (.v 7) (.int 3)) (.cons (.asg false (.v 5) (.bi .tuple (.cons (.lc [("_law_p", 8)] (.v 8) (.range (.bi .len (.cons (.v 5) .nil))) .none (.bi .max (.cons (.idx (.v 5) (.v 8)) (.cons (.idx (.v 6) (.v 8)) .nil)))) .nil))) .nil) .nil) (.cons (.asg false (.v 9) (.op (.mk "Forum" 100 f_Forum_init []) (.cons (.idx (.v 1) (.int 0)) (.cons (.idx (.v 1) (.int 1)) (.cons (.idx (.v 1) (.int 2)) .nil))))) (.cons (.asg false (.v 10) (.op (.mk "Forum" 100 f_Forum_init []) (.cons (.idx (.v 2) (.int 0)) (.cons (.idx (.v 2) (.int 1)) (.cons (.idx (.v 2) (.int 2)) .nil))))) (.cons (.asg false (.v 11) (.call "_law_case" f_law_case [] (.cons (.call "_law_draws" f_law_draws [] (.cons (.v 0) (.cons (.int 5) (.cons (.int 5) .nil)))) (.cons (.int 0) (.cons (.call "_law_limits" f_law_limits [] (.cons (.v 2) .nil)) .nil))))) (.cons (.ifs (.not (.call "_law_near_ones" f_law_near_ones [] (.cons (.v 10) (.cons (.call "_law_cases" f_law_cases [] (.cons (.call "_law_limits" f_law_limits [] (.cons (.v 2) .nil)) .nil)) (.cons (.v 11) .nil))))) (.cons (.ret .ff) .nil) .nil) (.cons (.forr (.v 12) (.seq (.v 4)) (.cons (.ifs (.not (.call "_law_near_ones" f_law_near_ones [] (.cons (.v 9) (.cons (.v 4) (.cons (.v 12) .nil))))) (.cons (.ret .ff) .nil) .nil) (.cons (.ifs (.not (.call "_law_is_chain" f_law_is_chain [] (.cons (.call "shortest_chain" f_shortest_chain [] (.cons (.v 9) (.cons (.v 5) (.cons (.v 12) .nil)))) (.cons (.v 5) (.cons (.v 12) .nil))))) (.cons (.ret .ff) .nil) .nil) (.cons (.ifs (.not (.call "_law_is_chain" f_law_is_chain [] (.cons (.call "shortest_chain" f_shortest_chain [] (.cons (.v 9) (.cons (.v 12) (.cons (.v 6) .nil)))) (.cons (.v 12) (.cons (.v 6) .nil))))) (.cons (.ret .ff) .nil) .nil) .nil)))) (.cons (.ifs (.ands false (.cons (.not (.call "_law_on_the_way" f_law_on_the_way [] (.cons (.v 9) (.cons (.v 5) (.cons (.v 6) .nil))))) (.cons (.not (.call "_law_on_the_way" f_law_on_the_way [] (.cons (.v 9) (.cons (.v 6) (.cons (.v 5) .nil))))) (.cons (.not (.call "_law_on_the_way" f_law_on_the_way [] (.cons (.v 10) (.cons (.v 11) (.cons (.v 11) .nil))))) .nil)))) (.cons (.ret .ff) .nil) .nil) (.cons (.asg false (.v 13) (.call "_law_bad_case" f_law_bad_case [] (.cons (.call "_law_draws" f_law_draws [] (.cons (.v 0) (.cons (.int 6) (.cons (.int 7) .nil)))) (.cons (.int 0) (.cons (.v 3) .nil))))) (.cons (.asg false (.v 14) (.call "_law_bad_case" f_law_bad_case [] (.cons (.call "_law_draws" f_law_draws [] (.cons (.v 0) (.cons (.int 7) (.cons (.int 7) .nil)))) (.cons (.int 0) (.cons (.v 3) .nil))))) (.cons (.forr (.v 15) (.range (.int 3)) (.cons (.ifs (.ands false (.cons (.not (.call "_law_refused" f_law_refused [] (.cons (.v 15) (.cons (.v 9) (.cons (.v 13) (.cons (.v 5) .nil)))))) (.cons (.not (.call "_law_refused" f_law_refused [] (.cons (.v 15) (.cons (.v 9) (.cons (.v 14) (.cons (.v 13) .nil)))))) .nil))) (.cons (.ret .ff) .nil) .nil) .nil)) (.cons (.ifs (.ands false (.cons (.not (.call "_law_refused" f_law_refused [] (.cons (.int 2) (.cons (.v 9) (.cons (.v 5) (.cons (.v 13) .nil)))))) (.cons (.not (.call "_law_refused" f_law_refused [] (.cons (.int 2) (.cons (.v 9) (.cons (.v 6) (.cons (.v 14) .nil)))))) .nil))) (.cons (.ret .ff) .nil) .nil) (.cons (.ret (.ands true (.cons (.call "_law_on_the_way" f_law_on_the_way [] (.cons (.v 9) (.cons (.op (.prop "weakest_case" [(100, f_Forum_weakest_case)]) (.cons (.v 9) .nil)) (.cons (.op (.prop "strongest_case" [(100, f_Forum_strongest_case)]) (.cons (.v 9) .nil)) .nil)))) (.cons (.call "_law_near_ones" f_law_near_ones [] (.cons (.v 9) (.cons (.v 4) (.cons (.v 5) .nil)))) .nil)))) .nil)))))))))))))))))))))
def f_law : Sem := defD 16 1 b_law
end LawP

namespace LawP
open Py
theorem above_ok (xs ys : List Int) (hl : xs.length = ys.length) (hs : xs.length ≤ 1000) : f_law_above [ti xs, ti ys] = .ok (.bool (geB xs ys)) := by
  have hc := okcap hs
  unfold f_law_above ti
  simp only [defD, b_law_above]
  simp [hc, rangeD_nat, List.replicate]
  refine (fin_search (d := .bool false) (v := .ok (.bool true)) (P := fun x => match x with | .int i => decide (nth ys i.toNat ≤ nth xs i.toNat) | _ => true) (I := fun st => ∃ s, st = [Sl.v (ti xs), Sl.v (ti ys), s]) (fun x hx st ⟨s, e⟩ => ?_) ⟨_, rfl⟩ (fun st' _ => rfl)).trans ?_
  · obtain ⟨i, hi, rfl⟩ := List.mem_map.mp hx
    have hi := List.mem_range.mp hi
    subst e
    simp [ti, atI_ti hi, atI_ti (hl ▸ hi), List.set]
    by_cases h : nth xs i < nth ys i
    · left
      simp [h]
    · right
      simp [h]
      omega
  · rw [List.all_map]
    show (if geB xs ys then _ else _) = _
    cases geB xs ys <;> rfl
end LawP

namespace LawP
open Py
theorem at_least_ok (xs ys : List Int) (hl : xs.length = ys.length) (hs : xs.length ≤ 1000) : f_at_least [ti xs, ti ys] = .ok (.bool (geB xs ys)) := by
  have hc := okcap hs
  unfold f_at_least ti
  simp only [defD, b_at_least]
  simp [hc, rangeD_nat, List.replicate]
  refine (fin_search (d := .bool false) (v := .ok (.bool true)) (P := fun x => match x with | .int i => decide (nth ys i.toNat ≤ nth xs i.toNat) | _ => true) (I := fun st => ∃ s, st = [Sl.v (ti xs), Sl.v (ti ys), s]) (fun x hx st ⟨s, e⟩ => ?_) ⟨_, rfl⟩ (fun st' _ => rfl)).trans ?_
  · obtain ⟨i, hi, rfl⟩ := List.mem_map.mp hx
    have hi := List.mem_range.mp hi
    subst e
    simp [ti, atI_ti hi, atI_ti (hl ▸ hi), List.set]
    by_cases h : nth xs i < nth ys i
    · left
      simp [h]
    · right
      simp [h]
      omega
  · rw [List.all_map]
    show (if geB xs ys then _ else _) = _
    cases geB xs ys <;> rfl
end LawP

namespace LawP
open Py
abbrev sam (m : Nat) : Sem := itD 3 2 b_law_same m
/-- what is the same as itself -/
def smB : Nat → D → Bool
  | 0, _ => false
  | n + 1, d => match d with
    | .non => true
    | .bool _ => true
    | .int _ => true
    | .str s => s.all fun c => decide (c < 55296)
    | .tup xs => decide (xs.length ≤ 100000) && xs.all (smB n)
    | .lst xs => decide (xs.length ≤ 100000) && xs.all (smB n)
    | _ => false
theorem same_self : ∀ (n : Nat) (d : D), smB n d = true → sam n [d, d] = .ok (.bool true)
  | 0, _, h => by cases h
  | n + 1, d, h => by
    show defD 3 2 (b_law_same (sam n)) _ = _
    simp only [defD, b_law_same]
    have loop : ∀ (d : D) (xs : List D) (k : St → Cf), (∀ i : Int, idxD d (.int i) = ofO (atI xs i)) → xs.length ≤ 100000 → (xs.all (smB n)) = true → (∀ s, fin (k [Sl.v d, Sl.v d, s]) = .ok (.bool true)) → fin (thenC (forD ((List.range xs.length).map fun (i : Nat) => D.int (i : Int)) (fun x st => runs (st.set 2 (.v x)) (Ss.cons (.ifs (.not (.call "_law_same" (sam n) [] (.cons (.idx (.v 0) (.v 2)) (.cons (.idx (.v 1) (.v 2)) .nil)))) (.cons (.ret .ff) .nil) .nil) .nil)) [Sl.v d, Sl.v d, .u]) k) = .ok (.bool true) := by
      intro d xs k hd hl ha hk
      refine fin_go (I := fun st => ∃ s, st = [Sl.v d, Sl.v d, s]) (fun x hx st ⟨s, e⟩ => ?_) ⟨_, rfl⟩ (fun st' ⟨s, e⟩ => by rw [e]; exact hk s)
      obtain ⟨i, hi, rfl⟩ := List.mem_map.mp hx
      have hi := List.mem_range.mp hi
      have e1 : atI xs (i : Int) = some xs[i] := atI_get hi
      have hx := same_self n xs[i] (List.all_eq_true.mp ha _ (List.getElem_mem hi))
      subst e
      refine ⟨_, ?_, Sl.v (.int (i : Int)), rfl⟩
      simp [hd, e1, hx]
    cases d with
    | non => simp [List.replicate, tyD]
    | bool b => simp [List.replicate, tyD]
    | int i => simp [List.replicate, tyD]
    | str s =>
      have hg : (D.str s).good 8 = true := h
      simp [List.replicate, tyD, cmpD, eqD, hg, D.eq]
    | tup xs =>
      obtain ⟨h1, h2⟩ := Bool.and_eq_true_iff.mp (show (decide (xs.length ≤ 100000) && xs.all (smB n)) = true from h)
      have h1 := of_decide_eq_true h1
      have hc := okc h1
      have := loop (.tup xs) xs (fun st => .rt (.bool true)) (fun i => rfl) h1 h2 (fun s => rfl)
      simp [List.replicate, tyD, hc, rangeD_nat] at this ⊢
      exact this
    | lst xs =>
      obtain ⟨h1, h2⟩ := Bool.and_eq_true_iff.mp (show (decide (xs.length ≤ 100000) && xs.all (smB n)) = true from h)
      have h1 := of_decide_eq_true h1
      have hc := okc h1
      have := loop (.lst xs) xs (fun st => .rt (.bool true)) (fun i => rfl) h1 h2 (fun s => rfl)
      simp [List.replicate, tyD, hc, rangeD_nat] at this ⊢
      exact this
    | _ => cases h
theorem sm_ti {n : Nat} {xs : List Int} (h : xs.length ≤ 100000) : smB (n + 2) (ti xs) = true := by
  show (decide ((xs.map D.int).length ≤ 100000) && (xs.map D.int).all (smB (n + 1))) = true
  rw [Bool.and_eq_true, decide_eq_true_eq, List.length_map]
  refine ⟨h, List.all_eq_true.mpr fun x hx => ?_⟩
  obtain ⟨i, _, rfl⟩ := List.mem_map.mp hx
  rfl
theorem sm_lst {n : Nat} {α : Type} {xs : List α} {f : α → D} (h : xs.length ≤ 100000) (hf : ∀ a ∈ xs, smB n (f a) = true) : smB (n + 1) (.lst (xs.map f)) = true := by
  show (decide ((xs.map f).length ≤ 100000) && (xs.map f).all (smB n)) = true
  rw [Bool.and_eq_true, decide_eq_true_eq, List.length_map]
  refine ⟨h, List.all_eq_true.mpr fun x hx => ?_⟩
  obtain ⟨i, hi, rfl⟩ := List.mem_map.mp hx
  exact hf i hi
theorem same_bool {b : Bool} : f_law_same [.bool b, .bool b] = .ok (.bool true) := same_self 8 _ rfl
theorem same_int {i : Int} : f_law_same [.int i, .int i] = .ok (.bool true) := same_self 8 _ rfl
theorem same_ti {xs : List Int} (h : xs.length ≤ 100000) : f_law_same [ti xs, ti xs] = .ok (.bool true) := same_self 8 _ (sm_ti h)
theorem same_cs {cs : List (List Int)} (h : cs.length ≤ 100000) (h2 : ∀ c ∈ cs, c.length ≤ 100000) : f_law_same [.lst (cs.map ti), .lst (cs.map ti)] = .ok (.bool true) := same_self 8 _ (sm_lst h fun c hc => sm_ti (h2 c hc))
end LawP

namespace LawP
open Py
theorem cell_ok (ns : List Int) (k : Nat) : ∃ i, f_law_cell [.scr ns, .int (k : Int)] = .ok (.int i) := by
  unfold f_law_cell
  simp only [defD, b_law_cell]
  by_cases h : k < ns.length
  · have e : atI ns (k : Int) = some ns[k] := by
      rw [atI_nat, List.getElem?_eq_getElem h]
    refine ⟨ns[k], ?_⟩
    have h' : (k : Int) < (ns.length : Int) := by omega
    simp [List.replicate, e, h]
  · refine ⟨0, ?_⟩
    simp [List.replicate, h]
def drI (ns : List Int) (k m n : Nat) (st : St) : Prop := ∃ (c2 s : Int) (ds : List Int) (s6 s7 s8 : Sl), st = [Sl.v (.scr ns), Sl.v (.int k), Sl.v (.int m), Sl.v (.int c2), Sl.v (.int s), Sl.o 1 (li ds), s6, s7, s8] ∧ 0 ≤ c2 ∧ ds.length + n ≤ m ∧ ∀ x ∈ ds, 0 ≤ x
def drJ (ns : List Int) (k m : Nat) (rem : List D) (st : St) : Prop := ∃ (c2 s : Int) (ds : List Int) (s6 s7 s8 : Sl), st = [Sl.v (.scr ns), Sl.v (.int k), Sl.v (.int m), Sl.v (.int c2), Sl.v (.int s), Sl.o 1 (li ds), s6, s7, s8] ∧ ds.length + rem.length = m ∧ (∀ x ∈ ds, 0 ≤ x) ∧ ∀ x ∈ rem, ∃ i : Int, x = .int i
theorem draws_ok (ns : List Int) (k m : Nat) (hm : m ≤ 1000) : ∃ ds : List Int, f_law_draws [.scr ns, .int (k : Int), .int (m : Int)] = .ok (li ds) ∧ ds.length = m ∧ ∀ x ∈ ds, 0 ≤ x := by
  obtain ⟨c, hc⟩ := cell_ok ns k
  have oc := okcap hm
  have m1 : mulOk 7919 (k : Int) = true := mul_l (by decide)
  unfold f_law_draws
  simp only [defD, b_law_draws]
  have e0 : ∃ c1 : Int, 0 ≤ c1 ∧ (if c < 0 then -c else c) = c1 := ⟨if c < 0 then -c else c, by split <;> omega, rfl⟩
  obtain ⟨c1, hc1, e0⟩ := e0
  simp [List.replicate, hc, m1, e0]
  simp [newS, Int.pow_succ]
  have hcap : m ≤ cap := by
    unfold cap
    omega
  have hbig : -bigI ≤ (m : Int) := oc.2
  refine stepP (Pr := fun r => ∃ ds : List Int, r = .ok (li ds) ∧ ds.length = m ∧ ∀ x ∈ ds, 0 ≤ x) (I := drI ns k m 0) ?_ ?_
  · by_cases hb : 1000000000000000000 ≤ c1
    · simp [hb, hcap, hbig, rangeD_nat]
      have h0 : drI ns k m ((List.range m).map fun (i : Nat) => D.int (i : Int)).length [Sl.v (.scr ns), Sl.v (.int k), Sl.v (.int m), Sl.v (.int c1), Sl.v (.int ((c1 + 7919 * k + 1) % 2147483629)), Sl.o 1 (.lst []), Sl.u, Sl.u, Sl.u] := ⟨c1, _, [], _, _, _, rfl, hc1, by simp, by simp⟩
      refine forD_thru (fun rem st => drI ns k m rem.length st) ?_ _ h0
      rintro x r st ⟨c2, s, ds, s6, s7, s8, rfl, g1, g2, g3⟩
      have g2 : ds.length + (r.length + 1) ≤ m := g2
      have gc : ds.length < cap := by omega
      by_cases hp : 0 < c2
      · refine ⟨_, ?_, c2 / 1000, s, ds ++ [c2 % 1000], Sl.v x, s7, s8, rfl, by omega, ?_, ?_⟩
        · simp [hp, ownL, li, gc]
        · simp
          omega
        · intro y hy
          rcases List.mem_append.mp hy with q | q
          · exact g3 y q
          · have q : y = c2 % 1000 := by simpa using q
            omega
      · refine ⟨_, ?_, c2, s, ds, Sl.v x, s7, s8, rfl, g1, by omega, g3⟩
        simp [hp]
    · refine ⟨_, if_neg hb, c1, _, [], _, _, _, rfl, hc1, by simp, by simp⟩
  · rintro st ⟨c2, s, ds, s6, s7, s8, rfl, g1, g2, g3⟩
    have q1 : -bigI ≤ (ds.length : Int) ∧ (ds.length : Int) ≤ bigI ∧ -bigI ≤ (m : Int) ∧ (m : Int) ≤ bigI ∧ (m : Int) - (ds.length : Int) ≤ (cap : Int) := by
      unfold bigI cap
      omega
    simp
    rw [if_pos q1]
    simp
    refine stepP (Pr := fun r => ∃ ds : List Int, r = .ok (li ds) ∧ ds.length = m ∧ ∀ x ∈ ds, 0 ≤ x) (I := drJ ns k m []) ?_ ?_
    · have h0 : drJ ns k m (rangeD (ds.length : Int) (m : Int)) [Sl.v (.scr ns), Sl.v (.int k), Sl.v (.int m), Sl.v (.int c2), Sl.v (.int s), Sl.o 1 (li ds), s6, s7, s8] := ⟨c2, s, ds, _, _, _, rfl, by
        unfold rangeD
        rw [List.length_map, List.length_range]
        omega, g3, fun x hx => by
        obtain ⟨i, _, rfl⟩ := List.mem_map.mp hx
        exact ⟨_, rfl⟩⟩
      refine forD_thru (fun rem st => drJ ns k m rem st) ?_ _ h0
      rintro x r st ⟨c2, s, ds, s6, s7, s8, rfl, g2, g3, g4⟩
      have g2 : ds.length + (r.length + 1) = m := g2
      have gc : ds.length < cap := by omega
      obtain ⟨i, rfl⟩ := g4 x (List.mem_cons_self ..)
      have n1 : mulOk s 48271 = true := mul_r (by decide)
      have n2 : mulOk i 69621 = true := mul_r (by decide)
      have n3 : mulOk ((s * 48271 + i * 69621 + 17) % 2147483629) ((s * 48271 + i * 69621 + 17) % 2147483629) = true := mul_l (by omega)
      refine ⟨_, ?_, c2, s, ds ++ [(((s * 48271 + i * 69621 + 17) % 2147483629 * ((s * 48271 + i * 69621 + 17) % 2147483629) + s + i) % 998244353) / 11 % 1000], Sl.v (.int i), Sl.v (.int ((s * 48271 + i * 69621 + 17) % 2147483629)), Sl.v (.int (((s * 48271 + i * 69621 + 17) % 2147483629 * ((s * 48271 + i * 69621 + 17) % 2147483629) + s + i) % 998244353)), rfl, ?_, ?_, fun y hy => g4 y (List.mem_cons_of_mem _ hy)⟩
      · simp [ownL, li, gc, n1, n2, n3]
      · simp
        omega
      · intro y hy
        rcases List.mem_append.mp hy with q | q
        · exact g3 y q
        · have q := List.mem_singleton.mp q
          omega
    · rintro st ⟨c2, s, ds, s6, s7, s8, rfl, g2, g3, g4⟩
      refine ⟨ds, ?_, by simpa using g2, g3⟩
      simp
end LawP

namespace LawP
open Py
/-- letters and tops of a forum -/
structure Shape (pro con : List Nat) (tops : List Int) : Prop where
  nd : (pro ++ con).Nodup
  az : ∀ c ∈ pro ++ con, 97 ≤ c ∧ c ≤ 122
  tp : ∀ t ∈ tops, 1 ≤ t ∧ t ≤ 3
  lo : 1 ≤ (pro.length : Int) + con.length + tops.sum
  hi : (pro.length : Int) + con.length + tops.sum ≤ 5
def azL : List Nat := [97, 98, 99, 100, 101, 102, 103, 104, 105, 106, 107, 108, 109, 110, 111, 112, 113, 114, 115, 116, 117, 118, 119, 120, 121, 122]
theorem cut_perm {pool : List Nat} {a : Nat} (h : a < pool.length) : ((pool.take a ++ pool.drop (a + 1)) ++ [pool[a]]).Perm pool := by
  have e : pool = pool.take a ++ pool[a] :: pool.drop (a + 1) := by
    rw [← List.drop_eq_getElem_cons h, List.take_append_drop]
  have := List.perm_middle (a := pool[a]) (l₁ := pool.take a) (l₂ := pool.drop (a + 1))
  rw [← e] at this
  exact ((List.perm_append_singleton _ _).trans this.symm)
theorem perm_pro {pool pro con : List Nat} {a : Nat} (h : a < pool.length) (p : (pool ++ (pro ++ con)).Perm azL) : ((pool.take a ++ pool.drop (a + 1)) ++ ((pro ++ [pool[a]]) ++ con)).Perm azL := by
  refine List.Perm.trans ?_ p
  rw [List.perm_iff_count]
  intro y
  have := (List.perm_iff_count.mp (cut_perm h)) y
  simp only [List.count_append] at this ⊢
  omega
theorem perm_con {pool pro con : List Nat} {a : Nat} (h : a < pool.length) (p : (pool ++ (pro ++ con)).Perm azL) : ((pool.take a ++ pool.drop (a + 1)) ++ (pro ++ (con ++ [pool[a]]))).Perm azL := by
  refine List.Perm.trans ?_ p
  rw [List.perm_iff_count]
  intro y
  have := (List.perm_iff_count.mp (cut_perm h)) y
  simp only [List.count_append] at this ⊢
  omega
theorem sum_pos : ∀ {tops : List Int}, (∀ t ∈ tops, 1 ≤ t ∧ t ≤ 3) → (tops.length : Int) ≤ tops.sum
  | [], _ => Int.le_refl _
  | t :: ts, h => by
    have h1 := h t (List.mem_cons_self ..)
    have h2 := sum_pos (tops := ts) fun x hx => h x (List.mem_cons_of_mem _ hx)
    rw [List.sum_cons, List.length_cons]
    omega
def shJ (ds : List Int) (N : Int) (rem : List D) (st : St) : Prop := ∃ (pool pro con : List Nat) (tops : List Int) (s5 s6 s7 s8 : Sl), st = [Sl.v (li ds), Sl.v (.str pool), Sl.v (.str pro), Sl.v (.str con), Sl.o 1 (.lst (tops.map D.int)), s5, s6, s7, s8] ∧
  (pool ++ (pro ++ con)).Perm azL ∧ (pro.length : Int) + con.length + tops.sum + rem.length = N ∧ (∀ t ∈ tops, 1 ≤ t ∧ t ≤ 3) ∧ ∀ x ∈ rem, ∃ i : Nat, x = .int (i : Int) ∧ i < 5
theorem shape_ok (ds : List Int) (hl : 11 ≤ ds.length) (h0 : ∀ x ∈ ds, 0 ≤ x) : ∃ (pro con : List Nat) (tops : List Int), f_law_shape [li ds] = .ok (.tup [.str pro, .str con, ti tops]) ∧ Shape pro con tops := by
  unfold f_law_shape
  simp only [defD, b_law_shape]
  have e0 := idx_li (xs := ds) (i := 0) (by omega)
  have p0 := h0 _ (nth_mem (xs := ds) (i := 0) (by omega))
  have hr : 1 + nth ds 0 % 5 ≤ (cap : Int) ∧ -bigI ≤ 1 + nth ds 0 % 5 := by
    unfold cap bigI
    omega
  have e0 : idxD (li ds) (.int 0) = .ok (.int (nth ds 0)) := e0
  simp [List.replicate, newS, e0]
  rw [if_pos hr]
  simp
  have hJ : shJ ds (1 + nth ds 0 % 5) (rangeD 0 (1 + nth ds 0 % 5)) [Sl.v (li ds), Sl.v (.str [97, 98, 99, 100, 101, 102, 103, 104, 105, 106, 107, 108, 109, 110, 111, 112, 113, 114, 115, 116, 117, 118, 119, 120, 121, 122]), Sl.v (.str []), Sl.v (.str []), Sl.o 1 (.lst []), .u, .u, .u, .u] := by
    refine ⟨_, [], [], [], _, _, _, _, rfl, List.Perm.refl _, ?_, by simp, fun x hx => ?_⟩
    · unfold rangeD
      simp
      omega
    · obtain ⟨i, hi, rfl⟩ := List.mem_map.mp hx
      have hi := List.mem_range.mp hi
      exact ⟨i, by simp, by omega⟩
  refine stepP (Pr := fun r => ∃ (pro con : List Nat) (tops : List Int), r = .ok (.tup [.str pro, .str con, ti tops]) ∧ Shape pro con tops) (I := shJ ds (1 + nth ds 0 % 5) []) ?_ ?_
  · refine forD_thru (fun rem st => shJ ds (1 + nth ds 0 % 5) rem st) ?_ _ hJ
    rintro x r st ⟨pool, pro, con, tops, s5, s6, s7, s8, rfl, g1, g2, g3, g4⟩
    have g2 : (pro.length : Int) + con.length + tops.sum + ((r.length + 1 : Nat) : Int) = 1 + nth ds 0 % 5 := g2
    have g0 : pool.length + (pro.length + con.length) = 26 := by
      have := g1.length_eq
      simpa [azL] using this
    have g6 := sum_pos g3
    obtain ⟨i, rfl, hi⟩ := g4 x (List.mem_cons_self ..)
    have g5 : ∀ x ∈ r, ∃ i : Nat, x = .int (i : Int) ∧ i < 5 := fun y hy => g4 y (List.mem_cons_of_mem _ hy)
    have n1 : mulOk 2 (i : Int) = true := mul_l (by decide)
    have e1 : idxD (li ds) (.int (1 + 2 * (i : Int))) = .ok (.int (nth ds (1 + 2 * i))) := idx_li (xs := ds) (i := 1 + 2 * i) (by omega)
    have e2 : idxD (li ds) (.int (2 + 2 * (i : Int))) = .ok (.int (nth ds (2 + 2 * i))) := idx_li (xs := ds) (i := 2 + 2 * i) (by omega)
    have pc : pool.length ≤ cap := by
      unfold cap
      omega
    have pp : 0 < pool.length := by omega
    obtain ⟨at_, ha, hb⟩ : ∃ at_ : Nat, nth ds (2 + 2 * i) % (pool.length : Int) = (at_ : Int) ∧ at_ < pool.length := by
      have h1 := Int.emod_nonneg (nth ds (2 + 2 * i)) (show (pool.length : Int) ≠ 0 by omega)
      have h2 := Int.emod_lt_of_pos (nth ds (2 + 2 * i)) (show (0 : Int) < pool.length by omega)
      exact ⟨(nth ds (2 + 2 * i) % (pool.length : Int)).toNat, by omega, by omega⟩
    have e3 : Py.atI pool (at_ : Int) = some pool[at_] := by
      rw [atI_nat, List.getElem?_eq_getElem hb]
    have e4 : cutL pool none (some (at_ : Int)) = pool.take at_ := cut_to (by omega)
    have e5 : cutL pool (some ((at_ : Int) + 1)) none = pool.drop (at_ + 1) := cut_from (p := at_ + 1) (by omega)
    have l1 : (pool.take at_ ++ pool.drop (at_ + 1)).length + 1 = pool.length := by
      rw [List.length_append, List.length_take, List.length_drop]
      omega
    have c1 : min at_ pool.length + (pool.length - (at_ + 1)) ≤ cap := by omega
    have c2 : pro.length + 1 ≤ cap := by
      unfold cap
      omega
    have c3 : con.length + 1 ≤ cap := by
      unfold cap
      omega
    have pp' : (0 : Int) < (pool.length : Int) := by omega
    obtain ⟨sd, hsd⟩ : ∃ sd, nth ds (1 + 2 * i) % 4 = sd := ⟨_, rfl⟩
    by_cases k2 : sd = 2
    · subst k2
      refine ⟨_, ?_, pool, pro, con, tops ++ [1], Sl.v (.int (i : Int)), Sl.v (.int 2), s7, s8, rfl, g1, ?_, ?_, g5⟩
      · have gc : tops.length < cap := by
          unfold cap
          omega
        simp [e1, n1, hsd, ownL, gc]
      · simp only [List.sum_append, List.sum_cons, List.sum_nil]
        omega
      · intro y hy
        rcases List.mem_append.mp hy with q | q
        · exact g3 y q
        · have q := List.mem_singleton.mp q
          omega
    · by_cases k3 : sd = 3
      · subst k3
        rcases List.eq_nil_or_concat tops with ht | ⟨tp, t, ht⟩
        · subst ht
          refine ⟨_, ?_, pool.take at_ ++ pool.drop (at_ + 1), pro ++ [pool[at_]], con, [], Sl.v (.int (i : Int)), Sl.v (.int 3), Sl.v (.int (at_ : Int)), Sl.v (.str [pool[at_]]), rfl, perm_pro hb g1, ?_, by simp, g5⟩
          · simp [e1, e2, n1, hsd, ownL, pc, pp, ha, e3, e4, e5, c1, c2]
          · simp only [List.length_append, List.length_cons, List.length_nil, List.sum_append, List.sum_cons, List.sum_nil] at g2 ⊢
            omega
        · rw [List.concat_eq_append] at ht
          subst ht
          have gt := g3 t (List.mem_append.mpr (.inr (List.mem_singleton.mpr rfl)))
          have eL : Py.atI (tp.map D.int ++ [D.int t]) (-1) = some (.int t) := atI_last
          have pz : (0 : Int) < (tp.length : Int) + 1 := by omega
          by_cases k4 : t < 3
          · refine ⟨_, ?_, pool, pro, con, tp ++ [t + 1], Sl.v (.int (i : Int)), Sl.v (.int 3), s7, s8, rfl, g1, ?_, ?_, g5⟩
            · simp [e1, n1, hsd, ownL, eL, pz, k4, atS_last, okM_t, D.kept]
            · simp only [List.length_append, List.length_cons, List.length_nil, List.sum_append, List.sum_cons, List.sum_nil] at g2 ⊢
              omega
            · intro y hy
              rcases List.mem_append.mp hy with q | q
              · exact g3 y (List.mem_append.mpr (.inl q))
              · have q := List.mem_singleton.mp q
                omega
          · refine ⟨_, ?_, pool.take at_ ++ pool.drop (at_ + 1), pro ++ [pool[at_]], con, tp ++ [t], Sl.v (.int (i : Int)), Sl.v (.int 3), Sl.v (.int (at_ : Int)), Sl.v (.str [pool[at_]]), rfl, perm_pro hb g1, ?_, g3, g5⟩
            · simp [e1, e2, n1, hsd, ownL, pc, pp, ha, e3, e4, e5, c1, c2, eL, pz, k4]
            · simp only [List.length_append, List.length_cons, List.length_nil, List.sum_append, List.sum_cons, List.sum_nil] at g2 ⊢
              omega
      · by_cases k1 : sd = 1
        · subst k1
          refine ⟨_, ?_, pool.take at_ ++ pool.drop (at_ + 1), pro, con ++ [pool[at_]], tops, Sl.v (.int (i : Int)), Sl.v (.int 1), Sl.v (.int (at_ : Int)), Sl.v (.str [pool[at_]]), rfl, perm_con hb g1, ?_, g3, g5⟩
          · simp [e1, e2, n1, hsd, ownL, pc, pp, ha, e3, e4, e5, c1, c3]
          · simp only [List.length_append, List.length_cons, List.length_nil, List.sum_append, List.sum_cons, List.sum_nil] at g2 ⊢
            omega
        · refine ⟨_, ?_, pool.take at_ ++ pool.drop (at_ + 1), pro ++ [pool[at_]], con, tops, Sl.v (.int (i : Int)), Sl.v (.int sd), Sl.v (.int (at_ : Int)), Sl.v (.str [pool[at_]]), rfl, perm_pro hb g1, ?_, g3, g5⟩
          · simp [e1, e2, n1, hsd, ownL, pc, pp, ha, e3, e4, e5, c1, c2, k1, k2, k3]
          · simp only [List.length_append, List.length_cons, List.length_nil, List.sum_append, List.sum_cons, List.sum_nil] at g2 ⊢
            omega
  · rintro st ⟨pool, pro, con, tops, s5, s6, s7, s8, rfl, g1, g2, g3, g4⟩
    have nd : (pool ++ (pro ++ con)).Nodup := g1.nodup_iff.mpr (by decide)
    have g2 : (pro.length : Int) + con.length + tops.sum + ((0 : Nat) : Int) = 1 + nth ds 0 % 5 := g2
    refine ⟨pro, con, tops, ?_, (List.nodup_append.mp nd).2.1, fun c hc => ?_, g3, by omega, by omega⟩
    · simp [ti]
    · have : c ∈ azL := g1.mem_iff.mp (List.mem_append.mpr (.inr hc))
      have h : ∀ x ∈ azL, 97 ≤ x ∧ x ≤ 122 := by decide
      exact h c this
end LawP

namespace LawP
open Py
def limL (pro con : List Nat) (tops : List Int) : List Int := List.replicate (pro.length + con.length) 1 ++ tops
theorem Shape.len {pro con : List Nat} {tops : List Int} (h : Shape pro con tops) : pro.length + con.length + tops.length ≤ 5 := by
  have := sum_pos h.tp
  have := h.hi
  omega
theorem Shape.lim {pro con : List Nat} {tops : List Int} (h : Shape pro con tops) : Lim (limL pro con tops) := by
  have hl := h.len
  refine ⟨?_, fun x hx => ?_⟩
  · unfold limL
    simp
    omega
  · rcases List.mem_append.mp hx with q | q
    · have := List.eq_of_mem_replicate q
      omega
    · exact h.tp x q
theorem sum_rep : ∀ n : Nat, (List.replicate n (1 : Int)).sum = n
  | 0 => rfl
  | n + 1 => by
    rw [List.replicate_succ, List.sum_cons, sum_rep n]
    omega
theorem Shape.sum {pro con : List Nat} {tops : List Int} (h : Shape pro con tops) : 1 ≤ (limL pro con tops).sum ∧ (limL pro con tops).sum ≤ 5 := by
  have h1 := h.lo
  have h2 := h.hi
  unfold limL
  rw [List.sum_append, sum_rep]
  omega
theorem Shape.pos {pro con : List Nat} {tops : List Int} (h : Shape pro con tops) : 0 < (limL pro con tops).length := by
  have := h.sum.1
  cases hq : limL pro con tops with
  | nil =>
    rw [hq] at this
    exact absurd this (by decide)
  | cons x xs => exact Nat.zero_lt_succ _
theorem limits_ok {pro con : List Nat} {tops : List Int} (hS : Shape pro con tops) : f_law_limits [.tup [.str pro, .str con, ti tops]] = .ok (li (limL pro con tops)) := by
  have h := hS.len
  unfold limL
  unfold f_law_limits
  simp only [defD, b_law_limits]
  have c1 : pro.length ≤ cap := by
    unfold cap
    omega
  have c2 : con.length ≤ cap := by
    unfold cap
    omega
  have c3 : (pro.length : Int) + (con.length : Int) ≤ (cap : Int) ∧ -(cap : Int) ≤ (pro.length : Int) + (con.length : Int) ∧ ((pro.length : Int) + (con.length : Int)).toNat ≤ cap := by
    unfold cap
    omega
  have e1 : ((pro.length : Int) + (con.length : Int)).toNat = pro.length + con.length := by omega
  have e2 : repD [D.int 1] ((pro.length : Int) + (con.length : Int)) = List.replicate (pro.length + con.length) (D.int 1) := by
    unfold repD
    rw [e1]
    simp
  have e3 : biD .list [ti tops] = .ok (.lst (tops.map D.int)) := rfl
  have c4 : pro.length + con.length + tops.length ≤ cap := by
    unfold cap
    omega
  simp [List.replicate, atI_0, atI_1, atI_2, c1, c2, e2, e3, e1, li]
  rw [if_pos (by unfold cap; omega)]
  simp [c4]
end LawP

namespace LawP
open Py
theorem cases_ok {L : List Int} (hL : Lim L) : f_law_cases [li L] = .ok (.lst ((allC L).map ti)) := by
  unfold f_law_cases
  simp only [defD, b_law_cases]
  simp [List.replicate]
  refine fin_acc (k := D.int) (xs := L) (fun done st => ∃ s2 s3 s4 s5, st = [Sl.v (li L), Sl.v (.lst ((allC done).map ti)), s2, s3, s4, s5]) ?_ ⟨_, _, _, _, rfl⟩ ?_
  · rintro done l rest e st ⟨s2, s3, s4, s5, rfl⟩
    have hlm : l ∈ L := by
      rw [e]
      exact List.mem_append.mpr (.inr (List.mem_cons_self ..))
    have hx := hL.2 l hlm
    have hd : Lim done := ⟨by
      have := hL.1
      rw [e, List.length_append] at this
      omega, fun x hx => hL.2 x (by rw [e]; exact List.mem_append.mpr (.inl hx))⟩
    have hc1 := allC_cap hd
    have hc := okc (n := (allC done).length) (by omega)
    have hlc : l + 1 ≤ (cap : Int) ∧ -bigI ≤ l + 1 := by
      unfold cap bigI
      omega
    simp [newS, hc, rangeD_nat]
    generalize hcs : allC done = cs at *
    refine stepN (I := fun st => ∃ s4 s5, st = [Sl.v (li L), Sl.v (.lst (cs.map ti)), Sl.v (.int l), Sl.o 1 (.lst ((grow cs l).map ti)), s4, s5]) ?_ ?_
    · refine acc_to (k := fun (i : Nat) => D.int (i : Int)) (xs := List.range cs.length) (fun done st => ∃ s4 s5, st = [Sl.v (li L), Sl.v (.lst (cs.map ti)), Sl.v (.int l), Sl.o 1 (.lst ((grow (cs.take done.length) l).map ti)), s4, s5]) ?_ ⟨_, _, rfl⟩ ?_
      · rintro dn i rst e2 st ⟨s4, s5, rfl⟩
        obtain ⟨hi, hlt⟩ := range_at e2
        have ec : atI (cs.map ti) (i : Int) = some (ti cs[i]) := by
          rw [atI_nat, List.getElem?_map, List.getElem?_eq_getElem hlt]
          rfl
        have hcl : cs[i].length ≤ 5 := by
          have hm : cs[i] ∈ allC done := by
            rw [hcs]
            exact List.getElem_mem hlt
          have := (mem_allC.mp hm).1
          have := hd.1
          omega
        simp [hlc, upto_D]
        have tk : cs.take (dn.length + 1) = cs.take dn.length ++ [cs[i]] := by
          rw [hi, List.take_succ_eq_append_getElem hlt]
        have gl : (grow (cs.take dn.length) l).length ≤ 4096 := by
          rw [grow_len, upto_len (by omega), List.length_take]
          calc min dn.length cs.length * (l + 1).toNat ≤ 1024 * 4 := Nat.mul_le_mul (by omega) (by omega)
            _ = 4096 := by decide
        refine acc_to (k := D.int) (xs := upto l) (fun d2 st => ∃ s5, st = [Sl.v (li L), Sl.v (.lst (cs.map ti)), Sl.v (.int l), Sl.o 1 (.lst ((grow (cs.take dn.length) l ++ d2.map fun v => cs[i] ++ [v]).map ti)), Sl.v (.int (i : Int)), s5]) ?_ ⟨s5, by simp⟩ ?_
        · rintro d2 v r2 e3 st ⟨s5, rfl⟩
          have hd2 : d2.length ≤ 4 := by
            have := congrArg List.length e3
            rw [upto_len (by omega), List.length_append] at this
            omega
          have gc : (grow (cs.take dn.length) l).length + d2.length < cap := by
            unfold cap
            omega
          have lc : cs[i].length + 1 ≤ cap := by
            unfold cap
            omega
          refine ⟨_, ?_, Sl.v (.int v), rfl⟩
          simp [ec, ownL, gc, ti, lc]
        · rintro st ⟨s5, rfl⟩
          refine ⟨Sl.v (.int (i : Int)), s5, ?_⟩
          rw [tk]
          unfold grow
          rw [List.flatMap_append, List.flatMap_singleton]
      · rintro st ⟨s4, s5, rfl⟩
        refine ⟨s4, s5, ?_⟩
        rw [List.length_range, List.take_length]
    · rintro st ⟨s4, s5, rfl⟩
      refine ⟨_, ?_, Sl.v (.int l), Sl.v (.lst ((grow cs l).map ti)), s4, s5, rfl⟩
      simp [frzS, allC_snoc, hcs]
  · rintro st ⟨s2, s3, s4, s5, rfl⟩
    simp
end LawP

namespace LawP
open Py
theorem case_ok {L ds : List Int} {a : Nat} (hL : Lim L) (hd : a + L.length ≤ ds.length) (h0 : ∀ x ∈ ds, 0 ≤ x) : ∃ c, f_law_case [li ds, .int (a : Int), li L] = .ok (ti c) ∧ Case L c := by
  have hc := okcap (n := L.length) (by have := hL.1; omega)
  unfold f_law_case
  simp only [defD, b_law_case]
  simp [List.replicate, hc, rangeD_nat]
  rw [comp_ok (g := fun x => match x with | .int i => some (.int (nth ds (a + i.toNat) % (nth L i.toNat + 1))) | _ => none) fun x hx => by
    obtain ⟨i, hi, rfl⟩ := List.mem_map.mp hx
    have hi := List.mem_range.mp hi
    have hl := hL.at hi
    have e1 : idxD (li ds) (.int ((a : Int) + (i : Int))) = .ok (.int (nth ds (a + i))) := idx_li (xs := ds) (i := a + i) (by omega)
    have p : 0 < nth L i + 1 := by omega
    simp [e1, idx_li hi, p]]
  refine ⟨(List.range L.length).map fun i => nth ds (a + i) % (nth L i + 1), ?_, by simp, fun i hi => ?_⟩
  · simp [List.filterMap_map, Function.comp_def, ti]
  · have e : nth ((List.range L.length).map fun i => nth ds (a + i) % (nth L i + 1)) i = nth ds (a + i) % (nth L i + 1) := by
      unfold nth
      simp [List.getElem?_map, List.getElem?_range hi]
    rw [e]
    have hl := hL.at hi
    have := h0 _ (nth_mem (xs := ds) (i := a + i) (by omega))
    have := Int.emod_nonneg (nth ds (a + i)) (show nth L i + 1 ≠ 0 by omega)
    have := Int.emod_lt_of_pos (nth ds (a + i)) (show 0 < nth L i + 1 by omega)
    omega
end LawP

namespace LawP
open Py
/-- distinct small letters -/
def dist (s : List Nat) : Bool := s.all fun c => azL.contains c && decide (s.count c ≤ 1)
theorem distinct_ok {s : List Nat} (hs : s.length ≤ 1000) : f_distinct_letters [.str s] = .ok (.bool (dist s)) := by
  have hc : s.length ≤ cap := by
    unfold cap
    omega
  unfold f_distinct_letters
  simp only [defD, b_distinct_letters]
  simp [List.replicate, hc]
  refine (fin_search (d := .bool false) (v := .ok (.bool true)) (P := fun x => match x with | .str [c] => azL.contains c && decide (s.count c ≤ 1) | _ => true) (I := fun st => ∃ q, st = [Sl.v (.str s), q]) (fun x hx st ⟨q, e⟩ => ?_) ⟨_, rfl⟩ (fun st' _ => rfl)).trans ?_
  · obtain ⟨c, hcm, rfl⟩ := List.mem_map.mp hx
    subst e
    have e1 : cmpD .nin (.str [c]) c_LETTERS = .ok (!azL.contains c) := rfl
    by_cases ha : c ∈ azL
    · by_cases hk : s.count c ≤ 1
      · right
        refine ⟨[Sl.v (.str s), Sl.v (.str [c])], ?_, ⟨_, rfl⟩, by simp [ha, hk]⟩
        have : ¬ ((1 : Int) < (s.count c : Int)) := by omega
        simp [e1, ha, this]
      · left
        have : (1 : Int) < (s.count c : Int) := by omega
        simp [e1, ha, this]
        omega
    · left
      simp [e1, ha]
  · rw [List.all_map]
    show (if dist s then _ else _) = _
    cases dist s <;> rfl
theorem Shape.dist {pro con : List Nat} {tops : List Int} (h : Shape pro con tops) : dist (pro ++ con) = true := by
  unfold LawP.dist
  rw [List.all_eq_true]
  intro c hc
  obtain ⟨h1, h2⟩ := h.az c hc
  have hz : azL.contains c = true := by
    have : ∀ n : Nat, n < 26 → azL.contains (97 + n) = true := by decide
    have e := this (c - 97) (by omega)
    rwa [show 97 + (c - 97) = c by omega] at e
  rw [hz, decide_eq_true (List.nodup_iff_count.mp h.nd c)]
  rfl
theorem all_cases_ok {L : List Int} (hL : Lim L) : f_all_cases [ti L] = .ok (.lst ((allC L).map ti)) := by
  unfold f_all_cases
  simp only [defD, b_all_cases]
  simp [List.replicate]
  refine fin_acc (k := D.int) (xs := L) (fun done st => ∃ s2 s3 s4, st = [Sl.v (ti L), Sl.v (.lst ((allC done).map ti)), s2, s3, s4]) ?_ ⟨_, _, _, rfl⟩ ?_
  · rintro done l rest e st ⟨s2, s3, s4, rfl⟩
    have hlm : l ∈ L := by
      rw [e]
      exact List.mem_append.mpr (.inr (List.mem_cons_self ..))
    have hx := hL.2 l hlm
    have hd : Lim done := ⟨by
      have := hL.1
      rw [e, List.length_append] at this
      omega, fun x hx => hL.2 x (by rw [e]; exact List.mem_append.mpr (.inl hx))⟩
    have hd2 : Lim (done ++ [l]) := ⟨by
      have := hL.1
      rw [e, List.length_append, List.length_cons] at this
      rw [List.length_append, List.length_singleton]
      omega, fun x hx => hL.2 x (by
        rw [e]
        rcases List.mem_append.mp hx with q | q
        · exact List.mem_append.mpr (.inl q)
        · rw [List.mem_singleton.mp q]
          exact List.mem_append.mpr (.inr (List.mem_cons_self ..)))⟩
    have hc1 := allC_cap hd2
    have hlc : l + 1 ≤ (cap : Int) ∧ -bigI ≤ l + 1 := by
      unfold cap bigI
      omega
    refine ⟨_, ?_, Sl.v (.int l), s3, s4, rfl⟩
    simp [hlc, upto_D]
    rw [comp2_map (k := ti) (F := fun c => (upto l).map fun v => ti (c ++ [v])) fun c hc => ?_]
    · have e3 : (allC done).flatMap (fun c => (upto l).map fun v => ti (c ++ [v])) = (allC (done ++ [l])).map ti := by
        rw [allC_snoc]
        unfold grow
        rw [List.map_flatMap]
        congr 1
        funext c
        rw [List.map_map]
        rfl
      rw [e3]
      have : (allC (done ++ [l])).length ≤ cap := by
        unfold cap
        omega
      simp [lenL, this]
    · have hcl : c.length + 1 ≤ cap := by
        have := (mem_allC.mp hc).1
        have := hd.1
        unfold cap
        omega
      rw [comp_map (k := D.int) (m := ti) (F := fun v => c ++ [v]) fun v hv => by simp [ti, hcl]]
      rw [List.map_map]
      rfl
  · rintro st ⟨s2, s3, s4, rfl⟩
    simp
def stepsD (L : List Int) : D := .tup ((List.range L.length).flatMap fun p => (upto (nth L p - 1)).map fun v => D.tup [.int (p : Int), .int (v + 1)])
def forumD (pro con : List Nat) (tops : List Int) : D := .obj 100 [.str pro, .str con, ti tops, ti (limL pro con tops), stepsD (limL pro con tops), .lst ((allC (limL pro con tops)).map ti), .dict ((allC (limL pro con tops)).map ti) (ixs (allC (limL pro con tops)).length)]
theorem forum_ok {pro con : List Nat} {tops : List Int} (h : Shape pro con tops) : f_Forum_init [.str pro, .str con, ti tops] = .ok (forumD pro con tops) := by
  have hl := h.len
  have hL := h.lim
  have hs := h.sum
  have h1 := distinct_ok (s := pro ++ con) (by simp; omega)
  rw [h.dist] at h1
  have h2 := all_cases_ok hL
  have c1 : pro.length ≤ cap := by
    unfold cap
    omega
  have c2 : con.length ≤ cap := by
    unfold cap
    omega
  have c3 : pro.length + con.length ≤ cap := by
    unfold cap
    omega
  have e1 : repD [D.int 1] ((pro.length : Int) + (con.length : Int)) = (List.replicate (pro.length + con.length) (1 : Int)).map D.int := by
    unfold repD
    rw [show ((pro.length : Int) + (con.length : Int)).toNat = pro.length + con.length by omega]
    simp
  have e2 : (-1000 ≤ (pro.length : Int) + (con.length : Int)) ∧ (pro.length : Int) + (con.length : Int) ≤ 1000 := by omega
  have e4 : D.tup ((List.replicate (pro.length + con.length) (1 : Int)).map D.int ++ tops.map D.int) = ti (limL pro con tops) := by
    unfold limL ti
    rw [List.map_append]
  unfold f_Forum_init
  simp only [initD, b_Forum_init]
  simp [List.replicate]
  refine all_go (Φ := finI 100 7) (I := fun st => ∃ s, st = [Sl.o 2 (.obj 100 []), Sl.v (.str pro), Sl.v (.str con), Sl.v (ti tops), s, .u, .u, .u, .u, .u]) ?_ ⟨_, rfl⟩ ?_
  · rintro x hx st ⟨s, rfl⟩
    obtain ⟨t, ht, rfl⟩ := List.mem_map.mp hx
    obtain ⟨t1, t2⟩ := h.tp t ht
    refine ⟨_, ?_, Sl.v (.int t), rfl⟩
    simp [t1, t2]
  · rintro st ⟨s, rfl⟩
    have c4 : (List.replicate (pro.length + con.length) (1 : Int)).length + tops.length ≤ cap := by
      rw [List.length_replicate]
      unfold cap
      omega
    have e5 : binD .add (.tup (List.replicate (pro.length + con.length) (D.int 1))) (ti tops) = .ok (ti (limL pro con tops)) := by
      have e6 : (List.replicate (pro.length + con.length) (1 : Int)).map D.int = List.replicate (pro.length + con.length) (D.int 1) := List.map_replicate
      rw [← e6]
      unfold ti
      rw [bin_add_tup, List.length_map, List.length_map, if_pos c4, e4]
      rfl
    have hc := okc (n := (limL pro con tops).length) (by have := hL.1; omega)
    simp [c1, c2, c3, e1, e2, e5, h1, h2, hs, hc, rangeD_nat]
    generalize hLq : limL pro con tops = L at *
    rw [comp2_map (k := fun (i : Nat) => D.int (i : Int)) (F := fun p => (upto (nth L p - 1)).map fun v => D.tup [.int (p : Int), .int (v + 1)]) fun p hp => ?_]
    · have hf : ((List.range L.length).flatMap fun p => (upto (nth L p - 1)).map fun v => D.tup [.int (p : Int), .int (v + 1)]).length ≤ cap := by
        have z := flat_len (k := 3) (xs := List.range L.length) (f := fun p => (upto (nth L p - 1)).map fun v => D.tup [.int (p : Int), .int (v + 1)]) fun p hp => by
          have := hL.at (List.mem_range.mp hp)
          rw [List.length_map, upto_len (by omega)]
          omega
        rw [List.length_range] at z
        have := hL.1
        unfold cap
        omega
      rw [bind_ok, lenL, if_pos hf]
      simp [h2]
      rw [compP_num0 (fun i c => by simp) nodup_allC (by have := allC_cap hL; unfold cap; omega) (allC_ne hL)]
      simp
      unfold forumD
      rw [hLq]
      rfl
    · have hp := List.mem_range.mp hp
      have hq := hL.at hp
      have hx : nth L p ≤ (cap : Int) ∧ -bigI ≤ nth L p := by
        unfold cap bigI
        omega
      simp [idx_ti hp, hx, upto_D']
      rw [comp_map (k := D.int) (m := fun v => D.tup [.int (p : Int), .int (v + 1)]) (F := id) fun v hv => by simp]
      rw [List.map_id]
theorem contains_ok {pro con : List Nat} {tops : List Int} {c : List Int} (h : Shape pro con tops) : f_Forum_contains [forumD pro con tops, ti c] = .ok (.bool ((allC (limL pro con tops)).contains c)) := by
  have hne := allC_ne h.lim
  unfold f_Forum_contains forumD
  simp only [defD, b_Forum_contains]
  have e := in_dict (vs := ixs (allC (limL pro con tops)).length) (c := c) hne
  simp [List.replicate, cmpD, e]
end LawP

namespace LawP
open Py
def mxI (a b : Int) : Int := if b > a then b else a
def mnI (a b : Int) : Int := if b < a then b else a
def joinC (x y : List Int) : List Int := (List.range x.length).map fun i => mxI (nth x i) (nth y i)
def meetC (x y : List Int) : List Int := (List.range x.length).map fun i => mnI (nth x i) (nth y i)
@[simp] theorem joinC_len {x y : List Int} : (joinC x y).length = x.length := by simp [joinC]
@[simp] theorem meetC_len {x y : List Int} : (meetC x y).length = x.length := by simp [meetC]
theorem nth_join {x y : List Int} {i : Nat} (h : i < x.length) : nth (joinC x y) i = mxI (nth x i) (nth y i) := nth_range h
theorem nth_meet {x y : List Int} {i : Nat} (h : i < x.length) : nth (meetC x y) i = mnI (nth x i) (nth y i) := nth_range h
theorem case_join {L x y : List Int} (hx : Case L x) (hy : Case L y) : Case L (joinC x y) := by
  refine ⟨by simp [hx.1], fun i hi => ?_⟩
  rw [nth_join (by rw [hx.1]; exact hi)]
  have h1 := hx.2 i hi
  have h2 := hy.2 i hi
  unfold mxI
  split <;> omega
theorem case_meet {L x y : List Int} (hx : Case L x) (hy : Case L y) : Case L (meetC x y) := by
  refine ⟨by simp [hx.1], fun i hi => ?_⟩
  rw [nth_meet (by rw [hx.1]; exact hi)]
  have h1 := hx.2 i hi
  have h2 := hy.2 i hi
  unfold mnI
  split <;> omega
theorem ge_join {x y z : List Int} (h1 : z.length = x.length) : geB z (joinC x y) = (geB z x && geB z y) := by
  rw [Bool.eq_iff_iff, Bool.and_eq_true, geB_iff, geB_iff, geB_iff]
  constructor
  · intro h
    refine ⟨fun i hi => ?_, fun i hi => ?_⟩
    · have := h i hi
      rw [nth_join (by omega)] at this
      unfold mxI at this
      split at this <;> omega
    · have := h i hi
      rw [nth_join (by omega)] at this
      unfold mxI at this
      split at this <;> omega
  · rintro ⟨h2, h3⟩ i hi
    have a := h2 i hi
    have b := h3 i hi
    rw [nth_join (by omega)]
    unfold mxI
    split <;> omega
theorem ge_meet {x y z : List Int} (h1 : z.length = x.length) (h2 : y.length = x.length) : geB (meetC x y) z = (geB x z && geB y z) := by
  rw [Bool.eq_iff_iff, Bool.and_eq_true, geB_iff, geB_iff, geB_iff]
  constructor
  · intro h
    refine ⟨fun i hi => ?_, fun i hi => ?_⟩
    · have := h i (by simpa using hi)
      rw [nth_meet hi] at this
      unfold mnI at this
      split at this <;> omega
    · have := h i (by simp; omega)
      rw [nth_meet (by omega)] at this
      unfold mnI at this
      split at this <;> omega
  · rintro ⟨h2, h3⟩ i hi
    have hi : i < x.length := by simpa using hi
    have a := h2 i hi
    have b := h3 i (by omega)
    rw [nth_meet hi]
    unfold mnI
    split <;> omega
end LawP

namespace LawP
open Py
def betw (L a b : List Int) : List (List Int) := (allC L).filter fun z => geB z a && geB b z
theorem between_ok {pro con : List Nat} {tops : List Int} {a b : List Int} (h : Shape pro con tops) : f_between [forumD pro con tops, ti a, ti b] = if (allC (limL pro con tops)).contains a && (allC (limL pro con tops)).contains b then .ok (.lst ((betw (limL pro con tops) a b).map ti)) else .ex 5 [] := by
  have hL := h.lim
  have k1 := contains_ok (c := a) h
  have k2 := contains_ok (c := b) h
  unfold forumD at k1 k2
  unfold f_between forumD
  simp only [defN, defD, b_between]
  generalize limL pro con tops = L at *
  cases h1 : (allC L).contains a with
  | false =>
    rw [h1] at k1
    simp [List.replicate, k1]
  | true =>
    rw [h1] at k1
    cases h2 : (allC L).contains b with
    | false =>
      rw [h2] at k2
      simp [List.replicate, k1, k2]
    | true =>
      rw [h2] at k2
      have la := (mem_allC.mp (List.contains_iff_mem.mp h1)).1
      have lb := (mem_allC.mp (List.contains_iff_mem.mp h2)).1
      have l5 := hL.1
      simp [List.replicate, k1, k2]
      rw [comp_filt (k := ti) (P := fun z => geB z a && geB b z) fun z hz => by
        have lz := (mem_allC.mp hz).1
        have g1 := at_least_ok z a (by omega) (by omega)
        have g2 := at_least_ok b z (by omega) (by omega)
        cases q1 : geB z a <;> cases q2 : geB b z <;> simp [g1, g2, q1, q2]]
      simp [retL, betw]
end LawP

namespace LawP
open Py
theorem bad_case_ok {L ds : List Int} (hL : Lim L) (hp : 0 < L.length) (hd : 7 ≤ ds.length) (h0 : ∀ x ∈ ds, 0 ≤ x) : ∃ c, f_law_bad_case [li ds, .int 0, li L] = .ok (ti c) ∧ ¬ Case L c := by
  have h5 := hL.1
  have hc := okcap (n := L.length) (by omega)
  unfold f_law_bad_case
  simp only [defD, b_law_bad_case]
  have e0 : idxD (li ds) (.int 0) = .ok (.int (nth ds 0)) := idx_li (xs := ds) (i := 0) (by omega)
  have e6 : idxD (li ds) (.int 6) = .ok (.int (nth ds 6)) := idx_li (xs := ds) (i := 6) (by omega)
  have p0 := h0 _ (nth_mem (xs := ds) (i := 0) (by omega))
  obtain ⟨pl, hpl, hlt⟩ : ∃ pl : Nat, nth ds 6 % (L.length : Int) = (pl : Int) ∧ pl < L.length := by
    have h1 := Int.emod_nonneg (nth ds 6) (show (L.length : Int) ≠ 0 by omega)
    have h2 := Int.emod_lt_of_pos (nth ds 6) (show (0 : Int) < L.length by omega)
    exact ⟨(nth ds 6 % (L.length : Int)).toNat, by omega, by omega⟩
  have hp' : (0 : Int) < (L.length : Int) := by omega
  simp [List.replicate, hc, rangeD_nat]
  rw [comp_li (F := fun p => nth ds (1 + p) % (nth L p + 1)) fun p hp => by
    have hl := hL.at hp
    have e1 : idxD (li ds) (.int (1 + (p : Int))) = .ok (.int (nth ds (1 + p))) := idx_li (xs := ds) (i := 1 + p) (by omega)
    have q : 0 < nth L p + 1 := by omega
    simp [e1, idx_li hp, q]]
  generalize hcv : (List.range L.length).map (fun p => nth ds (1 + p) % (nth L p + 1)) = c
  have lc : c.length = L.length := by
    rw [← hcv]
    simp
  have hlc : pl < c.length := by omega
  have eL := idx_li (xs := L) hlt
  have oc : D.lst (c.map D.int) = li c := rfl
  have ns : ∀ st : St, newS false st 3 (li c) = if 3 < st.length then .nx (st.set 3 (.o 1 (li c))) else .no := fun st => by
    unfold newS li
    by_cases h : 3 < st.length <;> simp [h]
  obtain ⟨how, hh⟩ : ∃ how, nth ds 0 % 6 = how := ⟨_, rfl⟩
  have hb : 0 ≤ how ∧ how < 6 := by omega
  have c1 : cutL (c.map D.int) none (some (pl : Int)) = (c.take pl).map D.int := by
    rw [cut_to (by rw [List.length_map]; omega), List.map_take]
  have c2 : cutL (c.map D.int) (some ((pl : Int) + 1)) none = (c.drop (pl + 1)).map D.int := by
    have := cut_from (xs := c.map D.int) (p := pl + 1) (by rw [List.length_map]; omega)
    rw [List.map_drop]
    exact this
  have s1 : sliceD none (some (pl : Int)) (li c) = .ok (li (c.take pl)) := by
    show R.ok (D.lst _) = _
    rw [c1]
    rfl
  have s2 : sliceD (some ((pl : Int) + 1)) none (li c) = .ok (li (c.drop (pl + 1))) := by
    show R.ok (D.lst _) = _
    rw [c2]
    rfl
  have ad : ∀ xs ys : List Int, xs.length + ys.length ≤ 1000 → binD .add (li xs) (li ys) = .ok (li (xs ++ ys)) := fun xs ys h => by
    unfold li
    rw [bin_add_lst, List.length_map, List.length_map, if_pos (by unfold cap; omega), List.map_append]
  have ad0 : binD .add (li c) (.lst [.int 0]) = .ok (li (c ++ [0])) := ad c [0] (by simp; omega)
  have tl : ∀ xs : List Int, biD .tuple [li xs] = .ok (ti xs) := fun _ => rfl
  have ow : ∀ (a b d e f g : Sl) (k : List D → Cf), ownL [a, b, d, Sl.o 1 (li c), e, f, g] 3 k = k (c.map D.int) := fun _ _ _ _ _ _ _ => rfl
  have at3 : atS (c.map D.int).length (.int (pl : Int)) = fun k => k pl := by
    funext k
    exact atS_nat (by rw [List.length_map]; omega)
  simp [ns, e0, e6, hpl, hp, hh]
  by_cases k0 : how = 0
  · subst k0
    refine ⟨[], ?_, fun h => ?_⟩
    · simp
      rfl
    · have := h.1
      simp at this
      omega
  by_cases k1 : how = 1
  · subst k1
    refine ⟨c.take pl ++ c.drop (pl + 1), ?_, fun h => ?_⟩
    · have q := ad (c.take pl) (c.drop (pl + 1)) (by rw [List.length_take, List.length_drop]; omega)
      simp [s1, s2, q, tl]
    · have := h.1
      rw [List.length_append, List.length_take, List.length_drop] at this
      omega
  by_cases k2 : how = 2
  · subst k2
    refine ⟨c ++ [0], ?_, fun h => ?_⟩
    · simp [ad0, tl]
    · have := h.1
      simp at this
      omega
  have fin : ∀ x : Int, (x < 0 ∨ nth L pl < x) → ¬ Case L (c.set pl x) := fun x hx h => by
    have := h.2 pl hlt
    rw [nth_set hlc, if_pos rfl] at this
    omega
  have tset : ∀ x : Int, biD .tuple [.lst ((c.map D.int).set pl (.int x))] = .ok (ti (c.set pl x)) := fun x => by
    show R.ok (D.tup _) = _
    unfold ti
    rw [List.map_set]
  have hLp := hL.at hlt
  by_cases k3 : how = 3
  · subst k3
    refine ⟨c.set pl (-1), ?_, fin _ (.inl (by decide))⟩
    simp [ow, eL, atI_0, atS_nat hlc, tset]
  by_cases k4 : how = 4
  · subst k4
    refine ⟨c.set pl (nth L pl + 1), ?_, fin _ (.inr (by omega))⟩
    simp [ow, eL, atI_1, atS_nat hlc, tset]
  · have k5 : how = 5 := by omega
    subst k5
    refine ⟨c.set pl (10 ^ 20 + (pl : Int)), ?_, fin _ (.inr (by omega))⟩
    simp [ow, eL, atI_2, atS_nat hlc, tset]
end LawP

namespace LawP
open Py
theorem require1_ok {pro con : List Nat} {tops : List Int} {a : List Int} (h : Shape pro con tops) : f_require_cases [forumD pro con tops, ti a] = if (allC (limL pro con tops)).contains a then .ok .non else .ex 5 [] := by
  have k1 := contains_ok (c := a) h
  unfold f_require_cases
  simp only [defS, defD, b_require_cases]
  obtain ⟨c, fs, hF⟩ : ∃ c fs, forumD pro con tops = .obj c fs := ⟨_, _, rfl⟩
  have hc : c = 100 := by
    unfold forumD at hF
    injection hF with h1 _
    exact h1.symm
  subst hc
  rw [hF] at k1 ⊢
  cases h1 : (allC (limL pro con tops)).contains a <;> rw [h1] at k1 <;> simp [List.replicate, forD_cons, forD_nil, k1]
theorem require2_ok {pro con : List Nat} {tops : List Int} {a b : List Int} (h : Shape pro con tops) : f_require_cases [forumD pro con tops, ti a, ti b] = if (allC (limL pro con tops)).contains a && (allC (limL pro con tops)).contains b then .ok .non else .ex 5 [] := by
  have k1 := contains_ok (c := a) h
  have k2 := contains_ok (c := b) h
  unfold f_require_cases
  simp only [defS, defD, b_require_cases]
  obtain ⟨c, fs, hF⟩ : ∃ c fs, forumD pro con tops = .obj c fs := ⟨_, _, rfl⟩
  have hc : c = 100 := by
    unfold forumD at hF
    injection hF with h1 _
    exact h1.symm
  subst hc
  rw [hF] at k1 k2 ⊢
  cases h1 : (allC (limL pro con tops)).contains a <;> cases h2 : (allC (limL pro con tops)).contains b <;> rw [h1] at k1 <;> rw [h2] at k2 <;> simp [List.replicate, forD_cons, forD_nil, k1, k2]
theorem set_cut {xs : List D} {p : Nat} {x : D} (h : p < xs.length) : cutL xs none (some (p : Int)) ++ [x] ++ cutL xs (some ((p : Int) + 1)) none = xs.set p x := by
  have e2 : cutL xs (some ((p : Int) + 1)) none = xs.drop (p + 1) := cut_from (p := p + 1) h
  rw [cut_to (Nat.le_of_lt h), e2, List.set_eq_take_append_cons_drop, if_pos h]
  simp
theorem moved_eq {c : List Int} {p : Nat} {x : Int} (h : p < c.length) (hs : c.length ≤ 1000) :
    (((sliceD none (some (p : Int)) (ti c)).bind fun a => binD .add a (.tup [.int x])).bind fun a => (sliceD (some ((p : Int) + 1)) none (ti c)).bind fun b => binD .add a b) = .ok (ti (c.set p x)) := by
  have h' : p < (c.map D.int).length := by
    rw [List.length_map]
    exact h
  have e := set_cut (x := D.int x) h'
  have e1 := cut_to (xs := c.map D.int) (p := p) (Nat.le_of_lt h')
  have e2 : cutL (c.map D.int) (some ((p : Int) + 1)) none = (c.map D.int).drop (p + 1) := cut_from (p := p + 1) h'
  have hm : (c.map D.int).length = c.length := List.length_map ..
  unfold ti
  rw [slice_tup, slice_tup, bind_ok, bin_add_tup, if_pos, bind_ok, bind_ok, bin_add_tup, if_pos, e, List.map_set]
  · rw [List.length_append, e1, e2, List.length_take, List.length_drop, hm]
    show _ ≤ 100000
    simp only [List.length_cons, List.length_nil]
    omega
  · rw [e1, List.length_take, hm]
    show _ ≤ 100000
    simp only [List.length_cons, List.length_nil]
    omega
theorem moved_ok {c : List Int} {p : Nat} {by_ : Int} (h : p < c.length) (hs : c.length ≤ 1000) : f_moved [ti c, .int (p : Int), .int by_] = .ok (ti (c.set p (nth c p + by_))) := by
  have e := moved_eq (x := nth c p + by_) h hs
  unfold f_moved
  simp only [defD, b_moved]
  simp [List.replicate, idx_ti h]
  rw [e]
  rfl
/-- the cases with one level more, less -/
def upC (L c : List Int) : List (List Int) := ((List.range c.length).filter fun p => decide (nth c p < nth L p)).reverse.map fun p => c.set p (nth c p + 1)
def dnC (c : List Int) : List (List Int) := ((List.range c.length).filter fun p => decide (0 < nth c p)).map fun p => c.set p (nth c p - 1)
theorem stronger_ok {pro con : List Nat} {tops : List Int} {c : List Int} (h : Shape pro con tops) : f_stronger_by_one [forumD pro con tops, ti c] = if (allC (limL pro con tops)).contains c then .ok (.lst ((upC (limL pro con tops) c).map ti)) else .ex 5 [] := by
  have k1 := require1_ok (a := c) h
  have hL := h.lim
  have lim : opD (.fld "limits" [(100, 3)]) [forumD pro con tops] = .ok (ti (limL pro con tops)) := rfl
  generalize hF : forumD pro con tops = FD at *
  generalize limL pro con tops = L at *
  unfold f_stronger_by_one
  simp only [defN, defD, b_stronger_by_one]
  cases h1 : (allC L).contains c with
  | false =>
    rw [h1] at k1
    simp [List.replicate, k1]
  | true =>
    rw [h1] at k1
    have lc := (mem_allC.mp (List.contains_iff_mem.mp h1)).1
    have h5 := hL.1
    have hc := okcap (n := c.length) (by omega)
    simp [List.replicate, k1, hc, rangeD_nat]
    rw [comp_filter (P := fun p => decide (nth c p < nth L p)) fun p hp => by
      by_cases q : nth c p < nth L p <;> simp [lim, idx_ti hp, idx_ti (show p < L.length by omega), q]]
    simp
    rw [show ((List.map (fun (i : Nat) => D.int (i : Int)) ((List.range c.length).filter fun p => decide (nth c p < nth L p))).reverse) = (((List.range c.length).filter fun p => decide (nth c p < nth L p)).reverse).map fun (i : Nat) => D.int (i : Int) from List.map_reverse.symm]
    rw [comp_map (k := fun (i : Nat) => D.int (i : Int)) (m := ti) (F := fun p => c.set p (nth c p + 1)) fun p hp => by
      have hp2 : p < c.length := List.mem_range.mp (List.mem_filter.mp (List.mem_reverse.mp hp)).1
      have e := moved_ok (by_ := 1) hp2 (by omega)
      simp [e]]
    simp [retL, upC]
theorem weaker_ok {pro con : List Nat} {tops : List Int} {c : List Int} (h : Shape pro con tops) : f_weaker_by_one [forumD pro con tops, ti c] = if (allC (limL pro con tops)).contains c then .ok (.lst ((dnC c).map ti)) else .ex 5 [] := by
  have k1 := require1_ok (a := c) h
  have hL := h.lim
  generalize hF : forumD pro con tops = FD at *
  generalize limL pro con tops = L at *
  unfold f_weaker_by_one
  simp only [defN, defD, b_weaker_by_one]
  cases h1 : (allC L).contains c with
  | false =>
    rw [h1] at k1
    simp [List.replicate, k1]
  | true =>
    rw [h1] at k1
    have lc := (mem_allC.mp (List.contains_iff_mem.mp h1)).1
    have h5 := hL.1
    have e0 : iopD .enum [ti c] = .ok ((List.range c.length).map fun (i : Nat) => D.tup [.int (i : Int), .int (nth c i)]) := by
      show R.ok (enumD 0 (c.map D.int)) = _
      rw [enum_ti]
    simp [List.replicate, k1, e0]
    rw [comp_fm (k := fun (i : Nat) => D.tup [.int (i : Int), .int (nth c i)]) (m := ti) (P := fun p => decide (0 < nth c p)) (F := fun p => c.set p (nth c p - 1)) fun p hp => by
      have hp2 := List.mem_range.mp hp
      have e := moved_ok (by_ := -1) hp2 (by omega)
      by_cases q : 0 < nth c p <;> simp [e, q, Int.sub_eq_add_neg]]
    simp [retL, dnC]
end LawP

namespace LawP
open Py
def lowC (h y : List Int) : List Nat := (List.range y.length).filter fun p => decide (nth h p < nth y p)
def nextC (h y : List Int) : List Int := match lowC h y with
  | [] => h
  | p :: _ => h.set p (nth h p + 1)
def itC (y x : List Int) : Nat → List Int
  | 0 => x
  | n + 1 => nextC (itC y x n) y
def chn (x y : List Int) : List (List Int) := (List.range ((y.sum - x.sum).toNat + 1)).map (itC y x)
theorem low_mem {h y : List Int} {p : Nat} {ps : List Nat} (e : lowC h y = p :: ps) : p < y.length ∧ nth h p < nth y p := by
  have : p ∈ lowC h y := by
    rw [e]
    exact List.mem_cons_self ..
  obtain ⟨h1, h2⟩ := List.mem_filter.mp this
  exact ⟨List.mem_range.mp h1, of_decide_eq_true h2⟩
theorem low_nil {h y : List Int} (e : lowC h y = []) : ∀ p, p < y.length → nth y p ≤ nth h p := fun p hp => by
  have := List.filter_eq_nil_iff.mp e p (List.mem_range.mpr hp)
  simp only [decide_eq_true_eq] at this
  omega
/-- between x and y -/
structure Mid (x y h : List Int) : Prop where
  l : h.length = y.length
  lo : ∀ p, p < y.length → nth x p ≤ nth h p
  hi : ∀ p, p < y.length → nth h p ≤ nth y p
theorem Mid.next {x y h : List Int} (m : Mid x y h) : Mid x y (nextC h y) := by
  unfold nextC
  split
  · exact m
  · rename_i p ps e
    obtain ⟨h1, h2⟩ := low_mem e
    have hl := m.l
    have a : ∀ i, nth (h.set p (nth h p + 1)) i = if i = p then nth h p + 1 else nth h i := fun i => nth_set (by omega)
    refine ⟨by rw [List.length_set]; exact hl, fun i hi => ?_, fun i hi => ?_⟩
    · rw [a]
      have := m.lo i hi
      have := m.lo p h1
      split
      · rename_i z
        subst z
        omega
      · assumption
    · rw [a]
      have := m.hi i hi
      split
      · rename_i z
        subst z
        omega
      · assumption
theorem Mid.it {x y : List Int} (hl : x.length = y.length) (h : ∀ p, p < y.length → nth x p ≤ nth y p) : ∀ n, Mid x y (itC y x n)
  | 0 => ⟨hl, fun _ _ => Int.le_refl _, h⟩
  | n + 1 => (Mid.it hl h n).next
theorem Mid.case {L x y h : List Int} (m : Mid x y h) (hx : Case L x) (hy : Case L y) : Case L h := by
  refine ⟨m.l.trans hy.1, fun i hi => ?_⟩
  have h1 := m.lo i (by rw [hy.1]; exact hi)
  have h2 := m.hi i (by rw [hy.1]; exact hi)
  have := hx.2 i hi
  have := hy.2 i hi
  omega
theorem it_sum {x y : List Int} (hl : x.length = y.length) (h : ∀ p, p < y.length → nth x p ≤ nth y p) : ∀ n : Nat, n ≤ (y.sum - x.sum).toNat → (itC y x n).sum = x.sum + n
  | 0, _ => by simp [itC]
  | n + 1, hn => by
    have ih := it_sum hl h n (by omega)
    have m := Mid.it hl h n
    have s0 := (sum_le hl fun i hi => h i (by omega)).1
    show (nextC (itC y x n) y).sum = _
    unfold nextC
    split
    · rename_i e
      have e2 : itC y x n = y := nth_ext m.l fun i hi => by
        have := low_nil e i (by rw [← m.l]; exact hi)
        have := m.hi i (by rw [← m.l]; exact hi)
        omega
      rw [e2] at ih
      omega
    · rename_i p ps e
      obtain ⟨h1, h2⟩ := low_mem e
      rw [sum_set (by rw [m.l]; exact h1), ih]
      omega
theorem it_end {x y : List Int} (hl : x.length = y.length) (h : ∀ p, p < y.length → nth x p ≤ nth y p) : itC y x (y.sum - x.sum).toNat = y := by
  have m := Mid.it hl h (y.sum - x.sum).toNat
  have s := it_sum hl h (y.sum - x.sum).toNat (Nat.le_refl _)
  have s0 := (sum_le hl fun i hi => h i (by omega)).1
  exact (sum_le m.l fun i hi => m.hi i (by rw [← m.l]; exact hi)).2 (by omega)
theorem low_first {h y : List Int} {p : Nat} (hp : p < y.length) (h1 : ∀ j, j < p → nth y j ≤ nth h j) (h2 : nth h p < nth y p) : nextC h y = h.set p (nth h p + 1) := by
  have e : List.range y.length = List.range p ++ p :: ((List.range (y.length - (p + 1))).map (· + (p + 1))) := by
    have h3 : y.length = p + (1 + (y.length - (p + 1))) := by omega
    conv => lhs; rw [h3]
    rw [List.range_add, List.range_add]
    simp [Nat.add_comm, Nat.add_left_comm]
  have : lowC h y = p :: (((List.range (y.length - (p + 1))).map (· + (p + 1))).filter fun p => decide (nth h p < nth y p)) := by
    unfold lowC
    rw [e, List.filter_append, List.filter_cons_of_pos (by simp [h2])]
    rw [List.filter_eq_nil_iff.mpr fun i hi => by
      have := h1 i (List.mem_range.mp hi)
      simp
      omega]
    rfl
  unfold nextC
  rw [this]
theorem rng_snoc {α : Type} {f : Nat → α} {n : Nat} : (List.range (n + 1)).map f = (List.range n).map f ++ [f n] := by
  rw [List.range_succ, List.map_append]
  rfl
def chD (y x : List Int) (n : Nat) : List D := (List.range n).map fun k => ti (itC y x k)
theorem chD_succ {y x : List Int} {n : Nat} : chD y x (n + 1) = chD y x n ++ [ti (itC y x n)] := rng_snoc
theorem chD_len {y x : List Int} {n : Nat} : (chD y x n).length = n := by simp [chD]
theorem chD_chn {y x : List Int} : chD y x ((y.sum - x.sum).toNat + 1) = (chn x y).map ti := by
  unfold chD chn
  rw [List.map_map]
  rfl
theorem chain_ok {pro con : List Nat} {tops : List Int} {x y : List Int} (h : Shape pro con tops) : f_shortest_chain [forumD pro con tops, ti x, ti y] = if (allC (limL pro con tops)).contains x && (allC (limL pro con tops)).contains y then .ok (.lst ((if geB y x then chn x y else []).map ti)) else .ex 5 [] := by
  have k := require2_ok (a := x) (b := y) h
  have hL := h.lim
  generalize forumD pro con tops = FD at *
  generalize limL pro con tops = L at *
  unfold f_shortest_chain
  simp only [defN, defD, b_shortest_chain]
  cases hc : (allC L).contains x && (allC L).contains y with
  | false =>
    rw [hc] at k
    simp [List.replicate, k]
  | true =>
    rw [hc] at k
    obtain ⟨h1, h2⟩ := Bool.and_eq_true_iff.mp hc
    have hx := mem_allC.mp (List.contains_iff_mem.mp h1)
    have hy := mem_allC.mp (List.contains_iff_mem.mp h2)
    have lx := hx.1
    have ly := hy.1
    have h5 := hL.1
    have g := at_least_ok y x (by omega) (by omega)
    cases hg : geB y x with
    | false =>
      rw [hg] at g
      simp [List.replicate, k, g, retL]
    | true =>
      rw [hg] at g
      have le : ∀ p, p < y.length → nth x p ≤ nth y p := geB_iff.mp hg
      have ho := okcap (n := x.length) (by omega)
      simp [List.replicate, k, g, newS, ho, rangeD_nat]
      have goal : fin (thenC (forD ((List.range x.length).map fun (i : Nat) => D.int (i : Int)) (fun d st => runs (st.set 4 (.v d)) (.cons (.forr (.v 5) (.range (.bin .sub (.idx (.v 2) (.v 4)) (.idx (.v 1) (.v 4)))) (.cons (.app true 3 (.call "moved" f_moved [] (.cons (.idx (.v 3) (.neg (.int 1))) (.cons (.v 4) (.cons (.int 1) .nil))))) .nil)) .nil)) [Sl.v FD, Sl.v (ti x), Sl.v (ti y), Sl.o 1 (.lst [ti x]), .u, .u]) (fun st' => ownL st' 3 fun ds => .rt (.lst ds))) = .ok (.lst ((chn x y).map ti)) := by
        refine fin_acc (k := fun (i : Nat) => D.int (i : Int)) (xs := List.range x.length) (fun done st => ∃ (m : Nat) (s4 s5 : Sl), (m : Int) = (y.take done.length).sum - (x.take done.length).sum ∧ st = [Sl.v FD, Sl.v (ti x), Sl.v (ti y), Sl.o 1 (.lst (chD y x (m + 1))), s4, s5] ∧ m ≤ 3 * done.length ∧
          (∀ j, j < done.length → nth (itC y x m) j = nth y j) ∧ ∀ j, done.length ≤ j → nth (itC y x m) j = nth x j) ?_ ⟨0, _, _, by simp, rfl, Nat.zero_le _, fun j hj => absurd hj (Nat.not_lt_zero _), fun j _ => rfl⟩ ?_
        · rintro dn p rest e st ⟨m, s4, s5, hm, rfl, hm15, q1, q2⟩
          obtain ⟨hp, hlt⟩ := range_at e
          rw [hp] at hm q1 q2 hm15
          have hlt2 : p < y.length := by omega
          have lep := le p hlt2
          have bx := hx.2 p (by omega)
          have by2 := hy.2 p (by omega)
          have bl := hL.at (show p < L.length by omega)
          obtain ⟨n, hn⟩ : ∃ n : Nat, nth y p - nth x p = (n : Int) := ⟨(nth y p - nth x p).toNat, by omega⟩
          have hn3 : n ≤ 3 := by omega
          have on := okcap (n := n) (by omega)
          simp [idx_ti hlt2, idx_ti hlt, hn, on, rangeD_nat]
          refine acc_to (k := fun (i : Nat) => D.int (i : Int)) (xs := List.range n) (fun d2 st => ∃ s5 : Sl, st = [Sl.v FD, Sl.v (ti x), Sl.v (ti y), Sl.o 1 (.lst (chD y x (m + d2.length + 1))), Sl.v (.int (p : Int)), s5] ∧
            (∀ j, j < p → nth (itC y x (m + d2.length)) j = nth y j) ∧ nth (itC y x (m + d2.length)) p = nth x p + d2.length ∧ ∀ j, p < j → nth (itC y x (m + d2.length)) j = nth x j) ?_ ⟨_, rfl, q1, by have := q2 p (Nat.le_refl _); simpa using this, fun j hj => q2 j (Nat.le_of_lt hj)⟩ ?_
          · rintro d2 i r2 e2 st ⟨s5, rfl, w1, w2, w3⟩
            obtain ⟨hi, hilt⟩ := range_at e2
            have md := Mid.it (x := x) (y := y) (by omega) le (m + d2.length)
            have nx : itC y x (m + d2.length + 1) = (itC y x (m + d2.length)).set p (nth (itC y x (m + d2.length)) p + 1) := low_first hlt2 (fun j hj => by rw [w1 j hj]; exact Int.le_refl _) (by omega)
            have mv := moved_ok (c := itC y x (m + d2.length)) (p := p) (by_ := 1) (by rw [md.l]; exact hlt2) (by rw [md.l]; omega)
            rw [← nx] at mv
            have la : atI (chD y x (m + d2.length + 1)) (-1) = some (ti (itC y x (m + d2.length))) := by
              rw [chD_succ]
              exact atI_last
            have gc : m + d2.length + 1 < cap := by
              unfold cap
              omega
            refine ⟨_, ?_, Sl.v (.int (i : Int)), rfl, ?_⟩
            · simp [ownL, la, mv, okM_t, ti_kept, gc, chD_len]
              rw [show m + (d2.length + 1) + 1 = (m + d2.length + 1) + 1 by omega, chD_succ (n := m + d2.length + 1)]
            · have ls : (d2 ++ [i]).length = d2.length + 1 := by simp
              rw [ls, show m + (d2.length + 1) = m + d2.length + 1 by omega, nx]
              have a : ∀ j, nth ((itC y x (m + d2.length)).set p (nth (itC y x (m + d2.length)) p + 1)) j = if j = p then nth (itC y x (m + d2.length)) p + 1 else nth (itC y x (m + d2.length)) j := fun j => nth_set (by rw [md.l]; exact hlt2)
              refine ⟨fun j hj => ?_, ?_, fun j hj => ?_⟩
              · rw [a, if_neg (by omega)]
                exact w1 j hj
              · rw [a, if_pos rfl, w2]
                omega
              · rw [a, if_neg (by omega)]
                exact w3 j hj
          · rintro st ⟨s5, rfl, w1, w2, w3⟩
            rw [List.length_range] at w1 w2 w3 ⊢
            refine ⟨m + n, ?_, ⟨_, _, rfl⟩, ?_, ?_, ?_⟩
            · rw [hp, take_sum hlt2, take_sum hlt]
              omega
            · rw [hp]
              omega
            · intro j hj
              rw [hp] at hj
              by_cases z : j < p
              · exact w1 j z
              · have : j = p := by omega
                subst this
                rw [w2]
                omega
            · intro j hj
              rw [hp] at hj
              exact w3 j (by omega)
        · rintro st ⟨m, s4, s5, hm, rfl, hm15, q1, q2⟩
          rw [List.length_range] at hm
          have e : (y.sum - x.sum).toNat = m := by
            rw [show y.take x.length = y from List.take_of_length_le (by omega), List.take_length] at hm
            omega
          rw [← chD_chn, e]
          rfl
      simp at goal
      rw [goal]
end LawP

namespace LawP
open Py
theorem range_split {n p : Nat} (h : p < n) : List.range n = List.range p ++ p :: ((List.range (n - (p + 1))).map (· + (p + 1))) := by
  have h3 : n = p + (1 + (n - (p + 1))) := by omega
  conv => lhs; rw [h3]
  rw [List.range_add, List.range_add]
  simp [Nat.add_comm, Nat.add_left_comm]
theorem filt_one {n p : Nat} (h : p < n) : (List.range n).filter (fun i => i == p) = [p] := by
  rw [range_split h, List.filter_append, List.filter_cons_of_pos (by simp)]
  rw [List.filter_eq_nil_iff.mpr fun i hi => by
    have := List.mem_range.mp hi
    simp
    omega, List.filter_eq_nil_iff.mpr fun i hi => by
    obtain ⟨j, _, rfl⟩ := List.mem_map.mp hi
    simp
    omega]
  rfl
def byOne (x y : List Int) : Bool := match (List.range x.length).filter fun p => !(nth x p == nth y p) with
  | [p] => nth y p == nth x p + 1
  | _ => false
theorem by_one_ok {x y : List Int} (hl : x.length = y.length) (hs : x.length ≤ 1000) : f_law_by_one [ti x, ti y] = .ok (.bool (byOne x y)) := by
  have hc := okcap hs
  unfold f_law_by_one
  simp only [defD, b_law_by_one]
  simp [List.replicate, hc, rangeD_nat]
  rw [comp_filter (P := fun p => !(nth x p == nth y p)) fun p hp => by
    by_cases q : nth x p = nth y p <;> simp [idx_ti hp, idx_ti (show p < y.length by omega), q]]
  unfold byOne
  generalize hg : (List.range x.length).filter (fun p => !(nth x p == nth y p)) = l
  match l, hg with
  | [], _ => simp
  | [p], hg =>
    have hp : p < x.length := by
      have : p ∈ (List.range x.length).filter (fun p => !(nth x p == nth y p)) := by
        rw [hg]
        exact List.mem_singleton.mpr rfl
      exact List.mem_range.mp (List.mem_filter.mp this).1
    simp [atI_0, idx_ti hp, idx_ti (show p < y.length by omega)]
  | p :: q :: r, _ =>
    have : ¬ ((r.length : Int) + 1 + 1 = 1) := by omega
    simp [this]
theorem byOne_iff {x y : List Int} (hl : x.length = y.length) : byOne x y = true ↔ ∃ p, p < x.length ∧ y = x.set p (nth x p + 1) := by
  constructor
  · intro h
    unfold byOne at h
    split at h
    · rename_i p e
      have hm : ∀ j, j ∈ (List.range x.length).filter (fun p => !(nth x p == nth y p)) ↔ j = p := fun j => by rw [e, List.mem_singleton]
      have hp := List.mem_range.mp (List.mem_filter.mp ((hm p).mpr rfl)).1
      have hv : nth y p = nth x p + 1 := by simpa using h
      refine ⟨p, hp, nth_ext (by rw [List.length_set]; exact hl.symm) fun i hi => ?_⟩
      rw [nth_set hp]
      split
      · rename_i z
        subst z
        exact hv
      · rename_i z
        by_cases q : nth x i = nth y i
        · exact q.symm
        · exact absurd ((hm i).mp (List.mem_filter.mpr ⟨List.mem_range.mpr (by omega), by simpa using q⟩)) z
    · cases h
  · rintro ⟨p, hp, rfl⟩
    unfold byOne
    have e : (List.range x.length).filter (fun i => !(nth x i == nth (x.set p (nth x p + 1)) i)) = [p] := by
      rw [← filt_one hp]
      refine List.filter_congr fun i hi => ?_
      rw [nth_set hp]
      by_cases z : i = p
      · subst z
        rw [if_pos rfl]
        have : ¬ (nth x i = nth x i + 1) := by omega
        simp [this]
      · rw [if_neg z]
        simp [z]
    rw [e]
    show (nth (x.set p (nth x p + 1)) p == nth x p + 1) = true
    rw [nth_set hp, if_pos rfl]
    simp
theorem asc_range {n : Nat} {P : Nat → Bool} : ((List.range n).filter P).Pairwise (· < ·) := List.Pairwise.filter _ List.pairwise_lt_range
theorem up_eq {L x : List Int} (hx : Case L x) : (allC L).filter (fun z => byOne x z) = upC L x := by
  have lx := hx.1
  refine asc_eq (List.Pairwise.filter _ asc_allC) ?_ fun z => ?_
  · unfold upC
    rw [List.pairwise_map, List.pairwise_reverse]
    refine List.Pairwise.imp_of_mem ?_ asc_range
    intro q p hq hp hlt
    have hp2 := List.mem_range.mp (List.mem_filter.mp hp).1
    have hq2 := List.mem_range.mp (List.mem_filter.mp hq).1
    refine ⟨q, fun j hj => ?_, ?_⟩
    · rw [nth_set hp2, nth_set hq2, if_neg (by omega), if_neg (by omega)]
    · rw [nth_set hp2, nth_set hq2, if_neg (by omega), if_pos rfl]
      omega
  · rw [List.mem_filter, mem_allC]
    unfold upC
    rw [List.mem_map]
    constructor
    · rintro ⟨hz, hb⟩
      obtain ⟨p, hp, rfl⟩ := (byOne_iff (by rw [hz.1]; exact lx)).mp hb
      refine ⟨p, List.mem_reverse.mpr (List.mem_filter.mpr ⟨List.mem_range.mpr hp, ?_⟩), rfl⟩
      have := (hz.2 p (by omega)).2
      rw [nth_set hp, if_pos rfl] at this
      simp
      omega
    · rintro ⟨p, hp, rfl⟩
      obtain ⟨h1, h2⟩ := List.mem_filter.mp (List.mem_reverse.mp hp)
      have h1 := List.mem_range.mp h1
      have h2 : nth x p < nth L p := of_decide_eq_true h2
      refine ⟨⟨by rw [List.length_set]; exact lx, fun i hi => ?_⟩, (byOne_iff (by rw [List.length_set])).mpr ⟨p, h1, rfl⟩⟩
      rw [nth_set h1]
      have := hx.2 i hi
      have := hx.2 p (by omega)
      split
      · rename_i z
        subst z
        omega
      · assumption
theorem dn_eq {L x : List Int} (hx : Case L x) : (allC L).filter (fun z => byOne z x) = dnC x := by
  have lx := hx.1
  refine asc_eq (List.Pairwise.filter _ asc_allC) ?_ fun z => ?_
  · unfold dnC
    rw [List.pairwise_map]
    refine List.Pairwise.imp_of_mem ?_ asc_range
    intro p q hp hq hlt
    have hp2 := List.mem_range.mp (List.mem_filter.mp hp).1
    have hq2 := List.mem_range.mp (List.mem_filter.mp hq).1
    refine ⟨p, fun j hj => ?_, ?_⟩
    · rw [nth_set hp2, nth_set hq2, if_neg (by omega), if_neg (by omega)]
    · rw [nth_set hp2, nth_set hq2, if_pos rfl, if_neg (by omega)]
      omega
  · rw [List.mem_filter, mem_allC]
    unfold dnC
    rw [List.mem_map]
    constructor
    · rintro ⟨hz, hb⟩
      obtain ⟨p, hp, e⟩ := (byOne_iff (by rw [hz.1]; exact lx.symm)).mp hb
      have hp2 : p < x.length := by
        have := hz.1
        omega
      have e1 : nth x p = nth z p + 1 := by rw [e, nth_set hp, if_pos rfl]
      refine ⟨p, List.mem_filter.mpr ⟨List.mem_range.mpr hp2, ?_⟩, ?_⟩
      · have := (hz.2 p (by omega)).1
        simp
        omega
      · refine nth_ext (by rw [List.length_set]; exact lx.trans hz.1.symm) fun i hi => ?_
        rw [nth_set hp2]
        split
        · rename_i q
          subst q
          omega
        · rename_i q
          rw [e, nth_set hp, if_neg q]
    · rintro ⟨p, hp, rfl⟩
      obtain ⟨h1, h2⟩ := List.mem_filter.mp hp
      have h1 := List.mem_range.mp h1
      have h2 : 0 < nth x p := of_decide_eq_true h2
      refine ⟨⟨by rw [List.length_set]; exact lx, fun i hi => ?_⟩, (byOne_iff (by rw [List.length_set])).mpr ⟨p, by rw [List.length_set]; exact h1, ?_⟩⟩
      · rw [nth_set h1]
        have := hx.2 i hi
        have := hx.2 p (by omega)
        split
        · rename_i z
          subst z
          omega
        · assumption
      · refine nth_ext (by simp) fun i hi => ?_
        rw [nth_set (by rw [List.length_set]; exact h1), nth_set h1, nth_set h1, if_pos rfl]
        split
        · rename_i z
          subst z
          omega
        · rfl
theorem near_ok {pro con : List Nat} {tops : List Int} {x : List Int} (h : Shape pro con tops) (hx : Case (limL pro con tops) x) : f_law_near_ones [forumD pro con tops, .lst ((allC (limL pro con tops)).map ti), ti x] = .ok (.bool true) := by
  have k1 := stronger_ok (c := x) h
  have k2 := weaker_ok (c := x) h
  rw [List.contains_iff_mem.mpr (mem_allC.mpr hx)] at k1 k2
  simp only [if_true] at k1 k2
  have hL := h.lim
  generalize forumD pro con tops = FD at *
  generalize limL pro con tops = L at *
  have lx := hx.1
  have h5 := hL.1
  have l1 : (upC L x).length ≤ 1024 := by
    rw [← up_eq hx]
    exact Nat.le_trans (List.length_filter_le _ _) (allC_cap hL)
  have l2 : (dnC x).length ≤ 1024 := by
    rw [← dn_eq hx]
    exact Nat.le_trans (List.length_filter_le _ _) (allC_cap hL)
  have s1 := same_cs (cs := upC L x) (by omega) fun c hc => by
    rw [← up_eq hx] at hc
    have := (mem_allC.mp (List.mem_filter.mp hc).1).1
    omega
  have s2 := same_cs (cs := dnC x) (by omega) fun c hc => by
    rw [← dn_eq hx] at hc
    have := (mem_allC.mp (List.mem_filter.mp hc).1).1
    omega
  have c1 : (upC L x).length < cap := by
    unfold cap
    omega
  have c2 : (dnC x).length < cap := by
    unfold cap
    omega
  unfold f_law_near_ones
  simp only [defD, b_law_near_ones]
  simp [List.replicate]
  rw [comp_filt (k := ti) (P := fun z => byOne x z) fun z hz => by
    have lz := (mem_allC.mp hz).1
    have g := by_one_ok (x := x) (y := z) (by omega) (by omega)
    cases q : byOne x z <;> simp [g, q]]
  rw [up_eq hx]
  simp
  rw [comp_filt (k := ti) (P := fun z => byOne z x) fun z hz => by
    have lz := (mem_allC.mp hz).1
    have g := by_one_ok (x := z) (y := x) (by omega) (by omega)
    cases q : byOne z x <;> simp [g, q]]
  rw [dn_eq hx]
  simp [k1, k2, newS, s1, s2, ownL, c1, c2]
theorem low_x {h y : List Int} {n : Nat} (hn : n = y.length) : (List.range n).filter (fun p => decide (nth h p < nth y p)) = lowC h y := by
  rw [hn]
  rfl
theorem next_self {y : List Int} : nextC y y = y := by
  have e : lowC y y = [] := List.filter_eq_nil_iff.mpr fun p _ => by simp
  unfold nextC
  rw [e]
theorem is_chain_ok {L x y : List Int} (hL : Lim L) (hx : Case L x) (hy : Case L y) : f_law_is_chain [.lst ((if geB y x then chn x y else []).map ti), ti x, ti y] = .ok (.bool true) := by
  have lx := hx.1
  have ly := hy.1
  have h5 := hL.1
  have g := above_ok y x (by omega) (by omega)
  unfold f_law_is_chain
  simp only [defD, b_law_is_chain]
  cases hg : geB y x with
  | false =>
    rw [hg] at g
    have s : f_law_same [.lst [], .lst []] = .ok (.bool true) := same_self 8 _ rfl
    simp [List.replicate, g, s]
  | true =>
    rw [hg] at g
    have le : ∀ p, p < y.length → nth x p ≤ nth y p := geB_iff.mp hg
    have sm := (sum_le (xs := x) (ys := y) (by omega) fun i hi => le i (by omega)).1
    have ln : ((chn x y).map ti).length = (y.sum - x.sum).toNat + 1 := by simp [chn]
    have sb : y.sum ≤ 15 ∧ 0 ≤ x.sum := by
      have b1 : ∀ (l : List Int) (k : Int), (∀ v ∈ l, v ≤ k) → l.sum ≤ k * l.length := by
        intro l k
        induction l with
        | nil => intro _; simp
        | cons v l ih =>
          intro hv
          have := ih fun w hw => hv w (List.mem_cons_of_mem _ hw)
          have := hv v (List.mem_cons_self ..)
          rw [List.sum_cons, List.length_cons, Int.natCast_add, Int.mul_add]
          omega
      have b2 : ∀ (l : List Int), (∀ v ∈ l, 0 ≤ v) → 0 ≤ l.sum := by
        intro l
        induction l with
        | nil => intro _; simp
        | cons v l ih =>
          intro hv
          have := ih fun w hw => hv w (List.mem_cons_of_mem _ hw)
          have := hv v (List.mem_cons_self ..)
          rw [List.sum_cons]
          omega
      refine ⟨?_, b2 x fun v hv => ?_⟩
      · have := b1 y 3 fun v hv => by
          obtain ⟨i, hi, rfl⟩ := List.mem_iff_getElem.mp hv
          have := hy.2 i (by omega)
          have := hL.at (show i < L.length by omega)
          rw [← nth_get hi]
          omega
        omega
      · obtain ⟨i, hi, rfl⟩ := List.mem_iff_getElem.mp hv
        have := hx.2 i (by omega)
        rw [← nth_get hi]
        omega
    have oc := okc (n := ((chn x y).map ti).length) (by omega)
    have ho := okcap (n := x.length) (by omega)
    have e0 : (((chn x y).length : Nat) : Int) = 1 + y.sum - x.sum := by
      have : (chn x y).length = (y.sum - x.sum).toNat + 1 := by simp [chn]
      omega
    simp [List.replicate, g, tyD, e0]
    rw [← e0]
    have oc2 := okc (n := (chn x y).length) (by simpa using (show ((chn x y).map ti).length ≤ 100000 by omega))
    simp [oc2, rangeD_nat]
    have at_ : ∀ k, k < (chn x y).length → atI ((chn x y).map ti) (k : Int) = some (ti (itC y x k)) := fun k hk => by
      rw [atI_nat, List.getElem?_map]
      have : (chn x y)[k]? = some (itC y x k) := by
        unfold chn at hk ⊢
        have hk : k < (y.sum - x.sum).toNat + 1 := by simpa using hk
        rw [List.getElem?_map, List.getElem?_range hk]
        rfl
      rw [this]
      rfl
    refine fin_acc (k := fun (i : Nat) => D.int (i : Int)) (xs := List.range (chn x y).length) (fun done st => ∃ s4 s5, st = [Sl.v (.lst ((chn x y).map ti)), Sl.v (ti x), Sl.v (ti y), Sl.v (ti (itC y x done.length)), s4, s5, .u]) ?_ ⟨_, _, rfl⟩ ?_
    · rintro dn k rest e st ⟨s4, s5, rfl⟩
      obtain ⟨hk, hlt⟩ := range_at e
      have ak := at_ k hlt
      have md := Mid.it (x := x) (y := y) (by omega) le dn.length
      have ml := md.l
      have sa := same_ti (xs := itC y x dn.length) (by omega)
      rw [← hk] at ak ⊢
      simp [ak, sa, ho, rangeD_nat]
      rw [comp_filter (P := fun p => decide (nth (itC y x dn.length) p < nth y p)) fun p hp => by
        by_cases q : nth (itC y x dn.length) p < nth y p <;> simp [idx_ti (show p < (itC y x dn.length).length by omega), idx_ti (show p < y.length by omega), q]]
      rw [low_x (by omega)]
      cases hq : lowC (itC y x dn.length) y with
      | nil =>
        have : itC y x (dn.length + 1) = itC y x dn.length := by
          show nextC _ _ = _
          unfold nextC
          rw [hq]
        refine ⟨_, ?_, Sl.v (.int (dn.length : Int)), Sl.v (.lst []), rfl⟩
        simp [this]
      | cons p ps =>
        obtain ⟨p1, p2⟩ := low_mem hq
        have nx : itC y x (dn.length + 1) = (itC y x dn.length).set p (nth (itC y x dn.length) p + 1) := by
          show nextC _ _ = _
          unfold nextC
          rw [hq]
        have mv := moved_eq (c := itC y x dn.length) (p := p) (x := nth (itC y x dn.length) p + 1) (by omega) (by omega)
        have pz : (0 : Int) < (ps.length : Int) + 1 := by omega
        refine ⟨_, ?_, Sl.v (.int (dn.length : Int)), Sl.v (.lst ((p :: ps).map fun (i : Nat) => D.int (i : Int))), rfl⟩
        simp [pz, atI_0, idx_ti (show p < (itC y x dn.length).length by omega), mv, nx]
    · rintro st ⟨s4, s5, rfl⟩
      have : itC y x (chn x y).length = y := by
        have e1 : (chn x y).length = (y.sum - x.sum).toNat + 1 := by simp [chn]
        rw [e1]
        show nextC (itC y x (y.sum - x.sum).toNat) y = y
        rw [it_end (by omega) le, next_self]
      rw [List.length_range, this]
      simp [cmp_eq_ti]
end LawP

namespace LawP
open Py
theorem chn_mid {L x y : List Int} (hx : Case L x) (hy : Case L y) (le : ∀ p, p < y.length → nth x p ≤ nth y p) (k : Nat) : Case L (itC y x k) ∧ geB (itC y x k) x = true ∧ geB y (itC y x k) = true := by
  have lx := hx.1
  have ly := hy.1
  have m := Mid.it (x := x) (y := y) (by omega) le k
  exact ⟨m.case hx hy, geB_iff.mpr fun i hi => m.lo i (by rw [← m.l]; exact hi), geB_iff.mpr fun i hi => m.hi i hi⟩
theorem chn_up {L x y : List Int} (hx : Case L x) (hy : Case L y) (le : ∀ p, p < y.length → nth x p ≤ nth y p) {k : Nat} (hk : k + 1 < (chn x y).length) : itC y x (k + 1) ∈ upC L (itC y x k) := by
  have lx := hx.1
  have ly := hy.1
  have hk : k < (y.sum - x.sum).toNat := by
    have : (chn x y).length = (y.sum - x.sum).toNat + 1 := by simp [chn]
    omega
  have m := Mid.it (x := x) (y := y) (by omega) le k
  have s := it_sum (x := x) (y := y) (by omega) le k (by omega)
  show nextC (itC y x k) y ∈ _
  unfold nextC
  split
  · rename_i e
    have e2 : itC y x k = y := nth_ext m.l fun i hi => by
      have := low_nil e i (by rw [← m.l]; exact hi)
      have := m.hi i (by rw [← m.l]; exact hi)
      omega
    rw [e2] at s
    omega
  · rename_i p ps e
    obtain ⟨h1, h2⟩ := low_mem e
    have := (hy.2 p (by omega)).2
    exact List.mem_map.mpr ⟨p, List.mem_reverse.mpr (List.mem_filter.mpr ⟨List.mem_range.mpr (by rw [m.l]; exact h1), by simp; omega⟩), rfl⟩
theorem way_ok {pro con : List Nat} {tops : List Int} {x y : List Int} (h : Shape pro con tops) (hx : Case (limL pro con tops) x) (hy : Case (limL pro con tops) y) : f_law_on_the_way [forumD pro con tops, ti x, ti y] = .ok (.bool true) := by
  have hL := h.lim
  have k1 := chain_ok (x := x) (y := y) h
  have k2 := between_ok (a := x) (b := y) h
  have st := fun c (hc : Case (limL pro con tops) c) => stronger_ok (c := c) h
  rw [List.contains_iff_mem.mpr (mem_allC.mpr hx), List.contains_iff_mem.mpr (mem_allC.mpr hy)] at k1 k2
  simp only [Bool.and_self, if_true] at k1 k2
  generalize forumD pro con tops = FD at *
  generalize limL pro con tops = L at *
  have ic := is_chain_ok hL hx hy
  have lx := hx.1
  have ly := hy.1
  have key : ∀ k, k < (if geB y x then chn x y else []).length → ∃ c, (if geB y x then chn x y else [])[k]? = some c ∧ Case L c ∧ (betw L x y).contains c = true ∧ (∀ j, k = j + 1 → ∃ d, (if geB y x then chn x y else [])[j]? = some d ∧ Case L d ∧ (upC L d).contains c = true) := by
    intro k hk
    cases hg : geB y x with
    | false =>
      rw [hg] at hk
      simp at hk
    | true =>
      rw [hg] at hk
      simp only [if_true] at hk ⊢
      have le : ∀ p, p < y.length → nth x p ≤ nth y p := geB_iff.mp hg
      have at_ : ∀ k, k < (chn x y).length → (chn x y)[k]? = some (itC y x k) := fun k hk => by
        unfold chn at hk ⊢
        have hk : k < (y.sum - x.sum).toNat + 1 := by simpa using hk
        rw [List.getElem?_map, List.getElem?_range hk]
        rfl
      obtain ⟨m1, m2, m3⟩ := chn_mid hx hy le k
      refine ⟨_, at_ k hk, m1, List.contains_iff_mem.mpr (List.mem_filter.mpr ⟨mem_allC.mpr m1, by rw [m2, m3]; rfl⟩), fun j hj => ?_⟩
      subst hj
      exact ⟨_, at_ j (by omega), (chn_mid hx hy le j).1, List.contains_iff_mem.mpr (chn_up hx hy le hk)⟩
  have cl : (if geB y x then chn x y else []).length ≤ 1000 := by
    cases hg : geB y x with
    | false => simp
    | true =>
      have le : ∀ p, p < y.length → nth x p ≤ nth y p := geB_iff.mp hg
      have := hL.1
      have e1 : (chn x y).length = (y.sum - x.sum).toNat + 1 := by simp [chn]
      have b : ∀ (xs ys : List Int), xs.length = ys.length → (∀ i, i < xs.length → nth ys i - nth xs i ≤ 3) → ys.sum - xs.sum ≤ 3 * ys.length := by
        intro xs
        induction xs with
        | nil =>
          intro ys hl _
          cases ys with
          | nil => simp
          | cons _ _ => cases hl
        | cons a xs ih =>
          intro ys hl hh
          cases ys with
          | nil => cases hl
          | cons b ys =>
            have i1 := ih ys (by simpa using hl) fun i hi => hh (i + 1) (by simpa using hi)
            have i0 : b - a ≤ 3 := hh 0 (Nat.zero_lt_succ _)
            rw [List.sum_cons, List.sum_cons, List.length_cons]
            omega
      have := b x y (by omega) fun i hi => by
        have := hx.2 i (by omega)
        have := hy.2 i (by omega)
        have := hL.at (show i < L.length by omega)
        omega
      simp only [if_true]
      omega
  generalize hC : (if geB y x then chn x y else []) = C at *
  have oc := okcap cl
  have gc : C.length < cap := by
    unfold cap
    omega
  unfold f_law_on_the_way
  simp only [defD, b_law_on_the_way]
  simp [List.replicate, k1, newS, ic, k2, oc, rangeD_nat]
  refine fin_go (I := fun st => ∃ s, st = [Sl.v FD, Sl.v (ti x), Sl.v (ti y), Sl.o 1 (.lst (C.map ti)), Sl.v (.lst ((betw L x y).map ti)), s]) ?_ ⟨_, rfl⟩ ?_
  · rintro d hd st' ⟨s, rfl⟩
    obtain ⟨k, hk, rfl⟩ := List.mem_map.mp hd
    have hk := List.mem_range.mp hk
    obtain ⟨c, e1, c1, c2, c3⟩ := key k hk
    have a1 : atI (C.map ti) (k : Int) = some (ti c) := by
      rw [atI_nat, List.getElem?_map, e1]
      rfl
    refine ⟨_, ?_, Sl.v (.int (k : Int)), rfl⟩
    cases k with
    | zero =>
      have a1 : atI (C.map ti) 0 = some (ti c) := a1
      simp [a1, cmp_nin_ti, List.contains_iff_mem.mp c2]
    | succ j =>
      obtain ⟨d, e2, d1, d2⟩ := c3 j rfl
      have s1 := st d d1
      rw [List.contains_iff_mem.mpr (mem_allC.mpr d1)] at s1
      simp only [if_true] at s1
      have a2 : atI (C.map ti) (((j + 1 : Nat) : Int) - 1) = some (ti d) := by
        rw [show (((j + 1 : Nat) : Int) - 1) = (j : Int) by omega, atI_nat, List.getElem?_map, e2]
        rfl
      have pz : (0 : Int) < ((j + 1 : Nat) : Int) := by omega
      generalize ((j + 1 : Nat) : Int) = jj at *
      simp only [List.contains_iff_mem] at c2 d2
      simp [a1, a2, cmp_nin_ti, c2, d2, pz, s1]
  · rintro st' ⟨s, rfl⟩
    have at0 : ∀ n : Nat, atS (n + 1) (.int 0) = fun k => k 0 := fun n => by
      funext k
      exact atS_0 (Nat.zero_lt_succ n)
    simp [ownL, gc, at0, k1, ic]
theorem refused_ok {pro con : List Nat} {tops : List Int} {a b : List Int} (h : Shape pro con tops) (k : Int) (hab : (¬ Case (limL pro con tops) a) ∨ (k ≠ 0 ∧ k ≠ 1 ∧ ¬ Case (limL pro con tops) b)) : f_law_refused [.int k, forumD pro con tops, ti a, ti b] = .ok (.bool true) := by
  have no : ∀ c, ¬ Case (limL pro con tops) c → (allC (limL pro con tops)).contains c = false := fun c hc => Bool.eq_false_iff.mpr fun z => hc (mem_allC.mp (List.contains_iff_mem.mp z))
  have s1 := stronger_ok (c := a) h
  have s2 := weaker_ok (c := a) h
  have s3 := chain_ok (x := a) (y := b) h
  generalize forumD pro con tops = FD at *
  unfold f_law_refused
  simp only [defD, b_law_refused]
  rcases hab with q | ⟨k0, k1, q⟩
  · rw [no a q] at s1 s2 s3
    simp only [Bool.false_and, Bool.false_eq_true, if_false] at s1 s2 s3
    by_cases z0 : k = 0
    · simp [List.replicate, s1, z0, catchS, catchD, tyD, D.noexc]
    by_cases z1 : k = 1
    · simp [List.replicate, s2, z1, catchS, catchD, tyD, D.noexc]
    · simp [List.replicate, s3, z0, z1, catchS, catchD, tyD, D.noexc]
  · rw [no b q, Bool.and_false] at s3
    simp only [Bool.false_eq_true, if_false] at s3
    simp [List.replicate, s3, k0, k1, catchS, catchD, tyD, D.noexc]
theorem weakest_ok {pro con : List Nat} {tops : List Int} (h : Shape pro con tops) : f_Forum_weakest_case [forumD pro con tops] = .ok (ti (List.replicate (limL pro con tops).length 0)) := by
  have h5 := h.lim.1
  have lim : opD (.fld "limits" [(100, 3)]) [forumD pro con tops] = .ok (ti (limL pro con tops)) := rfl
  generalize forumD pro con tops = FD at *
  generalize limL pro con tops = L at *
  unfold f_Forum_weakest_case
  simp only [defD, b_Forum_weakest_case]
  have e : repD [D.int 0] (L.length : Int) = (List.replicate L.length (0 : Int)).map D.int := by
    unfold repD
    simp
  have b : (-1000 ≤ (L.length : Int)) ∧ (L.length : Int) ≤ 1000 := by omega
  simp [List.replicate, lim, e, b]
  simp [ti]
theorem strongest_ok {pro con : List Nat} {tops : List Int} : f_Forum_strongest_case [forumD pro con tops] = .ok (ti (limL pro con tops)) := by
  have lim : opD (.fld "limits" [(100, 3)]) [forumD pro con tops] = .ok (ti (limL pro con tops)) := rfl
  generalize forumD pro con tops = FD at *
  unfold f_Forum_strongest_case
  simp only [defD, b_Forum_strongest_case]
  simp [List.replicate, lim]
theorem nth_rep {n p : Nat} : nth (List.replicate n 0) p = 0 := by
  unfold nth
  rw [List.getD_eq_getElem?_getD, List.getElem?_replicate]
  split <;> rfl
theorem case_zero {L : List Int} (hL : Lim L) : Case L (List.replicate L.length 0) := ⟨by simp, fun i hi => by
  have := hL.at hi
  rw [nth_rep]
  omega⟩
theorem case_top {L : List Int} (hL : Lim L) : Case L L := ⟨rfl, fun i hi => by
  have := hL.at hi
  omega⟩
end LawP

namespace LawP
open Py
def p0_law (t : Ss) : Ss := (.cons (.asg false (.v 1) (.call "_law_shape" f_law_shape [] (.cons (.call "_law_draws" f_law_draws [] (.cons (.v 0) (.cons (.int 0) (.cons (.int 11) .nil)))) .nil))) (.cons (.asg false (.v 2) (.call "_law_shape" f_law_shape [] (.cons (.call "_law_draws" f_law_draws [] (.cons (.v 0) (.cons (.int 1) (.cons (.int 11) .nil)))) .nil))) (.cons (.asg false (.v 3) (.call "_law_limits" f_law_limits [] (.cons (.v 1) .nil))) (.cons (.asg false (.v 4) (.call "_law_cases" f_law_cases [] (.cons (.v 3) .nil))) (.cons (.asg false (.v 5) (.call "_law_case" f_law_case [] (.cons (.call "_law_draws" f_law_draws [] (.cons (.v 0) (.cons (.int 2) (.cons (.int 5) .nil)))) (.cons (.int 0) (.cons (.v 3) .nil))))) (.cons (.asg false (.v 6) (.call "_law_case" f_law_case [] (.cons (.call "_law_draws" f_law_draws [] (.cons (.v 0) (.cons (.int 3) (.cons (.int 5) .nil)))) (.cons (.int 0) (.cons (.v 3) .nil))))) (.cons (.asg false (.v 7) (.bin .mod (.bi .int (.cons (.idx (.call "_law_draws" f_law_draws [] (.cons (.v 0) (.cons (.int 4) (.cons (.int 1) .nil)))) (.int 0)) .nil)) (.int 6))) (.cons (.ifs (.cmp .eq (.v 7) (.int 1)) (.cons (.asg false (.v 6) (.v 5)) .nil) .nil) (.cons (.ifs (.cmp .eq (.v 7) (.int 2)) (.cons (.asg false (.v 6) (.bi .tuple (.cons (.lc [("_law_p", 8)] (.v 8) (.range (.bi .len (.cons (.v 5) .nil))) .none (.bi .max (.cons (.idx (.v 5) (.v 8)) (.cons (.idx (.v 6) (.v 8)) .nil)))) .nil))) .nil) .nil) (.cons (.ifs (.cmp .eq (.v 7) (.int 3)) (.cons (.asg false (.v 5) (.bi .tuple (.cons (.lc [("_law_p", 8)] (.v 8) (.range (.bi .len (.cons (.v 5) .nil))) .none (.bi .max (.cons (.idx (.v 5) (.v 8)) (.cons (.idx (.v 6) (.v 8)) .nil)))) .nil))) .nil) .nil) t))))))))))
def p1_law : Ss := (.cons (.asg false (.v 9) (.op (.mk "Forum" 100 f_Forum_init []) (.cons (.idx (.v 1) (.int 0)) (.cons (.idx (.v 1) (.int 1)) (.cons (.idx (.v 1) (.int 2)) .nil))))) (.cons (.asg false (.v 10) (.op (.mk "Forum" 100 f_Forum_init []) (.cons (.idx (.v 2) (.int 0)) (.cons (.idx (.v 2) (.int 1)) (.cons (.idx (.v 2) (.int 2)) .nil))))) (.cons (.asg false (.v 11) (.call "_law_case" f_law_case [] (.cons (.call "_law_draws" f_law_draws [] (.cons (.v 0) (.cons (.int 5) (.cons (.int 5) .nil)))) (.cons (.int 0) (.cons (.call "_law_limits" f_law_limits [] (.cons (.v 2) .nil)) .nil))))) (.cons (.ifs (.not (.call "_law_near_ones" f_law_near_ones [] (.cons (.v 10) (.cons (.call "_law_cases" f_law_cases [] (.cons (.call "_law_limits" f_law_limits [] (.cons (.v 2) .nil)) .nil)) (.cons (.v 11) .nil))))) (.cons (.ret .ff) .nil) .nil) (.cons (.forr (.v 12) (.seq (.v 4)) (.cons (.ifs (.not (.call "_law_near_ones" f_law_near_ones [] (.cons (.v 9) (.cons (.v 4) (.cons (.v 12) .nil))))) (.cons (.ret .ff) .nil) .nil) (.cons (.ifs (.not (.call "_law_is_chain" f_law_is_chain [] (.cons (.call "shortest_chain" f_shortest_chain [] (.cons (.v 9) (.cons (.v 5) (.cons (.v 12) .nil)))) (.cons (.v 5) (.cons (.v 12) .nil))))) (.cons (.ret .ff) .nil) .nil) (.cons (.ifs (.not (.call "_law_is_chain" f_law_is_chain [] (.cons (.call "shortest_chain" f_shortest_chain [] (.cons (.v 9) (.cons (.v 12) (.cons (.v 6) .nil)))) (.cons (.v 12) (.cons (.v 6) .nil))))) (.cons (.ret .ff) .nil) .nil) .nil)))) (.cons (.ifs (.ands false (.cons (.not (.call "_law_on_the_way" f_law_on_the_way [] (.cons (.v 9) (.cons (.v 5) (.cons (.v 6) .nil))))) (.cons (.not (.call "_law_on_the_way" f_law_on_the_way [] (.cons (.v 9) (.cons (.v 6) (.cons (.v 5) .nil))))) (.cons (.not (.call "_law_on_the_way" f_law_on_the_way [] (.cons (.v 10) (.cons (.v 11) (.cons (.v 11) .nil))))) .nil)))) (.cons (.ret .ff) .nil) .nil) (.cons (.asg false (.v 13) (.call "_law_bad_case" f_law_bad_case [] (.cons (.call "_law_draws" f_law_draws [] (.cons (.v 0) (.cons (.int 6) (.cons (.int 7) .nil)))) (.cons (.int 0) (.cons (.v 3) .nil))))) (.cons (.asg false (.v 14) (.call "_law_bad_case" f_law_bad_case [] (.cons (.call "_law_draws" f_law_draws [] (.cons (.v 0) (.cons (.int 7) (.cons (.int 7) .nil)))) (.cons (.int 0) (.cons (.v 3) .nil))))) (.cons (.forr (.v 15) (.range (.int 3)) (.cons (.ifs (.ands false (.cons (.not (.call "_law_refused" f_law_refused [] (.cons (.v 15) (.cons (.v 9) (.cons (.v 13) (.cons (.v 5) .nil)))))) (.cons (.not (.call "_law_refused" f_law_refused [] (.cons (.v 15) (.cons (.v 9) (.cons (.v 14) (.cons (.v 13) .nil)))))) .nil))) (.cons (.ret .ff) .nil) .nil) .nil)) (.cons (.ifs (.ands false (.cons (.not (.call "_law_refused" f_law_refused [] (.cons (.int 2) (.cons (.v 9) (.cons (.v 5) (.cons (.v 13) .nil)))))) (.cons (.not (.call "_law_refused" f_law_refused [] (.cons (.int 2) (.cons (.v 9) (.cons (.v 6) (.cons (.v 14) .nil)))))) .nil))) (.cons (.ret .ff) .nil) .nil) (.cons (.ret (.ands true (.cons (.call "_law_on_the_way" f_law_on_the_way [] (.cons (.v 9) (.cons (.op (.prop "weakest_case" [(100, f_Forum_weakest_case)]) (.cons (.v 9) .nil)) (.cons (.op (.prop "strongest_case" [(100, f_Forum_strongest_case)]) (.cons (.v 9) .nil)) .nil)))) (.cons (.call "_law_near_ones" f_law_near_ones [] (.cons (.v 9) (.cons (.v 4) (.cons (.v 5) .nil)))) .nil)))) .nil)))))))))))
theorem b_law_cut : b_law = (p0_law p1_law) := rfl
theorem law_true : ∀ ns : List Int, ns.length ≤ 63 → f_law [.scr ns] = .ok (.bool true) := by
  intro ns _
  have draw := draws_ok ns
  obtain ⟨d0, e0, l0, p0⟩ := draw 0 11 (by decide)
  have e0 : f_law_draws [.scr ns, .int 0, .int 11] = .ok (li d0) := e0
  obtain ⟨pro, con, tops, e1, hS⟩ := shape_ok d0 (by omega) p0
  obtain ⟨dA, eA, lA, pA⟩ := draw 1 11 (by decide)
  have eA : f_law_draws [.scr ns, .int 1, .int 11] = .ok (li dA) := eA
  obtain ⟨pro2, con2, tops2, eB, hS2⟩ := shape_ok dA (by omega) pA
  have e2 := limits_ok hS
  have eC := limits_ok hS2
  have hL := hS.lim
  have hL2 := hS2.lim
  have h5 := hL.1
  have h52 := hL2.1
  have hpos := hS.pos
  have e3 := cases_ok hL
  have eD := cases_ok hL2
  obtain ⟨d1, e4, l1, p1⟩ := draw 2 5 (by decide)
  have e4 : f_law_draws [.scr ns, .int 2, .int 5] = .ok (li d1) := e4
  obtain ⟨x, e5, hx⟩ := case_ok (a := 0) hL (by omega) p1
  have e5 : f_law_case [li d1, .int 0, li (limL pro con tops)] = .ok (ti x) := e5
  obtain ⟨d2, e6, l2, p2⟩ := draw 3 5 (by decide)
  have e6 : f_law_draws [.scr ns, .int 3, .int 5] = .ok (li d2) := e6
  obtain ⟨y, e7, hy⟩ := case_ok (a := 0) hL (by omega) p2
  have e7 : f_law_case [li d2, .int 0, li (limL pro con tops)] = .ok (ti y) := e7
  obtain ⟨d3, e8, l3, p3⟩ := draw 4 1 (by decide)
  have e8 : f_law_draws [.scr ns, .int 4, .int 1] = .ok (li d3) := e8
  have i3 : idxD (li d3) (.int 0) = .ok (.int (nth d3 0)) := idx_li (xs := d3) (i := 0) (by omega)
  obtain ⟨d4, e9, l4, p4⟩ := draw 5 5 (by decide)
  have e9 : f_law_draws [.scr ns, .int 5, .int 5] = .ok (li d4) := e9
  obtain ⟨z, e10, hz⟩ := case_ok (a := 0) hL2 (by omega) p4
  have e10 : f_law_case [li d4, .int 0, li (limL pro2 con2 tops2)] = .ok (ti z) := e10
  obtain ⟨d6, e11, l6, p6⟩ := draw 6 7 (by decide)
  have e11 : f_law_draws [.scr ns, .int 6, .int 7] = .ok (li d6) := e11
  obtain ⟨d7, e12, l7, p7⟩ := draw 7 7 (by decide)
  have e12 : f_law_draws [.scr ns, .int 7, .int 7] = .ok (li d7) := e12
  obtain ⟨b, e13, hb⟩ := bad_case_ok hL hpos (by omega) p6
  obtain ⟨w, e14, hw⟩ := bad_case_ok hL hpos (by omega) p7
  have e15 := forum_ok hS
  have e16 := forum_ok hS2
  have rest : ∀ x y : List Int, Case (limL pro con tops) x → Case (limL pro con tops) y → ∀ s7 s8 : Sl,
      fin (runs [Sl.v (.scr ns), Sl.v (.tup [.str pro, .str con, ti tops]), Sl.v (.tup [.str pro2, .str con2, ti tops2]), Sl.v (li (limL pro con tops)), Sl.v (.lst ((allC (limL pro con tops)).map ti)), Sl.v (ti x), Sl.v (ti y), s7, s8, .u, .u, .u, .u, .u, .u, .u] p1_law) = .ok (.bool true) := by
    intro x y hx hy s7 s8
    have q1 := near_ok hS2 hz
    have q2 := fun c hc => near_ok (x := c) hS hc
    have q3 := fun a b ha hb => way_ok (x := a) (y := b) hS ha hb
    have q4 := way_ok hS2 hz hz
    have q5 := fun k a b hab => refused_ok (a := a) (b := b) hS k hab
    have q6 := fun a c (ha : Case (limL pro con tops) a) (hc : Case (limL pro con tops) c) => is_chain_ok hL ha hc
    have q7 : ∀ a c, Case (limL pro con tops) a → Case (limL pro con tops) c → f_shortest_chain [forumD pro con tops, ti a, ti c] = .ok (.lst ((if geB c a then chn a c else []).map ti)) := fun a c ha hc => by
      have k1 := chain_ok (x := a) (y := c) hS
      rw [List.contains_iff_mem.mpr (mem_allC.mpr ha), List.contains_iff_mem.mpr (mem_allC.mpr hc)] at k1
      simpa using k1
    have q8 := weakest_ok hS
    have q9 := strongest_ok (pro := pro) (con := con) (tops := tops)
    have c0 := case_zero hL
    have cT := case_top hL
    obtain ⟨fs, hF⟩ : ∃ fs, forumD pro con tops = .obj 100 fs := ⟨_, rfl⟩
    rw [hF] at q2 q3 q5 q7 q8 q9 e15
    generalize hF2 : forumD pro2 con2 tops2 = FD2 at *
    generalize limL pro con tops = L at *
    unfold p1_law
    simp [atI_0, atI_1, atI_2, e15, e16, e9, eC, e10, eD, q1]
    refine fin_go (I := fun st => ∃ s, st = [Sl.v (.scr ns), Sl.v (.tup [.str pro, .str con, ti tops]), Sl.v (.tup [.str pro2, .str con2, ti tops2]), Sl.v (li L), Sl.v (.lst ((allC L).map ti)), Sl.v (ti x), Sl.v (ti y), s7, s8, Sl.v (.obj 100 fs), Sl.v FD2, Sl.v (ti z), s, .u, .u, .u]) ?_ ⟨_, rfl⟩ ?_
    · rintro d hd st ⟨s, rfl⟩
      obtain ⟨c, hc, rfl⟩ := List.mem_map.mp hd
      have hc := mem_allC.mp hc
      have r1 := q2 c hc
      have r2 := q7 x c hx hc
      have r3 := q6 x c hx hc
      have r4 := q7 c y hc hy
      have r5 := q6 c y hc hy
      refine ⟨_, ?_, Sl.v (ti c), rfl⟩
      generalize (if geB c x then chn x c else []) = C1 at *
      generalize (if geB y c then chn c y else []) = C2 at *
      simp [r1, r2, r3, r4, r5]
    · rintro st ⟨s, rfl⟩
      have r1 := q3 x y hx hy
      have r2 := q3 y x hy hx
      have r3 := q3 _ _ c0 cT
      have r4 := q2 x hx
      have r5 := q5 2 x b (.inr ⟨by decide, by decide, hb⟩)
      have r6 := q5 2 y w (.inr ⟨by decide, by decide, hw⟩)
      have c3 : (3 : Int) ≤ (cap : Int) ∧ -bigI ≤ (3 : Int) := by decide
      simp [r1, r2, q4, e11, e12, e13, e14, c3]
      refine fin_go (I := fun st => ∃ s2, st = [Sl.v (.scr ns), Sl.v (.tup [.str pro, .str con, ti tops]), Sl.v (.tup [.str pro2, .str con2, ti tops2]), Sl.v (li L), Sl.v (.lst ((allC L).map ti)), Sl.v (ti x), Sl.v (ti y), s7, s8, Sl.v (.obj 100 fs), Sl.v FD2, Sl.v (ti z), s, Sl.v (ti b), Sl.v (ti w), s2]) ?_ ⟨_, rfl⟩ ?_
      · rintro d hd st ⟨s2, rfl⟩
        obtain ⟨i, _, rfl⟩ := List.mem_map.mp hd
        have t1 := q5 (0 + (i : Int)) b x (.inl hb)
        have t2 := q5 (0 + (i : Int)) w b (.inl hw)
        refine ⟨_, ?_, Sl.v (.int (0 + (i : Int))), rfl⟩
        generalize (0 + (i : Int)) = j at *
        simp [t1, t2]
      · rintro st ⟨s2, rfl⟩
        simp [r5, r6, q8, q9, r3, r4]
  have lx := hx.1
  have ly := hy.1
  have ho := okcap (n := x.length) (by omega)
  have hj := case_join hx hy
  unfold f_law
  simp only [defD, b_law_cut, p0_law]
  simp [List.replicate, e0, e1, eA, eB, e2, e3, e4, e5, e6, e7, e8, i3]
  have cm : ∀ f : D → R (Option D), (∀ p, p < x.length → f (.int (p : Int)) = .ok (some (.int (mxI (nth x p) (nth y p))))) → R.map D.lst (compD ((List.range x.length).map fun (i : Nat) => D.int (i : Int)) f) = .ok (li (joinC x y)) := fun f h => comp_li h
  by_cases k1 : nth d3 0 % 6 = 1
  · simp [k1]
    exact rest x x hx hx _ _
  by_cases k2 : nth d3 0 % 6 = 2
  · simp [k2, ho, rangeD_nat]
    rw [cm _ fun p hp => by simp [idx_ti hp, idx_ti (show p < y.length by omega), mxI]]
    simp
    exact rest x (joinC x y) hx hj _ _
  by_cases k3 : nth d3 0 % 6 = 3
  · simp [k3, ho, rangeD_nat]
    rw [cm _ fun p hp => by simp [idx_ti hp, idx_ti (show p < y.length by omega), mxI]]
    simp
    exact rest (joinC x y) y hj hy _ _
  · simp [k1, k2, k3]
    exact rest x y hx hy _ _
end LawP

namespace LawP
open PySem PySem.Spec PyProof.Rows L2 Py
abbrev prg : Program := PySem.Challenge.pw_settledcases_k04_neighbors_and_chains
def top (i : Nat) : Stmt := prg.main.body.getD i (.Pass ⟨0, 0, 0, 0⟩)
def mem (i j : Nat) : Stmt := (C8.clsBody (top i)).getD j (.Pass ⟨0, 0, 0, 0⟩)
def d_law_shape : He.DefD := ⟨("_law_shape", none), "_law_shape", "_law_shape", defArgs (top 23), defBody (top 23), defScope (top 23), [], []⟩
def d_law_cell : He.DefD := ⟨("_law_cell", none), "_law_cell", "_law_cell", defArgs (top 24), defBody (top 24), defScope (top 24), [], []⟩
def d_law_draws : He.DefD := ⟨("_law_draws", none), "_law_draws", "_law_draws", defArgs (top 25), defBody (top 25), defScope (top 25), [], []⟩
def d_law_limits : He.DefD := ⟨("_law_limits", none), "_law_limits", "_law_limits", defArgs (top 26), defBody (top 26), defScope (top 26), [], []⟩
def d_law_cases : He.DefD := ⟨("_law_cases", none), "_law_cases", "_law_cases", defArgs (top 27), defBody (top 27), defScope (top 27), [], []⟩
def d_law_case : He.DefD := ⟨("_law_case", none), "_law_case", "_law_case", defArgs (top 28), defBody (top 28), defScope (top 28), [], []⟩
def d_distinct_letters : He.DefD := ⟨("distinct_letters", none), "distinct_letters", "distinct_letters", defArgs (top 18), defBody (top 18), defScope (top 18), [], []⟩
def d_all_cases : He.DefD := ⟨("all_cases", none), "all_cases", "all_cases", defArgs (top 17), defBody (top 17), defScope (top 17), [], []⟩
def d_Forum_init : He.DefD := ⟨("Forum", some "__init__"), "__init__", "Forum.__init__", defArgs (mem 19 2), defBody (mem 19 2), defScope (mem 19 2), [.str "", .str "", .adr (He.dflAt ("Forum", some "__init__") 2)], []⟩
def d_law_by_one : He.DefD := ⟨("_law_by_one", none), "_law_by_one", "_law_by_one", defArgs (top 30), defBody (top 30), defScope (top 30), [], []⟩
def d_Forum_contains : He.DefD := ⟨("Forum", some "__contains__"), "__contains__", "Forum.__contains__", defArgs (mem 19 4), defBody (mem 19 4), defScope (mem 19 4), [], []⟩
def d_require_cases : He.DefD := ⟨("require_cases", none), "require_cases", "require_cases", defArgs (top 10), defBody (top 10), defScope (top 10), [], []⟩
def d_moved : He.DefD := ⟨("moved", none), "moved", "moved", defArgs (top 11), defBody (top 11), defScope (top 11), [], []⟩
def d_stronger_by_one : He.DefD := ⟨("stronger_by_one", none), "stronger_by_one", "stronger_by_one", defArgs (top 12), defBody (top 12), defScope (top 12), [], []⟩
def d_weaker_by_one : He.DefD := ⟨("weaker_by_one", none), "weaker_by_one", "weaker_by_one", defArgs (top 13), defBody (top 13), defScope (top 13), [], []⟩
def d_law_same : He.DefD := ⟨("_law_same", none), "_law_same", "_law_same", defArgs (top 21), defBody (top 21), defScope (top 21), [], []⟩
def d_law_near_ones : He.DefD := ⟨("_law_near_ones", none), "_law_near_ones", "_law_near_ones", defArgs (top 31), defBody (top 31), defScope (top 31), [], []⟩
def d_law_above : He.DefD := ⟨("_law_above", none), "_law_above", "_law_above", defArgs (top 22), defBody (top 22), defScope (top 22), [], []⟩
def d_law_is_chain : He.DefD := ⟨("_law_is_chain", none), "_law_is_chain", "_law_is_chain", defArgs (top 32), defBody (top 32), defScope (top 32), [], []⟩
def d_at_least : He.DefD := ⟨("at_least", none), "at_least", "at_least", defArgs (top 7), defBody (top 7), defScope (top 7), [], []⟩
def d_shortest_chain : He.DefD := ⟨("shortest_chain", none), "shortest_chain", "shortest_chain", defArgs (top 14), defBody (top 14), defScope (top 14), [], []⟩
def d_between : He.DefD := ⟨("between", none), "between", "between", defArgs (top 8), defBody (top 8), defScope (top 8), [], []⟩
def d_law_on_the_way : He.DefD := ⟨("_law_on_the_way", none), "_law_on_the_way", "_law_on_the_way", defArgs (top 33), defBody (top 33), defScope (top 33), [], []⟩
def d_law_bad_case : He.DefD := ⟨("_law_bad_case", none), "_law_bad_case", "_law_bad_case", defArgs (top 29), defBody (top 29), defScope (top 29), [], []⟩
def d_law_refused : He.DefD := ⟨("_law_refused", none), "_law_refused", "_law_refused", defArgs (top 34), defBody (top 34), defScope (top 34), [], []⟩
def d_law : He.DefD := ⟨("law", none), "law", "law", defArgs (top 35), defBody (top 35), defScope (top 35), [], []⟩
def d_Forum_iter : He.DefD := ⟨("Forum", some "__iter__"), "__iter__", "Forum.__iter__", defArgs (mem 19 3), defBody (mem 19 3), defScope (mem 19 3), [], []⟩
def d_Forum_weakest_case : He.DefD := ⟨("Forum", some "weakest_case"), "weakest_case", "Forum.weakest_case", defArgs (mem 19 7), defBody (mem 19 7), defScope (mem 19 7), [], []⟩
def d_Forum_strongest_case : He.DefD := ⟨("Forum", some "strongest_case"), "strongest_case", "Forum.strongest_case", defArgs (mem 19 8), defBody (mem 19 8), defScope (mem 19 8), [], []⟩
def fn : List He.DefD := [d_law_shape, d_law_cell, d_law_draws, d_law_limits, d_law_cases, d_law_case, d_distinct_letters, d_all_cases, d_Forum_init, d_law_by_one, d_Forum_contains, d_require_cases, d_moved, d_stronger_by_one, d_weaker_by_one, d_law_same, d_law_near_ones, d_law_above, d_law_is_chain, d_at_least, d_shortest_chain, d_between, d_law_on_the_way, d_law_bad_case, d_law_refused, d_law, d_Forum_iter]
def pr : List He.DefD := [d_Forum_weakest_case, d_Forum_strongest_case]
def fa0 : List He.Fa := [.glo "_law_shape", .glo "_law_cell", .glo "_law_draws", .glo "_law_limits", .glo "_law_cases", .glo "_law_case", .glo "distinct_letters", .glo "all_cases", .glo "_law_by_one", .glo "require_cases", .glo "moved", .glo "stronger_by_one", .glo "weaker_by_one", .glo "_law_same", .glo "_law_near_ones", .glo "_law_above", .glo "_law_is_chain", .glo "at_least", .glo "shortest_chain", .glo "between", .glo "_law_on_the_way", .glo "_law_bad_case", .glo "_law_refused", .glo "law", .free "abs", .free "bool", .free "enumerate", .free "int", .free "isinstance", .free "iter", .free "len", .free "list", .free "max", .free "range", .free "reversed", .free "str", .free "sum", .free "tuple", .glo "NoForum", .glo "NoCase"]
def fa1 : List He.Fa := [.glo "CourtError", .glo "Forum", .exc "NoForum", .exc "NoCase", .cls "Forum", .noat "Forum" "pro", .noat "Forum" "con", .noat "Forum" "tops", .noat "Forum" "limits", .noat "Forum" "steps", .noat "Forum" "_cases", .noat "Forum" "_numbers", .meth "Forum" "__contains__", .meth "Forum" "__iter__", .exm "NoForum" "CourtError" true, .exm "NoCase" "CourtError" true, .mkr "Forum", .str "LETTERS" "abcdefghijklmnopqrstuvwxyz"]
def fa : List He.Fa := fa0 ++ fa1
def fr : List Str := ["abs", "bool", "enumerate", "int", "isinstance", "iter", "len", "list", "max", "range", "reversed", "str", "sum", "tuple"]
def exb (K : PySem.W.Frag) : List Bool := [He.conB K "Forum" "TOPS" (.int 3), He.conB K "Forum" "STEPS" (.int 5), xcB K "NoForum", xcB K "NoCase", kitB3 K "NoForum" "NoCase" false, kitB3 K "NoCase" "NoCase" true]
def yes : List Bool := [true, true, true, true, true, true]
def tflds : Nat → List Str := fun c => match c with | 100 => ["pro", "con", "tops", "limits", "steps", "_cases", "_numbers"] | _ => []
def tab (K : PySem.W.Frag) : Py.Tab := ⟨fun c => match c with | 1 => He.ga K "NoForum" | 5 => He.ga K "NoCase" | 100 => He.ga K "Forum" | _ => 0, tflds, fun _ => none, fun _ => [], 0⟩
section
variable {P : Program} {w : World} {K : PySem.W.Frag} {mg : Str → Option Value} {base h : Heap}
structure Sit (K : PySem.W.Frag) (mg : Str → Option Value) : Prop where
  h : ∃ h : Heap, K.In h ∧ h.Ns mainGlobals mg
  q : SaysQ fa fn pr exb K
theorem Sit.c (Z : Sit K mg) : He.SaysD fa fn K := Z.q.d
theorem Sit.x (Z : Sit K mg) : ∀ b ∈ exb K, b = true := Z.q.x
theorem Sit.glo (Z : Sit K mg) {x : Str} (i : Nat) (e : fa[i]? = some (.glo x)) : mg x = some (.ref (He.ga K x)) := by
  obtain ⟨h, X, G⟩ := Z.h
  exact He.glo_ok X G (Z.c.fact i e)
theorem Sit.free (Z : Sit K mg) (x : Str) (hx : fr.contains x = true) : mg x = none := by
  obtain ⟨h, X, G⟩ := Z.h
  have hm : He.Fa.free x ∈ fa := by
    have hx : x ∈ fr := List.contains_iff_mem.mp hx
    have e : ∀ y ∈ fr, He.Fa.free y ∈ fa := by
      have : ∀ y ∈ fr, ∃ i : Nat, fa[i]? = some (He.Fa.free y) := by
        intro y hy
        simp only [fr, List.mem_cons, List.not_mem_nil, or_false] at hy
        rcases hy with rfl | rfl | rfl | rfl | rfl | rfl | rfl | rfl | rfl | rfl | rfl | rfl | rfl | rfl
        · exact ⟨24, rfl⟩
        · exact ⟨25, rfl⟩
        · exact ⟨26, rfl⟩
        · exact ⟨27, rfl⟩
        · exact ⟨28, rfl⟩
        · exact ⟨29, rfl⟩
        · exact ⟨30, rfl⟩
        · exact ⟨31, rfl⟩
        · exact ⟨32, rfl⟩
        · exact ⟨33, rfl⟩
        · exact ⟨34, rfl⟩
        · exact ⟨35, rfl⟩
        · exact ⟨36, rfl⟩
        · exact ⟨37, rfl⟩
      intro y hy
      obtain ⟨i, hi⟩ := this y hy
      exact List.mem_of_getElem? hi
    exact e x hx
  exact He.free_ok X G (He.SaysD.facts Z.c hm)
theorem x_NoForum (Z : Sit K mg) : ExcOk P w K mg (tab K) "NoForum" 1 := by
  obtain ⟨h1, h2, h3, h4⟩ := He.exc_ok (Z.c.fact 42 (f := .exc "NoForum") rfl)
  exact ⟨Z.glo 38 rfl, h1, h2, h3, h4⟩
theorem x_NoCase (Z : Sit K mg) : ExcOk P w K mg (tab K) "NoCase" 5 := by
  obtain ⟨h1, h2, h3, h4⟩ := He.exc_ok (Z.c.fact 43 (f := .exc "NoCase") rfl)
  exact ⟨Z.glo 39 rfl, h1, h2, h3, h4⟩
theorem cl_Forum (Z : Sit K mg) : Cls K ((tab K).addr 100) := He.cls_ok (Z.c.fact 44 (f := .cls "Forum") rfl)
theorem fo_Forum_0 (Z : Sit K mg) : FldOk K (tab K) 100 0 "pro" := ⟨cl_Forum Z, He.noat_ok (Z.c.fact 45 (f := .noat "Forum" "pro") rfl), by rfl, (show (tflds 100).Nodup from by decide)⟩
theorem fo_Forum_1 (Z : Sit K mg) : FldOk K (tab K) 100 1 "con" := ⟨cl_Forum Z, He.noat_ok (Z.c.fact 46 (f := .noat "Forum" "con") rfl), by rfl, (show (tflds 100).Nodup from by decide)⟩
theorem fo_Forum_2 (Z : Sit K mg) : FldOk K (tab K) 100 2 "tops" := ⟨cl_Forum Z, He.noat_ok (Z.c.fact 47 (f := .noat "Forum" "tops") rfl), by rfl, (show (tflds 100).Nodup from by decide)⟩
theorem fo_Forum_3 (Z : Sit K mg) : FldOk K (tab K) 100 3 "limits" := ⟨cl_Forum Z, He.noat_ok (Z.c.fact 48 (f := .noat "Forum" "limits") rfl), by rfl, (show (tflds 100).Nodup from by decide)⟩
theorem fo_Forum_4 (Z : Sit K mg) : FldOk K (tab K) 100 4 "steps" := ⟨cl_Forum Z, He.noat_ok (Z.c.fact 49 (f := .noat "Forum" "steps") rfl), by rfl, (show (tflds 100).Nodup from by decide)⟩
theorem fo_Forum_5 (Z : Sit K mg) : FldOk K (tab K) 100 5 "_cases" := ⟨cl_Forum Z, He.noat_ok (Z.c.fact 50 (f := .noat "Forum" "_cases") rfl), by rfl, (show (tflds 100).Nodup from by decide)⟩
theorem fo_Forum_6 (Z : Sit K mg) : FldOk K (tab K) 100 6 "_numbers" := ⟨cl_Forum Z, He.noat_ok (Z.c.fact 51 (f := .noat "Forum" "_numbers") rfl), by rfl, (show (tflds 100).Nodup from by decide)⟩
theorem co_Forum_STEPS (Z : Sit K mg) : ConOk K (tab K) 100 "STEPS" (.int 5) := by
  obtain ⟨u, hu⟩ := He.conB_ok (K := K) (C := "Forum") (f := "STEPS") (v := (.int 5)) (Z.x _ (List.mem_of_getElem? (i := 1) rfl))
  exact ⟨cl_Forum Z, ⟨_, u, hu, fun F => rfl⟩, (show (tflds 100).contains ("STEPS" : Str) = false from by decide)⟩
theorem co_Forum_TOPS (Z : Sit K mg) : ConOk K (tab K) 100 "TOPS" (.int 3) := by
  obtain ⟨u, hu⟩ := He.conB_ok (K := K) (C := "Forum") (f := "TOPS") (v := (.int 3)) (Z.x _ (List.mem_of_getElem? (i := 0) rfl))
  exact ⟨cl_Forum Z, ⟨_, u, hu, fun F => rfl⟩, (show (tflds 100).contains ("TOPS" : Str) = false from by decide)⟩
theorem gl_LETTERS (Z : Sit K mg) : ∃ u v, mg ("LETTERS" : Str) = some u ∧ RelV v u ∧ ∀ F, Rep K (tab K) F c_LETTERS v := by
  obtain ⟨h, X, G⟩ := Z.h
  obtain ⟨t, e⟩ := He.str_ok X G (Z.c.fact 57 (f := .str "LETTERS" "abcdefghijklmnopqrstuvwxyz") rfl)
  exact ⟨_, V.str ("abcdefghijklmnopqrstuvwxyz" : Str), e, ⟨t, rfl⟩, fun F => by show V.str _ = V.str _; congr 1⟩
abbrev nm_Forum_iter : List Str := ["self"]
theorem sc_Forum_iter : FnScope nm_Forum_iter nm_Forum_iter (defScope (mem 19 3)) := C8.fnScope_by (by kernel_rfl)
theorem m_Forum_iter : iterB nm_Forum_iter (defScope (mem 19 3)) "_cases" (defBody (mem 19 3)) = true := by kernel_rfl
theorem ok_Forum_iter (Z : Sit K mg) : GoodT P w K mg base (tab K) 1 100 5 := by
  obtain ⟨fd, F⟩ := Z.c.def_ 26 (d := d_Forum_iter) rfl
  exact goodT_of (fl := "_cases") (cl_Forum Z) (He.meth_ok (Z.c.fact 53 (f := .meth "Forum" "__iter__") rfl)) (He.noat_ok (Z.c.fact 50 (f := .noat "Forum" "_cases") rfl)) (by rfl) (show (tflds 100).Nodup from by decide) F sc_Forum_iter (F.bindsN (fun _ _ _ _ _ _ us hl => match us, hl with | [_], _ => rfl)) (by rfl) (Z.free _ (by decide)) m_Forum_iter
abbrev ps_law_shape : List Str := ["_law_draws_here"]
abbrev nm_law_shape : List Str := ["_law_draws_here", "_law_pool", "_law_pro", "_law_con", "_law_tops", "_law_n", "_law_side", "_law_at", "_law_letter"]
theorem sc_law_shape : FnScope nm_law_shape ps_law_shape (defScope (top 23)) := C8.fnScope_by (by kernel_rfl)
theorem m_law_shape : mSs false false ⟨nm_law_shape, defScope (top 23), fr⟩ b_law_shape (defBody (top 23)) = true := by kernel_rfl
theorem ok_law_shape (Z : Sit K mg)   : Good P w K mg base (tab K) 1 "_law_shape" f_law_shape [] := by
  obtain ⟨fd, F⟩ := Z.c.def_ 0 (d := d_law_shape) rfl
  exact good_of (k := 0) (N := nm_law_shape) (ps := ps_law_shape) (b := b_law_shape) (Z.glo 0 rfl) F sc_law_shape (fun _ _ _ _ _ _ us hl => match us, hl with | [_], _ => rfl) Z.free m_law_shape (fun _ => rfl) trivial
abbrev ps_law_cell : List Str := ["_law_script", "_law_k"]
abbrev nm_law_cell : List Str := ["_law_script", "_law_k"]
theorem sc_law_cell : FnScope nm_law_cell ps_law_cell (defScope (top 24)) := C8.fnScope_by (by kernel_rfl)
theorem m_law_cell : mSs false false ⟨nm_law_cell, defScope (top 24), fr⟩ b_law_cell (defBody (top 24)) = true := by kernel_rfl
theorem ok_law_cell (Z : Sit K mg)   : Good P w K mg base (tab K) 1 "_law_cell" f_law_cell [] := by
  obtain ⟨fd, F⟩ := Z.c.def_ 1 (d := d_law_cell) rfl
  exact good_of (k := 0) (N := nm_law_cell) (ps := ps_law_cell) (b := b_law_cell) (Z.glo 1 rfl) F sc_law_cell (fun _ _ _ _ _ _ us hl => match us, hl with | [_, _], _ => rfl) Z.free m_law_cell (fun _ => rfl) trivial
abbrev ps_law_draws : List Str := ["_law_script", "_law_k", "_law_many"]
abbrev nm_law_draws : List Str := ["_law_script", "_law_k", "_law_many", "_law_cell_here", "_law_seed", "_law_draws_here", "_law_n", "_law_one", "_law_two"]
theorem sc_law_draws : FnScope nm_law_draws ps_law_draws (defScope (top 25)) := C8.fnScope_by (by kernel_rfl)
theorem m_law_draws : mSs false false ⟨nm_law_draws, defScope (top 25), fr⟩ b_law_draws (defBody (top 25)) = true := by kernel_rfl
theorem ok_law_draws (Z : Sit K mg) (g_law_cell : Good P w K mg base (tab K) 1 "_law_cell" f_law_cell [])  : Good P w K mg base (tab K) 2 "_law_draws" f_law_draws [] := by
  obtain ⟨fd, F⟩ := Z.c.def_ 2 (d := d_law_draws) rfl
  exact good_of (k := 1) (N := nm_law_draws) (ps := ps_law_draws) (b := b_law_draws) (Z.glo 2 rfl) F sc_law_draws (fun _ _ _ _ _ _ us hl => match us, hl with | [_, _, _], _ => rfl) Z.free m_law_draws (fun _ => rfl) ⟨(Good.mono g_law_cell (by decide)), trivial⟩
abbrev ps_law_limits : List Str := ["_law_shape_here"]
abbrev nm_law_limits : List Str := ["_law_shape_here"]
theorem sc_law_limits : FnScope nm_law_limits ps_law_limits (defScope (top 26)) := C8.fnScope_by (by kernel_rfl)
theorem m_law_limits : mSs false false ⟨nm_law_limits, defScope (top 26), fr⟩ b_law_limits (defBody (top 26)) = true := by kernel_rfl
theorem ok_law_limits (Z : Sit K mg)   : Good P w K mg base (tab K) 1 "_law_limits" f_law_limits [] := by
  obtain ⟨fd, F⟩ := Z.c.def_ 3 (d := d_law_limits) rfl
  exact good_of (k := 0) (N := nm_law_limits) (ps := ps_law_limits) (b := b_law_limits) (Z.glo 3 rfl) F sc_law_limits (fun _ _ _ _ _ _ us hl => match us, hl with | [_], _ => rfl) Z.free m_law_limits (fun _ => rfl) trivial
abbrev ps_law_cases : List Str := ["_law_limits_here"]
abbrev nm_law_cases : List Str := ["_law_limits_here", "_law_cases_here", "_law_limit", "_law_longer", "_law_k", "_law_level"]
theorem sc_law_cases : FnScope nm_law_cases ps_law_cases (defScope (top 27)) := C8.fnScope_by (by kernel_rfl)
theorem m_law_cases : mSs false false ⟨nm_law_cases, defScope (top 27), fr⟩ b_law_cases (defBody (top 27)) = true := by kernel_rfl
theorem ok_law_cases (Z : Sit K mg)   : Good P w K mg base (tab K) 1 "_law_cases" f_law_cases [] := by
  obtain ⟨fd, F⟩ := Z.c.def_ 4 (d := d_law_cases) rfl
  exact good_of (k := 0) (N := nm_law_cases) (ps := ps_law_cases) (b := b_law_cases) (Z.glo 4 rfl) F sc_law_cases (fun _ _ _ _ _ _ us hl => match us, hl with | [_], _ => rfl) Z.free m_law_cases (fun _ => rfl) trivial
abbrev ps_law_case : List Str := ["_law_draws_here", "_law_at", "_law_limits_here"]
abbrev nm_law_case : List Str := ["_law_draws_here", "_law_at", "_law_limits_here", "_law_p"]
theorem sc_law_case : FnScope nm_law_case ps_law_case (defScope (top 28)) := C8.fnScope_by (by kernel_rfl)
theorem m_law_case : mSs false false ⟨nm_law_case, defScope (top 28), fr⟩ b_law_case (defBody (top 28)) = true := by kernel_rfl
theorem ok_law_case (Z : Sit K mg)   : Good P w K mg base (tab K) 1 "_law_case" f_law_case [] := by
  obtain ⟨fd, F⟩ := Z.c.def_ 5 (d := d_law_case) rfl
  exact good_of (k := 0) (N := nm_law_case) (ps := ps_law_case) (b := b_law_case) (Z.glo 5 rfl) F sc_law_case (fun _ _ _ _ _ _ us hl => match us, hl with | [_, _, _], _ => rfl) Z.free m_law_case (fun _ => rfl) trivial
abbrev ps_distinct_letters : List Str := ["text"]
abbrev nm_distinct_letters : List Str := ["text", "letter"]
theorem sc_distinct_letters : FnScope nm_distinct_letters ps_distinct_letters (defScope (top 18)) := C8.fnScope_by (by kernel_rfl)
theorem m_distinct_letters : mSs false false ⟨nm_distinct_letters, defScope (top 18), fr⟩ b_distinct_letters (defBody (top 18)) = true := by kernel_rfl
theorem ok_distinct_letters (Z : Sit K mg)   : Good P w K mg base (tab K) 1 "distinct_letters" f_distinct_letters [] := by
  obtain ⟨fd, F⟩ := Z.c.def_ 6 (d := d_distinct_letters) rfl
  exact good_of (k := 0) (N := nm_distinct_letters) (ps := ps_distinct_letters) (b := b_distinct_letters) (Z.glo 6 rfl) F sc_distinct_letters (fun _ _ _ _ _ _ us hl => match us, hl with | [_], _ => rfl) Z.free m_distinct_letters (fun _ => rfl) ⟨(gl_LETTERS Z), trivial⟩
abbrev ps_all_cases : List Str := ["limits"]
abbrev nm_all_cases : List Str := ["limits", "cases", "limit", "case", "level"]
theorem sc_all_cases : FnScope nm_all_cases ps_all_cases (defScope (top 17)) := C8.fnScope_by (by kernel_rfl)
theorem m_all_cases : mSs false false ⟨nm_all_cases, defScope (top 17), fr⟩ b_all_cases (defBody (top 17)) = true := by kernel_rfl
theorem ok_all_cases (Z : Sit K mg)   : Good P w K mg base (tab K) 1 "all_cases" f_all_cases [] := by
  obtain ⟨fd, F⟩ := Z.c.def_ 7 (d := d_all_cases) rfl
  exact good_of (k := 0) (N := nm_all_cases) (ps := ps_all_cases) (b := b_all_cases) (Z.glo 7 rfl) F sc_all_cases (fun _ _ _ _ _ _ us hl => match us, hl with | [_], _ => rfl) Z.free m_all_cases (fun _ => rfl) trivial
abbrev ps_Forum_init : List Str := ["self", "pro", "con", "tops"]
abbrev nm_Forum_init : List Str := ["self", "pro", "con", "tops", "top", "limits", "place", "level", "number", "case"]
theorem sc_Forum_init : FnScope nm_Forum_init ps_Forum_init (defScope (mem 19 2)) := C8.fnScope_by (by kernel_rfl)
theorem m_Forum_init : mSs false false ⟨nm_Forum_init, defScope (mem 19 2), fr⟩ b_Forum_init (defBody (mem 19 2)) = true := by kernel_rfl
theorem ok_Forum_init (Z : Sit K mg) (g_distinct_letters : Good P w K mg base (tab K) 1 "distinct_letters" f_distinct_letters []) (g_all_cases : Good P w K mg base (tab K) 1 "all_cases" f_all_cases [])  : GoodC P w K mg base (tab K) 2 "Forum" 100 f_Forum_init [] := by
  obtain ⟨fd, F⟩ := Z.c.def_ 8 (d := d_Forum_init) rfl
  exact goodC_of (k := 1) (N := nm_Forum_init) (ps := ps_Forum_init) (b := b_Forum_init) (Z.glo 41 rfl) (He.mkr_ok (Z.c.fact 56 (f := .mkr "Forum") rfl)) F sc_Forum_init (binds_full F (List.cons_ne_nil _ _) (fun _ _ _ _ _ _ _ us its hl hi => match us, its, hl, hi with | [_, _, _, _], [_, _, _], _, _ => ⟨_, rfl, rfl⟩)) Z.free m_Forum_init (fun _ => rfl) ⟨(LookCons (co_Forum_TOPS Z) LookNil), (x_NoForum Z), (Good.mono g_distinct_letters (by decide)), (LookCons (co_Forum_STEPS Z) LookNil), (x_NoForum Z), ⟨fo_Forum_0 Z, (show (tflds 100).length < 1000 from by decide)⟩, ⟨fo_Forum_1 Z, (show (tflds 100).length < 1000 from by decide)⟩, ⟨fo_Forum_2 Z, (show (tflds 100).length < 1000 from by decide)⟩, ⟨fo_Forum_3 Z, (show (tflds 100).length < 1000 from by decide)⟩, ⟨fo_Forum_4 Z, (show (tflds 100).length < 1000 from by decide)⟩, ⟨fo_Forum_5 Z, (show (tflds 100).length < 1000 from by decide)⟩, (Good.mono g_all_cases (by decide)), ⟨fo_Forum_6 Z, (show (tflds 100).length < 1000 from by decide)⟩, ⟨fo_Forum_5 Z, (show (tflds 100).length < 1000 from by decide)⟩, trivial⟩
abbrev ps_law_by_one : List Str := ["_law_x", "_law_y"]
abbrev nm_law_by_one : List Str := ["_law_x", "_law_y", "_law_places", "_law_p"]
theorem sc_law_by_one : FnScope nm_law_by_one ps_law_by_one (defScope (top 30)) := C8.fnScope_by (by kernel_rfl)
theorem m_law_by_one : mSs false false ⟨nm_law_by_one, defScope (top 30), fr⟩ b_law_by_one (defBody (top 30)) = true := by kernel_rfl
theorem ok_law_by_one (Z : Sit K mg)   : Good P w K mg base (tab K) 1 "_law_by_one" f_law_by_one [] := by
  obtain ⟨fd, F⟩ := Z.c.def_ 9 (d := d_law_by_one) rfl
  exact good_of (k := 0) (N := nm_law_by_one) (ps := ps_law_by_one) (b := b_law_by_one) (Z.glo 8 rfl) F sc_law_by_one (fun _ _ _ _ _ _ us hl => match us, hl with | [_, _], _ => rfl) Z.free m_law_by_one (fun _ => rfl) trivial
abbrev ps_Forum_contains : List Str := ["self", "case"]
abbrev nm_Forum_contains : List Str := ["self", "case"]
theorem sc_Forum_contains : FnScope nm_Forum_contains ps_Forum_contains (defScope (mem 19 4)) := C8.fnScope_by (by kernel_rfl)
theorem m_Forum_contains : mSs false false ⟨nm_Forum_contains, defScope (mem 19 4), fr⟩ b_Forum_contains (defBody (mem 19 4)) = true := by kernel_rfl
theorem ok_Forum_contains (Z : Sit K mg)   : GoodI P w K mg base (tab K) 1 100 f_Forum_contains := by
  obtain ⟨fd, F⟩ := Z.c.def_ 10 (d := d_Forum_contains) rfl
  exact goodI_of (k := 0) (N := nm_Forum_contains) (ps := ps_Forum_contains) (b := b_Forum_contains) (cl_Forum Z) (He.meth_ok (Z.c.fact 52 (f := .meth "Forum" "__contains__") rfl)) F sc_Forum_contains (F.bindsN (fun _ _ _ _ _ _ us hl => match us, hl with | [_, _], _ => rfl)) (by rfl) Z.free m_Forum_contains (fun _ => rfl) ⟨(LookCons (fo_Forum_6 Z) LookNil), trivial⟩
abbrev ps_require_cases : List Str := ["forum"]
abbrev nm_require_cases : List Str := ["forum", "cases", "case"]
theorem sc_require_cases : FnScope nm_require_cases (ps_require_cases ++ (["cases"] : List Str)) (defScope (top 10)) := C8.fnScope_by (by kernel_rfl)
theorem m_require_cases : mSs false false ⟨nm_require_cases, defScope (top 10), fr⟩ b_require_cases (defBody (top 10)) = true := by kernel_rfl
theorem ok_require_cases (Z : Sit K mg) (g_Forum_contains : GoodI P w K mg base (tab K) 1 100 f_Forum_contains)  : Good P w K mg base (tab K) 2 "require_cases" f_require_cases [] := by
  obtain ⟨fd, F⟩ := Z.c.def_ 11 (d := d_require_cases) rfl
  exact goodS_of (k := 1) (N := nm_require_cases) (ps := ps_require_cases) (b := b_require_cases) (pv := "cases") (Z.glo 9 rfl) F sc_require_cases (fun _ _ _ _ _ _ us rest hl => match us, rest, hl with | [_], [], _ => rfl | [_], _ :: _, _ => rfl) Z.free m_require_cases (fun _ => rfl) ⟨(LookCons (GoodI.mono g_Forum_contains (by decide)) LookNil), (x_NoCase Z), trivial⟩
abbrev ps_moved : List Str := ["case", "place", "by"]
abbrev nm_moved : List Str := ["case", "place", "by"]
theorem sc_moved : FnScope nm_moved ps_moved (defScope (top 11)) := C8.fnScope_by (by kernel_rfl)
theorem m_moved : mSs false false ⟨nm_moved, defScope (top 11), fr⟩ b_moved (defBody (top 11)) = true := by kernel_rfl
theorem ok_moved (Z : Sit K mg)   : Good P w K mg base (tab K) 1 "moved" f_moved [] := by
  obtain ⟨fd, F⟩ := Z.c.def_ 12 (d := d_moved) rfl
  exact good_of (k := 0) (N := nm_moved) (ps := ps_moved) (b := b_moved) (Z.glo 10 rfl) F sc_moved (fun _ _ _ _ _ _ us hl => match us, hl with | [_, _, _], _ => rfl) Z.free m_moved (fun _ => rfl) trivial
abbrev ps_stronger_by_one : List Str := ["forum", "case"]
abbrev nm_stronger_by_one : List Str := ["forum", "case", "places", "place"]
theorem sc_stronger_by_one : FnScope nm_stronger_by_one ps_stronger_by_one (defScope (top 12)) := C8.fnScope_by (by kernel_rfl)
theorem m_stronger_by_one : mSs true false ⟨nm_stronger_by_one, defScope (top 12), fr⟩ b_stronger_by_one (defBody (top 12)) = true := by kernel_rfl
theorem ok_stronger_by_one (Z : Sit K mg) (g_require_cases : Good P w K mg base (tab K) 2 "require_cases" f_require_cases []) (g_moved : Good P w K mg base (tab K) 1 "moved" f_moved [])  : GoodN P w K mg base (tab K) 3 "stronger_by_one" f_stronger_by_one [] := by
  obtain ⟨fd, F⟩ := Z.c.def_ 13 (d := d_stronger_by_one) rfl
  exact goodN_of (k := 2) (N := nm_stronger_by_one) (ps := ps_stronger_by_one) (b := b_stronger_by_one) (Z.glo 11 rfl) F sc_stronger_by_one (fun _ _ _ _ _ _ us hl => match us, hl with | [_, _], _ => rfl) Z.free m_stronger_by_one (fun _ => rfl) ⟨(Good.mono g_require_cases (by decide)), (LookCons (fo_Forum_3 Z) LookNil), (Good.mono g_moved (by decide)), trivial⟩
abbrev ps_weaker_by_one : List Str := ["forum", "case"]
abbrev nm_weaker_by_one : List Str := ["forum", "case", "place", "level"]
theorem sc_weaker_by_one : FnScope nm_weaker_by_one ps_weaker_by_one (defScope (top 13)) := C8.fnScope_by (by kernel_rfl)
theorem m_weaker_by_one : mSs true false ⟨nm_weaker_by_one, defScope (top 13), fr⟩ b_weaker_by_one (defBody (top 13)) = true := by kernel_rfl
theorem ok_weaker_by_one (Z : Sit K mg) (g_require_cases : Good P w K mg base (tab K) 2 "require_cases" f_require_cases []) (g_moved : Good P w K mg base (tab K) 1 "moved" f_moved [])  : GoodN P w K mg base (tab K) 3 "weaker_by_one" f_weaker_by_one [] := by
  obtain ⟨fd, F⟩ := Z.c.def_ 14 (d := d_weaker_by_one) rfl
  exact goodN_of (k := 2) (N := nm_weaker_by_one) (ps := ps_weaker_by_one) (b := b_weaker_by_one) (Z.glo 12 rfl) F sc_weaker_by_one (fun _ _ _ _ _ _ us hl => match us, hl with | [_, _], _ => rfl) Z.free m_weaker_by_one (fun _ => rfl) ⟨(Good.mono g_require_cases (by decide)), (Good.mono g_moved (by decide)), trivial⟩
abbrev ps_law_same : List Str := ["_law_told", "_law_due"]
abbrev nm_law_same : List Str := ["_law_told", "_law_due", "_law_k"]
theorem sc_law_same : FnScope nm_law_same ps_law_same (defScope (top 21)) := C8.fnScope_by (by kernel_rfl)
theorem m_law_same (g : Sem) : mSs false false ⟨nm_law_same, defScope (top 21), fr⟩ (b_law_same g) (defBody (top 21)) = true := by kernel_rfl
theorem ok_law_same (Z : Sit K mg)   : Good P w K mg base (tab K) 8 "_law_same" f_law_same [] := by
  obtain ⟨fd, F⟩ := Z.c.def_ 15 (d := d_law_same) rfl
  exact good_rec (k := 0) (j := 0) (N := nm_law_same) (ps := ps_law_same) (b := b_law_same) (Z.glo 13 rfl) F sc_law_same (fun _ _ _ _ _ _ us hl => match us, hl with | [_, _], _ => rfl) Z.free m_law_same (fun _ => rfl) (fun g j hj gg => ⟨gg, trivial⟩) 8
abbrev ps_law_near_ones : List Str := ["_law_forum", "_law_cases_here", "_law_x"]
abbrev nm_law_near_ones : List Str := ["_law_forum", "_law_cases_here", "_law_x", "_law_up", "_law_z", "_law_down", "_law_first", "_law_second"]
theorem sc_law_near_ones : FnScope nm_law_near_ones ps_law_near_ones (defScope (top 31)) := C8.fnScope_by (by kernel_rfl)
theorem m_law_near_ones : mSs false false ⟨nm_law_near_ones, defScope (top 31), fr⟩ b_law_near_ones (defBody (top 31)) = true := by kernel_rfl
theorem ok_law_near_ones (Z : Sit K mg) (g_law_by_one : Good P w K mg base (tab K) 1 "_law_by_one" f_law_by_one []) (g_stronger_by_one : GoodN P w K mg base (tab K) 3 "stronger_by_one" f_stronger_by_one []) (g_weaker_by_one : GoodN P w K mg base (tab K) 3 "weaker_by_one" f_weaker_by_one []) (g_law_same : Good P w K mg base (tab K) 8 "_law_same" f_law_same [])  : Good P w K mg base (tab K) 9 "_law_near_ones" f_law_near_ones [] := by
  obtain ⟨fd, F⟩ := Z.c.def_ 16 (d := d_law_near_ones) rfl
  exact good_of (k := 8) (N := nm_law_near_ones) (ps := ps_law_near_ones) (b := b_law_near_ones) (Z.glo 14 rfl) F sc_law_near_ones (fun _ _ _ _ _ _ us hl => match us, hl with | [_, _, _], _ => rfl) Z.free m_law_near_ones (fun _ => rfl) ⟨(Good.mono g_law_by_one (by decide)), (Good.mono g_law_by_one (by decide)), (GoodN.mono g_stronger_by_one (by decide)), (GoodN.mono g_weaker_by_one (by decide)), (Good.mono g_law_same (by decide)), (Good.mono g_law_same (by decide)), (Good.mono g_law_same (by decide)), (Good.mono (GoodN.good g_stronger_by_one) (by decide)), (Good.mono g_law_same (by decide)), (Good.mono (GoodN.good g_weaker_by_one) (by decide)), trivial⟩
abbrev ps_law_above : List Str := ["_law_x", "_law_y"]
abbrev nm_law_above : List Str := ["_law_x", "_law_y", "_law_p"]
theorem sc_law_above : FnScope nm_law_above ps_law_above (defScope (top 22)) := C8.fnScope_by (by kernel_rfl)
theorem m_law_above : mSs false false ⟨nm_law_above, defScope (top 22), fr⟩ b_law_above (defBody (top 22)) = true := by kernel_rfl
theorem ok_law_above (Z : Sit K mg)   : Good P w K mg base (tab K) 1 "_law_above" f_law_above [] := by
  obtain ⟨fd, F⟩ := Z.c.def_ 17 (d := d_law_above) rfl
  exact good_of (k := 0) (N := nm_law_above) (ps := ps_law_above) (b := b_law_above) (Z.glo 15 rfl) F sc_law_above (fun _ _ _ _ _ _ us hl => match us, hl with | [_, _], _ => rfl) Z.free m_law_above (fun _ => rfl) trivial
abbrev ps_law_is_chain : List Str := ["_law_told", "_law_x", "_law_y"]
abbrev nm_law_is_chain : List Str := ["_law_told", "_law_x", "_law_y", "_law_here", "_law_k", "_law_lower", "_law_p"]
theorem sc_law_is_chain : FnScope nm_law_is_chain ps_law_is_chain (defScope (top 32)) := C8.fnScope_by (by kernel_rfl)
theorem m_law_is_chain : mSs false false ⟨nm_law_is_chain, defScope (top 32), fr⟩ b_law_is_chain (defBody (top 32)) = true := by kernel_rfl
theorem ok_law_is_chain (Z : Sit K mg) (g_law_above : Good P w K mg base (tab K) 1 "_law_above" f_law_above []) (g_law_same : Good P w K mg base (tab K) 8 "_law_same" f_law_same [])  : Good P w K mg base (tab K) 9 "_law_is_chain" f_law_is_chain [] := by
  obtain ⟨fd, F⟩ := Z.c.def_ 18 (d := d_law_is_chain) rfl
  exact good_of (k := 8) (N := nm_law_is_chain) (ps := ps_law_is_chain) (b := b_law_is_chain) (Z.glo 16 rfl) F sc_law_is_chain (fun _ _ _ _ _ _ us hl => match us, hl with | [_, _, _], _ => rfl) Z.free m_law_is_chain (fun _ => rfl) ⟨(Good.mono g_law_above (by decide)), (Good.mono g_law_same (by decide)), (Good.mono g_law_same (by decide)), trivial⟩
abbrev ps_at_least : List Str := ["x", "y"]
abbrev nm_at_least : List Str := ["x", "y", "place"]
theorem sc_at_least : FnScope nm_at_least ps_at_least (defScope (top 7)) := C8.fnScope_by (by kernel_rfl)
theorem m_at_least : mSs false false ⟨nm_at_least, defScope (top 7), fr⟩ b_at_least (defBody (top 7)) = true := by kernel_rfl
theorem ok_at_least (Z : Sit K mg)   : Good P w K mg base (tab K) 1 "at_least" f_at_least [] := by
  obtain ⟨fd, F⟩ := Z.c.def_ 19 (d := d_at_least) rfl
  exact good_of (k := 0) (N := nm_at_least) (ps := ps_at_least) (b := b_at_least) (Z.glo 17 rfl) F sc_at_least (fun _ _ _ _ _ _ us hl => match us, hl with | [_, _], _ => rfl) Z.free m_at_least (fun _ => rfl) trivial
abbrev ps_shortest_chain : List Str := ["forum", "low", "high"]
abbrev nm_shortest_chain : List Str := ["forum", "low", "high", "chain", "place", "_"]
theorem sc_shortest_chain : FnScope nm_shortest_chain ps_shortest_chain (defScope (top 14)) := C8.fnScope_by (by kernel_rfl)
theorem m_shortest_chain : mSs true false ⟨nm_shortest_chain, defScope (top 14), fr⟩ b_shortest_chain (defBody (top 14)) = true := by kernel_rfl
theorem ok_shortest_chain (Z : Sit K mg) (g_require_cases : Good P w K mg base (tab K) 2 "require_cases" f_require_cases []) (g_at_least : Good P w K mg base (tab K) 1 "at_least" f_at_least []) (g_moved : Good P w K mg base (tab K) 1 "moved" f_moved [])  : GoodN P w K mg base (tab K) 3 "shortest_chain" f_shortest_chain [] := by
  obtain ⟨fd, F⟩ := Z.c.def_ 20 (d := d_shortest_chain) rfl
  exact goodN_of (k := 2) (N := nm_shortest_chain) (ps := ps_shortest_chain) (b := b_shortest_chain) (Z.glo 18 rfl) F sc_shortest_chain (fun _ _ _ _ _ _ us hl => match us, hl with | [_, _, _], _ => rfl) Z.free m_shortest_chain (fun _ => rfl) ⟨(Good.mono g_require_cases (by decide)), (Good.mono g_at_least (by decide)), (Good.mono g_moved (by decide)), trivial⟩
abbrev ps_between : List Str := ["forum", "low", "high"]
abbrev nm_between : List Str := ["forum", "low", "high", "case"]
theorem sc_between : FnScope nm_between ps_between (defScope (top 8)) := C8.fnScope_by (by kernel_rfl)
theorem m_between : mSs false false ⟨nm_between, defScope (top 8), fr⟩ b_between (defBody (top 8)) = true := by kernel_rfl
theorem ok_between (Z : Sit K mg) (g_Forum_contains : GoodI P w K mg base (tab K) 1 100 f_Forum_contains) (g_at_least : Good P w K mg base (tab K) 1 "at_least" f_at_least []) (g_Forum_iter : GoodT P w K mg base (tab K) 1 100 5) : Good P w K mg base (tab K) 2 "between" f_between [] := by
  obtain ⟨fd, F⟩ := Z.c.def_ 21 (d := d_between) rfl
  exact good_of (k := 1) (N := nm_between) (ps := ps_between) (b := b_between) (Z.glo 19 rfl) F sc_between (fun _ _ _ _ _ _ us hl => match us, hl with | [_, _, _], _ => rfl) Z.free m_between (fun _ => rfl) ⟨(LookCons (GoodI.mono g_Forum_contains (by decide)) LookNil), (LookCons (GoodI.mono g_Forum_contains (by decide)) LookNil), (x_NoCase Z), (LookCons (GoodT.mono g_Forum_iter (by decide)) LookNil), (Good.mono g_at_least (by decide)), (Good.mono g_at_least (by decide)), trivial⟩
abbrev ps_law_on_the_way : List Str := ["_law_forum", "_law_x", "_law_y"]
abbrev nm_law_on_the_way : List Str := ["_law_forum", "_law_x", "_law_y", "_law_told", "_law_inside", "_law_k"]
theorem sc_law_on_the_way : FnScope nm_law_on_the_way ps_law_on_the_way (defScope (top 33)) := C8.fnScope_by (by kernel_rfl)
theorem m_law_on_the_way : mSs false false ⟨nm_law_on_the_way, defScope (top 33), fr⟩ b_law_on_the_way (defBody (top 33)) = true := by kernel_rfl
theorem ok_law_on_the_way (Z : Sit K mg) (g_shortest_chain : GoodN P w K mg base (tab K) 3 "shortest_chain" f_shortest_chain []) (g_law_is_chain : Good P w K mg base (tab K) 9 "_law_is_chain" f_law_is_chain []) (g_between : Good P w K mg base (tab K) 2 "between" f_between []) (g_stronger_by_one : GoodN P w K mg base (tab K) 3 "stronger_by_one" f_stronger_by_one [])  : Good P w K mg base (tab K) 10 "_law_on_the_way" f_law_on_the_way [] := by
  obtain ⟨fd, F⟩ := Z.c.def_ 22 (d := d_law_on_the_way) rfl
  exact good_of (k := 9) (N := nm_law_on_the_way) (ps := ps_law_on_the_way) (b := b_law_on_the_way) (Z.glo 20 rfl) F sc_law_on_the_way (fun _ _ _ _ _ _ us hl => match us, hl with | [_, _, _], _ => rfl) Z.free m_law_on_the_way (fun _ => rfl) ⟨(GoodN.mono g_shortest_chain (by decide)), (Good.mono g_law_is_chain (by decide)), (Good.mono g_between (by decide)), (Good.mono (GoodN.good g_stronger_by_one) (by decide)), (Good.mono g_law_is_chain (by decide)), (Good.mono (GoodN.good g_shortest_chain) (by decide)), trivial⟩
abbrev ps_law_bad_case : List Str := ["_law_draws_here", "_law_at", "_law_limits_here"]
abbrev nm_law_bad_case : List Str := ["_law_draws_here", "_law_at", "_law_limits_here", "_law_case_here", "_law_p", "_law_place", "_law_how"]
theorem sc_law_bad_case : FnScope nm_law_bad_case ps_law_bad_case (defScope (top 29)) := C8.fnScope_by (by kernel_rfl)
theorem m_law_bad_case : mSs false false ⟨nm_law_bad_case, defScope (top 29), fr⟩ b_law_bad_case (defBody (top 29)) = true := by kernel_rfl
theorem ok_law_bad_case (Z : Sit K mg)   : Good P w K mg base (tab K) 1 "_law_bad_case" f_law_bad_case [] := by
  obtain ⟨fd, F⟩ := Z.c.def_ 23 (d := d_law_bad_case) rfl
  exact good_of (k := 0) (N := nm_law_bad_case) (ps := ps_law_bad_case) (b := b_law_bad_case) (Z.glo 21 rfl) F sc_law_bad_case (fun _ _ _ _ _ _ us hl => match us, hl with | [_, _, _], _ => rfl) Z.free m_law_bad_case (fun _ => rfl) trivial
abbrev ps_law_refused : List Str := ["_law_kind", "_law_forum", "_law_x", "_law_y"]
abbrev nm_law_refused : List Str := ["_law_kind", "_law_forum", "_law_x", "_law_y", "e"]
theorem sc_law_refused : FnScope nm_law_refused ps_law_refused (defScope (top 34)) := C8.fnScope_by (by kernel_rfl)
theorem m_law_refused : mSs false false ⟨nm_law_refused, defScope (top 34), fr⟩ b_law_refused (defBody (top 34)) = true := by kernel_rfl
theorem ok_law_refused (Z : Sit K mg) (g_stronger_by_one : GoodN P w K mg base (tab K) 3 "stronger_by_one" f_stronger_by_one []) (g_weaker_by_one : GoodN P w K mg base (tab K) 3 "weaker_by_one" f_weaker_by_one []) (g_shortest_chain : GoodN P w K mg base (tab K) 3 "shortest_chain" f_shortest_chain [])  : Good P w K mg base (tab K) 4 "_law_refused" f_law_refused [] := by
  obtain ⟨fd, F⟩ := Z.c.def_ 24 (d := d_law_refused) rfl
  exact good_of (k := 3) (N := nm_law_refused) (ps := ps_law_refused) (b := b_law_refused) (Z.glo 22 rfl) F sc_law_refused (fun _ _ _ _ _ _ us hl => match us, hl with | [_, _, _, _], _ => rfl) Z.free m_law_refused (fun _ => rfl) ⟨⟨He.ga K "CourtError", Z.glo 40 rfl, (AlCons ⟨He.exm_ok (Z.c.fact 54 (f := .exm "NoForum" "CourtError" true) rfl), xcB_ok (Z.x _ (List.mem_of_getElem? (i := 2) rfl))⟩ (AlCons ⟨He.exm_ok (Z.c.fact 55 (f := .exm "NoCase" "CourtError" true) rfl), xcB_ok (Z.x _ (List.mem_of_getElem? (i := 3) rfl))⟩ AlNil))⟩, (Good.mono (GoodN.good g_stronger_by_one) (by decide)), (Good.mono (GoodN.good g_weaker_by_one) (by decide)), (Good.mono (GoodN.good g_shortest_chain) (by decide)), ⟨⟨He.ga K "NoCase", Z.glo 39 rfl, (AlCons (kitB3_ok (Z.x _ (List.mem_of_getElem? (i := 4) rfl))) (AlCons (kitB3_ok (Z.x _ (List.mem_of_getElem? (i := 5) rfl))) AlNil))⟩⟩, trivial⟩
abbrev ps_Forum_weakest_case : List Str := ["self"]
abbrev nm_Forum_weakest_case : List Str := ["self"]
theorem sc_Forum_weakest_case : FnScope nm_Forum_weakest_case ps_Forum_weakest_case (defScope (mem 19 7)) := C8.fnScope_by (by kernel_rfl)
theorem m_Forum_weakest_case : mSs false false ⟨nm_Forum_weakest_case, defScope (mem 19 7), fr⟩ b_Forum_weakest_case (defBody (mem 19 7)) = true := by kernel_rfl
theorem ok_Forum_weakest_case (Z : Sit K mg)   : GoodP P w K mg base (tab K) 1 100 "weakest_case" f_Forum_weakest_case := by
  obtain ⟨pg, fd, F⟩ := Z.q.g d_Forum_weakest_case (List.mem_of_getElem? (i := 0) rfl)
  exact goodP_of (k := 0) (N := nm_Forum_weakest_case) (ps := ps_Forum_weakest_case) (b := b_Forum_weakest_case) (cl_Forum Z) pg F sc_Forum_weakest_case (F.bindsN (fun _ _ _ _ _ _ us hl => match us, hl with | [_], _ => rfl)) Z.free m_Forum_weakest_case (fun _ => rfl) ⟨(LookCons (fo_Forum_3 Z) LookNil), trivial⟩
abbrev ps_Forum_strongest_case : List Str := ["self"]
abbrev nm_Forum_strongest_case : List Str := ["self"]
theorem sc_Forum_strongest_case : FnScope nm_Forum_strongest_case ps_Forum_strongest_case (defScope (mem 19 8)) := C8.fnScope_by (by kernel_rfl)
theorem m_Forum_strongest_case : mSs false false ⟨nm_Forum_strongest_case, defScope (mem 19 8), fr⟩ b_Forum_strongest_case (defBody (mem 19 8)) = true := by kernel_rfl
theorem ok_Forum_strongest_case (Z : Sit K mg)   : GoodP P w K mg base (tab K) 1 100 "strongest_case" f_Forum_strongest_case := by
  obtain ⟨pg, fd, F⟩ := Z.q.g d_Forum_strongest_case (List.mem_of_getElem? (i := 1) rfl)
  exact goodP_of (k := 0) (N := nm_Forum_strongest_case) (ps := ps_Forum_strongest_case) (b := b_Forum_strongest_case) (cl_Forum Z) pg F sc_Forum_strongest_case (F.bindsN (fun _ _ _ _ _ _ us hl => match us, hl with | [_], _ => rfl)) Z.free m_Forum_strongest_case (fun _ => rfl) ⟨(LookCons (fo_Forum_3 Z) LookNil), trivial⟩
abbrev ps_law : List Str := ["_law_script"]
abbrev nm_law : List Str := ["_law_script", "_law_shape_here", "_law_other", "_law_limits_here", "_law_cases_here", "_law_x", "_law_y", "_law_how", "_law_p", "_law_forum", "_law_second", "_law_z", "_law_case_here", "_law_bad", "_law_worse", "_law_kind"]
theorem sc_law : FnScope nm_law ps_law (defScope (top 35)) := C8.fnScope_by (by kernel_rfl)
theorem m_law : mSs false false ⟨nm_law, defScope (top 35), fr⟩ b_law (defBody (top 35)) = true := by kernel_rfl
theorem facts (Z : Sit K mg) : ∃ fd : FuncData, (∀ (s : Shared) (u : Value), BindsTo s fd ⟨[u], []⟩ [("_law_script", u)]) ∧ ∀ base : Heap, FnOk P w K mg base (L2.CX P w) 11 (He.ga K "law") fd ps_law (spOf K (tab K) 1 f_law) := by
  have g_Forum_iter := fun base : Heap => ok_Forum_iter (P := P) (w := w) (base := base) Z
  have g_law_shape := fun base : Heap => ok_law_shape (P := P) (w := w) (base := base) Z  
  have g_law_cell := fun base : Heap => ok_law_cell (P := P) (w := w) (base := base) Z  
  have g_law_draws := fun base : Heap => ok_law_draws (P := P) (w := w) (base := base) Z (g_law_cell base) 
  have g_law_limits := fun base : Heap => ok_law_limits (P := P) (w := w) (base := base) Z  
  have g_law_cases := fun base : Heap => ok_law_cases (P := P) (w := w) (base := base) Z  
  have g_law_case := fun base : Heap => ok_law_case (P := P) (w := w) (base := base) Z  
  have g_distinct_letters := fun base : Heap => ok_distinct_letters (P := P) (w := w) (base := base) Z  
  have g_all_cases := fun base : Heap => ok_all_cases (P := P) (w := w) (base := base) Z  
  have g_Forum_init := fun base : Heap => ok_Forum_init (P := P) (w := w) (base := base) Z (g_distinct_letters base) (g_all_cases base) 
  have g_law_by_one := fun base : Heap => ok_law_by_one (P := P) (w := w) (base := base) Z  
  have g_Forum_contains := fun base : Heap => ok_Forum_contains (P := P) (w := w) (base := base) Z  
  have g_require_cases := fun base : Heap => ok_require_cases (P := P) (w := w) (base := base) Z (g_Forum_contains base) 
  have g_moved := fun base : Heap => ok_moved (P := P) (w := w) (base := base) Z  
  have g_stronger_by_one := fun base : Heap => ok_stronger_by_one (P := P) (w := w) (base := base) Z (g_require_cases base) (g_moved base) 
  have g_weaker_by_one := fun base : Heap => ok_weaker_by_one (P := P) (w := w) (base := base) Z (g_require_cases base) (g_moved base) 
  have g_law_same := fun base : Heap => ok_law_same (P := P) (w := w) (base := base) Z  
  have g_law_near_ones := fun base : Heap => ok_law_near_ones (P := P) (w := w) (base := base) Z (g_law_by_one base) (g_stronger_by_one base) (g_weaker_by_one base) (g_law_same base) 
  have g_law_above := fun base : Heap => ok_law_above (P := P) (w := w) (base := base) Z  
  have g_law_is_chain := fun base : Heap => ok_law_is_chain (P := P) (w := w) (base := base) Z (g_law_above base) (g_law_same base) 
  have g_at_least := fun base : Heap => ok_at_least (P := P) (w := w) (base := base) Z  
  have g_shortest_chain := fun base : Heap => ok_shortest_chain (P := P) (w := w) (base := base) Z (g_require_cases base) (g_at_least base) (g_moved base) 
  have g_between := fun base : Heap => ok_between (P := P) (w := w) (base := base) Z (g_Forum_contains base) (g_at_least base) (g_Forum_iter base)
  have g_law_on_the_way := fun base : Heap => ok_law_on_the_way (P := P) (w := w) (base := base) Z (g_shortest_chain base) (g_law_is_chain base) (g_between base) (g_stronger_by_one base) 
  have g_law_bad_case := fun base : Heap => ok_law_bad_case (P := P) (w := w) (base := base) Z  
  have g_law_refused := fun base : Heap => ok_law_refused (P := P) (w := w) (base := base) Z (g_stronger_by_one base) (g_weaker_by_one base) (g_shortest_chain base) 
  have g_Forum_weakest_case := fun base : Heap => ok_Forum_weakest_case (P := P) (w := w) (base := base) Z  
  have g_Forum_strongest_case := fun base : Heap => ok_Forum_strongest_case (P := P) (w := w) (base := base) Z  
  obtain ⟨fd, F⟩ := Z.c.def_ 25 (d := d_law) rfl
  have b := FunD.bindsA (ps := ps_law) F (fun _ _ _ _ _ _ us hl => match us, hl with | [_], _ => rfl)
  refine ⟨fd, fun s u => b s [u] rfl, fun base => ?_⟩
  have g_law_shape := g_law_shape base
  have g_law_draws := g_law_draws base
  have g_law_limits := g_law_limits base
  have g_law_cases := g_law_cases base
  have g_law_case := g_law_case base
  have g_Forum_init := g_Forum_init base
  have g_law_near_ones := g_law_near_ones base
  have g_law_is_chain := g_law_is_chain base
  have g_shortest_chain := g_shortest_chain base
  have g_law_on_the_way := g_law_on_the_way base
  have g_law_bad_case := g_law_bad_case base
  have g_law_refused := g_law_refused base
  have g_Forum_weakest_case := g_Forum_weakest_case base
  have g_Forum_strongest_case := g_Forum_strongest_case base
  exact def_ok (k := 10) (N := nm_law) (ps := ps_law) (b := b_law) F sc_law Z.free m_law (fun _ => rfl) (allP_mem ⟨(Good.mono g_law_shape (by decide)), (Good.mono g_law_draws (by decide)), (Good.mono g_law_shape (by decide)), (Good.mono g_law_draws (by decide)), (Good.mono g_law_limits (by decide)), (Good.mono g_law_cases (by decide)), (Good.mono g_law_case (by decide)), (Good.mono g_law_draws (by decide)), (Good.mono g_law_case (by decide)), (Good.mono g_law_draws (by decide)), (Good.mono g_law_draws (by decide)), ⟨(by decide), GoodC.mono g_Forum_init (by decide)⟩, ⟨(by decide), GoodC.mono g_Forum_init (by decide)⟩, (Good.mono g_law_case (by decide)), (Good.mono g_law_draws (by decide)), (Good.mono g_law_limits (by decide)), (Good.mono g_law_near_ones (by decide)), (Good.mono g_law_cases (by decide)), (Good.mono g_law_limits (by decide)), (Good.mono g_law_near_ones (by decide)), (Good.mono g_law_is_chain (by decide)), (Good.mono (GoodN.good g_shortest_chain) (by decide)), (Good.mono g_law_is_chain (by decide)), (Good.mono (GoodN.good g_shortest_chain) (by decide)), (Good.mono g_law_on_the_way (by decide)), (Good.mono g_law_on_the_way (by decide)), (Good.mono g_law_on_the_way (by decide)), (Good.mono g_law_bad_case (by decide)), (Good.mono g_law_draws (by decide)), (Good.mono g_law_bad_case (by decide)), (Good.mono g_law_draws (by decide)), (Good.mono g_law_refused (by decide)), (Good.mono g_law_refused (by decide)), (Good.mono g_law_refused (by decide)), (Good.mono g_law_refused (by decide)), (Good.mono g_law_on_the_way (by decide)), ⟨(by decide), (LookCons (GoodP.mono g_Forum_weakest_case (by decide)) LookNil)⟩, ⟨(by decide), (LookCons (GoodP.mono g_Forum_strongest_case (by decide)) LookNil)⟩, (Good.mono g_law_near_ones (by decide)), trivial⟩)
end
def loose0 : List Str := ["_wall", "CourtError", "NoForum", "BadText", "NoCase", "at_least", "between", "require_cases", "moved", "stronger_by_one", "weaker_by_one", "shortest_chain", "LETTERS", "all_cases", "distinct_letters", "Forum", "_law_same", "_law_above", "_law_shape", "_law_cell", "_law_draws", "_law_limits", "_law_cases", "_law_case", "_law_bad_case", "_law_by_one", "_law_near_ones", "_law_is_chain", "_law_on_the_way", "_law_refused"]
def loose : List Str := loose0
abbrev R : PySem.W.OpenRow := PySem.W.OpenLaw.row PySem.Challenge.rw_settledcases_k04_neighbors_and_chains
abbrev hk : PySem.W.Hook := hookP 6 fa fn pr exb yes (by decide)
def ob (s : PySem.W.SharedT) : AlQ := obsP 6 fa fn pr exb (HandSHeadRun.getT s)
theorem ob_eq (s : PySem.W.SharedT) : ob s = hk.obs s.abs := obsP_eq (HandSHeadRun.getT_eq s)
theorem run (w : World) : HandSHeadRun.RunEq R (PySem.W.view R.prog [35]) hk ob 4000 loose w := by
  intro os
  kernel_rfl
end LawP

open PySem PySem.W PySem.Calls PyProof.Rows
theorem PySem.Challenge.cw_settledcases_k04_neighbors_and_chains_holds : PySem.Challenge.rw_settledcases_k04_neighbors_and_chains.Holds := by
  w_on; o_law
  refine HandSHeadRun.head_any (r := PySem.W.OpenLaw.row PySem.Challenge.rw_settledcases_k04_neighbors_and_chains) (q := PySem.W.view (PySem.W.OpenLaw.row PySem.Challenge.rw_settledcases_k04_neighbors_and_chains).prog [35]) (H := LawP.hk) (ob := LawP.ob) (M := 4000) (loose := LawP.loose) (d := HandSHeadRun.topDef (PySem.W.OpenLaw.row PySem.Challenge.rw_settledcases_k04_neighbors_and_chains).prog 35) (kwd := []) LawP.ob_eq
    (by kernel_rfl) (fun s => by kernel_rfl) LawP.run (by kernel_rfl) (by kernel_rfl) (by kernel_rfl) (by rfl) (by first | assumption | decide +kernel) (by decide +kernel) ⟨rfl, rfl, rfl, rfl, rfl, by decide +kernel⟩ ?hw ?hc
  case hw => w_witness2
  case hc =>
    refine Py.law_end (l := PySem.Challenge.rw_settledcases_k04_neighbors_and_chains) (n := 63) (k := 11) (x := "_law_script") (g := LawP.f_law) rfl (by decide) (by kernel_rfl) ⟨rfl, by decide, by decide⟩ LawP.law_true ?F
    intro w mg fa h Y G hmg0
    obtain ⟨K, KX, sq⟩ := Y
    have hmg : mg ("law" : PySem.Str) = some (.ref fa) := by
      have e : (HandSHeadRun.topDef (PySem.W.OpenLaw.row PySem.Challenge.rw_settledcases_k04_neighbors_and_chains).prog 35).name = ("law" : PySem.Str) := by kernel_rfl
      rw [← e]
      exact hmg0
    have Z : LawP.Sit K mg := ⟨⟨h, KX, G⟩, sq⟩
    have e := hmg.symm.trans (Z.glo 23 rfl)
    cases e
    obtain ⟨fd, hb, hF⟩ := LawP.facts (P := (PySem.Challenge.rw_settledcases_k04_neighbors_and_chains).prog) (w := w) Z
    exact ⟨K, fd, LawP.tab K, KX, hb, fun base _ _ => hF base⟩
