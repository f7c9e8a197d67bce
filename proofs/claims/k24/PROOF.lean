import PyProof.Rows.All
import Wide.All
import OpenK.AllK
import Wide.FinOn
import HandS.Base
import HandS.Call
import HandS.List
import HandS.Comp
import HandS.Ends
import HandS.Exc
import HandS.Words
import HandS.TupAny
import HandS.TupMul
import HandS.Flow
import HandS.Wide
import HandS.Deep
import HandS.Text
import HandS.IsInst
import HandS.CallSlots
import HandS.WordsExc
import HandS.Style
import HandS.TryOnly
import HandS.ExcOwn
import HandS.ExcIs
import HandS.Defaults
import HandS.HeadHook2
import HandS.HeadHook4
import HandS.HeadEnd
import HandS.Codes
import HandS.Head0
import HandS.Head1
import HandS.Head2
import PySem.Challenge.RW_settledcases_k24_narrowed_rules
set_option Elab.async false
set_option linter.all false
set_option maxRecDepth 100000
set_option maxHeartbeats 4000000
/-! PyD: plain data of Python programs, a small language over them, what it computes. Core Lean alone. -/
namespace Py

inductive D where
  | non
  | bool (b : Bool)
  | int (i : Int)
  | str (s : List Nat)
  | tup (xs : List D)
  | lst (xs : List D)
  | set (xs : List D)
  | dict (ks vs : List D)
  | obj (c : Nat) (fs : List D)
  | exc (c : Nat) (fs : List D)
  | scr (ns : List Int)
  deriving Inhabited

/-- a value, an exception (class, fields), or nothing known -/
inductive R (α : Type) where
  | ok (a : α)
  | ex (c : Nat) (fs : List D)
  | no

namespace R
def bind {α β : Type} : R α → (α → R β) → R β
  | .ok a, f => f a
  | .ex c fs, _ => .ex c fs
  | .no, _ => .no
def map {α β : Type} (f : α → β) : R α → R β
  | .ok a => .ok (f a)
  | .ex c fs => .ex c fs
  | .no => .no
/-- exceptions are not let out -/
def calm {α : Type} : R α → R α
  | .ok a => .ok a
  | _ => .no
end R
@[simp] theorem bind_ok {α β : Type} {a : α} {f : α → R β} : (R.ok a).bind f = f a := rfl
@[simp] theorem bind_ex {α β : Type} {c fs} {f : α → R β} : (R.ex c fs : R α).bind f = .ex c fs := rfl
@[simp] theorem bind_no {α β : Type} {f : α → R β} : (R.no : R α).bind f = .no := rfl
@[simp] theorem map_ok {α β : Type} {a : α} {f : α → β} : (R.ok a).map f = .ok (f a) := rfl
@[simp] theorem map_ex {α β : Type} {c fs} {f : α → β} : (R.ex c fs : R α).map f = .ex c fs := rfl
@[simp] theorem map_no {α β : Type} {f : α → β} : (R.no : R α).map f = .no := rfl

abbrev Sem := List D → R D
def cap : Nat := 100000

/-! ### equality of data as Python has it -/
mutual
def D.eq : D → D → Bool
  | .non, .non => true
  | .bool a, .bool b => a == b
  | .bool a, .int j => (if a then 1 else 0) == j
  | .int i, .bool b => i == (if b then 1 else 0)
  | .int i, .int j => i == j
  | .str a, .str b => a == b
  | .tup xs, .tup ys => D.eqs xs ys
  | .lst xs, .lst ys => D.eqs xs ys
  | _, _ => false
def D.eqs : List D → List D → Bool
  | [], [] => true
  | x :: xs, y :: ys => D.eq x y && D.eqs xs ys
  | _, _ => false
end
mutual
/-- data that == is told of: None, bools, ints, texts, tuples, lists, n deep at most -/
def D.good (n : Nat) : D → Bool
  | .non => true
  | .bool _ => true
  | .int _ => true
  | .str s => s.all fun c => decide (c < 55296)
  | .tup xs => decide (0 < n) && D.goods (n - 1) xs
  | .lst xs => decide (0 < n) && D.goods (n - 1) xs
  | _ => false
def D.goods (n : Nat) : List D → Bool
  | [] => true
  | x :: xs => D.good n x && D.goods n xs
end

def D.flat : D → Bool
  | .non => true
  | .bool _ => true
  | .int _ => true
  | .str _ => true
  | _ => false

def eqD (a b : D) : R Bool := if a.good 8 && b.good 8 then .ok (D.eq a b) else .no

/-! ### operators -/
inductive BOp | add | sub | mul | fdiv | mod | pow
  deriving DecidableEq
inductive COp | eq | ne | lt | le | gt | ge | is | isn | inn | nin
  deriving DecidableEq

def mulOk (i j : Int) : Bool := decide (i.natAbs < 2 ^ 64) || decide (j.natAbs < 2 ^ 64)

def repD (xs : List D) (n : Int) : List D := (List.replicate n.toNat xs).flatten

def binD : BOp → D → D → R D
  | .add, .int i, .int j => .ok (.int (i + j))
  | .add, .str s, .str t => if s.length + t.length ≤ cap then .ok (.str (s ++ t)) else .no
  | .add, .tup s, .tup t => if s.length + t.length ≤ cap then .ok (.tup (s ++ t)) else .no
  | .add, .lst s, .lst t => if s.length + t.length ≤ cap then .ok (.lst (s ++ t)) else .no
  | .sub, .int i, .int j => .ok (.int (i - j))
  | .mul, .int i, .int j => if mulOk i j then .ok (.int (i * j)) else .no
  | .mul, .lst s, .int n => if n ≤ (cap : Int) ∧ -(cap : Int) ≤ n ∧ s.length * n.toNat ≤ cap then .ok (.lst (repD s n)) else .no
  | .mul, .tup s, .int n => if 2 ≤ n ∧ n ≤ 1000 ∧ s.length ≤ 1000 ∧ s ≠ [] then .ok (.tup (repD s n)) else .no
  | .fdiv, .int i, .int j => if 0 < j ∧ j < 1073741824 then .ok (.int (i / j)) else .no
  | .mod, .int i, .int j => if 0 < j then .ok (.int (i % j)) else .no
  | .pow, .int i, .int j => if 0 ≤ j ∧ j ≤ 1000000 ∧ i.natAbs < 2 ^ 64 then .ok (.int (i ^ j.toNat)) else .no
  | _, _, _ => .no

def negD : D → R D
  | .int i => .ok (.int (-i))
  | _ => .no

/-- the i-th of n, as Python counts -/
def ixN (n : Nat) (i : Int) : Option Nat :=
  if 0 ≤ i then (if i < n then some i.toNat else none) else if -(n : Int) ≤ i then some (i + n).toNat else none
def atI {α : Type} (xs : List α) (i : Int) : Option α := (ixN xs.length i).bind fun j => xs[j]?

def lookD : List D → List D → D → Option D
  | k :: ks, v :: vs, x => if D.eq k x then some v else lookD ks vs x
  | _, _, _ => none

def ofO : Option D → R D
  | some d => .ok d
  | none => .no

def idxD : D → D → R D
  | .tup xs, .int i => ofO (atI xs i)
  | .lst xs, .int i => ofO (atI xs i)
  | .scr ns, .int i => ofO ((atI ns i).map D.int)
  | .str s, .int i => if s.length ≤ cap then ofO ((atI s i).map fun c => D.str [c]) else .no
  | .dict ks vs, k => ofO (lookD ks vs k)
  | _, _ => .no

def sIx (n d : Nat) : Option Int → Nat
  | none => d
  | some i => if i < 0 then (i + (n : Int)).toNat else min i.toNat n
def cutL {α : Type} (xs : List α) (lo hi : Option Int) : List α :=
  (xs.drop (sIx xs.length 0 lo)).take (sIx xs.length xs.length hi - sIx xs.length 0 lo)

def partI : D → R (Option Int)
  | .int i => .ok (some i)
  | _ => .no

def sliceD (lo hi : Option Int) : D → R D
  | .tup xs => .ok (.tup (cutL xs lo hi))
  | .lst xs => .ok (.lst (cutL xs lo hi))
  | .str s => if s.length ≤ cap then .ok (.str (cutL s lo hi)) else .no
  | _ => .no

def revD : D → R D
  | .lst xs => .ok (.lst xs.reverse)
  | _ => .no

def isInt : D → Option Int
  | .int i => some i
  | _ => none
def allInts : List D → Option (List Int)
  | [] => some []
  | x :: xs => match isInt x, allInts xs with
    | some i, some r => some (i :: r)
    | _, _ => none
def isBool : D → Option Bool
  | .bool b => some b
  | _ => none
def allBools : List D → Option (List Bool)
  | [] => some []
  | x :: xs => match isBool x, allBools xs with
    | some i, some r => some (i :: r)
    | _, _ => none

def infixAt (s t : List Nat) : Bool := match t with
  | [] => s.isPrefixOf []
  | c :: r => s.isPrefixOf (c :: r) || infixAt s r

def inD (x : D) : D → R Bool
  | .tup xs => if x.good 8 && D.goods 8 xs then .ok (xs.any fun z => D.eq z x) else .no
  | .lst xs => if x.good 8 && D.goods 8 xs then .ok (xs.any fun z => D.eq z x) else .no
  | .str t => match x with
    | .str [c] => .ok (t.contains c)
    | _ => .no
  | .dict ks _ => .ok (ks.any fun z => D.eq z x)
  | _ => .no

def cmpD : COp → D → D → R Bool
  | .lt, .int i, .int j => .ok (decide (i < j))
  | .le, .int i, .int j => .ok (decide (i ≤ j))
  | .gt, .int i, .int j => .ok (decide (j < i))
  | .ge, .int i, .int j => .ok (decide (j ≤ i))
  | .eq, a, b => eqD a b
  | .ne, a, b => (eqD a b).map not
  | .is, a, .non => .ok (match a with
    | .non => true
    | _ => false)
  | .isn, a, .non => .ok (match a with
    | .non => false
    | _ => true)
  | .inn, a, b => inD a b
  | .nin, a, b => (inD a b).map not
  | _, _, _ => .no

def truth : D → R Bool
  | .non => .ok false
  | .bool b => .ok b
  | .int i => .ok (i != 0)
  | .str s => if s.length ≤ cap then .ok (!s.isEmpty) else .no
  | .tup xs => .ok (!xs.isEmpty)
  | .lst xs => .ok (!xs.isEmpty)
  | .dict ks _ => .ok (!ks.isEmpty)
  | _ => .no

/-! ### built-ins -/
inductive Bi | len | int | abs | max | min | sum | tuple | list | any | all | str | sorted
  deriving DecidableEq

def maxI : List Int → Int
  | [] => 0
  | [x] => x
  | x :: xs => max x (maxI xs)
def minI : List Int → Int
  | [] => 0
  | [x] => x
  | x :: xs => min x (minI xs)

def biD : Bi → List D → R D
  | .len, [.str s] => if s.length ≤ cap then .ok (.int s.length) else .no
  | .len, [.tup s] => .ok (.int s.length)
  | .len, [.lst s] => .ok (.int s.length)
  | .len, [.scr s] => .ok (.int s.length)
  | .len, [.dict s _] => .ok (.int s.length)
  | .int, [.int i] => .ok (.int i)
  | .int, [.bool b] => .ok (.int (if b then 1 else 0))
  | .abs, [.int i] => .ok (.int (if i < 0 then -i else i))
  | .max, [.int i, .int j] => .ok (.int (if j > i then j else i))
  | .min, [.int i, .int j] => .ok (.int (if j < i then j else i))
  | .max, [.lst xs] => match allInts xs with
    | some ns => if 0 < ns.length then .ok (.int (maxI ns)) else .no
    | none => .no
  | .min, [.lst xs] => match allInts xs with
    | some ns => if 0 < ns.length then .ok (.int (minI ns)) else .no
    | none => .no
  | .sum, [.lst xs] => match allInts xs with
    | some ns => .ok (.int ns.sum)
    | none => .no
  | .any, [.lst xs] => match allBools xs with
    | some ns => .ok (.bool (ns.any id))
    | none => .no
  | .all, [.lst xs] => match allBools xs with
    | some ns => .ok (.bool (ns.all id))
    | none => .no
  | .tuple, [.lst xs] => .ok (.tup xs)
  | .tuple, [.tup xs] => .ok (.tup xs)
  | .list, [.lst xs] => .ok (.lst xs)
  | .list, [.tup xs] => .ok (.lst xs)
  | _, _ => .no

/-- types as isinstance has them; exc: a class of exceptions, those beneath it, all that are known -/
inductive Ty | int | bool | str | tuple | list | exc (x : String) (cs al : List Nat)
def tyD : Ty → D → R Bool
  | .exc _ cs al, .exc c _ => if al.contains c then .ok (cs.contains c) else .no
  | .exc _ _ _, _ => .no
  | t, d => match d with
    | .non => .ok false
    | .bool _ => .ok (match t with
      | .int => true
      | .bool => true
      | _ => false)
    | .int _ => .ok (match t with
      | .int => true
      | _ => false)
    | .str _ => .ok (match t with
      | .str => true
      | _ => false)
    | .tup _ => .ok (match t with
      | .tuple => true
      | _ => false)
    | .lst _ => .ok (match t with
      | .list => true
      | _ => false)
    | _ => .no

/-! ### the language -/
/-- where a value is put -/
inductive Pat | v (i : Nat) | tup (ps : List Pat)
section
variable {α : Type} (put : Nat → D → α → α)
mutual
/-- a pattern takes a value -/
def bindG : Pat → D → α → R α
  | .v i, d, a => .ok (put i d a)
  | .tup ps, d, a => match d with
    | .tup ds => bindGs ps ds a
    | _ => .no
def bindGs : List Pat → List D → α → R α
  | [], ds, a => match ds with
    | [] => .ok a
    | _ => .no
  | p :: ps, ds, a => match ds with
    | d :: ds => (bindG p d a).bind fun b => bindGs ps ds b
    | [] => .no
end
end
mutual
/-- the slots of a pattern -/
def Pat.ix : Pat → List Nat
  | .v i => [i]
  | .tup ps => Pat.ixs ps
def Pat.ixs : List Pat → List Nat
  | [] => []
  | p :: ps => p.ix ++ Pat.ixs ps
end

mutual
inductive E where
  | v (i : Nat)
  | non | tt | ff
  | int (i : Int)
  | str (s : List Nat)
  | glob (x : String) (d : D)
  | bin (o : BOp) (a b : E)
  | neg (a : E)
  | cmp (o : COp) (a b : E)
  | chain (o o' : COp) (a b c : E)
  | not (a : E)
  /-- and (true), or (false) -/
  | ands (o : Bool) (es : Es)
  | ife (t a b : E)
  | tup (es : Es) | lst (es : Es)
  | idx (a b : E)
  | slice (a : E) (lo hi : EO)
  /-- a[::-1], a list -/
  | rev (a : E)
  /-- a def of the text: its name, what it computes, the defaults that are used -/
  | call (x : String) (s : Sem) (dd : List D) (es : Es)
  | bi (f : Bi) (es : Es)
  | isin (e : E) (t : Ty)
  /-- [e for p in it if c]; own: the names of the block with their slots -/
  | lc (own : List (String × Nat)) (p : Pat) (it : It) (c : EO) (e : E)
inductive EO where
  | none | some (e : E)
inductive Es where
  | nil | cons (e : E) (es : Es)
inductive It where
  | seq (e : E)
  | range (a : E)
  | range2 (a b : E)
end

def It.rng : It → Bool
  | .range _ => true
  | .range2 _ _ => true
  | _ => false

abbrev Env := List (Option D)
def Env.get (env : Env) (i : Nat) : R D := match env[i]? with
  | some (some d) => .ok d
  | _ => .no

def wipeD (env : Env) : List Nat → Env
  | [] => env
  | v :: vs => (wipeD env vs).set v none

def putE (i : Nat) (d : D) (env : Env) : Env := env.set i (some d)

def seqD : D → R (List D)
  | .tup xs => .ok xs
  | .lst xs => .ok xs
  | .scr ns => .ok (ns.map D.int)
  | _ => .no

def rangeD (lo hi : Int) : List D := (List.range (hi - lo).toNat).map fun (i : Nat) => D.int (lo + (i : Int))
def bigI : Int := 4000000000000000000

/-- the items of a comprehension: each turn gives an item, or none -/
def compD : List D → (D → R (Option D)) → R (List D)
  | [], _ => .ok []
  | x :: xs, f => match f x with
    | .ok o => (compD xs f).bind fun r => .ok (match o with
      | some d => d :: r
      | none => r)
    | _ => .no

mutual
def ev (env : Env) : E → R D
  | .v i => env.get i
  | .non => .ok .non
  | .tt => .ok (.bool true)
  | .ff => .ok (.bool false)
  | .int i => .ok (.int i)
  | .str s => .ok (.str s)
  | .glob _ d => .ok d
  | .bin o a b => (ev env a).bind fun x => (ev env b).bind fun y => binD o x y
  | .neg a => (ev env a).bind negD
  | .cmp o a b => (ev env a).bind fun x => (ev env b).bind fun y => (cmpD o x y).map D.bool
  | .chain o o' a b c => (ev env a).bind fun x => (ev env b).bind fun y => (cmpD o x y).bind fun t =>
      if t then (ev env c).bind fun z => (cmpD o' y z).map D.bool else .ok (.bool false)
  | .not a => (ev env a).bind fun x => (truth x).map fun t => D.bool (!t)
  | .ands o es => eva env o es
  | .ife t a b => (ev env t).bind fun x => (truth x).bind fun t => if t then ev env a else ev env b
  | .tup es => (evs env es).map D.tup
  | .lst es => (evs env es).map D.lst
  | .idx a b => (ev env a).bind fun x => (ev env b).bind fun y => idxD x y
  | .slice a lo hi => (ev env a).bind fun x => (evo env lo).bind fun l => (evo env hi).bind fun h => sliceD l h x
  | .rev a => (ev env a).bind revD
  | .call _ s dd es => (evs env es).bind fun xs => s (xs ++ dd)
  | .bi f es => (evs env es).bind (biD f)
  | .isin e t => (ev env e).bind fun x => (tyD t x).map D.bool
  | .lc own p it c e => (evi env it).bind fun xs => (compD xs fun x =>
      (bindG putE p x (wipeD env (own.map (·.2)))).bind fun env' => (evc env' c).bind fun t =>
        if t then (ev env' e).map some else .ok none).map D.lst
def eva (env : Env) (o : Bool) : Es → R D
  | .nil => .no
  | .cons e es => match es with
    | .nil => ev env e
    | .cons _ _ => (ev env e).bind fun x => (truth x).bind fun t => if t = o then eva env o es else .ok x
def evo (env : Env) : EO → R (Option Int)
  | .none => .ok none
  | .some e => (ev env e).bind partI
def evc (env : Env) : EO → R Bool
  | .none => .ok true
  | .some e => (ev env e).bind truth
def evs (env : Env) : Es → R (List D)
  | .nil => .ok []
  | .cons e es => (ev env e).bind fun x => (evs env es).map fun xs => x :: xs
def evi (env : Env) : It → R (List D)
  | .seq e => (ev env e).bind seqD
  | .range a => (ev env a).bind fun x => match x with
    | .int n => if n ≤ (cap : Int) ∧ -bigI ≤ n then .ok (rangeD 0 n) else .no
    | _ => .no
  | .range2 a b => (ev env a).bind fun x => (ev env b).bind fun y => match x, y with
    | .int m, .int n => if -bigI ≤ m ∧ m ≤ bigI ∧ -bigI ≤ n ∧ n ≤ bigI ∧ n - m ≤ (cap : Int) then .ok (rangeD m n) else .no
    | _, _ => .no
end

/-! ### statements -/
/-- a name's slot: nothing, a value that stays as it is, a container that this frame alone holds (k levels deep) -/
inductive Sl | u | v (d : D) | o (k : Nat) (d : D)
@[simp] def Sl.rd : Sl → Option D
  | .u => none
  | .v d => some d
  | .o _ d => some d
@[simp] def Sl.fr : Sl → Option D
  | .v d => some d
  | _ => none
abbrev St := List Sl
/-- what an expression may read: all (its value must be a scalar then), or what stays as it is -/
def envS (m : Bool) (st : St) : Env := st.map (if m then Sl.rd else Sl.fr)

inductive Cf where
  | nx (st : St) | bk (st : St) | ct (st : St)
  | rt (d : D) | ex (c : Nat) (fs : List D) (st : St) | no

def D.scalar : D → Bool
  | .non => true
  | .bool _ => true
  | .int _ => true
  | .str _ => true
  | _ => false
mutual
/-- a scalar, a tuple of such: it names no list -/
def D.kept : D → Bool
  | .non => true
  | .bool _ => true
  | .int _ => true
  | .str _ => true
  | .tup xs => D.kepts xs
  | _ => false
def D.kepts : List D → Bool
  | [] => true
  | x :: xs => D.kept x && D.kepts xs
end
def okM (m : Bool) (d : D) : Bool := !m || d.kept

def putP (i : Nat) (d : D) (st : St) : St := st.set i (.v d)
def bindP (p : Pat) (d : D) (st : St) : R St := bindG putP p d st

mutual
inductive S where
  /-- p = e -/
  | asg (m : Bool) (p : Pat) (e : E)
  /-- x = e, e a new list -/
  | asgN (i : Nat) (e : E)
  | aug (i : Nat) (o : BOp) (e : E)
  | expr (e : E)
  | app (m : Bool) (i : Nat) (e : E)
  | setI (m : Bool) (i : Nat) (j e : E)
  | ret (e : E)
  /-- return of a new list: an expression, the list that slot i alone holds -/
  | retN (e : E) | retO (i : Nat)
  | ifs (c : E) (a b : Ss)
  | forr (p : Pat) (it : It) (b : Ss)
  | whil (c : E) (b : Ss)
  | brk | cont | pass
  /-- raise x('..'), c its class -/
  | raise (x : String) (c : Nat)
  | frz (i : Nat)
  /-- try: b, except x as (slot i): h; cs: the classes beneath x, al: all that are known -/
  | tri (b : Ss) (x : String) (cs al : List Nat) (i : Option Nat) (h : Ss)
inductive Ss where
  | nil | cons (s : S) (ss : Ss)
end

mutual
/-- no caught exception within -/
def D.noexc : D → Bool
  | .exc _ _ => false
  | .tup xs => D.noexcs xs
  | .lst xs => D.noexcs xs
  | .obj _ xs => D.noexcs xs
  | .set xs => D.noexcs xs
  | .dict ks vs => D.noexcs ks && D.noexcs vs
  | _ => true
def D.noexcs : List D → Bool
  | [] => true
  | x :: xs => D.noexc x && D.noexcs xs
end
def Sl.noexc : Sl → Bool
  | .u => true
  | .v d => d.noexc
  | .o _ d => d.noexc

/-- a for loop over items -/
def forD : List D → (D → St → Cf) → St → Cf
  | [], _, st => .nx st
  | x :: xs, f, st => match f x st with
    | .nx st' => forD xs f st'
    | .ct st' => forD xs f st'
    | .bk st' => .nx st'
    | r => r
/-- a while loop of at most so many turns -/
def whileD : Nat → (St → R Bool) → (St → Cf) → St → Cf
  | 0, _, _, _ => .no
  | n + 1, c, f, st => match c st with
    | .ok true => (match f st with
      | .nx st' => whileD n c f st'
      | .ct st' => whileD n c f st'
      | .bk st' => .nx st'
      | r => r)
    | .ok false => .nx st
    | .ex c fs => .ex c fs st
    | .no => .no

/-- a value, then what follows; st: the slots at an exception -/
def R.cf {α : Type} (st : St) : R α → (α → Cf) → Cf
  | .ok a, f => f a
  | .ex c fs, _ => .ex c fs st
  | .no, _ => .no
/-- an expression as a test -/
def evt (env : Env) (e : E) : R Bool := (ev env e).bind truth

def frzS : Option Sl → Sl
  | some (.o _ d) => .v d
  | some x => x
  | none => .u
/-- the list that slot i alone holds, then what follows -/
def ownL (st : St) (i : Nat) (k : List D → Cf) : Cf := match st[i]? with
  | some (.o 1 (.lst ds)) => k ds
  | _ => .no
def newS (st : St) (i : Nat) (d : D) : Cf := match d with
  | .lst _ => if i < st.length then .nx (st.set i (.o 1 d)) else .no
  | _ => .no
def retL : D → Cf
  | .lst ds => .rt (.lst ds)
  | _ => .no
/-- an index of a list's, to be stored at -/
def atS (n : Nat) (d : D) (k : Nat → Cf) : Cf := match d with
  | .int i => (match ixN n i with
    | some j => k j
    | none => .no)
  | _ => .no

/-- the slots as an except suite finds them, what comes out of it -/
def catchS (i : Option Nat) (c : Nat) (fs : List D) (st : St) : St := match i with
  | some i => st.set i (.v (.exc c fs))
  | none => st
def dropS (i : Option Nat) (st : St) : St := match i with
  | some i => st.set i .u
  | none => st
def catchD (i : Option Nat) : Cf → Cf
  | .nx st => if (dropS i st).all Sl.noexc then .nx (dropS i st) else .no
  | .rt d => if d.noexc then .rt d else .no
  | _ => .no

mutual
def run (st : St) : S → Cf
  | .asg m p e => (ev (envS m st) e).cf st fun d => if okM m d then (bindP p d st).cf st Cf.nx else .no
  | .asgN i e => (ev (envS false st) e).cf st (newS st i)
  | .aug i o e => (Env.get (envS true st) i).cf st fun x => (ev (envS true st) e).cf st fun y => (binD o x y).cf st fun z =>
      if z.scalar then .nx (st.set i (.v z)) else .no
  | .expr e => (ev (envS true st) e).cf st fun _ => .nx st
  | .app m i e => ownL st i fun ds => (ev (envS m st) e).cf st fun d => if okM m d && decide (ds.length < cap) then .nx (st.set i (.o 1 (.lst (ds ++ [d])))) else .no
  | .setI m i j e => ownL st i fun ds => (ev (envS m st) e).cf st fun d => if okM m d then (ev (envS true st) j).cf st fun k => atS ds.length k fun n => .nx (st.set i (.o 1 (.lst (ds.set n d)))) else .no
  | .ret e => (ev (envS true st) e).cf st fun d => .rt d
  | .retN e => (ev (envS true st) e).cf st retL
  | .retO i => ownL st i fun ds => .rt (.lst ds)
  | .ifs c a b => (evt (envS true st) c).cf st fun t => if t then runs st a else runs st b
  | .forr p it b => (evi (envS it.rng st) it).cf st fun xs => forD xs (fun x st => (bindP p x st).cf st fun st' => runs st' b) st
  | .whil c b => whileD cap (fun st => evt (envS true st) c) (fun st => runs st b) st
  | .brk => .bk st
  | .cont => .ct st
  | .pass => .nx st
  | .raise _ c => .ex c [] st
  | .frz i => .nx (st.set i (frzS st[i]?))
  | .tri b _ cs al i h => match runs st b with
    | .ex c fs st1 => if al.contains c then (if cs.contains c then catchD i (runs (catchS i c fs st1) h) else .ex c fs st1) else .no
    | r => r
def runs (st : St) : Ss → Cf
  | .nil => .nx st
  | .cons s ss => match run st s with
    | .nx st' => runs st' ss
    | r => r
end

/-- a def: its slots, its parameters, its body -/
def startS (n : Nat) (as : List D) : St := as.map Sl.v ++ List.replicate (n - as.length) .u
def fin : Cf → R D
  | .nx _ => .ok .non
  | .rt d => .ok d
  | .ex c fs _ => .ex c fs
  | _ => .no
def defD (n k : Nat) (b : Ss) : Sem := fun as => if as.length = k then fin (runs (startS n as) b) else .no
/-- a def that hands back a new list -/
def defN (n k : Nat) (b : Ss) : Sem := fun as => match defD n k b as with
  | .ok (.lst l) => .ok (.lst l)
  | .ok _ => .no
  | r => r
/-- a def that calls itself -/
def itD (n k : Nat) (b : Sem → Ss) : Nat → Sem
  | 0 => fun _ => .no
  | m + 1 => defD n k (b (itD n k b m))
end Py

namespace Py
open PySem L2

/-- where the classes stand -/
structure Tab where
  /-- where a class stands -/
  addr : Nat → Addr
  /-- its instances' attributes, in order -/
  flds : Nat → List Str
  /-- the exceptions that an except suite holds -/
  exc : Addr → Option (Nat × List D)

section
variable (K : PySem.W.Frag) (T : Tab)
mutual
def Rep (F : Hp) : D → V → Prop
  | .non, v => v = .non
  | .bool b, v => v = .bl b
  | .int i, v => v = .int i
  | .str s, v => v = .str ⟨s.toArray⟩
  | .tup ds, v => ∃ a vs, v = .ref a ∧ SqT K F a vs ∧ Reps F ds vs
  | .lst ds, v => ∃ a vs, v = .ref a ∧ F a = some (.lst vs) ∧ Reps F ds vs
  | .scr ns, v => ∃ a, v = .ref a ∧ SqL K F a (ns.map V.int)
  | .exc c fs, v => ∃ a, v = .ref a ∧ T.exc a = some (c, fs)
  | .obj c ds, v => ∃ a dx vs, v = .ref a ∧ F a = some (.ins (T.addr c) dx ((T.flds c).zip vs)) ∧ vs.length = (T.flds c).length ∧ Reps F ds vs
  | _, _ => False
def Reps (F : Hp) : List D → List V → Prop
  | [], vs => vs = []
  | d :: ds, vs => ∃ v r, vs = v :: r ∧ Rep F d v ∧ Reps F ds r
end
end
section
variable {K : PySem.W.Frag} {T : Tab}
theorem sameT {F G : Hp} {a : Addr} {xs : List V} (e : Same F G) (h : SqT K F a xs) : SqT K G a xs := by
  rcases h with (h | ⟨o, h⟩) | h
  · exact .inl (.inl (e _ _ h))
  · exact .inl (.inr ⟨o, e _ _ h⟩)
  · exact .inr h
mutual
theorem Rep.mono {F G : Hp} (e : Same F G) : ∀ {d : D} {v : V}, Rep K T F d v → Rep K T G d v
  | .non, _, h => h
  | .bool _, _, h => h
  | .int _, _, h => h
  | .str _, _, h => h
  | .tup ds, _, ⟨a, vs, h1, h2, h3⟩ => ⟨a, vs, h1, sameT e h2, Reps.mono e h3⟩
  | .lst ds, _, ⟨a, vs, h1, h2, h3⟩ => ⟨a, vs, h1, e _ _ h2, Reps.mono e h3⟩
  | .scr ns, _, ⟨a, h1, h2⟩ => ⟨a, h1, e.seq h2⟩
  | .set _, _, h => h.elim
  | .dict _ _, _, h => h.elim
  | .exc _ _, _, h => h
  | .obj c ds, _, ⟨a, dx, vs, h1, h2, h4, h3⟩ => ⟨a, dx, vs, h1, e _ _ h2, h4, Reps.mono e h3⟩
theorem Reps.mono {F G : Hp} (e : Same F G) : ∀ {ds : List D} {vs : List V}, Reps K T F ds vs → Reps K T G ds vs
  | [], _, h => h
  | d :: ds, _, ⟨v, r, h1, h2, h3⟩ => ⟨v, r, h1, Rep.mono e h2, Reps.mono e h3⟩
end
theorem Reps.length {F : Hp} : ∀ {ds : List D} {vs : List V}, Reps K T F ds vs → vs.length = ds.length
  | [], _, h => by
    cases h
    rfl
  | d :: ds, _, ⟨v, r, h1, h2, h3⟩ => by
    subst h1
    exact congrArg (· + 1) (Reps.length h3)
theorem Reps.get {F : Hp} : ∀ {ds : List D} {vs : List V} {i : Nat} {d : D}, Reps K T F ds vs → ds[i]? = some d → ∃ v, vs[i]? = some v ∧ Rep K T F d v
  | [], _, i, d, h, e => by simp at e
  | x :: ds, _, 0, d, ⟨v, r, h1, h2, h3⟩, e => by
    subst h1
    have e' : x = d := Option.some.inj e
    subst e'
    exact ⟨v, rfl, h2⟩
  | x :: ds, _, i + 1, d, ⟨v, r, h1, h2, h3⟩, e => by
    subst h1
    obtain ⟨u, q1, q2⟩ := Reps.get (i := i) h3 (by simpa using e)
    exact ⟨u, by simpa using q1, q2⟩
theorem Reps.getV {F : Hp} : ∀ {ds : List D} {vs : List V} {i : Nat} {v : V}, Reps K T F ds vs → vs[i]? = some v → ∃ d, ds[i]? = some d ∧ Rep K T F d v
  | [], _, i, d, h, e => by
    cases h
    simp at e
  | x :: ds, _, 0, d, ⟨v, r, h1, h2, h3⟩, e => by
    subst h1
    have e' : v = d := Option.some.inj e
    subst e'
    exact ⟨x, rfl, h2⟩
  | x :: ds, _, i + 1, d, ⟨v, r, h1, h2, h3⟩, e => by
    subst h1
    obtain ⟨u, q1, q2⟩ := Reps.getV (i := i) h3 (by simpa using e)
    exact ⟨u, by simpa using q1, q2⟩
theorem Reps.app {F : Hp} : ∀ {ds es : List D} {vs us : List V}, Reps K T F ds vs → Reps K T F es us → Reps K T F (ds ++ es) (vs ++ us)
  | [], _, _, _, h, g => by
    cases h
    exact g
  | d :: ds, _, _, _, ⟨v, r, h1, h2, h3⟩, g => by
    subst h1
    exact ⟨v, _, rfl, h2, Reps.app h3 g⟩
theorem Reps.one {F : Hp} {d : D} {v : V} (h : Rep K T F d v) : Reps K T F [d] [v] := ⟨v, [], rfl, h, rfl⟩
theorem Reps.take {F : Hp} : ∀ {ds : List D} {vs : List V} (n : Nat), Reps K T F ds vs → Reps K T F (ds.take n) (vs.take n)
  | ds, vs, 0, h => by
    rw [List.take_zero, List.take_zero]
    exact rfl
  | [], _, n + 1, h => by
    cases h
    exact rfl
  | d :: ds, _, n + 1, ⟨v, r, h1, h2, h3⟩ => by
    subst h1
    exact ⟨v, _, rfl, h2, Reps.take n h3⟩
theorem Reps.drop {F : Hp} : ∀ {ds : List D} {vs : List V} (n : Nat), Reps K T F ds vs → Reps K T F (ds.drop n) (vs.drop n)
  | ds, vs, 0, h => h
  | [], _, n + 1, h => by
    cases h
    exact rfl
  | d :: ds, _, n + 1, ⟨v, r, h1, h2, h3⟩ => by
    subst h1
    exact Reps.drop n h3
theorem Reps.set {F : Hp} {x : D} {u : V} (hx : Rep K T F x u) : ∀ {ds : List D} {vs : List V} (n : Nat), Reps K T F ds vs → Reps K T F (ds.set n x) (vs.set n u)
  | [], _, n, h => by
    cases h
    exact rfl
  | d :: ds, _, 0, ⟨v, r, h1, h2, h3⟩ => by
    subst h1
    exact ⟨u, r, rfl, hx, h3⟩
  | d :: ds, _, n + 1, ⟨v, r, h1, h2, h3⟩ => by
    subst h1
    exact ⟨v, _, rfl, h2, Reps.set hx n h3⟩
theorem Reps.rep {F : Hp} {ds : List D} {vs : List V} (h : Reps K T F ds vs) : ∀ n : Nat, Reps K T F (List.replicate n ds).flatten (List.replicate n vs).flatten
  | 0 => rfl
  | n + 1 => by
    rw [List.replicate_succ, List.replicate_succ, List.flatten_cons, List.flatten_cons]
    exact Reps.app h (Reps.rep h n)
theorem reps_ints {F : Hp} : ∀ ns : List Int, Reps K T F (ns.map D.int) (ns.map V.int)
  | [] => rfl
  | n :: ns => ⟨_, _, rfl, rfl, reps_ints ns⟩
/-- what a scalar is does not hang on the heap -/
theorem Rep.scalar {F G : Hp} {d : D} {v : V} (hs : d.scalar = true) (h : Rep K T F d v) : Rep K T G d v := by
  cases d <;> first | exact h | (cases hs)
end

/-- H grows; F grows by what is new in H -/
structure Grow (F H F' H' : Hp) : Prop where
  f : Same F F'
  s : Same F' H'
  h : Same H H'
  n : ∀ b o, F' b = some o → F b = some o ∨ H b = none
theorem Grow.refl {F H : Hp} (s : Same F H) : Grow F H F H := ⟨Same.refl F, s, Same.refl H, fun _ _ e => .inl e⟩
theorem Grow.trans {F H F1 H1 F2 H2 : Hp} (a : Grow F H F1 H1) (b : Grow F1 H1 F2 H2) : Grow F H F2 H2 :=
  ⟨a.f.trans b.f, b.s, a.h.trans b.h, fun c o e => by
    rcases b.n c o e with q | q
    · exact a.n c o q
    · exact .inr (a.h.free q)⟩
theorem Grow.new {F H : Hp} {p : Addr} {o : HO} (s : Same F H) (n : H p = none) : Grow F H (upd F p o) (upd H p o) := by
  have nF : F p = none := s.free n
  refine ⟨fun b x e => ?_, fun b x e => ?_, fun b x e => ?_, fun b x e => ?_⟩
  · rw [upd_ne (ne_of_none e nF)]
    exact e
  · by_cases hb : b = p
    · subst hb
      rw [upd_same] at e ⊢
      exact e
    · rw [upd_ne hb] at e ⊢
      exact s _ _ e
  · rw [upd_ne (ne_of_none e n)]
    exact e
  · by_cases hb : b = p
    · subst hb
      exact .inr n
    · rw [upd_ne hb] at e
      exact .inl e
/-- the heap alone has grown -/
theorem Grow.only {F H H' : Hp} (s : Same F H) (h : Same H H') : Grow F H F H' := ⟨Same.refl F, s.trans h, h, fun _ _ e => .inl e⟩

/-! ### what a reading wants -/
/-- an exception of class c with these fields -/
def ExR (K : PySem.W.Frag) (c : Nat) (fs : List D) (dx : Option Addr) (H : Hp) : Prop := fs = [] ∧ dx = none

section
variable (K : PySem.W.Frag) (T : Tab)
def Post {α β : Type} (rel : Hp → α → β → Prop) (W : Value → Option Addr → Hp → Prop) (F H : Hp) (r : R α) (Q : β → Hp → Prop) : Prop := match r with
  | .ok d => ∀ v F' H', Grow F H F' H' → rel F' d v → Q v H'
  | .ex c fs => ∀ dx H', Same H H' → ExR K c fs dx H' → W (.ref (T.addr c)) dx H'
  | .no => False
end
section
variable {K : PySem.W.Frag} {T : Tab} {α α' β β' : Type} {rel : Hp → α → β → Prop} {rel' : Hp → α' → β' → Prop} {W : Value → Option Addr → Hp → Prop} {F H F' H' : Hp}
theorem Post.grow {r : R α} {Q : β → Hp → Prop} (g : Grow F H F' H') (h : Post K T rel W F H r Q) : Post K T rel W F' H' r Q := by
  cases r with
  | ok a => exact fun v F2 H2 g2 q => h v F2 H2 (g.trans g2) q
  | ex c fs => exact fun dx H2 s q => h dx H2 (g.h.trans s) q
  | no => exact h
theorem Post.bind {r : R α} {f : α → R α'} {Q : β' → Hp → Prop} (h : Post K T rel' W F H (r.bind f) Q) :
    Post K T rel W F H r (fun x H1 => ∃ F1 a, r = .ok a ∧ Grow F H F1 H1 ∧ rel F1 a x ∧ Post K T rel' W F1 H1 (f a) Q) := by
  cases r with
  | ok a => exact fun v F2 H2 g2 q => ⟨F2, a, rfl, g2, q, Post.grow g2 h⟩
  | ex c fs => exact h
  | no => exact h
theorem Post.imp {r : R α} {Q Q' : β → Hp → Prop} (h : Post K T rel W F H r Q) (i : ∀ v H', Q v H' → Q' v H') : Post K T rel W F H r Q' := by
  cases r with
  | ok a => exact fun v F2 H2 g2 q => i _ _ (h v F2 H2 g2 q)
  | ex c fs => exact h
  | no => exact h
theorem Post.ok {a : α} {v : β} {Q : β → Hp → Prop} (s : Same F H) (h : Post K T rel W F H (.ok a) Q) (q : rel F a v) : Q v H := h v F H (Grow.refl s) q
/-- map as bind -/
theorem Post.bind' {r : R α} {f : α → α'} {Q : β' → Hp → Prop} (h : Post K T rel' W F H (r.map f) Q) :
    Post K T rel W F H r (fun x H1 => ∃ F1 a, r = .ok a ∧ Grow F H F1 H1 ∧ rel F1 a x ∧ Post K T rel' W F1 H1 (.ok (f a)) Q) := by
  cases r with
  | ok a => exact fun v F2 H2 g2 q => ⟨F2, a, rfl, g2, q, Post.grow g2 h⟩
  | ex c fs => exact h
  | no => exact h
theorem Post.map {r : R α} {f : α → α'} {Q : β' → Hp → Prop} {g : β → β'} (h : Post K T rel' W F H (r.map f) Q) (hr : ∀ F a b, rel F a b → rel' F (f a) (g b)) :
    Post K T rel W F H r (fun x H1 => Q (g x) H1) := by
  cases r with
  | ok a => exact fun v F2 H2 g2 q => h (g v) F2 H2 g2 (hr _ _ _ q)
  | ex c fs => exact h
  | no => exact h
end

/-- the slots that may be read -/
structure Vw (K : PySem.W.Frag) (T : Tab) (F H : Hp) (σ : L2.St) (env : Env) : Prop where
  s : Same F H
  l : env.length = (σ : List (Option V)).length
  g : ∀ (i : Nat) (d : D), env[i]? = some (some d) → ∃ v, (σ : List (Option V))[i]? = some (some v) ∧ Rep K T F d v
theorem Vw.grow {K : PySem.W.Frag} {T : Tab} {F H F' H' : Hp} {σ : L2.St} {env : Env} (g : Grow F H F' H') (h : Vw K T F H σ env) : Vw K T F' H' σ env :=
  ⟨g.s, h.l, fun i d e => by
    obtain ⟨v, a, b⟩ := h.g i d e
    exact ⟨v, a, Rep.mono g.f b⟩⟩

/-- no list and no tuple is too long -/
def LenOk (K : PySem.W.Frag) (H : Hp) : Prop := ∀ a xs, SqL K H a xs ∨ SqT K H a xs → xs.length ≤ sizeLine

section
variable (K : PySem.W.Frag) (T : Tab) (W : WX)
def rdG {α β : Type} (rel : Hp → α → β → Prop) (f : Env → R α) : L2.St → Hp → (β → Hp → Prop) → Prop := fun σ H Q =>
  LenOk K H → ∃ F env, Vw K T F H σ env ∧ Post K T rel (fun c d H' => W c d σ H') F H (f env) Q
def relD : Hp → D → V → Prop := fun F d v => Rep K T F d v
def relL : Hp → List D → List V → Prop := fun F d v => Reps K T F d v
def relB : Hp → Bool → Bool → Prop := fun _ a b => a = b
def relO : Hp → Option Int → Option Int → Prop := fun _ a b => a = b
def rdE (f : Env → R D) : TE := rdG K T W (relD K T) f
def rdA (f : Env → R (List D)) : TA := rdG K T W (relL K T) f
def rdT (f : Env → R Bool) : TT := rdG K T W relB f
def rdO (f : Env → R (Option Int)) : TO := rdG K T W relO f
end

section
variable {X : Cx} {T : Tab} {W : WX}
theorem lenOk_of {pins : List (Addr × Obj)} {σ : L2.St} {H : Hp} {s : Shared} (I : Inv X pins σ H s) : LenOk X.K H := by
  rintro a xs (h | h)
  · obtain ⟨its, rv, p, hz⟩ := I.list h
    exact hz
  · obtain ⟨its, rv, p, hz⟩ := I.tuple h
    exact hz
theorem pe_of {e : Expr} {t : TE} {f : Env → R D} (h : PE X e t) (imp : ∀ σ H Q, LenOk X.K H → (∃ F env, Vw X.K T F H σ env ∧ Post X.K T (relD X.K T) (fun c d H' => W c d σ H') F H (f env) Q) → t σ H Q) : PE X e (rdE X.K T W f) :=
  ⟨fun pins s σ H Q I q => h.run pins s σ H Q I (imp σ H Q (lenOk_of I) (q (lenOk_of I)))⟩
theorem pt_of {e : Expr} {t : TT} {f : Env → R Bool} (h : PT X e t) (imp : ∀ σ H Q, LenOk X.K H → (∃ F env, Vw X.K T F H σ env ∧ Post X.K T relB (fun c d H' => W c d σ H') F H (f env) Q) → t σ H Q) : PT X e (rdT X.K T W f) :=
  ⟨fun pins s σ H Q I q => h.run pins s σ H Q I (imp σ H Q (lenOk_of I) (q (lenOk_of I)))⟩
theorem pa_of {e : List Expr} {t : TA} {f : Env → R (List D)} (h : PA X e t) (imp : ∀ σ H Q, LenOk X.K H → (∃ F env, Vw X.K T F H σ env ∧ Post X.K T (relL X.K T) (fun c d H' => W c d σ H') F H (f env) Q) → t σ H Q) : PA X e (rdA X.K T W f) :=
  ⟨fun pos pins s σ H Q I q => h.run pos pins s σ H Q I (imp σ H Q (lenOk_of I) (q (lenOk_of I)))⟩
end
end Py

namespace Py
open PySem L2

theorem cap_line : cap ≤ sizeLine := sz_of' where sz_of' : cap ≤ sizeLine := by decide
theorem le_line {n : Nat} (h : n ≤ cap) : n ≤ sizeLine := Nat.le_trans h cap_line
theorem lt_line {n : Nat} (h : n < cap) : n < sizeLine := Nat.lt_of_lt_of_le h cap_line
theorem Same.upd {H : Hp} {p : Addr} {o : HO} (n : H p = none) : Same H (L2.upd H p o) := fun b x e => by
  rw [upd_ne (ne_of_none e n)]
  exact e

section
variable {K : PySem.W.Frag} {T : Tab} {W : Value → Option Addr → Hp → Prop} {F H : Hp}
/-- a new tuple, a new list -/
theorem Post.tup {ds : List D} {vs : List V} {Q : VK} {p : Addr} (s : Same F H) (h : Post K T (relD K T) W F H (.ok (.tup ds)) Q) (r : Reps K T F ds vs) (n : H p = none) : Q (.ref p) (upd H p (.tup vs)) :=
  h _ _ _ (Grow.new s n) ⟨p, vs, rfl, .inl (.inl upd_same), Reps.mono (Same.upd (s.free n)) r⟩
theorem Post.lst {ds : List D} {vs : List V} {Q : VK} {p : Addr} (s : Same F H) (h : Post K T (relD K T) W F H (.ok (.lst ds)) Q) (r : Reps K T F ds vs) (n : H p = none) : Q (.ref p) (upd H p (.lst vs)) :=
  h _ _ _ (Grow.new s n) ⟨p, vs, rfl, upd_same, Reps.mono (Same.upd (s.free n)) r⟩
end

/-! ### operators -/
def bop : BOp → Operator
  | .add => .Add | .sub => .Sub | .mul => .Mult | .fdiv => .FloorDiv | .mod => .Mod | .pow => .Pow
def rBin (K : PySem.W.Frag) (T : Tab) (o : BOp) : R2 := fun x y H Q => ∃ F W a b, Same F H ∧ Rep K T F a x ∧ Rep K T F b y ∧ Post K T (relD K T) W F H (binD o a b) Q
theorem mk_str (s : List Nat) : ((⟨s.toArray⟩ : Str)).length = s.length := rfl
theorem str_cat (s t : List Nat) : ((⟨s.toArray⟩ : Str) ++ (⟨t.toArray⟩ : Str)) = ⟨(s ++ t).toArray⟩ := by
  show Str.mk (s.toArray ++ t.toArray) = _
  rw [List.append_toArray]
section
variable {X : Cx} {T : Tab}
theorem op_bin {o : BOp} : OpR X (binaryOp (bop o)) (rBin X.K T o) := by
  intro pins s σ H x y v u Q I rx ry ⟨F, W, a, b, sF, ra, rb, q⟩
  unfold binD at q
  split at q
  · cases ra
    cases rb
    exact op_add pins s σ H _ _ v u Q I rx ry ⟨_, _, rfl, rfl, Post.ok sF q rfl⟩
  · rename_i s1 t1
    split at q
    · rename_i hz
      cases ra
      cases rb
      refine op_add_str pins s σ H _ _ v u Q I rx ry ⟨_, _, rfl, rfl, le_line hz, ?_⟩
      rw [str_cat]
      exact Post.ok sF q rfl
    · exact q.elim
  · split at q
    · rename_i s1 t1 hz
      obtain ⟨a1, vs, rfl, h1, r1⟩ := ra
      obtain ⟨b1, us, rfl, h2, r2⟩ := rb
      have l1 := Reps.length r1
      have l2 := Reps.length r2
      refine op_catA pins s σ H _ _ v u Q I rx ry ⟨a1, b1, vs, us, rfl, rfl, sameT sF h1, sameT sF h2, le_line (by rw [l1, l2]; exact hz), fun e => ?_, fun e1 e2 => ?_, fun _ _ p hp => Post.tup sF q (Reps.app r1 r2) hp⟩
      · subst e
        cases s1 with
        | nil => exact Post.ok sF q ⟨b1, us, rfl, h2, r2⟩
        | cons _ _ => cases l1
      · subst e2
        cases t1 with
        | nil =>
          refine Post.ok sF q ⟨a1, vs, rfl, h1, ?_⟩
          rw [List.append_nil]
          exact r1
        | cons _ _ => cases l2
    · exact q.elim
  · split at q
    · rename_i s1 t1 hz
      obtain ⟨a1, vs, rfl, h1, r1⟩ := ra
      obtain ⟨b1, us, rfl, h2, r2⟩ := rb
      have l1 := Reps.length r1
      have l2 := Reps.length r2
      exact op_cat pins s σ H _ _ v u Q I rx ry ⟨a1, b1, vs, us, rfl, rfl, sF _ _ h1, sF _ _ h2, le_line (by rw [l1, l2]; exact hz), fun p hp => Post.lst sF q (Reps.app r1 r2) hp⟩
    · exact q.elim
  · cases ra
    cases rb
    exact op_sub pins s σ H _ _ v u Q I rx ry ⟨_, _, rfl, rfl, Post.ok sF q rfl⟩
  · rename_i i j
    split at q
    · rename_i hm
      cases ra
      cases rb
      refine op_mul pins s σ H _ _ v u Q I rx ry ⟨_, _, rfl, rfl, ?_, Post.ok sF q rfl⟩
      unfold mulOk at hm
      rw [Bool.or_eq_true, decide_eq_true_eq, decide_eq_true_eq] at hm
      unfold CMul
      omega
    · exact q.elim
  · rename_i s1 n
    split at q
    · rename_i hz
      obtain ⟨h1, h2, h3⟩ := hz
      obtain ⟨a1, vs, rfl, g1, r1⟩ := ra
      cases rb
      have l1 := Reps.length r1
      have c1 : (cap : Int) = 100000 := rfl
      refine op_rep pins s σ H _ _ v u Q I rx ry ⟨a1, n, vs, rfl, rfl, sF _ _ g1, by omega, by omega, le_line (by rw [l1]; exact h3), fun p hp => Post.lst sF q (Reps.rep r1 _) hp⟩
    · exact q.elim
  · rename_i s1 n
    split at q
    · rename_i hz
      obtain ⟨h1, h2, h3, h4⟩ := hz
      obtain ⟨a1, vs, rfl, g1, r1⟩ := ra
      cases rb
      have l1 := Reps.length r1
      refine op_repT pins s σ H _ _ v u Q I rx ry ⟨a1, n, vs, rfl, rfl, sameT sF g1, fun e => ?_, h1, h2, by omega, fun p hp => Post.tup sF q (Reps.rep r1 _) hp⟩
      subst e
      cases s1 with
      | nil => exact h4 rfl
      | cons _ _ => cases l1
    · exact q.elim
  · rename_i i j
    split at q
    · rename_i hm
      cases ra
      cases rb
      exact op_fdiv pins s σ H _ _ v u Q I rx ry ⟨_, _, rfl, rfl, hm, Post.ok sF q rfl⟩
    · exact q.elim
  · rename_i i j
    split at q
    · rename_i hm
      cases ra
      cases rb
      exact op_mod pins s σ H _ _ v u Q I rx ry ⟨_, _, rfl, rfl, hm, Post.ok sF q rfl⟩
    · exact q.elim
  · rename_i i j
    split at q
    · rename_i hm
      cases ra
      cases rb
      exact op_pow pins s σ H _ _ v u Q I rx ry ⟨_, _, rfl, rfl, hm, Post.ok sF q rfl⟩
    · exact q.elim
  · exact q.elim
end
end Py

namespace Py
open PySem L2

/-! ### == and in -/
mutual
def pd : D → PyData
  | .non => .none
  | .bool b => .bool b
  | .int i => .int i
  | .str s => .str ⟨s.toArray⟩
  | .tup ds => .tuple (pds ds)
  | .lst ds => .list (pds ds)
  | _ => .none
def pds : List D → List PyData
  | [] => []
  | d :: ds => pd d :: pds ds
end
mutual
theorem dp_of {K : PySem.W.Frag} {H : Hp} (n : Nat) : ∀ (d : D) (v : V), d.good n = true → Rep K T H d v → Dp K H v (pd d)
  | .non, _, _, h => by
    cases h
    exact .non
  | .bool _, _, _, h => by
    cases h
    exact .bl _
  | .int _, _, _, h => by
    cases h
    exact .int _
  | .str _, _, _, h => by
    cases h
    exact .str _
  | .tup ds, v, g, ⟨a, vs, h1, h2, h3⟩ => by
    subst h1
    have g' : (decide (0 < n) && D.goods (n - 1) ds) = true := g
    exact .tup h2 (dps_of (n - 1) ds vs (Bool.and_eq_true_iff.mp g').2 h3)
  | .lst ds, v, g, ⟨a, vs, h1, h2, h3⟩ => by
    subst h1
    have g' : (decide (0 < n) && D.goods (n - 1) ds) = true := g
    exact .lst (.inl (.inl h2)) (dps_of (n - 1) ds vs (Bool.and_eq_true_iff.mp g').2 h3)
  | .set _, _, _, h => h.elim
  | .dict _ _, _, _, h => h.elim
  | .obj _ _, _, g, _ => by cases g
  | .exc _ _, _, g, _ => by cases g
  | .scr _, _, g, _ => by cases g
theorem dps_of {K : PySem.W.Frag} {H : Hp} (n : Nat) : ∀ (ds : List D) (vs : List V), D.goods n ds = true → Reps K T H ds vs → DpAll K H vs (pds ds)
  | [], _, _, h => by
    cases h
    exact .nil
  | d :: ds, _, g, ⟨v, r, h1, h2, h3⟩ => by
    subst h1
    have g' : (D.good n d && D.goods n ds) = true := g
    exact .cons (dp_of n d v (Bool.and_eq_true_iff.mp g').1 h2) (dps_of n ds r (Bool.and_eq_true_iff.mp g').2 h3)
end
mutual
theorem pd_lay (n : Nat) : ∀ d : D, d.good n = true → (pd d).canLay0 = true
  | .non, _ => rfl
  | .bool _, _ => rfl
  | .int _, _ => rfl
  | .str s, g => by
    have g' : (s.all fun c => decide (c < 55296)) = true := g
    show PyData.strOk ⟨s.toArray⟩ = true
    unfold PyData.strOk
    rw [List.all_toArray, List.all_eq_true]
    intro c hc
    have q := List.all_eq_true.mp g' c hc
    have q' : c < 55296 := of_decide_eq_true q
    exact decide_eq_true (by omega)
  | .tup ds, g => by
    have g' : (decide (0 < n) && D.goods (n - 1) ds) = true := g
    exact pds_lay (n - 1) ds (Bool.and_eq_true_iff.mp g').2
  | .lst ds, g => by
    have g' : (decide (0 < n) && D.goods (n - 1) ds) = true := g
    exact pds_lay (n - 1) ds (Bool.and_eq_true_iff.mp g').2
  | .set _, g => by cases g
  | .dict _ _, g => by cases g
  | .obj _ _, g => by cases g
  | .exc _ _, g => by cases g
  | .scr _, g => by cases g
theorem pds_lay (n : Nat) : ∀ ds : List D, D.goods n ds = true → PyData.canLayAll0 (pds ds) = true
  | [], _ => rfl
  | d :: ds, g => by
    have g' : (D.good n d && D.goods n ds) = true := g
    show (PyData.canLay0 (pd d) && PyData.canLayAll0 (pds ds)) = true
    rw [pd_lay n d (Bool.and_eq_true_iff.mp g').1, pds_lay n ds (Bool.and_eq_true_iff.mp g').2]
    rfl
end
mutual
theorem pd_dep (n : Nat) : ∀ d : D, d.good n = true → (pd d).depth ≤ n
  | .non, _ => Nat.zero_le _
  | .bool _, _ => Nat.zero_le _
  | .int _, _ => Nat.zero_le _
  | .str s, g => Nat.zero_le _
  | .tup ds, g => by
    have g' : (decide (0 < n) && D.goods (n - 1) ds) = true := g
    have q := pds_dep (n - 1) ds (Bool.and_eq_true_iff.mp g').2
    have q2 : 0 < n := of_decide_eq_true (Bool.and_eq_true_iff.mp g').1
    show PyData.depthAll (pds ds) + 1 ≤ n
    omega
  | .lst ds, g => by
    have g' : (decide (0 < n) && D.goods (n - 1) ds) = true := g
    have q := pds_dep (n - 1) ds (Bool.and_eq_true_iff.mp g').2
    have q2 : 0 < n := of_decide_eq_true (Bool.and_eq_true_iff.mp g').1
    show PyData.depthAll (pds ds) + 1 ≤ n
    omega
  | .set _, g => by cases g
  | .dict _ _, g => by cases g
  | .obj _ _, g => by cases g
  | .exc _ _, g => by cases g
  | .scr _, g => by cases g
theorem pds_dep (n : Nat) : ∀ ds : List D, D.goods n ds = true → PyData.depthAll (pds ds) ≤ n
  | [], _ => Nat.zero_le _
  | d :: ds, g => by
    have g' : (D.good n d && D.goods n ds) = true := g
    show max (PyData.depth (pd d)) (PyData.depthAll (pds ds)) ≤ n
    have q1 := pd_dep n d (Bool.and_eq_true_iff.mp g').1
    have q2 := pds_dep n ds (Bool.and_eq_true_iff.mp g').2
    omega
end
theorem pd_shaped {d : D} (g : d.good 8 = true) : SeqAt.shaped (pd d) = true := by
  unfold SeqAt.shaped
  rw [pd_lay 8 d g, Bool.true_and]
  have := pd_dep 8 d g
  exact decide_eq_true (by omega)
theorem str_beq (s t : List Nat) : ((⟨s.toArray⟩ : Str) == ⟨t.toArray⟩) = (s == t) := by
  by_cases h : s = t
  · subst h
    rw [beq_self_eq_true, beq_self_eq_true]
  · rw [beq_eq_false_iff_ne.mpr h, beq_eq_false_iff_ne]
    intro e
    injection e with e
    exact h (by simpa using e)
mutual
theorem pd_eqv : ∀ (a b : D), a.good n = true → b.good m = true → PyData.eqv (pd a) (pd b) = D.eq a b
  | .non, b, _, g => by cases b <;> first | rfl | cases g
  | .bool _, b, _, g => by cases b <;> first | rfl | cases g
  | .int _, b, _, g => by cases b <;> first | rfl | cases g
  | .str s, b, _, g => by
    cases b <;> first
      | rfl
      | exact str_beq _ _
      | cases g
  | .tup xs, b, ga, g => by
    have ga' : (decide (0 < n) && D.goods (n - 1) xs) = true := ga
    cases b with
    | tup ys =>
      have g' : (decide (0 < m) && D.goods (m - 1) ys) = true := g
      exact pds_eqv xs ys (Bool.and_eq_true_iff.mp ga').2 (Bool.and_eq_true_iff.mp g').2
    | _ => first | rfl | cases g
  | .lst xs, b, ga, g => by
    have ga' : (decide (0 < n) && D.goods (n - 1) xs) = true := ga
    cases b with
    | lst ys =>
      have g' : (decide (0 < m) && D.goods (m - 1) ys) = true := g
      exact pds_eqv xs ys (Bool.and_eq_true_iff.mp ga').2 (Bool.and_eq_true_iff.mp g').2
    | _ => first | rfl | cases g
  | .set _, _, g, _ => by cases g
  | .dict _ _, _, g, _ => by cases g
  | .obj _ _, _, g, _ => by cases g
  | .exc _ _, _, g, _ => by cases g
  | .scr _, _, g, _ => by cases g
theorem pds_eqv : ∀ (xs ys : List D), D.goods n xs = true → D.goods m ys = true → PyData.eqvAll (pds xs) (pds ys) = D.eqs xs ys
  | [], [], _, _ => rfl
  | [], _ :: _, _, _ => rfl
  | _ :: _, [], _, _ => rfl
  | x :: xs, y :: ys, g, h => by
    have g' : (D.good n x && D.goods n xs) = true := g
    have h' : (D.good m y && D.goods m ys) = true := h
    show (PyData.eqv (pd x) (pd y) && PyData.eqvAll (pds xs) (pds ys)) = (D.eq x y && D.eqs xs ys)
    rw [pd_eqv x y (Bool.and_eq_true_iff.mp g').1 (Bool.and_eq_true_iff.mp h').1, pds_eqv xs ys (Bool.and_eq_true_iff.mp g').2 (Bool.and_eq_true_iff.mp h').2]
end
theorem pds_any {n m : Nat} {x : D} (gx : x.good n = true) : ∀ xs : List D, D.goods m xs = true → ((pds xs).any fun z => PyData.eqv z (pd x)) = xs.any fun z => D.eq z x
  | [], _ => rfl
  | y :: ys, g => by
    have g' : (D.good m y && D.goods m ys) = true := g
    show (PyData.eqv (pd y) (pd x) || (pds ys).any fun z => PyData.eqv z (pd x)) = (D.eq y x || ys.any fun z => D.eq z x)
    rw [pd_eqv y x (Bool.and_eq_true_iff.mp g').1 gx, pds_any gx ys (Bool.and_eq_true_iff.mp g').2]
theorem goods_tup {xs : List D} (g : D.goods 8 xs = true) : (D.tup xs).good 9 = true := g
theorem pd_shaped9 {d : D} (g : d.good 9 = true) : SeqAt.shaped (pd d) = true := by
  unfold SeqAt.shaped
  rw [pd_lay 9 d g, Bool.true_and]
  have := pd_dep 9 d g
  exact decide_eq_true (by omega)

def cop : COp → CmpOp
  | .eq => .Eq | .ne => .NotEq | .lt => .Lt | .le => .LtE | .gt => .Gt | .ge => .GtE | .is => .Is | .isn => .IsNot | .inn => .In | .nin => .NotIn
def rCmp (K : PySem.W.Frag) (T : Tab) (o : COp) : R2 := fun x y H Q => ∃ F W a b, Same F H ∧ Rep K T F a x ∧ Rep K T F b y ∧ Post K T relB W F H (cmpD o a b) (fun k H' => Q (.bl k) H')
section
variable {X : Cx} {T : Tab}
theorem Post.okb {K : PySem.W.Frag} {W : Value → Option Addr → Hp → Prop} {F H : Hp} {k : Bool} {Q : VK} (s : Same F H) (h : Post K T relB W F H (.ok k) (fun k H' => Q (.bl k) H')) : Q (.bl k) H := h k F H (Grow.refl s) rfl
theorem op_inDT (hu : X.A.units + 65 < cLine) {pins : List (Addr × Obj)} {s : Shared} {σ : L2.St} {H : Hp} {x y : V} {v u : Value} {Q : VK} (I : Inv X pins σ H s) (rx : RelV x v) (ry : RelV y u) {d : PyData} {ds : List PyData}
    (hd : Dp X.K H x d) (he : Dp X.K H y (.tuple ds)) (sd : SeqAt.shaped d = true) (se : SeqAt.shaped (.tuple ds) = true) (q : Q (.bl (ds.any fun z => PyData.eqv z d)) H) : wpAny (model X.prog X.w) X.A (compareOp .In v u) (EP X pins σ Q) X.xe s := by
  obtain ⟨as, r1⟩ := Dp.reads I d x v hd rx
  obtain ⟨bs, r2⟩ := Dp.reads I (.tuple ds) y u he ry
  exact SeqAt.in_tuple_reads r2 r1 (SeqAt.canLay_of_shaped se) (SeqAt.canLay_of_shaped sd) (PyProof.Rows.room_in_shaped sd hu) ⟨.bl _, H, I, rfl, q⟩
theorem op_ninDT (hu : X.A.units + 65 < cLine) {pins : List (Addr × Obj)} {s : Shared} {σ : L2.St} {H : Hp} {x y : V} {v u : Value} {Q : VK} (I : Inv X pins σ H s) (rx : RelV x v) (ry : RelV y u) {d : PyData} {ds : List PyData}
    (hd : Dp X.K H x d) (he : Dp X.K H y (.tuple ds)) (sd : SeqAt.shaped d = true) (se : SeqAt.shaped (.tuple ds) = true) (q : Q (.bl (!ds.any fun z => PyData.eqv z d)) H) : wpAny (model X.prog X.w) X.A (compareOp .NotIn v u) (EP X pins σ Q) X.xe s := by
  obtain ⟨as, r1⟩ := Dp.reads I d x v hd rx
  obtain ⟨bs, r2⟩ := Dp.reads I (.tuple ds) y u he ry
  exact SeqAt.notIn_tuple_reads r2 r1 (SeqAt.canLay_of_shaped se) (SeqAt.canLay_of_shaped sd) (PyProof.Rows.room_in_shaped sd hu) ⟨.bl _, H, I, rfl, q⟩
theorem contains_mem (c : Nat) (t : List Nat) : t.contains c = decide (c ∈ t) := by
  by_cases h : c ∈ t
  · rw [decide_eq_true h]
    exact List.contains_iff_mem.mpr h
  · rw [decide_eq_false h]
    exact Bool.eq_false_iff.mpr fun e => h (List.contains_iff_mem.mp e)
theorem rep_non {K : PySem.W.Frag} {F : Hp} {a : D} {x : V} (r : Rep K T F a x) : decide (x = V.non) = (match a with
    | .non => true
    | _ => false) := by
  cases a with
  | non =>
    cases r
    rfl
  | tup _ =>
    obtain ⟨_, _, rfl, _⟩ := r
    rfl
  | lst _ =>
    obtain ⟨_, _, rfl, _⟩ := r
    rfl
  | scr _ =>
    obtain ⟨_, rfl, _⟩ := r
    rfl
  | obj _ _ =>
    obtain ⟨_, _, _, rfl, _⟩ := r
    rfl
  | exc _ _ =>
    obtain ⟨_, rfl, _⟩ := r
    rfl
  | _ => first | exact r.elim | (cases r; rfl)
theorem op_cmp (hu : X.A.units + 65 < cLine) {o : COp} : OpR X (compareOp (cop o)) (rCmp X.K T o) := by
  intro pins s σ H x y v u Q I rx ry ⟨F, W, a, b, sF, ra, rb, q⟩
  cases o with
  | eq =>
    have q : Post X.K T relB W F H (eqD a b) (fun k H' => Q (.bl k) H') := q
    unfold eqD at q
    split at q
    · rename_i g
      obtain ⟨g1, g2⟩ := Bool.and_eq_true_iff.mp g
      refine op_eqD (by omega) pins s σ H _ _ v u Q I rx ry ⟨_, _, dp_of 8 a x g1 (Rep.mono sF ra), dp_of 8 b y g2 (Rep.mono sF rb), pd_shaped g1, pd_shaped g2, ?_⟩
      rw [pd_eqv a b g1 g2]
      exact Post.okb sF q
    · exact q.elim
  | ne =>
    have q : Post X.K T relB W F H ((eqD a b).map not) (fun k H' => Q (.bl k) H') := q
    unfold eqD at q
    split at q
    · rename_i g
      obtain ⟨g1, g2⟩ := Bool.and_eq_true_iff.mp g
      refine op_neD (by omega) pins s σ H _ _ v u Q I rx ry ⟨_, _, dp_of 8 a x g1 (Rep.mono sF ra), dp_of 8 b y g2 (Rep.mono sF rb), pd_shaped g1, pd_shaped g2, ?_⟩
      rw [pd_eqv a b g1 g2]
      exact Post.okb (k := !D.eq a b) sF q
    · exact q.elim
  | is =>
    cases b <;> first | exact q.elim | skip
    cases rb
    refine op_isN pins s σ H _ _ v u Q I rx ry ⟨rfl, ?_⟩
    rw [rep_non ra]
    cases a <;> exact Post.okb sF q
  | isn =>
    cases b <;> first | exact q.elim | skip
    cases rb
    refine op_notN pins s σ H _ _ v u Q I rx ry ⟨rfl, ?_⟩
    rw [rep_non ra]
    cases a <;> exact Post.okb sF q
  | lt =>
    cases a <;> cases b <;> first | exact q.elim | skip
    cases ra
    cases rb
    exact op_lt pins s σ H _ _ v u Q I rx ry ⟨_, _, rfl, rfl, Post.okb sF q⟩
  | le =>
    cases a <;> cases b <;> first | exact q.elim | skip
    cases ra
    cases rb
    exact op_le pins s σ H _ _ v u Q I rx ry ⟨_, _, rfl, rfl, Post.okb sF q⟩
  | gt =>
    cases a <;> cases b <;> first | exact q.elim | skip
    cases ra
    cases rb
    exact op_gt pins s σ H _ _ v u Q I rx ry ⟨_, _, rfl, rfl, Post.okb sF q⟩
  | ge =>
    cases a <;> cases b <;> first | exact q.elim | skip
    cases ra
    cases rb
    exact op_ge pins s σ H _ _ v u Q I rx ry ⟨_, _, rfl, rfl, Post.okb sF q⟩
  | inn =>
    cases b with
    | str t =>
      cases a with
      | str z =>
        match z, q, ra with
        | [c], q, ra =>
          cases ra
          cases rb
          refine op_in_sign pins s σ H _ _ v u Q I rx ry ⟨c, _, rfl, rfl, ?_⟩
          have q : Post X.K T relB W F H (.ok ((t.contains c))) (fun k H' => Q (.bl k) H') := q
          rw [contains_mem] at q
          exact Post.okb sF q
        | [], q, _ => exact q.elim
        | _ :: _ :: _, q, _ => exact q.elim
      | _ => exact q.elim
    | tup xs =>
      have q : Post X.K T relB W F H ((if a.good 8 && D.goods 8 xs then .ok (xs.any fun z => D.eq z a) else .no)) (fun k H' => Q (.bl k) H') := q
      split at q
      · rename_i g
        obtain ⟨g1, g2⟩ := Bool.and_eq_true_iff.mp g
        refine op_inDT hu I rx ry (dp_of 8 a x g1 (Rep.mono sF ra)) (dp_of 9 (.tup xs) y (goods_tup g2) (Rep.mono sF rb)) (pd_shaped g1) (pd_shaped9 (goods_tup g2)) ?_
        rw [pds_any g1 xs g2]
        exact Post.okb (k := (xs.any fun z => D.eq z a)) sF q
      · exact q.elim
    | lst xs =>
      have q : Post X.K T relB W F H ((if a.good 8 && D.goods 8 xs then .ok (xs.any fun z => D.eq z a) else .no)) (fun k H' => Q (.bl k) H') := q
      split at q
      · rename_i g
        obtain ⟨g1, g2⟩ := Bool.and_eq_true_iff.mp g
        refine op_inD hu pins s σ H _ _ v u Q I rx ry ⟨_, _, dp_of 8 a x g1 (Rep.mono sF ra), dp_of 9 (.lst xs) y g2 (Rep.mono sF rb), pd_shaped g1, pd_shaped9 (d := .lst xs) g2, ?_⟩
        rw [pds_any g1 xs g2]
        exact Post.okb (k := (xs.any fun z => D.eq z a)) sF q
      · exact q.elim
    | dict _ _ => exact rb.elim
    | _ => exact q.elim
  | nin =>
    cases b with
    | str t =>
      cases a with
      | str z =>
        match z, q, ra with
        | [c], q, ra =>
          cases ra
          cases rb
          refine op_notIn_sign pins s σ H _ _ v u Q I rx ry ⟨c, _, rfl, rfl, ?_⟩
          have q : Post X.K T relB W F H (.ok (!(t.contains c))) (fun k H' => Q (.bl k) H') := q
          rw [contains_mem] at q
          exact Post.okb sF q
        | [], q, _ => exact q.elim
        | _ :: _ :: _, q, _ => exact q.elim
      | _ => exact q.elim
    | tup xs =>
      have q : Post X.K T relB W F H (R.map not (if a.good 8 && D.goods 8 xs then .ok (xs.any fun z => D.eq z a) else .no)) (fun k H' => Q (.bl k) H') := q
      split at q
      · rename_i g
        obtain ⟨g1, g2⟩ := Bool.and_eq_true_iff.mp g
        refine op_ninDT hu I rx ry (dp_of 8 a x g1 (Rep.mono sF ra)) (dp_of 9 (.tup xs) y (goods_tup g2) (Rep.mono sF rb)) (pd_shaped g1) (pd_shaped9 (goods_tup g2)) ?_
        rw [pds_any g1 xs g2]
        exact Post.okb (k := !(xs.any fun z => D.eq z a)) sF q
      · exact q.elim
    | lst xs =>
      have q : Post X.K T relB W F H (R.map not (if a.good 8 && D.goods 8 xs then .ok (xs.any fun z => D.eq z a) else .no)) (fun k H' => Q (.bl k) H') := q
      split at q
      · rename_i g
        obtain ⟨g1, g2⟩ := Bool.and_eq_true_iff.mp g
        refine op_notInD hu pins s σ H _ _ v u Q I rx ry ⟨_, _, dp_of 8 a x g1 (Rep.mono sF ra), dp_of 9 (.lst xs) y g2 (Rep.mono sF rb), pd_shaped g1, pd_shaped9 (d := .lst xs) g2, ?_⟩
        rw [pds_any g1 xs g2]
        exact Post.okb (k := !(xs.any fun z => D.eq z a)) sF q
      · exact q.elim
    | dict _ _ => exact rb.elim
    | _ => exact q.elim
end
end Py

namespace Py
open PySem L2

section
variable {X : Cx} {T : Tab} {W : WX} {pos p2 : Pos}

/-! ### names, constants -/
theorem s_var {i : Nat} {x : Str} (hN : X.N[i]? = some x) (hv : Vis X.env.scope x) (hd : (x == ("__debug__" : Str)) = false) (hcd : (x == ("__classdict__" : Str)) = false) :
    PE X (.Name x pos) (rdE X.K T W fun env => env.get i) := by
  refine pe_of (pe_var hN hv hd hcd) fun σ H Q _ ⟨F, env, vw, q⟩ => ?_
  unfold Env.get at q
  split at q
  · rename_i d e
    obtain ⟨v, a, b⟩ := vw.g i d e
    exact ⟨v, a, Post.ok vw.s q b⟩
  · exact q.elim
theorem s_c {e : Expr} {v : V} {d : D} (h : PE X e (tC v)) (r : ∀ F, Rep X.K T F d v) : PE X e (rdE X.K T W fun _ => .ok d) := by
  refine pe_of h fun σ H Q _ ⟨F, env, vw, q⟩ => ?_
  exact Post.ok vw.s q (r F)
theorem s_int {i : Int} {j : Nat} : PE X (.Constant (.int i) j pos) (rdE X.K T W fun _ => .ok (.int i)) := s_c pe_int fun _ => rfl
theorem s_bool {b : Bool} {j : Nat} : PE X (.Constant (.bool b) j pos) (rdE X.K T W fun _ => .ok (.bool b)) := s_c pe_bl fun _ => rfl
theorem s_non {j : Nat} : PE X (.Constant .none j pos) (rdE X.K T W fun _ => .ok .non) := s_c pe_non fun _ => rfl
theorem s_str {x : Str} {z : List Nat} {j : Nat} (h : x = ⟨z.toArray⟩) : PE X (.Constant (.str x) j pos) (rdE X.K T W fun _ => .ok (.str z)) := s_c pe_str fun _ => by
  rw [h]
  exact rfl

/-! ### operators -/
theorem Vw.rd {F H : Hp} {σ : L2.St} {env : Env} {α β : Type} {rel : Hp → α → β → Prop} {f : Env → R α} {Q : β → Hp → Prop} (vw : Vw X.K T F H σ env) (q : Post X.K T rel (fun c d H' => W c d σ H') F H (f env) Q) : rdG X.K T W rel f σ H Q :=
  fun _ => ⟨F, env, vw, q⟩
theorem s_bin {o : BOp} {a b : Expr} {f g : Env → R D} (ha : PE X a (rdE X.K T W f)) (hb : PE X b (rdE X.K T W g)) :
    PE X (.BinOp a (bop o) b pos) (rdE X.K T W fun env => (f env).bind fun x => (g env).bind fun y => binD o x y) := by
  refine pe_of (pe_op (op_bin (T := T)) ha hb) fun σ H Q _ ⟨F, env, vw, q⟩ => ?_
  refine vw.rd (Post.imp (Post.bind (rel := relD X.K T) q) fun x H1 ⟨F1, d1, e1, g1, r1, q1⟩ => ?_)
  refine (vw.grow g1).rd (Post.imp (Post.bind (rel := relD X.K T) q1) fun y H2 ⟨F2, d2, e2, g2, r2, q2⟩ => ?_)
  exact ⟨F2, _, d1, d2, g2.s, Rep.mono g2.f r1, r2, q2⟩
theorem s_neg {a : Expr} {f : Env → R D} (ha : PE X a (rdE X.K T W f)) : PE X (.UnaryOp .USub a pos) (rdE X.K T W fun env => (f env).bind negD) := by
  refine pe_of (pe_un un_neg ha) fun σ H Q _ ⟨F, env, vw, q⟩ => ?_
  refine vw.rd (Post.imp (Post.bind (rel := relD X.K T) q) fun x H1 ⟨F1, d1, e1, g1, r1, q1⟩ => ?_)
  cases d1 <;> first | exact q1.elim | skip
  cases r1
  exact ⟨_, rfl, Post.ok g1.s q1 rfl⟩
theorem relB_D {F : Hp} {K : PySem.W.Frag} {a b : Bool} (h : relB F a b) : relD K T F (.bool a) (.bl b) := by
  cases h
  exact rfl
theorem s_cmp {o : COp} {a b : Expr} {f g : Env → R D} (hu : X.A.units + 65 < cLine) (hm : behindInMarks (cop o) b = false) (ha : PE X a (rdE X.K T W f)) (hb : PE X b (rdE X.K T W g)) :
    PE X (.Compare a [cop o] [b] pos) (rdE X.K T W fun env => (f env).bind fun x => (g env).bind fun y => (cmpD o x y).map D.bool) := by
  refine pe_of (pe_cmpR (op_cmp (T := T) hu) ha hb hm) fun σ H Q _ ⟨F, env, vw, q⟩ => ?_
  refine vw.rd (Post.imp (Post.bind (rel := relD X.K T) q) fun x H1 ⟨F1, d1, e1, g1, r1, q1⟩ => ?_)
  refine (vw.grow g1).rd (Post.imp (Post.bind (rel := relD X.K T) q1) fun y H2 ⟨F2, d2, e2, g2, r2, q2⟩ => ?_)
  exact ⟨F2, _, d1, d2, g2.s, Rep.mono g2.f r1, r2, Post.map (rel := relB) q2 fun _ _ _ h => relB_D h⟩
theorem s_chain {o o' : COp} {a b c : Expr} {f g h : Env → R D} (hu : X.A.units + 65 < cLine) (hm : lastMarks [cop o, cop o'] [b, c] = false) (ha : PE X a (rdE X.K T W f)) (hb : PE X b (rdE X.K T W g)) (hc : PE X c (rdE X.K T W h)) :
    PE X (.Compare a [cop o, cop o'] [b, c] pos) (rdE X.K T W fun env => (f env).bind fun x => (g env).bind fun y => (cmpD o x y).bind fun t => if t then (h env).bind fun z => (cmpD o' y z).map D.bool else .ok (.bool false)) := by
  refine pe_of (pe_chain (op_cmp (T := T) hu) (op_cmp (T := T) hu) ha hb hc hm) fun σ H Q _ ⟨F, env, vw, q⟩ => ?_
  refine vw.rd (Post.imp (Post.bind (rel := relD X.K T) q) fun x H1 ⟨F1, d1, e1, g1, r1, q1⟩ => ?_)
  refine (vw.grow g1).rd (Post.imp (Post.bind (rel := relD X.K T) q1) fun y H2 ⟨F2, d2, e2, g2, r2, q2⟩ => ?_)
  refine ⟨F2, _, d1, d2, g2.s, Rep.mono g2.f r1, r2, Post.imp (Post.bind (rel := relB) q2) fun k H3 ⟨F3, k', e3, g3, r3, q3⟩ => ?_⟩
  have r3 : k' = k := r3
  subst r3
  refine ⟨k', rfl, ?_⟩
  cases k' with
  | true =>
    refine ((vw.grow g1).grow g2).grow g3 |>.rd (Post.imp (Post.bind (rel := relD X.K T) q3) fun z H4 ⟨F4, d4, e4, g4, r4, q4⟩ => ?_)
    exact ⟨F4, _, d2, d4, g4.s, Rep.mono g4.f (Rep.mono g3.f r2), r4, Post.map (rel := relB) q4 fun _ _ _ h => relB_D h⟩
  | false => exact Post.ok g3.s q3 rfl

/-! ### truth, and, or, not -/
theorem tru_of {F H : Hp} {W' : Value → Option Addr → Hp → Prop} {d : D} {x : V} {Q : Bool → Hp → Prop} (s : Same F H) (r : Rep X.K T F d x) (q : Post X.K T relB W' F H (truth d) Q) : ∃ k, TruV X.K x H k ∧ truth d = .ok k ∧ Q k H := by
  cases d with
  | non =>
    cases r
    exact ⟨false, rfl, rfl, Post.ok s q rfl⟩
  | bool b =>
    cases r
    exact ⟨b, rfl, rfl, Post.ok s q rfl⟩
  | int i =>
    cases r
    exact ⟨i != 0, rfl, rfl, Post.ok s q rfl⟩
  | str z =>
    have q : Post X.K T relB W' F H (if z.length ≤ cap then .ok (!z.isEmpty) else .no) Q := q
    have e : truth (.str z) = if z.length ≤ cap then .ok (!z.isEmpty) else .no := rfl
    rw [e]
    split at q
    · rename_i hz
      cases r
      rw [if_pos hz]
      refine ⟨!z.isEmpty, ⟨le_line hz, ?_⟩, rfl, Post.ok s q rfl⟩
      show (!z.isEmpty) = ((z.length : Int) != 0)
      cases z with
      | nil => rfl
      | cons c z =>
        show true = _
        have h : (((c :: z).length : Nat) : Int) ≠ 0 := by
          rw [List.length_cons]
          omega
        exact (bne_iff_ne.mpr h).symm
    · exact q.elim
  | tup xs =>
    obtain ⟨a, vs, rfl, h1, h2⟩ := r
    refine ⟨!xs.isEmpty, .inr (.inl ⟨vs, sameT s h1, ?_⟩), rfl, Post.ok s q rfl⟩
    cases xs with
    | nil =>
      cases h2
      rfl
    | cons _ _ =>
      obtain ⟨_, _, rfl, _⟩ := h2
      rfl
  | lst xs =>
    obtain ⟨a, vs, rfl, h1, h2⟩ := r
    refine ⟨!xs.isEmpty, .inl ⟨vs, .inl (.inl (s _ _ h1)), ?_⟩, rfl, Post.ok s q rfl⟩
    cases xs with
    | nil =>
      cases h2
      rfl
    | cons _ _ =>
      obtain ⟨_, _, rfl, _⟩ := h2
      rfl
  | dict _ _ => exact r.elim
  | _ => exact q.elim
theorem s_truth {a : Expr} {f : Env → R D} (ha : PE X a (rdE X.K T W f)) (he : ∀ whole, isTrue a X.env whole = (do let v ← whole; standAt a.pos; holding [v] (truthy v))) : PT X a (rdT X.K T W fun env => (f env).bind truth) := by
  refine pt_of (pt_truth ha he) fun σ H Q _ ⟨F, env, vw, q⟩ => ?_
  refine vw.rd (Post.imp (Post.bind (rel := relD X.K T) q) fun x H1 ⟨F1, d1, e1, g1, r1, q1⟩ => ?_)
  obtain ⟨k, t1, _, t2⟩ := tru_of g1.s r1 q1
  exact ⟨k, t1, t2⟩
theorem s_not {a : Expr} {f : Env → R D} (ha : PE X a (rdE X.K T W f)) : PE X (.UnaryOp .Not a pos) (rdE X.K T W fun env => (f env).bind fun x => (truth x).map fun t => D.bool (!t)) := by
  refine pe_of (pe_notT ha) fun σ H Q _ ⟨F, env, vw, q⟩ => ?_
  refine vw.rd (Post.imp (Post.bind (rel := relD X.K T) q) fun x H1 ⟨F1, d1, e1, g1, r1, q1⟩ => ?_)
  have q2 := Post.map (rel := relB) (g := fun b => V.bl (!b)) q1 fun F a b h => by
    cases h
    exact rfl
  obtain ⟨k, t1, _, t2⟩ := tru_of g1.s r1 q2
  exact ⟨k, t1, t2⟩
theorem s_and1 {o : BoolOp} {a : Expr} {f : Env → R D} (ha : PE X a (rdE X.K T W f)) : PE X (.BoolOp o [a] pos) (rdE X.K T W f) := pe_one ha
theorem s_and {a b : Expr} {rest : List Expr} {f g : Env → R D} (ha : PE X a (rdE X.K T W f)) (hb : PE X (.BoolOp .And (b :: rest) pos) (rdE X.K T W g)) :
    PE X (.BoolOp .And (a :: b :: rest) pos) (rdE X.K T W fun env => (f env).bind fun x => (truth x).bind fun t => if t = true then g env else .ok x) := by
  refine pe_of (pe_andT ha hb) fun σ H Q _ ⟨F, env, vw, q⟩ => ?_
  refine vw.rd (Post.imp (Post.bind (rel := relD X.K T) q) fun x H1 ⟨F1, d1, e1, g1, r1, q1⟩ => ?_)
  obtain ⟨k, t1, e2, F2, k', e3, g2, r2, q2⟩ := tru_of g1.s r1 (Post.bind (rel := relB) q1)
  have r2 : k' = k := r2
  subst r2
  refine ⟨k', t1, ?_⟩
  cases k' with
  | true => exact ((vw.grow g1).grow g2).rd q2
  | false => exact Post.ok g2.s q2 (Rep.mono g2.f r1)
theorem s_or {a b : Expr} {rest : List Expr} {f g : Env → R D} (ha : PE X a (rdE X.K T W f)) (hb : PE X (.BoolOp .Or (b :: rest) pos) (rdE X.K T W g)) :
    PE X (.BoolOp .Or (a :: b :: rest) pos) (rdE X.K T W fun env => (f env).bind fun x => (truth x).bind fun t => if t = false then g env else .ok x) := by
  refine pe_of (pe_orT ha hb) fun σ H Q _ ⟨F, env, vw, q⟩ => ?_
  refine vw.rd (Post.imp (Post.bind (rel := relD X.K T) q) fun x H1 ⟨F1, d1, e1, g1, r1, q1⟩ => ?_)
  obtain ⟨k, t1, e2, F2, k', e3, g2, r2, q2⟩ := tru_of g1.s r1 (Post.bind (rel := relB) q1)
  have r2 : k' = k := r2
  subst r2
  refine ⟨k', t1, ?_⟩
  cases k' with
  | false => exact ((vw.grow g1).grow g2).rd q2
  | true => exact Post.ok g2.s q2 (Rep.mono g2.f r1)
/-- tests -/
theorem st_not {a : Expr} {f : Env → R Bool} (ha : PT X a (rdT X.K T W f)) : PT X (.UnaryOp .Not a pos) (rdT X.K T W fun env => (f env).map not) := by
  refine pt_of (pt_not ha) fun σ H Q _ ⟨F, env, vw, q⟩ => ?_
  exact vw.rd (Post.map q fun F a b h => congrArg not h)
theorem st_and1 {a : Expr} {f : Env → R Bool} (ha : PT X a (rdT X.K T W f)) : PW X (.BoolOp .And [a] pos) (rdT X.K T W f) := pw_and1 ha
theorem st_or1 {a : Expr} {f : Env → R Bool} (ha : PT X a (rdT X.K T W f)) : PW X (.BoolOp .Or [a] pos) (rdT X.K T W f) := pw_or1 ha
theorem pw_of {e : Expr} {t : TT} {f : Env → R Bool} (h : PW X e t) (imp : ∀ σ H Q, LenOk X.K H → (∃ F env, Vw X.K T F H σ env ∧ Post X.K T relB (fun c d H' => W c d σ H') F H (f env) Q) → t σ H Q) : PW X e (rdT X.K T W f) :=
  ⟨fun wh pins s σ H Q I q => h.run wh pins s σ H Q I (imp σ H Q (lenOk_of I) (q (lenOk_of I)))⟩
theorem st_and {a b : Expr} {rest : List Expr} {f g : Env → R Bool} (ha : PT X a (rdT X.K T W f)) (hb : PW X (.BoolOp .And (b :: rest) pos) (rdT X.K T W g)) :
    PW X (.BoolOp .And (a :: b :: rest) pos) (rdT X.K T W fun env => (f env).bind fun t => if t = true then g env else .ok t) := by
  refine pw_of (pw_and ha hb) fun σ H Q _ ⟨F, env, vw, q⟩ => ?_
  refine vw.rd (Post.imp (Post.bind (rel := relB) q) fun x H1 ⟨F1, d1, e1, g1, r1, q1⟩ => ?_)
  have r1 : d1 = x := r1
  subst r1
  cases d1 with
  | true => exact (vw.grow g1).rd q1
  | false => exact Post.ok g1.s q1 rfl
theorem st_or {a b : Expr} {rest : List Expr} {f g : Env → R Bool} (ha : PT X a (rdT X.K T W f)) (hb : PW X (.BoolOp .Or (b :: rest) pos) (rdT X.K T W g)) :
    PW X (.BoolOp .Or (a :: b :: rest) pos) (rdT X.K T W fun env => (f env).bind fun t => if t = false then g env else .ok t) := by
  refine pw_of (pw_or ha hb) fun σ H Q _ ⟨F, env, vw, q⟩ => ?_
  refine vw.rd (Post.imp (Post.bind (rel := relB) q) fun x H1 ⟨F1, d1, e1, g1, r1, q1⟩ => ?_)
  have r1 : d1 = x := r1
  subst r1
  cases d1 with
  | false => exact (vw.grow g1).rd q1
  | true => exact Post.ok g1.s q1 rfl
theorem st_cmp {o : COp} {a b : Expr} {f g : Env → R D} (hu : X.A.units + 65 < cLine) (hm : behindInMarks (cop o) b = false) (ha : PE X a (rdE X.K T W f)) (hb : PE X b (rdE X.K T W g)) :
    PT X (.Compare a [cop o] [b] pos) (rdT X.K T W fun env => (f env).bind fun x => (g env).bind fun y => cmpD o x y) := by
  refine pt_of (pt_cmpR (op_cmp (T := T) hu) ha hb hm) fun σ H Q _ ⟨F, env, vw, q⟩ => ?_
  refine vw.rd (Post.imp (Post.bind (rel := relD X.K T) q) fun x H1 ⟨F1, d1, e1, g1, r1, q1⟩ => ?_)
  refine (vw.grow g1).rd (Post.imp (Post.bind (rel := relD X.K T) q1) fun y H2 ⟨F2, d2, e2, g2, r2, q2⟩ => ?_)
  exact ⟨F2, _, d1, d2, g2.s, Rep.mono g2.f r1, r2, Post.imp q2 fun k H3 z => ⟨k, rfl, z⟩⟩
theorem st_chain {o o' : COp} {a b c : Expr} {f g h : Env → R D} (hu : X.A.units + 65 < cLine) (hm : lastMarks [cop o, cop o'] [b, c] = false) (ha : PE X a (rdE X.K T W f)) (hb : PE X b (rdE X.K T W g)) (hc : PE X c (rdE X.K T W h)) :
    PT X (.Compare a [cop o, cop o'] [b, c] pos) (rdT X.K T W fun env => (f env).bind fun x => (g env).bind fun y => (cmpD o x y).bind fun t => if t then (h env).bind fun z => cmpD o' y z else .ok false) := by
  refine pt_of (pt_chain (op_cmp (T := T) hu) (op_cmp (T := T) hu) ha hb hc hm) fun σ H Q _ ⟨F, env, vw, q⟩ => ?_
  refine vw.rd (Post.imp (Post.bind (rel := relD X.K T) q) fun x H1 ⟨F1, d1, e1, g1, r1, q1⟩ => ?_)
  refine (vw.grow g1).rd (Post.imp (Post.bind (rel := relD X.K T) q1) fun y H2 ⟨F2, d2, e2, g2, r2, q2⟩ => ?_)
  refine ⟨F2, _, d1, d2, g2.s, Rep.mono g2.f r1, r2, Post.imp (Post.bind (rel := relB) q2) fun k H3 ⟨F3, k', e3, g3, r3, q3⟩ => ?_⟩
  have r3 : k' = k := r3
  subst r3
  refine ⟨k', rfl, ?_⟩
  cases k' with
  | true =>
    refine ((vw.grow g1).grow g2).grow g3 |>.rd (Post.imp (Post.bind (rel := relD X.K T) q3) fun z H4 ⟨F4, d4, e4, g4, r4, q4⟩ => ?_)
    exact ⟨F4, _, d2, d4, g4.s, Rep.mono g4.f (Rep.mono g3.f r2), r4, Post.imp q4 fun k H5 z => ⟨k, rfl, z⟩⟩
  | false => exact ⟨false, rfl, Post.ok g3.s q3 rfl⟩
theorem s_ife {c a b : Expr} {t : Env → R Bool} {f g : Env → R D} (hc : PT X c (rdT X.K T W t)) (ha : PE X a (rdE X.K T W f)) (hb : PE X b (rdE X.K T W g)) :
    PE X (.IfExp c a b pos) (rdE X.K T W fun env => (t env).bind fun k => if k then f env else g env) := by
  refine pe_of (pe_ifExp hc ha hb) fun σ H Q _ ⟨F, env, vw, q⟩ => ?_
  refine vw.rd (Post.imp (Post.bind (rel := relB) q) fun x H1 ⟨F1, d1, e1, g1, r1, q1⟩ => ?_)
  have r1 : d1 = x := r1
  subst r1
  cases d1 with
  | true => exact (vw.grow g1).rd q1
  | false => exact (vw.grow g1).rd q1

/-! ### arguments, displays -/
theorem s_nil : PA X [] (rdA X.K T W fun _ => .ok []) := by
  refine pa_of pa_nil fun σ H Q _ ⟨F, env, vw, q⟩ => ?_
  exact Post.ok vw.s q rfl
theorem s_cons {e : Expr} {es : List Expr} {f : Env → R D} {g : Env → R (List D)} (he : PE X e (rdE X.K T W f)) (hr : PA X es (rdA X.K T W g)) (hs : starEach (e :: es) X.env = (false, eval e X.env) :: starEach es X.env) :
    PA X (e :: es) (rdA X.K T W fun env => (f env).bind fun x => (g env).map fun xs => x :: xs) := by
  refine pa_of (pa_cons he hr hs) fun σ H Q _ ⟨F, env, vw, q⟩ => ?_
  refine vw.rd (Post.imp (Post.bind (rel := relD X.K T) q) fun x H1 ⟨F1, d1, e1, g1, r1, q1⟩ => ?_)
  refine (vw.grow g1).rd (Post.imp (Post.bind' (rel := relL X.K T) q1) fun y H2 ⟨F2, d2, e2, g2, r2, q2⟩ => ?_)
  exact Post.ok g2.s q2 ⟨x, y, rfl, Rep.mono g2.f r1, r2⟩
theorem s_tup {es : List Expr} {k : Nat} {g : Env → R (List D)} (n : Nat) (hn : es.length ≤ 1000) (hr : PA X es (rdA X.K T W g)) (hl : ∀ env ds, g env = .ok ds → ds.length = es.length) : PE X (.Tuple es k pos) (rdE X.K T W fun env => (g env).map D.tup) := by
  refine pe_of (pe_tup hr) fun σ H Q _ ⟨F, env, vw, q⟩ => ?_
  refine vw.rd (Post.imp (Post.bind' (rel := relL X.K T) q) fun y H2 ⟨F2, d2, e2, g2, r2, q2⟩ => ?_)
  refine ⟨?_, fun p hp => Post.tup g2.s q2 r2 hp⟩
  rw [Reps.length r2, hl env d2 e2]
  exact Nat.le_trans hn (by decide)
theorem s_lst {es : List Expr} {g : Env → R (List D)} (hn : es.length ≤ 1000) (hr : PA X es (rdA X.K T W g)) (hl : ∀ env ds, g env = .ok ds → ds.length = es.length) : PE X (.List es pos) (rdE X.K T W fun env => (g env).map D.lst) := by
  refine pe_of (pe_lst hr) fun σ H Q _ ⟨F, env, vw, q⟩ => ?_
  refine vw.rd (Post.imp (Post.bind' (rel := relL X.K T) q) fun y H2 ⟨F2, d2, e2, g2, r2, q2⟩ => ?_)
  refine ⟨?_, fun p hp => Post.lst g2.s q2 r2 hp⟩
  rw [Reps.length r2, hl env d2 e2]
  exact Nat.le_trans hn (by decide)
end
end Py

namespace Py
open PySem L2

/-- an expression that is no star, no set, no slice -/
def isPlain : Expr → Bool
  | .Starred _ _ => false
  | .Set _ _ _ => false
  | .Slice _ _ _ _ => false
  | _ => true
theorem star_plain {a : Expr} (h : isPlain a = true) (es : List Expr) (env : PySem.Env) : starEach (a :: es) env = (false, eval a env) :: starEach es env := by
  cases a <;> first | rfl | cases h
theorem star_none {pos : Pos} {env : PySem.Env} : ∀ {es : List Expr}, (es.all isPlain) = true → (backTo pos (starEach es env)).any (·.1) = false
  | [], _ => rfl
  | a :: es, h => by
    have h' : (isPlain a && es.all isPlain) = true := h
    obtain ⟨h1, h2⟩ := Bool.and_eq_true_iff.mp h'
    rw [star_plain h1]
    show (false || (backTo pos (starEach es env)).any (·.1)) = false
    rw [star_none h2]
    rfl
theorem plainIx {b : Expr} (h : isPlain b = true) : PlainIx b := by
  intro o i
  cases b <;> first | rfl | cases h

/-- what a def of the text promises -/
def spOf (K : PySem.W.Frag) (T : Tab) (n : Nat) (f : Sem) : Sp := fun vs H Q E => ∃ F ds, ds.length = n ∧ Same F H ∧ Reps K T F ds vs ∧ Post K T (relD K T) E F H (f ds) Q
/-- the def x of the text computes f -/
def Good (P : Program) (w : World) (K : PySem.W.Frag) (mg : Str → Option Value) (base : Heap) (T : Tab) (k : Nat) (x : String) (f : Sem) (dd : List D) : Prop :=
  ∃ (g : Addr) (fd : FuncData) (ps : List Str) (dvs : List V) (ds : List Value), mg (x : Str) = some (.ref g) ∧ PySem.W.keepIn K (.ref g) = true ∧ Binds K fd ps ds ∧ Vals dvs ds ∧ (∀ F, Reps K T F dd dvs) ∧ (∀ zs, zs.length ≠ ps.length → f zs = .no) ∧
    FnOk P w K mg base (L2.CX P w) k g fd ps (spOf K T ps.length f)

section
variable {X : Cx} {T : Tab} {W : WX} {pos p2 : Pos}
theorem toL {α : Type} (s : List α) : s.toArray.toList = s := rfl
theorem atI_eq {α : Type} (xs : List α) (i : Int) : L2.atI xs i = Py.atI xs i := rfl
theorem atI_reps {F : Hp} {ds : List D} {vs : List V} {i : Int} {d : D} (r : Reps X.K T F ds vs) (h : Py.atI ds i = some d) : ∃ v, L2.atI vs i = some v ∧ Rep X.K T F d v := by
  unfold Py.atI at h
  unfold L2.atI
  rw [Reps.length r]
  have e : L2.ixN ds.length i = Py.ixN ds.length i := rfl
  rw [e]
  cases hx : Py.ixN ds.length i with
  | none =>
    rw [hx] at h
    cases h
  | some j =>
    rw [hx] at h
    exact Reps.get r h
def rIdx (K : PySem.W.Frag) (T : Tab) : R2 := fun x y H Q => ∃ F W a b, Same F H ∧ Rep K T F a x ∧ Rep K T F b y ∧ Post K T (relD K T) W F H (idxD a b) Q
theorem post_ofO {K : PySem.W.Frag} {α β : Type} {rel : Hp → α → β → Prop} {W' : Value → Option Addr → Hp → Prop} {F H : Hp} {o : Option D} {Q : VK} (h : Post K T (relD K T) W' F H (ofO o) Q) : ∃ d, o = some d ∧ Post K T (relD K T) W' F H (.ok d) Q := by
  cases o with
  | some d => exact ⟨d, rfl, h⟩
  | none => exact h.elim
theorem ix_all : IxR X (rIdx X.K T) := by
  intro value slice pins s σ H x y v u Q I rx ry ⟨F, W', a, b, sF, ra, rb, q⟩ hs
  unfold idxD at q
  split at q
  · rename_i xs i
    obtain ⟨d, e, q⟩ := post_ofO (α := D) (rel := relD X.K T) q
    obtain ⟨p, vs, rfl, h1, h2⟩ := ra
    cases rb
    obtain ⟨z, e1, r1⟩ := atI_reps h2 e
    exact ix_tup value slice pins s σ H _ _ v u Q I rx ry ⟨p, vs, i, z, rfl, rfl, sameT sF h1, e1, Post.ok sF q r1⟩ hs
  · rename_i xs i
    obtain ⟨d, e, q⟩ := post_ofO (α := D) (rel := relD X.K T) q
    obtain ⟨p, vs, rfl, h1, h2⟩ := ra
    cases rb
    obtain ⟨z, e1, r1⟩ := atI_reps h2 e
    exact ix_list value slice pins s σ H _ _ v u Q I rx ry ⟨p, vs, i, z, rfl, rfl, .inl (.inl (sF _ _ h1)), e1, Post.ok sF q r1⟩ hs
  · rename_i ns i
    obtain ⟨d, e, q⟩ := post_ofO (α := D) (rel := relD X.K T) q
    obtain ⟨p, rfl, h1⟩ := ra
    cases rb
    cases hx : Py.atI ns i with
    | none =>
      rw [hx] at e
      cases e
    | some n =>
      rw [hx] at e
      cases e
      have e1 : L2.atI (ns.map V.int) i = some (.int n) := by
        unfold Py.atI at hx
        unfold L2.atI
        rw [List.length_map]
        have e : L2.ixN ns.length i = Py.ixN ns.length i := rfl
        rw [e]
        cases hy : Py.ixN ns.length i with
        | none =>
          rw [hy] at hx
          cases hx
        | some j =>
          rw [hy] at hx
          show (ns.map V.int)[j]? = _
          rw [List.getElem?_map]
          have hx' : ns[j]? = some n := hx
          rw [hx']
          rfl
      exact ix_list value slice pins s σ H _ _ v u Q I rx ry ⟨p, _, i, _, rfl, rfl, sF.seq h1, e1, Post.ok sF q rfl⟩ hs
  · rename_i z i
    split at q
    · rename_i hz
      obtain ⟨d, e, q⟩ := post_ofO (α := D) (rel := relD X.K T) q
      cases ra
      cases rb
      cases hx : Py.atI z i with
      | none =>
        rw [hx] at e
        cases e
      | some c =>
        rw [hx] at e
        cases e
        exact ix_str value slice pins s σ H _ _ v u Q I rx ry ⟨_, i, c, rfl, rfl, le_line hz, hx, Post.ok sF q rfl⟩ hs
    · exact q.elim
  · exact ra.elim
  · exact q.elim
theorem s_idx {a b : Expr} {f g : Env → R D} (hp : isPlain b = true) (ha : PE X a (rdE X.K T W f)) (hb : PE X b (rdE X.K T W g)) :
    PE X (.Subscript a b pos) (rdE X.K T W fun env => (f env).bind fun x => (g env).bind fun y => idxD x y) := by
  refine pe_of (pe_ix (ix_all (T := T)) ha hb (plainIx hp)) fun σ H Q _ ⟨F, env, vw, q⟩ => ?_
  refine vw.rd (Post.imp (Post.bind (rel := relD X.K T) q) fun x H1 ⟨F1, d1, e1, g1, r1, q1⟩ => ?_)
  refine (vw.grow g1).rd (Post.imp (Post.bind (rel := relD X.K T) q1) fun y H2 ⟨F2, d2, e2, g2, r2, q2⟩ => ?_)
  exact ⟨F2, _, d1, d2, g2.s, Rep.mono g2.f r1, r2, q2⟩

/-! ### slices -/
theorem s_part {a : Expr} {f : Env → R D} (ha : PE X a (rdE X.K T W f)) : PO X (some a) (rdO X.K T W fun env => (f env).bind partI) := by
  have h := po_some ha
  refine ⟨fun pins s σ H Q I q => h.run pins s σ H Q I ?_⟩
  obtain ⟨F, env, vw, q⟩ := q (lenOk_of I)
  refine vw.rd (Post.imp (Post.bind (rel := relD X.K T) q) fun x H1 ⟨F1, d1, e1, g1, r1, q1⟩ => ?_)
  cases d1 <;> first | exact q1.elim | skip
  cases r1
  exact ⟨_, rfl, Post.ok g1.s q1 rfl⟩
theorem s_nopart : PO X none (rdO X.K T W fun _ => .ok none) := by
  refine ⟨fun pins s σ H Q I q => po_none.run pins s σ H Q I ?_⟩
  obtain ⟨F, env, vw, q⟩ := q (lenOk_of I)
  exact Post.ok vw.s q rfl
theorem sIx_eq (n d : Nat) (o : Option Int) : HT.sIx n d o = Py.sIx n d o := by
  cases o <;> rfl
theorem cut_reps {F : Hp} {ds : List D} {vs : List V} (r : Reps X.K T F ds vs) (lo hi : Option Int) : Reps X.K T F (cutL ds lo hi) (cutV vs lo hi) := by
  unfold cutL cutV
  rw [sIx_eq, sIx_eq, Reps.length r]
  exact Reps.take _ (Reps.drop _ r)
def rSlice (K : PySem.W.Frag) (T : Tab) : V → Option Int → Option Int → Hp → VK → Prop := fun x lo hi H Q => ∃ F W a, Same F H ∧ Rep K T F a x ∧ Post K T (relD K T) W F H (sliceD lo hi a) Q
theorem sl_all : SlR X (rSlice X.K T) := by
  intro pins s σ H x v vl vu lo hi sl Q I rx hs pl pu ⟨F, W', a, sF, ra, q⟩
  cases a <;> first | exact q.elim | skip
  · rename_i z
    have q : Post X.K T (relD X.K T) W' F H (if z.length ≤ cap then .ok (.str (cutL z lo hi)) else .no) Q := q
    split at q
    · rename_i hz
      cases ra
      refine sl_str pins s σ H _ v vl vu lo hi sl Q I rx hs pl pu ⟨_, rfl, le_line hz, ?_⟩
      exact Post.ok (v := V.str (cutS ⟨z.toArray⟩ lo hi)) sF q (by
        show V.str (cutS ⟨z.toArray⟩ lo hi) = V.str ⟨(cutL z lo hi).toArray⟩
        unfold cutS cutL
        rw [sIx_eq, sIx_eq]
        rfl)
    · exact q.elim
  · rename_i xs
    obtain ⟨p, vs, rfl, h1, h2⟩ := ra
    refine sl_tupA pins s σ H _ v vl vu lo hi sl Q I rx hs pl pu ⟨p, vs, rfl, sameT sF h1, fun hw => ?_, fun hw p2 hp => Post.tup sF q (cut_reps h2 lo hi) hp⟩
    refine Post.ok sF q ⟨p, vs, rfl, h1, ?_⟩
    have e : cutV vs lo hi = vs := by
      unfold cutV
      rw [hw.1, hw.2]
      simp
    have := cut_reps h2 lo hi
    rw [e] at this
    exact this
  · rename_i xs
    obtain ⟨p, vs, rfl, h1, h2⟩ := ra
    exact sl_list pins s σ H _ v vl vu lo hi sl Q I rx hs pl pu ⟨p, vs, rfl, .inl (.inl (sF _ _ h1)), fun p2 hp => Post.lst sF q (cut_reps h2 lo hi) hp⟩
theorem s_slice {a : Expr} {lo hi : Option Expr} {f : Env → R D} {l h : Env → R (Option Int)} (ha : PE X a (rdE X.K T W f)) (hl : PO X lo (rdO X.K T W l)) (hh : PO X hi (rdO X.K T W h)) :
    PE X (.Subscript a (.Slice lo hi none p2) pos) (rdE X.K T W fun env => (f env).bind fun x => (l env).bind fun l => (h env).bind fun h => sliceD l h x) := by
  refine pe_of (pe_slice (sl_all (T := T)) ha hl hh) fun σ H Q _ ⟨F, env, vw, q⟩ => ?_
  refine vw.rd (Post.imp (Post.bind (rel := relD X.K T) q) fun x H1 ⟨F1, d1, e1, g1, r1, q1⟩ => ?_)
  refine (vw.grow g1).rd (Post.imp (Post.bind (rel := relO) q1) fun y H2 ⟨F2, d2, e2, g2, r2, q2⟩ => ?_)
  refine ((vw.grow g1).grow g2).rd (Post.imp (Post.bind (rel := relO) q2) fun z H3 ⟨F3, d3, e3, g3, r3, q3⟩ => ?_)
  have r2 : d2 = y := r2
  have r3 : d3 = z := r3
  subst r2 r3
  exact ⟨F3, _, d1, g3.s, Rep.mono g3.f (Rep.mono g2.f r1), q3⟩

/-! ### calls of defs -/
theorem Reps.reverse {F : Hp} {K : PySem.W.Frag} : ∀ {ds : List D} {vs : List V}, Reps K T F ds vs → Reps K T F ds.reverse vs.reverse
  | [], _, h => by
    cases h
    exact rfl
  | d :: ds, _, ⟨v, r, h1, h2, h3⟩ => by
    subst h1
    rw [List.reverse_cons, List.reverse_cons]
    exact Reps.app (Reps.reverse h3) (Reps.one h2)
theorem s_rev {a : Expr} {f : Env → R D} {k : Nat} {p1 p2 p3 : Pos} (ha : PE X a (rdE X.K T W f)) : PE X (.Subscript a (.Slice none none (some (.UnaryOp .USub (.Constant (.int 1) k p1) p2)) p3) pos) (rdE X.K T W fun env => (f env).bind revD) := by
  refine pe_of (pe_revL ha) fun σ H Q _ ⟨F, env, vw, q⟩ => ?_
  refine vw.rd (Post.imp (Post.bind (rel := relD X.K T) q) fun x H1 ⟨F1, d1, e1, g1, r1, q1⟩ => ?_)
  cases d1 <;> first | exact q1.elim | skip
  obtain ⟨a, vs, rfl, h1, h2⟩ := r1
  exact ⟨a, vs, rfl, .inl (.inl (g1.s _ _ h1)), fun p hp => Post.lst g1.s q1 (Reps.reverse h2) hp⟩
theorem s_call {k : Nat} {x : String} {f : Sem} {dd : List D} {e : Expr} {es : List Expr} {g : Env → R (List D)} (G : Good X.prog X.w X.K X.mg X.base T k x f dd) (hr : Room k X.A) (hg : Gl X (x : Str)) (tk : Takes X W) (hd : (((x : Str)) == ("__debug__" : Str)) = false)
    (hp : ((e :: es).all isPlain) = true) (ha : PA X (e :: es) (rdA X.K T W g)) : PE X (.Call (.Name (x : Str) p2) (e :: es) [] pos) (rdE X.K T W fun env => (g env).bind fun xs => f (xs ++ dd)) := by
  obtain ⟨a, fd, ps, dvs, ds, h1, h2, h3, h4, h5, h7, h6⟩ := G
  have hp' : (isPlain e && es.all isPlain) = true := hp
  obtain ⟨p1, p2'⟩ := Bool.and_eq_true_iff.mp hp'
  refine pe_of (pe_callSD (E := fun σ cls d H => W cls d σ H) h6 hr hg h1 h2 h3 h4 (fun σ => passAt tk σ) ha hd (star_plain p1 es X.env) (star_none p2')) fun σ H Q _ ⟨F, env, vw, q⟩ => ?_
  refine vw.rd (Post.imp (Post.bind (rel := relL X.K T) q) fun vs H1 ⟨F1, d1, e1, g1, r1, q1⟩ => ?_)
  refine ⟨F1, d1 ++ dd, Decidable.byContradiction fun hn => ?_, g1.s, Reps.app r1 (h5 F1), q1⟩
  rw [h7 _ hn] at q1
  exact q1

/-! ### built-ins -/
def biV : Bi → Value
  | .len => .builtin "len" | .int => .type "int" | .abs => .builtin "abs" | .max => .builtin "max" | .min => .builtin "min" | .sum => .builtin "sum"
  | .tuple => .type "tuple" | .list => .type "list" | .any => .builtin "any" | .all => .builtin "all" | .str => .type "str" | .sorted => .builtin "sorted"
def biN : Bi → String
  | .len => "len" | .int => "int" | .abs => "abs" | .max => "max" | .min => "min" | .sum => "sum"
  | .tuple => "tuple" | .list => "list" | .any => "any" | .all => "all" | .str => "str" | .sorted => "sorted"
def rBi (K : PySem.W.Frag) (T : Tab) (f : Bi) : List V → Hp → VK → Prop := fun xs H Q => ∃ F W ds, Same F H ∧ Reps K T F ds xs ∧ Post K T (relD K T) W F H (biD f ds) Q
theorem ints_of {F : Hp} {K : PySem.W.Frag} : ∀ {ds : List D} {ns : List Int} {vs : List V}, allInts ds = some ns → Reps K T F ds vs → vs = ns.map V.int
  | [], ns, vs, e, r => by
    cases e
    exact r
  | d :: ds, ns, vs, e, ⟨v, r, e1, h2, h3⟩ => by
    subst e1
    unfold allInts at e
    split at e
    · rename_i i q hi hq
      cases e
      cases d <;> cases hi
      rw [ints_of hq h3]
      cases h2
      rfl
    · cases e
theorem bools_of {F : Hp} {K : PySem.W.Frag} : ∀ {ds : List D} {ns : List Bool} {vs : List V}, allBools ds = some ns → Reps K T F ds vs → vs = ns.map V.bl
  | [], ns, vs, e, r => by
    cases e
    exact r
  | d :: ds, ns, vs, e, ⟨v, r, e1, h2, h3⟩ => by
    subst e1
    unfold allBools at e
    split at e
    · rename_i i q hi hq
      cases e
      cases d <;> cases hi
      rw [bools_of hq h3]
      cases h2
      rfl
    · cases e
theorem maxI_of : ∀ {ns : List Int}, 0 < ns.length → maxI ns ∈ ns ∧ ∀ y, y ∈ ns → y ≤ maxI ns
  | [], h => by cases h
  | [x], _ => ⟨List.mem_singleton.mpr rfl, fun y hy => by
    rw [List.mem_singleton.mp hy]
    exact Int.le_refl _⟩
  | x :: z :: r, _ => by
    obtain ⟨h1, h2⟩ := maxI_of (ns := z :: r) (Nat.zero_lt_succ _)
    have e : maxI (x :: z :: r) = max x (maxI (z :: r)) := rfl
    rw [e]
    refine ⟨?_, fun y hy => ?_⟩
    · rcases Int.le_total x (maxI (z :: r)) with q | q
      · rw [Int.max_eq_right q]
        exact List.mem_cons_of_mem _ h1
      · rw [Int.max_eq_left q]
        exact List.mem_cons_self
    · rcases List.mem_cons.mp hy with q | q
      · rw [q]
        exact Int.le_max_left _ _
      · exact Int.le_trans (h2 y q) (Int.le_max_right _ _)
theorem minI_of : ∀ {ns : List Int}, 0 < ns.length → minI ns ∈ ns ∧ ∀ y, y ∈ ns → minI ns ≤ y
  | [], h => by cases h
  | [x], _ => ⟨List.mem_singleton.mpr rfl, fun y hy => by
    rw [List.mem_singleton.mp hy]
    exact Int.le_refl _⟩
  | x :: z :: r, _ => by
    obtain ⟨h1, h2⟩ := minI_of (ns := z :: r) (Nat.zero_lt_succ _)
    have e : minI (x :: z :: r) = min x (minI (z :: r)) := rfl
    rw [e]
    refine ⟨?_, fun y hy => ?_⟩
    · rcases Int.le_total x (minI (z :: r)) with q | q
      · rw [Int.min_eq_left q]
        exact List.mem_cons_self
      · rw [Int.min_eq_right q]
        exact List.mem_cons_of_mem _ h1
    · rcases List.mem_cons.mp hy with q | q
      · rw [q]
        exact Int.min_le_left _ _
      · exact Int.le_trans (Int.min_le_right _ _) (h2 y q)
theorem reps1 {F : Hp} {K : PySem.W.Frag} {d : D} {vs : List V} (h : Reps K T F [d] vs) : ∃ v, vs = [v] ∧ Rep K T F d v := by
  obtain ⟨v, r, rfl, h1, h2⟩ := h
  cases h2
  exact ⟨v, rfl, h1⟩
theorem reps2 {F : Hp} {K : PySem.W.Frag} {d e : D} {vs : List V} (h : Reps K T F [d, e] vs) : ∃ v u, vs = [v, u] ∧ Rep K T F d v ∧ Rep K T F e u := by
  obtain ⟨v, r, rfl, h1, h2⟩ := h
  obtain ⟨u, rfl, h3⟩ := reps1 h2
  exact ⟨v, u, rfl, h1, h3⟩
theorem call_bi (hc : X.calm = true) {f : Bi} : CallR X (biV f) (rBi X.K T f) := by
  intro pins s σ H xs us Q I r ⟨F, W', ds, sF, rs, q⟩
  unfold biD at q
  split at q
  · split at q
    · rename_i z hz
      obtain ⟨v, rfl, rv⟩ := reps1 rs
      cases rv
      exact call_len pins s σ H _ us Q I r ⟨_, _, rfl, ⟨le_line hz, rfl⟩, Post.ok sF q rfl⟩
    · exact q.elim
  · obtain ⟨v, rfl, a, vs, rfl, h1, h2⟩ := reps1 rs
    exact call_len pins s σ H _ us Q I r ⟨_, _, rfl, .inr ⟨vs, sameT sF h1, rfl⟩, Post.ok sF q (by rw [Reps.length h2]; exact rfl)⟩
  · obtain ⟨v, rfl, a, vs, rfl, h1, h2⟩ := reps1 rs
    exact call_len pins s σ H _ us Q I r ⟨_, _, rfl, .inl ⟨vs, .inl (.inl (sF _ _ h1)), rfl⟩, Post.ok sF q (by rw [Reps.length h2]; exact rfl)⟩
  · obtain ⟨v, rfl, a, rfl, h1⟩ := reps1 rs
    exact call_len pins s σ H _ us Q I r ⟨_, _, rfl, .inl ⟨_, sF.seq h1, rfl⟩, Post.ok sF q (by rw [List.length_map]; exact rfl)⟩
  · obtain ⟨v, rfl, h⟩ := reps1 rs
    exact h.elim
  · obtain ⟨v, rfl, h⟩ := reps1 rs
    cases h
    exact call_int1 pins s σ H _ us Q I r (.inl ⟨_, rfl, Post.ok sF q rfl⟩)
  · obtain ⟨v, rfl, h⟩ := reps1 rs
    cases h
    exact call_int1 pins s σ H _ us Q I r (.inr ⟨_, rfl, Post.ok sF q rfl⟩)
  · obtain ⟨v, rfl, h⟩ := reps1 rs
    cases h
    exact call_abs pins s σ H _ us Q I r ⟨_, rfl, Post.ok sF q rfl⟩
  · obtain ⟨v, u, rfl, h, h'⟩ := reps2 rs
    cases h
    cases h'
    exact call_max2 hc pins s σ H _ us Q I r ⟨_, _, rfl, Post.ok sF q rfl⟩
  · obtain ⟨v, u, rfl, h, h'⟩ := reps2 rs
    cases h
    cases h'
    exact call_min2 hc pins s σ H _ us Q I r ⟨_, _, rfl, Post.ok sF q rfl⟩
  · obtain ⟨v, rfl, a, vs, rfl, h1, h2⟩ := reps1 rs
    split at q
    · rename_i ns e
      split at q
      · rename_i hl
        have ev := ints_of e h2
        subst ev
        refine cr_max hc pins s σ H _ us Q I r ⟨a, ns, rfl, .inl (.inl (sF _ _ h1)), hl, fun m hm hle => ?_⟩
        obtain ⟨k1, k2⟩ := maxI_of hl
        rw [show m = maxI ns from Int.le_antisymm (k2 m hm) (hle _ k1)]
        exact Post.ok sF q rfl
      · exact q.elim
    · exact q.elim
  · obtain ⟨v, rfl, a, vs, rfl, h1, h2⟩ := reps1 rs
    split at q
    · rename_i ns e
      split at q
      · rename_i hl
        have ev := ints_of e h2
        subst ev
        refine cr_min hc pins s σ H _ us Q I r ⟨a, ns, rfl, .inl (.inl (sF _ _ h1)), hl, fun m hm hle => ?_⟩
        obtain ⟨k1, k2⟩ := minI_of hl
        rw [show m = minI ns from Int.le_antisymm (hle _ k1) (k2 m hm)]
        exact Post.ok sF q rfl
      · exact q.elim
    · exact q.elim
  · obtain ⟨v, rfl, a, vs, rfl, h1, h2⟩ := reps1 rs
    split at q
    · rename_i ns e
      have ev := ints_of e h2
      subst ev
      exact cr_sum hc pins s σ H _ us Q I r ⟨a, ns, rfl, .inl (.inl (sF _ _ h1)), Post.ok sF q rfl⟩
    · exact q.elim
  · obtain ⟨v, rfl, a, vs, rfl, h1, h2⟩ := reps1 rs
    split at q
    · rename_i ns e
      have ev := bools_of e h2
      subst ev
      exact cr_any hc pins s σ H _ us Q I r ⟨a, ns, rfl, .inl (.inl (sF _ _ h1)), Post.ok sF q rfl⟩
    · exact q.elim
  · obtain ⟨v, rfl, a, vs, rfl, h1, h2⟩ := reps1 rs
    split at q
    · rename_i ns e
      have ev := bools_of e h2
      subst ev
      exact cr_all hc pins s σ H _ us Q I r ⟨a, ns, rfl, .inl (.inl (sF _ _ h1)), Post.ok sF q rfl⟩
    · exact q.elim
  · obtain ⟨v, rfl, a, vs, rfl, h1, h2⟩ := reps1 rs
    exact call_tuple_of pins s σ H _ us Q I r ⟨a, vs, rfl, .inl ⟨.inl (.inl (sF _ _ h1)), fun l hl => Post.tup sF q h2 hl⟩⟩
  · obtain ⟨v, rfl, a, vs, rfl, h1, h2⟩ := reps1 rs
    exact call_tuple_of pins s σ H _ us Q I r ⟨a, vs, rfl, .inr ⟨sameT sF h1, Post.ok sF q ⟨a, vs, rfl, h1, h2⟩⟩⟩
  · obtain ⟨v, rfl, a, vs, rfl, h1, h2⟩ := reps1 rs
    exact call_list_of pins s σ H _ us Q I r ⟨a, vs, rfl, .inl (.inl (.inl (sF _ _ h1))), fun l hl => Post.lst sF q h2 hl⟩
  · obtain ⟨v, rfl, a, vs, rfl, h1, h2⟩ := reps1 rs
    exact call_list_of pins s σ H _ us Q I r ⟨a, vs, rfl, .inr (sameT sF h1), fun l hl => Post.lst sF q h2 hl⟩
  · exact q.elim
theorem boot_bi (f : Bi) : bootBuiltins ((biN f : String) : Str) = some (biV f) := by
  cases f <;> decide +kernel
theorem name_bi (f : Bi) : ((biN f : String) : Str) ≠ "__name__" := by
  cases f <;> decide +kernel
theorem dbg_bi (f : Bi) : (((biN f : String) : Str) == ("__debug__" : Str)) = false := by
  cases f <;> decide +kernel
theorem s_bi {f : Bi} {e : Expr} {es : List Expr} {g : Env → R (List D)} (hc : X.calm = true) (hg : Gl X ((biN f : String) : Str)) (hm : X.mg ((biN f : String) : Str) = none)
    (hp : ((e :: es).all isPlain) = true) (ha : PA X (e :: es) (rdA X.K T W g)) : PE X (.Call (.Name ((biN f : String) : Str) p2) (e :: es) [] pos) (rdE X.K T W fun env => (g env).bind (biD f)) := by
  have hp' : (isPlain e && es.all isPlain) = true := hp
  obtain ⟨p1, p2'⟩ := Bool.and_eq_true_iff.mp hp'
  have h : PE X (.Call (.Name ((biN f : String) : Str) p2) (e :: es) [] pos) (tCB (rBi X.K T f) (rdA X.K T W g)) := by
    have cb := call_bi (X := X) (T := T) hc (f := f)
    have bb := boot_bi f
    cases f <;> first
      | exact pe_callB cb hg hm bb ha (name_bi _) (dbg_bi _) (star_plain p1 es X.env) (star_none p2')
      | exact pe_callTy cb hg hm bb ha (name_bi _) (dbg_bi _) (star_plain p1 es X.env) (star_none p2')
  refine pe_of h fun σ H Q _ ⟨F, env, vw, q⟩ => ?_
  refine vw.rd (Post.imp (Post.bind (rel := relL X.K T) q) fun vs H1 ⟨F1, d1, e1, g1, r1, q1⟩ => ?_)
  exact ⟨F1, _, d1, g1.s, r1, q1⟩
end
end Py

namespace Py
open PySem L2

/-! ### patterns -/
mutual
def gP (K : PySem.W.Frag) : Pat → TG
  | .v i => gName i
  | .tup ps => gTup K ps.length (gPs K ps)
def gPs (K : PySem.W.Frag) : List Pat → TGs
  | [] => gNil
  | p :: ps => gCons (gP K p) (gPs K ps)
end
section
variable {K : PySem.W.Frag} {α : Type} {put : Nat → D → α → α} {F H : Hp} {Pr : L2.St → α → Prop}
mutual
theorem gP_ok (s : Same F H) : ∀ (p : Pat), (∀ i v d σ a, i ∈ p.ix → Rep K T F d v → Pr σ a → Pr ((σ : List (Option V)).set i (some v)) (put i d a)) → ∀ {d : D} {v : V} {σ : L2.St} {a b : α} {Q : L2.St → Hp → Prop}, Rep K T F d v → bindG put p d a = .ok b → Pr σ a → (∀ σ', Pr σ' b → Q σ' H) → gP K p v σ H Q
  | .v i, hP, d, v, σ, a, b, Q, r, e, h, q => by
    have e' : R.ok (put i d a) = R.ok b := e
    cases e'
    exact q _ (hP i v d σ a (List.mem_singleton.mpr rfl) r h)
  | .tup ps, hP, d, v, σ, a, b, Q, r, e, h, q => by
    cases d with
    | tup ds =>
      obtain ⟨t, vs, rfl, h1, h2⟩ := r
      have e' : bindGs put ps ds a = .ok b := e
      refine ⟨t, vs, rfl, sameT s h1, ?_, gPs_ok s ps hP h2 e' h q⟩
      rw [Reps.length h2]
      exact bindGs_len e'
    | _ => cases e
theorem gPs_ok (s : Same F H) : ∀ (ps : List Pat), (∀ i v d σ a, i ∈ Pat.ixs ps → Rep K T F d v → Pr σ a → Pr ((σ : List (Option V)).set i (some v)) (put i d a)) → ∀ {ds : List D} {vs : List V} {σ : L2.St} {a b : α} {Q : L2.St → Hp → Prop}, Reps K T F ds vs → bindGs put ps ds a = .ok b → Pr σ a → (∀ σ', Pr σ' b → Q σ' H) → gPs K ps vs σ H Q
  | [], hP, ds, vs, σ, a, b, Q, r, e, h, q => by
    cases ds with
    | nil =>
      cases r
      have e' : R.ok a = R.ok b := e
      cases e'
      exact ⟨rfl, q _ h⟩
    | cons d ds => cases e
  | p :: ps, hP, ds, vs, σ, a, b, Q, r, e, h, q => by
    cases ds with
    | nil => cases e
    | cons d ds =>
      obtain ⟨v, vr, rfl, r1, r2⟩ := r
      have e' : (bindG put p d a).bind (fun c => bindGs put ps ds c) = .ok b := e
      cases hc : bindG put p d a with
      | ok c =>
        rw [hc] at e'
        refine ⟨v, vr, rfl, gP_ok s p (fun i v d σ a hi => hP i v d σ a (List.mem_append_left _ hi)) r1 hc h fun σ' h' => ?_⟩
        exact gPs_ok s ps (fun i v d σ a hi => hP i v d σ a (List.mem_append_right _ hi)) r2 e' h' q
      | ex _ _ =>
        rw [hc] at e'
        cases e'
      | no =>
        rw [hc] at e'
        cases e'
theorem bindGs_len : ∀ {ps : List Pat} {ds : List D} {a b : α}, bindGs put ps ds a = .ok b → ds.length = ps.length
  | [], ds, a, b, e => by
    cases ds with
    | nil => rfl
    | cons _ _ => cases e
  | p :: ps, ds, a, b, e => by
    cases ds with
    | nil => cases e
    | cons d ds =>
      have e' : (bindG put p d a).bind (fun c => bindGs put ps ds c) = .ok b := e
      cases hc : bindG put p d a with
      | ok c =>
        rw [hc] at e'
        exact congrArg (· + 1) (bindGs_len e')
      | ex _ _ =>
        rw [hc] at e'
        cases e'
      | no =>
        rw [hc] at e'
        cases e'
end
end

section
variable {α : Type} {put : Nat → D → α → α}
mutual
theorem bindG_noex : ∀ (p : Pat) (d : D) (a : α) (c : Nat) (fs : List D), bindG put p d a ≠ .ex c fs
  | .v i, d, a, c, fs => fun h => by cases h
  | .tup ps, d, a, c, fs => by
    cases d with
    | tup ds => exact bindGs_noex ps ds a c fs
    | _ => exact fun h => by cases h
theorem bindGs_noex : ∀ (ps : List Pat) (ds : List D) (a : α) (c : Nat) (fs : List D), bindGs put ps ds a ≠ .ex c fs
  | [], ds, a, c, fs => by
    cases ds <;> exact fun h => by cases h
  | p :: ps, ds, a, c, fs => by
    cases ds with
    | nil => exact fun h => by cases h
    | cons d ds =>
      show (bindG put p d a).bind (fun b => bindGs put ps ds b) ≠ .ex c fs
      have h1 := bindG_noex p d a
      cases hc : bindG put p d a with
      | ok b => exact bindGs_noex ps ds b c fs
      | ex c' fs' => exact absurd hc (h1 c' fs')
      | no => exact fun h => by cases h
end
end

/-! ### what a for walks -/
/-- the walk J yields the items ds -/
structure Yields (K : PySem.W.Frag) (T : Tab) (J : L2.It) (F : Hp) (ds : List D) : Prop where
  len : ∀ H, Same F H → LenOk K H → ds.length ≤ sizeLine
  go : ∀ i H, Same F H → i < ds.length → J.go i H
  stop : ∀ i H, Same F H → ds.length ≤ i → J.stop i H
  yld : ∀ i G H x H' d, Same F G → Same G H → ds[i]? = some d → J.yld i H x H' → ∃ G', Grow G H G' H' ∧ Rep K T G' d x
def rdI (K : PySem.W.Frag) (T : Tab) (W : WX) (f : Env → R (List D)) : TI := fun σ H R =>
  LenOk K H → ∃ F env, Vw K T F H σ env ∧ Post K T (fun F' ds J => Yields K T J F' ds) (fun c d H' => W c d σ H') F H (f env) R
def relI (K : PySem.W.Frag) (T : Tab) : Hp → List D → L2.It → Prop := fun F' ds J => Yields K T J F' ds
/-- a range's items hang on no heap -/
def relR (K : PySem.W.Frag) (T : Tab) : Hp → List D → L2.It → Prop := fun _ ds J => ∀ G, Yields K T J G ds
def rdR (K : PySem.W.Frag) (T : Tab) (W : WX) (f : Env → R (List D)) : TI := rdG K T W (relR K T) f
theorem Yields.mono {K : PySem.W.Frag} {T : Tab} {J : L2.It} {F G : Hp} {ds : List D} (e : Same F G) (y : Yields K T J F ds) : Yields K T J G ds :=
  ⟨fun H s => y.len H (e.trans s), fun i H s => y.go i H (e.trans s), fun i H s => y.stop i H (e.trans s), fun i G' H x H' d s => y.yld i G' H x H' d (e.trans s)⟩
theorem yields_list {K : PySem.W.Frag} {T : Tab} {F : Hp} {a : Addr} {ds : List D} {vs : List V} (h : SqL K F a vs) (r : Reps K T F ds vs) : Yields K T (Itl K a) F ds where
  len := fun H s l => by
    rw [← Reps.length r]
    exact l a vs (.inl (s.seq h))
  go := fun i H s hi => by
    rw [← Reps.length r] at hi
    exact ⟨vs, vs[i], s.seq h, by simp [hi]⟩
  stop := fun i H s hi => ⟨vs, s.seq h, by rw [Reps.length r]; exact hi⟩
  yld := fun i G H x H' d s1 s2 e y => by
    obtain ⟨rfl, y⟩ := y
    obtain ⟨v, e1, r1⟩ := Reps.get r e
    have e2 := y vs ((s1.trans s2).seq h)
    rw [e1] at e2
    cases e2
    exact ⟨G, Grow.refl s2, Rep.mono s1 r1⟩
theorem yields_tup {K : PySem.W.Frag} {T : Tab} {F : Hp} {a : Addr} {ds : List D} {vs : List V} (h : SqT K F a vs) (r : Reps K T F ds vs) : Yields K T (Itt K a) F ds where
  len := fun H s l => by
    rw [← Reps.length r]
    exact l a vs (.inr (sameT s h))
  go := fun i H s hi => by
    rw [← Reps.length r] at hi
    exact ⟨vs, vs[i], sameT s h, by simp [hi]⟩
  stop := fun i H s hi => ⟨vs, sameT s h, by rw [Reps.length r]; exact hi⟩
  yld := fun i G H x H' d s1 s2 e y => by
    obtain ⟨rfl, y⟩ := y
    obtain ⟨v, e1, r1⟩ := Reps.get r e
    have e2 := y vs (sameT (s1.trans s2) h)
    rw [e1] at e2
    cases e2
    exact ⟨G, Grow.refl s2, Rep.mono s1 r1⟩
theorem yields_range {K : PySem.W.Frag} {T : Tab} {F : Hp} {lo hi : Int} (hn : hi - lo ≤ (cap : Int)) : Yields K T (Itr lo (hi - lo).toNat) F (rangeD lo hi) where
  len := fun H s l => by
    unfold rangeD
    rw [List.length_map, List.length_range]
    have c1 : (cap : Int) = 100000 := rfl
    exact le_line (by show _ ≤ 100000; omega)
  go := fun i H s h => by
    unfold rangeD at h
    rw [List.length_map, List.length_range] at h
    exact h
  stop := fun i H s h => by
    unfold rangeD at h
    rw [List.length_map, List.length_range] at h
    exact h
  yld := fun i G H x H' d s1 s2 e y => by
    obtain ⟨rfl, rfl⟩ := y
    unfold rangeD at e
    rw [List.getElem?_map] at e
    cases h : (List.range (hi - lo).toNat)[i]? with
    | none =>
      rw [h] at e
      cases e
    | some j =>
      rw [h] at e
      cases e
      have hj : j = i := by
        obtain ⟨h1, h2⟩ := List.getElem?_eq_some_iff.mp h
        rw [List.getElem_range] at h2
        exact h2.symm
      subst hj
      exact ⟨G, Grow.refl s2, rfl⟩
section
variable {X : Cx} {T : Tab} {W : WX} {pos p2 : Pos} {tg : Expr}
theorem pi_of {e : Expr} {t : TI} {f : Env → R (List D)} (h : PI X tg e t) (imp : ∀ σ H R, LenOk X.K H → (∃ F env, Vw X.K T F H σ env ∧ Post X.K T (fun F' ds J => Yields X.K T J F' ds) (fun c d H' => W c d σ H') F H (f env) R) → t σ H R) : PI X tg e (rdI X.K T W f) :=
  ⟨fun pins s σ H Q I q => h.run pins s σ H Q I (imp σ H Q (lenOk_of I) (q (lenOk_of I)))⟩
/-- a list or a tuple -/
def iSeq (K : PySem.W.Frag) (tl : TE) : TI := fun σ H R => tl σ H fun x H1 => (∃ a, x = .ref a ∧ (∃ xs, SqL K H1 a xs) ∧ R (Itl K a) H1) ∨ (∃ a, x = .ref a ∧ (∃ xs, SqT K H1 a xs) ∧ R (Itt K a) H1)
theorem pi_seq {l : Expr} {tl : TE} (hl : PE X l tl) : PI X tg l (iSeq X.K tl) := by
  refine ⟨fun pins s σ H R I h => ?_⟩
  refine thn (hl.run pins s σ H _ I h) fun v s1 ⟨x, H1, I1, r1, q1⟩ => ?_
  rcases q1 with ⟨a, e, ⟨xs, hq⟩, q⟩ | ⟨a, e, ⟨xs, hq⟩, q⟩
  · subst e
    cases r1
    obtain ⟨its, rv, p, hz⟩ := I1.list hq
    refine wpAny_pyIter_list p.isList ?_
    refine ⟨s1.heap.objs.size, [s1.heap.objs.size], _, _, H1, rfl, I1.kept (t' := s1.toks) fun b o e => Heap.get?_push_of_some _ e, turn_list a _, ⟨_, Heap.get?_push_size _ rfl, rfl, rfl⟩, fun b hb => ?_, q⟩
    have e : b = s1.heap.objs.size := by simpa using hb
    subst e
    exact I1.fpOk (Nat.le_refl _) (I1.hok.fresh (Nat.le_refl _))
  · subst e
    cases r1
    obtain ⟨its, rv, p, hz⟩ := I1.tuple hq
    refine wpAny_pyIter_tuple (show s1.heap.IsTuple a its.toArray from p) ?_
    refine ⟨s1.heap.objs.size, [s1.heap.objs.size], _, _, H1, rfl, I1.kept (t' := s1.toks) fun b o e => Heap.get?_push_of_some _ e, turn_tuple a _, ⟨_, Heap.get?_push_size _ rfl, rfl, rfl⟩, fun b hb => ?_, q⟩
    have e : b = s1.heap.objs.size := by simpa using hb
    subst e
    exact I1.fpOk (Nat.le_refl _) (I1.hok.fresh (Nat.le_refl _))
theorem s_seq {e : Expr} {f : Env → R D} (he : PE X e (rdE X.K T W f)) : PI X tg e (rdI X.K T W fun env => (f env).bind seqD) := by
  refine pi_of (pi_seq he) fun σ H Q _ ⟨F, env, vw, q⟩ => ?_
  refine vw.rd (Post.imp (Post.bind (rel := relD X.K T) q) fun x H1 ⟨F1, d1, e1, g1, r1, q1⟩ => ?_)
  cases d1 <;> first | exact q1.elim | skip
  · obtain ⟨a, vs, rfl, h1, h2⟩ := r1
    exact .inr ⟨a, rfl, ⟨vs, sameT g1.s h1⟩, Post.ok g1.s q1 (yields_tup h1 h2)⟩
  · obtain ⟨a, vs, rfl, h1, h2⟩ := r1
    exact .inl ⟨a, rfl, ⟨vs, .inl (.inl (g1.s _ _ h1))⟩, Post.ok g1.s q1 (yields_list (.inl (.inl h1)) h2)⟩
  · obtain ⟨a, rfl, h1⟩ := r1
    exact .inl ⟨a, rfl, ⟨_, g1.s.seq h1⟩, Post.ok g1.s q1 (yields_list h1 (reps_ints _))⟩
theorem pir_of {e : Expr} {t : TI} {f : Env → R (List D)} (h : PI X tg e t) (imp : ∀ σ H R, LenOk X.K H → (∃ F env, Vw X.K T F H σ env ∧ Post X.K T (relR X.K T) (fun c d H' => W c d σ H') F H (f env) R) → t σ H R) : PI X tg e (rdR X.K T W f) :=
  ⟨fun pins s σ H Q I q => h.run pins s σ H Q I (imp σ H Q (lenOk_of I) (q (lenOk_of I)))⟩
theorem pi_weak {e : Expr} {f : Env → R (List D)} (h : PI X tg e (rdR X.K T W f)) : PI X tg e (rdI X.K T W f) := by
  refine pi_of h fun σ H R L ⟨F, env, vw, q⟩ _ => ⟨F, env, vw, ?_⟩
  cases e : f env with
  | ok ds =>
    rw [e] at q
    exact fun J F' H' g y => q J F' H' g (y F')
  | ex c fs =>
    rw [e] at q
    exact q
  | no =>
    rw [e] at q
    exact q
theorem s_range {a : Expr} {f : Env → R D} (hg : Gl X "range") (hm : X.mg "range" = none) (hp : isPlain a = true) (ha : PE X a (rdE X.K T W f)) :
    PI X tg (.Call (.Name "range" p2) [a] [] pos) (rdR X.K T W fun env => (f env).bind fun x => match x with
    | .int n => if n ≤ (cap : Int) ∧ -bigI ≤ n then .ok (rangeD 0 n) else .no
    | _ => .no) := by
  have hA := s_cons (T := T) (W := W) ha s_nil (star_plain hp [] X.env)
  refine pir_of (pi_range1 hg hm hA (star_plain hp [] X.env)) fun σ H Q _ ⟨F, env, vw, q⟩ => ?_
  refine vw.rd (f := fun env => (f env).bind fun x => R.map (fun xs => x :: xs) (R.ok [])) ?_
  have q2 := Post.bind (rel := relD X.K T) q
  cases hx : f env with
  | ok d =>
    rw [hx] at q2
    show Post X.K T (relL X.K T) _ F H (.ok [d]) _
    intro vs F' H' g r
    obtain ⟨v, rfl, rv⟩ := reps1 r
    obtain ⟨F2, d2, e2, g2, r2, q3⟩ := q2 v F' H' g rv
    cases e2
    cases d <;> first | exact q3.elim | skip
    rename_i n
    have q3 : Post X.K T (relR X.K T) _ F2 H' (if n ≤ (cap : Int) ∧ -bigI ≤ n then .ok (rangeD 0 n) else .no) Q := q3
    split at q3
    · rename_i hn
      cases rv
      have c1 : (cap : Int) = 100000 := rfl
      have c2 : bigI = 4000000000000000000 := rfl
      refine ⟨n, rfl, by omega, by omega, ?_⟩
      have y := Post.ok (v := Itr 0 (n - 0).toNat) g2.s q3 fun G => yields_range (K := X.K) (T := T) (lo := 0) (hi := n) (by omega)
      rw [show n - 0 = n by omega] at y
      exact y
    · exact q3.elim
  | ex c fs =>
    rw [hx] at q2
    exact q2
  | no =>
    rw [hx] at q2
    exact q2
theorem s_range2 {a b : Expr} {f g : Env → R D} (hg : Gl X "range") (hm : X.mg "range" = none) (hp : isPlain a = true) (hp' : isPlain b = true) (ha : PE X a (rdE X.K T W f)) (hb : PE X b (rdE X.K T W g)) :
    PI X tg (.Call (.Name "range" p2) [a, b] [] pos) (rdR X.K T W fun env => (f env).bind fun x => (g env).bind fun y => match x, y with
    | .int m, .int n => if -bigI ≤ m ∧ m ≤ bigI ∧ -bigI ≤ n ∧ n ≤ bigI ∧ n - m ≤ (cap : Int) then .ok (rangeD m n) else .no
    | _, _ => .no) := by
  have hB := s_cons (T := T) (W := W) hb s_nil (star_plain hp' [] X.env)
  have hA := s_cons (T := T) (W := W) ha hB (star_plain hp [b] X.env)
  have st2 : starEach [b] X.env = [(false, eval b X.env)] := star_plain hp' [] X.env
  have st1 : starEach [a, b] X.env = [(false, eval a X.env), (false, eval b X.env)] := by
    rw [star_plain hp [b] X.env, st2]
  refine pir_of (pi_range2 hg hm hA st1 st2) fun σ H Q _ ⟨F, env, vw, q⟩ => ?_
  refine vw.rd (f := fun env => (f env).bind fun x => R.map (fun xs => x :: xs) ((g env).bind fun x => R.map (fun xs => x :: xs) (R.ok []))) ?_
  have q2 := Post.bind (rel := relD X.K T) q
  cases hx : f env with
  | ok d =>
    rw [hx] at q q2
    cases hy : g env with
    | ok d' =>
      show Post X.K T (relL X.K T) _ F H (.ok [d, d']) _
      intro vs F' H' g0 r
      obtain ⟨v, u, rfl, rv, ru⟩ := reps2 r
      have q3 := Post.grow g0 q
      rw [hy] at q3
      have c1 : (cap : Int) = 100000 := rfl
      have c2 : bigI = 4000000000000000000 := rfl
      cases d <;> cases d' <;> first | exact q3.elim | skip
      rename_i m n
      have q3 : Post X.K T (relR X.K T) _ F' H' (if -bigI ≤ m ∧ m ≤ bigI ∧ -bigI ≤ n ∧ n ≤ bigI ∧ n - m ≤ (cap : Int) then .ok (rangeD m n) else .no) Q := q3
      split at q3
      · rename_i hn
        cases rv
        cases ru
        refine ⟨m, n, rfl, by omega, ?_⟩
        exact Post.ok (v := Itr m (n - m).toNat) g0.s q3 fun G => yields_range (K := X.K) (T := T) (lo := m) (hi := n) (by omega)
      · exact q3.elim
    | ex c fs =>
      rw [hy] at q
      exact q
    | no =>
      rw [hy] at q
      exact q
  | ex c fs =>
    rw [hx] at q2
    exact q2
  | no =>
    rw [hx] at q2
    exact q2

/-! ### comprehensions -/
theorem wipe_set {σ : L2.St} {i : Nat} {x : Option V} : ∀ {vs : List Nat}, i ∈ vs → L2.wipe ((σ : List (Option V)).set i x) vs = L2.wipe σ vs
  | [], h => by cases h
  | v :: vs, h => by
    show (L2.wipe ((σ : List (Option V)).set i x) vs : List (Option V)).set v none = (L2.wipe σ vs : List (Option V)).set v none
    by_cases hm : i ∈ vs
    · rw [wipe_set hm]
    · have hv : i = v := by
        rcases List.mem_cons.mp h with q | q
        · exact q
        · exact absurd q hm
      subst hv
      have comm : ∀ ws : List Nat, i ∉ ws → (L2.wipe ((σ : List (Option V)).set i x) ws : List (Option V)) = (L2.wipe σ ws : List (Option V)).set i x := by
        intro ws
        induction ws with
        | nil => intro _; rfl
        | cons w ws ih =>
          intro hw
          have h1 : i ≠ w := fun e => hw (by rw [e]; exact List.mem_cons_self)
          have h2 : i ∉ ws := fun e => hw (List.mem_cons_of_mem _ e)
          show (L2.wipe ((σ : List (Option V)).set i x) ws : List (Option V)).set w none = ((L2.wipe σ ws : List (Option V)).set w none).set i x
          rw [ih h2, List.set_comm _ _ h1]
      rw [comm vs hm, List.set_set]
theorem Vw.wipe {F H : Hp} {σ : L2.St} {env : Env} (h : Vw X.K T F H σ env) : ∀ vs : List Nat, Vw X.K T F H (L2.wipe σ vs) (wipeD env vs)
  | [] => h
  | v :: vs => by
    have h' := Vw.wipe h vs
    refine ⟨h'.s, ?_, fun i d e => ?_⟩
    · show ((wipeD env vs).set v none).length = ((L2.wipe σ vs : List (Option V)).set v none).length
      rw [List.length_set, List.length_set]
      exact h'.l
    have e' : ((wipeD env vs).set v none)[i]? = some (some d) := e
    show ∃ z, ((L2.wipe σ vs : List (Option V)).set v none)[i]? = some (some z) ∧ _
    by_cases hv : v = i
    · subst hv
      rw [List.getElem?_set] at e'
      simp only [ite_true] at e'
      split at e' <;> simp at e'
    · rw [List.getElem?_set_ne hv] at e' ⊢
      exact h'.g i d e'
theorem Vw.put {F H : Hp} {σ : L2.St} {env : Env} {i : Nat} {d : D} {v : V} (h : Vw X.K T F H σ env) (r : Rep X.K T F d v) : Vw X.K T F H ((σ : List (Option V)).set i (some v)) (putE i d env) := by
  have hl := h.l
  refine ⟨h.s, ?_, fun j z e => ?_⟩
  · show (env.set i (some d)).length = _
    rw [List.length_set, List.length_set]
    exact hl
  have e' : (env.set i (some d))[j]? = some (some z) := e
  by_cases hj : i = j
  · subst hj
    rw [List.getElem?_set] at e'
    simp only [ite_true] at e'
    split at e'
    · rename_i hi
      cases e'
      refine ⟨v, ?_, r⟩
      rw [List.getElem?_set_self (by omega)]
    · cases e'
  · rw [List.getElem?_set_ne hj] at e' ⊢
    exact h.g j z e'

theorem compD_cons {x : D} {xs : List D} {f : D → R (Option D)} : compD (x :: xs) f = (match f x with
    | .ok o => (compD xs f).bind fun r => .ok (match o with
      | some d => d :: r
      | none => r)
    | _ => .no) := rfl
abbrev W0 : WX := fun _ _ _ _ => False
def putO (l : List D) : Option D → List D
  | some d => l ++ [d]
  | none => l
theorem comp_step {ds acc : List D} {i : Nat} {d : D} {f : D → R (Option D)} {o : Option D} (h : compD ds f = (compD (ds.drop i) f).map (acc ++ ·)) (e : ds[i]? = some d) (hf : f d = .ok o) : compD ds f = (compD (ds.drop (i + 1)) f).map (putO acc o ++ ·) := by
  obtain ⟨hi, e2⟩ := List.getElem?_eq_some_iff.mp e
  rw [List.drop_eq_getElem_cons hi, e2, compD_cons, hf] at h
  rw [h]
  cases compD (ds.drop (i + 1)) f with
  | ok r => cases o <;> simp [putO]
  | ex c fs => rfl
  | no => rfl
theorem comp_no {ds acc : List D} {i : Nat} {d : D} {f : D → R (Option D)} (h : compD ds f = (compD (ds.drop i) f).map (acc ++ ·)) (e : ds[i]? = some d) (hf : ∀ o, f d ≠ .ok o) : compD ds f = .no := by
  obtain ⟨hi, e2⟩ := List.getElem?_eq_some_iff.mp e
  rw [List.drop_eq_getElem_cons hi, e2, compD_cons] at h
  rw [h]
  cases hx : f d with
  | ok o => exact absurd hx (hf o)
  | ex c fs => rfl
  | no => rfl
/-- what a new list is wanted for -/
def PostN (K : PySem.W.Frag) (T : Tab) (W : Value → Option Addr → Hp → Prop) (F H : Hp) (r : R D) (Q : VK) : Prop := match r with
  | .ok (.lst ds) => ∀ p vs F' H', Grow F H F' H' → H p = none → F' p = none → H' p = some (.lst vs) → Reps K T F' ds vs → Q (.ref p) H'
  | .ok _ => False
  | .ex c fs => ∀ dx H', Same H H' → ExR K c fs dx H' → W (.ref (T.addr c)) dx H'
  | .no => False
theorem PostN.of {K : PySem.W.Frag} {W' : Value → Option Addr → Hp → Prop} {F H : Hp} {r : R D} {Q : VK} (h : Post K T (relD K T) W' F H r Q) (hl : ∀ d, r = .ok d → ∃ ds, d = .lst ds) : PostN K T W' F H r Q := by
  cases r with
  | ok d =>
    obtain ⟨ds, e⟩ := hl d rfl
    subst e
    intro p vs F' H' g h1 h2 h3 h4
    refine h (.ref p) (upd F' p (.lst vs)) H' ⟨g.f.trans (Same.upd h2), fun b u z => ?_, g.h, fun b u z => ?_⟩ ⟨p, vs, rfl, upd_same, Reps.mono (Same.upd h2) h4⟩
    · by_cases hb : b = p
      · subst hb
        rw [upd_same] at z
        rw [h3]
        exact z
      · rw [upd_ne hb] at z
        exact g.s _ _ z
    · by_cases hb : b = p
      · subst hb
        exact .inr h1
      · rw [upd_ne hb] at z
        exact g.n b u z
  | ex c fs => exact h
  | no => exact h
theorem PostN.bind {K : PySem.W.Frag} {α β : Type} {rel : Hp → α → β → Prop} {W' : Value → Option Addr → Hp → Prop} {F H : Hp} {r : R α} {f : α → R D} {Q : VK} (h : PostN K T W' F H (r.bind f) Q) :
    Post K T rel W' F H r (fun x H1 => ∃ F1 a, r = .ok a ∧ Grow F H F1 H1 ∧ rel F1 a x ∧ PostN K T W' F1 H1 (f a) Q) := by
  cases r with
  | ok a =>
    intro v F2 H2 g2 q
    refine ⟨F2, a, rfl, g2, q, ?_⟩
    have h : PostN K T W' F H (f a) Q := h
    cases hr : f a with
    | ok d =>
      rw [hr] at h
      cases d with
      | lst ds => exact fun p vs F' H' g h1 h2 h3 h4 => h p vs F' H' (g2.trans g) (g2.h.free h1) h2 h3 h4
      | _ => exact h.elim
    | ex c fs =>
      rw [hr] at h
      exact fun dx H' s x => h dx H' (g2.h.trans s) x
    | no =>
      rw [hr] at h
      exact h
  | ex c fs => exact h
  | no => exact h
theorem PostN.bind' {K : PySem.W.Frag} {α β : Type} {rel : Hp → α → β → Prop} {W' : Value → Option Addr → Hp → Prop} {F H : Hp} {r : R α} {f : α → D} {Q : VK} (h : PostN K T W' F H (r.map f) Q) :
    Post K T rel W' F H r (fun x H1 => ∃ F1 a, r = .ok a ∧ Grow F H F1 H1 ∧ rel F1 a x ∧ PostN K T W' F1 H1 (.ok (f a)) Q) := by
  have e : r.map f = r.bind fun a => .ok (f a) := by cases r <;> rfl
  rw [e] at h
  exact PostN.bind h
theorem lc_imp {vs : List Nat} {p : Pat} {fi : Env → R (List D)} {fc : Env → R Bool} {fe : Env → R D} (hpi : ∀ i ∈ p.ix, i ∈ vs) {σ : L2.St} {H : Hp} {Q : VK}
    (h : ∃ F env, Vw X.K T F H σ env ∧ PostN X.K T (fun c d H' => W c d σ H') F H ((fi env).bind fun xs => (compD xs fun x =>
      (bindG putE p x (wipeD env vs)).bind fun env' => (fc env').bind fun t => if t then (fe env').map some else .ok none).map D.lst) Q) :
    tLc (rdI X.K T W fi) (gP X.K p) (rdT X.K T W0 fc) (rdE X.K T W0 fe) vs σ H Q := by
  obtain ⟨F, env, vw, q⟩ := h
  refine vw.rd (Post.imp (PostN.bind (rel := fun F' ds J => Yields X.K T J F' ds) q) fun J H1 ⟨F1, ds, e1, g1, y, q1⟩ => ?_)
  intro Dl hD
  generalize hf : (fun x => (bindG putE p x (wipeD env (vs))).bind fun env' => (fc env').bind fun t => if t then (fe env').map some else R.ok none) = f at q1
  have vw1 := (vw.grow g1).wipe (vs)
  refine ⟨fun i m H' => ∃ G acc us, i ≤ ds.length ∧ m = ds.length - i ∧ Grow F1 H1 G H' ∧ G Dl = none ∧ H' Dl = some (.lst us) ∧ Reps X.K T G acc us ∧ acc.length ≤ i ∧ compD ds f = (compD (ds.drop i) f).map (acc ++ ·),
    ⟨ds.length, F1, [], [], Nat.zero_le _, rfl, ⟨Same.refl _, g1.s.trans (Same.upd hD), Same.upd hD, fun _ _ e => .inl e⟩, g1.s.free hD, upd_same, rfl, Nat.le_refl _, ?_⟩, ?_⟩
  · rw [List.drop_zero]
    cases compD ds f <;> simp
  rintro i m H' ⟨G, acc, us, hi1, rfl, gr, hG, hH, ra, hl, hcd⟩
  by_cases hlt : i < ds.length
  · refine .inr ⟨y.go i H' (gr.f.trans gr.s) hlt, fun H'' => ∃ G acc us, i + 1 ≤ ds.length ∧ Grow F1 H1 G H'' ∧ G Dl = none ∧ H'' Dl = some (.lst us) ∧ Reps X.K T G acc us ∧ acc.length ≤ i + 1 ∧ compD ds f = (compD (ds.drop (i + 1)) f).map (acc ++ ·), fun H'' ⟨G, acc, us, a1, a2, a3, a4, a5, a6, a7⟩ => ⟨ds.length - (i + 1), by omega, G, acc, us, a1, rfl, a2, a3, a4, a5, a6, a7⟩, fun x H2 hy => ?_⟩
    have e : ds[i]? = some ds[i] := List.getElem?_eq_getElem hlt
    obtain ⟨G2, g2, r2⟩ := y.yld i G H' x H2 _ gr.f gr.s e hy
    have hG2 : G2 Dl = none := by
      cases z : G2 Dl with
      | none => rfl
      | some o =>
        rcases g2.n Dl o z with z | z
        · rw [hG] at z
          cases z
        · rw [hH] at z
          cases z
    cases hfx : f ds[i] with
    | ok o =>
      have hfx' := hfx
      rw [← hf] at hfx'
      simp only at hfx'
      cases hb : bindG putE p ds[i] (wipeD env (vs)) with
      | ok env' =>
        rw [hb] at hfx'
        simp only [R.bind] at hfx'
        refine gP_ok (put := putE) (Pr := fun σ' en => Vw X.K T G2 H2 σ' en ∧ L2.wipe σ' (vs) = L2.wipe σ (vs)) g2.s p (fun j v d σ' a hj r ⟨w1, w2⟩ => ⟨w1.put r, by rw [wipe_set (hpi j hj)]; exact w2⟩) r2 hb ⟨(vw1.grow gr).grow g2, ?_⟩ fun σ' ⟨w1, w2⟩ => ⟨w2, ?_⟩
        · have id2 : ∀ vs : List Nat, ∀ ws : List Nat, (∀ v ∈ ws, v ∈ vs) → L2.wipe (L2.wipe σ ws) vs = L2.wipe σ vs := by
            intro vs ws
            induction ws with
            | nil => intro _; rfl
            | cons w ws ih =>
              intro hw
              have h1 : L2.wipe (L2.wipe σ (w :: ws)) vs = L2.wipe ((L2.wipe σ ws : List (Option V)).set w none) vs := rfl
              rw [h1, wipe_set (hw w List.mem_cons_self)]
              exact ih fun v hv => hw v (List.mem_cons_of_mem _ hv)
          exact id2 _ _ fun v h => h
        · cases ht' : fc env' with
          | ok t =>
            rw [ht'] at hfx'
            simp only [R.bind] at hfx'
            refine w1.rd (f := fc) ?_
            rw [ht']
            intro b F3 H3 g3 hb3
            have hb3 : t = b := hb3
            subst hb3
            cases t with
            | true =>
              simp only [if_true] at hfx'
              refine iteT ?_
              intro L3
              refine ⟨F3, env', w1.grow g3, ?_⟩
              cases hd : fe env' with
              | ok de =>
                rw [hd] at hfx'
                have eo : o = some de := by
                  have z : R.ok (some de) = R.ok o := hfx'
                  injection z with z
                  exact z.symm
                intro yv F4 H4 g4 r4
                have hG4 : F4 Dl = none := by
                  cases z : F4 Dl with
                  | none => rfl
                  | some u =>
                    rcases g4.n Dl u z with z | z
                    · rcases g3.n Dl u z with z | z
                      · rw [hG2] at z
                        cases z
                      · rw [g2.h _ _ hH] at z
                        cases z
                    · rw [g3.h _ _ (g2.h _ _ hH)] at z
                      cases z
                have gAll := ((gr.trans g2).trans g3).trans g4
                have hH4 := g4.h _ _ (g3.h _ _ (g2.h _ _ hH))
                have lens := y.len H3 (((gr.trans g2).trans g3).f.trans g3.s) L3
                refine ⟨us, hH4, ?_, F4, acc ++ [de], us ++ [yv], by omega, ⟨gAll.f, fun b u z => ?_, fun b u z => ?_, gAll.n⟩, hG4, upd_same, Reps.app (Reps.mono ((g2.f.trans g3.f).trans g4.f) ra) (Reps.one r4), ?_, ?_⟩
                · rw [Reps.length ra]
                  omega
                · rw [upd_ne (ne_of_none z hG4)]
                  exact g4.s _ _ z
                · rw [upd_ne (ne_of_none z hD)]
                  exact gAll.h _ _ z
                · rw [List.length_append]
                  show acc.length + 1 ≤ i + 1
                  omega
                · have := comp_step hcd e hfx
                  rw [eo] at this
                  exact this
              | ex c fs =>
                rw [hd] at hfx'
                cases hfx'
              | no =>
                rw [hd] at hfx'
                cases hfx'
            | false =>
              simp only [Bool.false_eq_true, if_false] at hfx'
              have eo : o = none := by
                injection hfx' with z
                exact z.symm
              refine iteF ?_
              have gAll := (gr.trans g2).trans g3
              have hG3 : F3 Dl = none := by
                cases z : F3 Dl with
                | none => rfl
                | some u =>
                  rcases g3.n Dl u z with z | z
                  · rw [hG2] at z
                    cases z
                  · rw [g2.h _ _ hH] at z
                    cases z
              refine ⟨F3, acc, us, by omega, gAll, hG3, g3.h _ _ (g2.h _ _ hH), Reps.mono (g2.f.trans g3.f) ra, by omega, ?_⟩
              have := comp_step hcd e hfx
              rw [eo] at this
              exact this
          | ex c fs =>
            rw [ht'] at hfx'
            cases hfx'
          | no =>
            rw [ht'] at hfx'
            cases hfx'
      | ex c fs =>
        rw [hb] at hfx'
        cases hfx'
      | no =>
        rw [hb] at hfx'
        cases hfx'
    | ex c fs =>
      have z := comp_no hcd e (fun o h => by rw [hfx] at h; cases h)
      rw [z] at q1
      exact q1.elim
    | no =>
      have z := comp_no hcd e (fun o h => by rw [hfx] at h; cases h)
      rw [z] at q1
      exact q1.elim
  · have hi2 : i = ds.length := by omega
    refine .inl ⟨y.stop i H' (gr.f.trans gr.s) (by omega), ?_⟩
    rw [hi2, List.drop_length] at hcd
    have z : compD ds f = .ok acc := by
      rw [hcd]
      show R.ok (acc ++ []) = _
      rw [List.append_nil]
    rw [z] at q1
    exact q1 Dl us G H' gr hD hG hH ra
theorem lc_lst {α : Type} (r : R α) (f : α → R (List D)) : ∀ d, (r.bind fun xs => (f xs).map D.lst) = .ok d → ∃ ds, d = .lst ds := by
  intro d h
  cases r with
  | ok a =>
    have h : (f a).map D.lst = .ok d := h
    cases hf : f a with
    | ok ds =>
      rw [hf] at h
      cases h
      exact ⟨ds, rfl⟩
    | ex c fs =>
      rw [hf] at h
      cases h
    | no =>
      rw [hf] at h
      cases h
  | ex c fs => cases h
  | no => cases h
theorem s_lc {elt iter : Expr} {ifs : List Expr} {scope : Scope} {own : List (Str × Nat)} {vs : List Nat} {p : Pat} {fi : Env → R (List D)} {fc : Env → R Bool} {fe : Env → R D} (hc : X.calm = true) (nd : X.N.Nodup) (hi : PI X tg iter (rdI X.K T W fi)) (ok : BlkOk X.N X.env.scope scope own)
    (hv : own.map (·.2) = vs) (hpi : ∀ i ∈ p.ix, i ∈ vs)
    (hg : ∀ (s : Shared) (H : Hp) (C : Addr) (cl : List (Str × Addr)) (fp : List Addr), PG (X.blk s H scope (compEnvC scope cl C X.env) fp) tg (gP X.K p))
    (ht : ∀ (s : Shared) (H : Hp) (C : Addr) (cl : List (Str × Addr)) (fp : List Addr), PTs (X.blk s H scope (compEnvC scope cl C X.env) fp) ifs (rdT X.K T W0 fc))
    (he : ∀ (s : Shared) (H : Hp) (C : Addr) (cl : List (Str × Addr)) (fp : List Addr), PE (X.blk s H scope (compEnvC scope cl C X.env) fp) elt (rdE X.K T W0 fe)) (hs : ∀ x, foldedSetIterable iter X.env x = pure x) :
    PE X (.ListComp elt [⟨tg, iter, ifs, 0⟩] scope pos) (rdE X.K T W fun env => (fi env).bind fun xs => (compD xs fun x =>
      (bindG putE p x (wipeD env vs)).bind fun env' => (fc env').bind fun t => if t then (fe env').map some else .ok none).map D.lst) := by
  subst hv
  exact pe_of (pe_lc hc nd hi ok hg ht he hs) fun σ H Q _ ⟨F, env, vw, q⟩ => lc_imp hpi ⟨F, env, vw, PostN.of q (lc_lst _ _)⟩
theorem s_ifs0 : PTs X [] (rdT X.K T W fun _ => .ok true) := by
  refine ⟨fun pins s σ H Q I q => pts_nil.run pins s σ H Q I ?_⟩
  obtain ⟨F, env, vw, q⟩ := q (lenOk_of I)
  exact Post.ok vw.s q rfl
theorem s_ifs1 {c : Expr} {f : Env → R Bool} (h : PT X c (rdT X.K T W f)) : PTs X [c] (rdT X.K T W f) := pts_one h
end
end Py

namespace Py
open PySem L2

/-! ### the slots of a frame -/
/-- a container that the frame alone holds; P: its own addresses -/
def Own (K : PySem.W.Frag) (T : Tab) (F H : Hp) : Nat → D → V → (Addr → Prop) → Prop
  | 1, .lst ds, v, P => ∃ p vs, v = .ref p ∧ H p = some (.lst vs) ∧ Reps K T F ds vs ∧ ∀ a, P a ↔ a = p
  | _, _, _, _ => False
structure StR (K : PySem.W.Frag) (T : Tab) (F0 H0 F H : Hp) (fp : Nat → Addr → Prop) (σ : L2.St) (st : Py.St) : Prop where
  s : Same F H
  h0 : Same H0 H
  f0 : Same F0 F
  n : ∀ b o, F b = some o → F0 b = some o ∨ H0 b = none
  l : st.length = (σ : List (Option V)).length
  fr : ∀ (i : Nat) (d : D), st[i]? = some (.v d) → ∃ v, (σ : List (Option V))[i]? = some (some v) ∧ Rep K T F d v
  ow : ∀ (i k : Nat) (d : D), st[i]? = some (.o k d) → ∃ v, (σ : List (Option V))[i]? = some (some v) ∧ Own K T F H k d v (fp i)
  no : ∀ i a, fp i a → ∃ k d, st[i]? = some (.o k d)
  dj : ∀ i j a, fp i a → fp j a → i = j
  fF : ∀ i a, fp i a → F a = none ∧ H0 a = none ∧ ∃ o, H a = some o
section
variable {K : PySem.W.Frag} {T : Tab} {F0 H0 F H F' H' : Hp} {fp : Nat → Addr → Prop} {σ : L2.St} {st : Py.St}
theorem Own.grow {k : Nat} {d : D} {v : V} {P : Addr → Prop} (e : Same F F') (e' : Same H H') (o : Own K T F H k d v P) : Own K T F' H' k d v P := by
  unfold Own at o ⊢
  split at o
  · obtain ⟨p, vs, h1, h2, h3, h4⟩ := o
    exact ⟨p, vs, h1, e' _ _ h2, Reps.mono e h3, h4⟩
  · exact o.elim
theorem StR.grow (R : StR K T F0 H0 F H fp σ st) (g : Grow F H F' H') : StR K T F0 H0 F' H' fp σ st where
  s := g.s
  h0 := R.h0.trans g.h
  f0 := R.f0.trans g.f
  n := fun b o e => by
    rcases g.n b o e with q | q
    · exact R.n b o q
    · exact .inr (R.h0.free q)
  l := R.l
  fr := fun i d e => by
    obtain ⟨v, a, b⟩ := R.fr i d e
    exact ⟨v, a, Rep.mono g.f b⟩
  ow := fun i k d e => by
    obtain ⟨v, a, b⟩ := R.ow i k d e
    exact ⟨v, a, b.grow g.f g.h⟩
  no := R.no
  dj := R.dj
  fF := fun i a h => by
    obtain ⟨h1, h2, o, h3⟩ := R.fF i a h
    refine ⟨?_, h2, o, g.h _ _ h3⟩
    cases z : F' a with
    | none => rfl
    | some u =>
      rcases g.n a u z with q | q
      · rw [h1] at q
        cases q
      · rw [h3] at q
        cases q
theorem StR.only (R : StR K T F0 H0 F H fp σ st) (e : Same H H') : StR K T F0 H0 F H' fp σ st := R.grow (Grow.only R.s e)
theorem StR.back (R : StR K T F0 H0 F H fp σ st) (g : Grow F H F' H') : Grow F0 H0 F' H' :=
  ⟨R.f0.trans g.f, g.s, R.h0.trans g.h, fun b o e => by
    rcases g.n b o e with q | q
    · exact R.n b o q
    · exact .inr (R.h0.free q)⟩
open Classical in
/-- all that may be read -/
noncomputable def allF (F H : Hp) (fp : Nat → Addr → Prop) : Hp := fun b => if ∃ i, fp i b then H b else F b
theorem StR.all_s (R : StR K T F0 H0 F H fp σ st) : Same (allF F H fp) H := fun b o e => by
  unfold allF at e
  split at e
  · exact e
  · exact R.s b o e
theorem StR.all_f (R : StR K T F0 H0 F H fp σ st) : Same F (allF F H fp) := fun b o e => by
  unfold allF
  split
  · rename_i h
    obtain ⟨i, h⟩ := h
    rw [(R.fF i b h).1] at e
    cases e
  · exact e
theorem StR.all_n (R : StR K T F0 H0 F H fp σ st) : ∀ b o, allF F H fp b = some o → F0 b = some o ∨ H0 b = none := fun b o e => by
  unfold allF at e
  split at e
  · rename_i h
    obtain ⟨i, h⟩ := h
    exact .inr (R.fF i b h).2.1
  · exact R.n b o e
theorem Own.rep {k : Nat} {d : D} {v : V} {P : Addr → Prop} {G : Hp} (e : Same F G) (hg : ∀ a o, P a → H a = some o → G a = some o) (o : Own K T F H k d v P) : Rep K T G d v := by
  unfold Own at o
  split at o
  · obtain ⟨p, vs, h1, h2, h3, h4⟩ := o
    exact ⟨p, vs, h1, hg p _ ((h4 p).mpr rfl) h2, Reps.mono e h3⟩
  · exact o.elim
theorem envS_at {m : Bool} {i : Nat} {d : D} (e : (envS m st)[i]? = some (some d)) : st[i]? = some (.v d) ∨ (m = true ∧ ∃ k, st[i]? = some (.o k d)) := by
  unfold envS at e
  rw [List.getElem?_map] at e
  cases h : st[i]? with
  | none =>
    rw [h] at e
    cases e
  | some sl =>
    rw [h] at e
    cases m with
    | true =>
      cases sl with
      | u => cases e
      | v x =>
        cases e
        exact .inl rfl
      | o k x =>
        cases e
        exact .inr ⟨rfl, k, rfl⟩
    | false =>
      cases sl with
      | u => cases e
      | v x =>
        cases e
        exact .inl rfl
      | o k x => cases e
theorem StR.vwF (R : StR K T F0 H0 F H fp σ st) : Vw K T F H σ (envS false st) where
  s := R.s
  l := by
    unfold envS
    rw [List.length_map]
    exact R.l
  g := fun i d e => by
    rcases envS_at e with h | ⟨h, _⟩
    · exact R.fr i d h
    · cases h
theorem StR.vwT (R : StR K T F0 H0 F H fp σ st) : Vw K T (allF F H fp) H σ (envS true st) where
  s := R.all_s
  l := by
    unfold envS
    rw [List.length_map]
    exact R.l
  g := fun i d e => by
    rcases envS_at e with h | ⟨_, k, h⟩
    · obtain ⟨v, a, b⟩ := R.fr i d h
      exact ⟨v, a, Rep.mono R.all_f b⟩
    · obtain ⟨v, a, b⟩ := R.ow i k d h
      refine ⟨v, a, b.rep R.all_f fun c o hc e => ?_⟩
      unfold allF
      rw [if_pos ⟨i, hc⟩]
      exact e
/-- a slot takes a value that stays as it is -/
theorem StR.put (R : StR K T F0 H0 F H fp σ st) {i : Nat} {d : D} {v : V} (r : Rep K T F d v) : StR K T F0 H0 F H (fun j a => j ≠ i ∧ fp j a) ((σ : List (Option V)).set i (some v)) (st.set i (.v d)) where
  s := R.s
  h0 := R.h0
  f0 := R.f0
  n := R.n
  l := by
    rw [List.length_set, List.length_set]
    exact R.l
  fr := fun j x e => by
    have hl := R.l
    by_cases hj : i = j
    · subst hj
      rw [List.getElem?_set] at e
      simp only [ite_true] at e
      split at e
      · rename_i hi
        have e' : Sl.v d = Sl.v x := Option.some.inj e
        cases e'
        exact ⟨v, by rw [List.getElem?_set_self (by omega)], r⟩
      · cases e
    · rw [List.getElem?_set_ne hj] at e ⊢
      exact R.fr j x e
  ow := fun j k x e => by
    by_cases hj : i = j
    · subst hj
      rw [List.getElem?_set] at e
      simp only [ite_true] at e
      split at e
      · have e' : Sl.v d = Sl.o k x := Option.some.inj e
        cases e'
      · cases e
    · rw [List.getElem?_set_ne hj] at e ⊢
      obtain ⟨u, a, b⟩ := R.ow j k x e
      refine ⟨u, a, ?_⟩
      have ef : (fun a => j ≠ i ∧ fp j a) = fp j := funext fun a => propext ⟨fun h => h.2, fun h => ⟨fun z => hj z.symm, h⟩⟩
      rw [ef]
      exact b
  no := fun j a h => by
    obtain ⟨k, x, e⟩ := R.no j a h.2
    exact ⟨k, x, by rw [List.getElem?_set_ne (Ne.symm h.1)]; exact e⟩
  dj := fun i j a h h' => R.dj i j a h.2 h'.2
  fF := fun j a h => R.fF j a h.2
/-- a slot takes nothing -/
theorem StR.drop (R : StR K T F0 H0 F H fp σ st) {i : Nat} {v : Option V} : StR K T F0 H0 F H (fun j a => j ≠ i ∧ fp j a) ((σ : List (Option V)).set i v) (st.set i .u) where
  s := R.s
  h0 := R.h0
  f0 := R.f0
  n := R.n
  l := by
    rw [List.length_set, List.length_set]
    exact R.l
  fr := fun j x e => by
    by_cases hj : i = j
    · subst hj
      rw [List.getElem?_set] at e
      simp only [ite_true] at e
      split at e
      · have e' : Sl.u = Sl.v x := Option.some.inj e
        cases e'
      · cases e
    · rw [List.getElem?_set_ne hj] at e ⊢
      exact R.fr j x e
  ow := fun j k x e => by
    by_cases hj : i = j
    · subst hj
      rw [List.getElem?_set] at e
      simp only [ite_true] at e
      split at e
      · have e' : Sl.u = Sl.o k x := Option.some.inj e
        cases e'
      · cases e
    · rw [List.getElem?_set_ne hj] at e ⊢
      obtain ⟨u, a, b⟩ := R.ow j k x e
      refine ⟨u, a, ?_⟩
      have ef : (fun a => j ≠ i ∧ fp j a) = fp j := funext fun a => propext ⟨fun h => h.2, fun h => ⟨fun z => hj z.symm, h⟩⟩
      rw [ef]
      exact b
  no := fun j a h => by
    obtain ⟨k, x, e⟩ := R.no j a h.2
    exact ⟨k, x, by rw [List.getElem?_set_ne (Ne.symm h.1)]; exact e⟩
  dj := fun i j a h h' => R.dj i j a h.2 h'.2
  fF := fun j a h => R.fF j a h.2
/-- a slot takes a new list that the frame alone holds -/
theorem StR.own (R : StR K T F0 H0 F H fp σ st) {i p : Nat} {ds : List D} {vs : List V} (hi : i < st.length) (hF : F p = none) (h0 : H0 p = none) (hH : H p = some (.lst vs)) (hn : ∀ j, j ≠ i → ¬ fp j p) (r : Reps K T F ds vs) :
    StR K T F0 H0 F H (fun j a => (j = i ∧ a = p) ∨ (j ≠ i ∧ fp j a)) ((σ : List (Option V)).set i (some (.ref p))) (st.set i (.o 1 (.lst ds))) where
  s := R.s
  h0 := R.h0
  f0 := R.f0
  n := R.n
  l := by
    rw [List.length_set, List.length_set]
    exact R.l
  fr := fun j x e => by
    by_cases hj : i = j
    · subst hj
      rw [List.getElem?_set_self hi] at e
      have e' : Sl.o 1 (.lst ds) = Sl.v x := Option.some.inj e
      cases e'
    · rw [List.getElem?_set_ne hj] at e ⊢
      exact R.fr j x e
  ow := fun j k x e => by
    have hl := R.l
    by_cases hj : i = j
    · subst hj
      rw [List.getElem?_set_self hi] at e
      have e' : Sl.o 1 (.lst ds) = Sl.o k x := Option.some.inj e
      cases e'
      refine ⟨.ref p, by rw [List.getElem?_set_self (by omega)], p, vs, rfl, hH, r, fun a => ⟨fun h => ?_, fun h => .inl ⟨rfl, h⟩⟩⟩
      rcases h with h | h
      · exact h.2
      · exact absurd rfl h.1
    · rw [List.getElem?_set_ne hj] at e ⊢
      obtain ⟨u, a, b⟩ := R.ow j k x e
      refine ⟨u, a, ?_⟩
      have ef : (fun a => (j = i ∧ a = p) ∨ (j ≠ i ∧ fp j a)) = fp j := funext fun a => propext ⟨fun h => by
        rcases h with h | h
        · exact absurd h.1.symm hj
        · exact h.2, fun h => .inr ⟨fun z => hj z.symm, h⟩⟩
      rw [ef]
      exact b
  no := fun j a h => by
    rcases h with h | h
    · refine ⟨1, .lst ds, ?_⟩
      rw [h.1, List.getElem?_set_self hi]
    · obtain ⟨k, x, e⟩ := R.no j a h.2
      exact ⟨k, x, by rw [List.getElem?_set_ne (Ne.symm h.1)]; exact e⟩
  dj := fun j1 j2 a h h' => by
    rcases h with h | h <;> rcases h' with h' | h'
    · rw [h.1, h'.1]
    · rw [h.2] at h'
      exact absurd h'.2 (hn j2 h'.1)
    · rw [h'.2] at h
      exact absurd h.2 (hn j1 h.1)
    · exact R.dj j1 j2 a h.2 h'.2
  fF := fun j a h => by
    rcases h with h | h
    · rw [h.2]
      exact ⟨hF, h0, _, hH⟩
    · exact R.fF j a h.2
/-- the list that the frame alone holds changes -/
theorem StR.change (R : StR K T F0 H0 F H fp σ st) {i p : Nat} {ds' : List D} {vs' : List V} (hi : ∃ k d, st[i]? = some (.o k d)) (hp : ∀ a, fp i a ↔ a = p) (hσ : (σ : List (Option V))[i]? = some (some (.ref p))) (r : Reps K T F ds' vs') :
    StR K T F0 H0 F (upd H p (.lst vs')) fp σ (st.set i (.o 1 (.lst ds'))) := by
  have hpi : fp i p := (hp p).mpr rfl
  obtain ⟨k1, d1, e1⟩ := hi
  have hlt : i < st.length := (List.getElem?_eq_some_iff.mp e1).1
  refine ⟨fun b o e => ?_, fun b o e => ?_, R.f0, R.n, ?_, fun j x e => ?_, fun j k x e => ?_, fun j a h => ?_, R.dj, fun j a h => ?_⟩
  · rw [upd_ne (ne_of_none e (R.fF i p hpi).1)]
    exact R.s b o e
  · rw [upd_ne (ne_of_none e (R.fF i p hpi).2.1)]
    exact R.h0 b o e
  · rw [List.length_set]
    exact R.l
  · by_cases hj : i = j
    · subst hj
      rw [List.getElem?_set_self hlt] at e
      have e' : Sl.o 1 (.lst ds') = Sl.v x := Option.some.inj e
      cases e'
    · rw [List.getElem?_set_ne hj] at e
      exact R.fr j x e
  · by_cases hj : i = j
    · subst hj
      rw [List.getElem?_set_self hlt] at e
      have e' : Sl.o 1 (.lst ds') = Sl.o k x := Option.some.inj e
      cases e'
      exact ⟨.ref p, hσ, p, vs', rfl, upd_same, r, hp⟩
    · rw [List.getElem?_set_ne hj] at e
      obtain ⟨u, a, b⟩ := R.ow j k x e
      refine ⟨u, a, ?_⟩
      have np : ¬ fp j p := fun h => hj (R.dj i j p hpi h)
      unfold Own at b ⊢
      split at b
      · obtain ⟨q, us, h1, h2, h3, h4⟩ := b
        refine ⟨q, us, h1, ?_, h3, h4⟩
        rw [upd_ne (fun z => np (by rw [← z]; exact (h4 q).mpr rfl))]
        exact h2
      · exact b.elim
  · obtain ⟨k, x, e⟩ := R.no j a h
    by_cases hj : i = j
    · subst hj
      exact ⟨1, .lst ds', by rw [List.getElem?_set_self hlt]⟩
    · exact ⟨k, x, by rw [List.getElem?_set_ne hj]; exact e⟩
  · obtain ⟨h1, h2, o, h3⟩ := R.fF j a h
    refine ⟨h1, h2, ?_⟩
    by_cases ha : a = p
    · subst ha
      exact ⟨_, upd_same⟩
    · exact ⟨o, by rw [upd_ne ha]; exact h3⟩
/-- a slot's container is given up: it stays as it is from here on -/
theorem StR.frz (R : StR K T F0 H0 F H fp σ st) (i : Nat) : ∃ F' fp', StR K T F0 H0 F' H fp' σ (st.set i (frzS st[i]?)) := by
  cases hs : st[i]? with
  | none =>
    refine ⟨F, fp, ?_⟩
    rw [show st.set i (frzS none) = st from List.set_eq_of_length_le (by
      have := List.getElem?_eq_none_iff.mp hs
      omega)]
    exact R
  | some sl =>
    have hlt : i < st.length := (List.getElem?_eq_some_iff.mp hs).1
    have same : ∀ x, sl = x → st.set i x = st := fun x e => by
      refine List.ext_getElem? fun j => ?_
      by_cases hj : i = j
      · subst hj
        rw [List.getElem?_set_self hlt, hs, e]
      · rw [List.getElem?_set_ne hj]
    cases sl with
    | u => exact ⟨F, fp, by rw [show frzS (some Sl.u) = Sl.u from rfl, same _ rfl]; exact R⟩
    | v d => exact ⟨F, fp, by rw [show frzS (some (Sl.v d)) = Sl.v d from rfl, same _ rfl]; exact R⟩
    | o k d =>
      obtain ⟨v, hv, ho⟩ := R.ow i k d hs
      have hG : ∃ G, Same F G ∧ Same G H ∧ (∀ a o, G a = some o → F a = some o ∨ fp i a) ∧ ∀ a o, fp i a → H a = some o → G a = some o := by
        classical
        refine ⟨fun b => if fp i b then H b else F b, fun b o e => ?_, fun b o e => ?_, fun b o e => ?_, fun b o e e2 => ?_⟩
        · show (if fp i b then H b else F b) = some o
          by_cases h : fp i b
          · rw [(R.fF i b h).1] at e
            cases e
          · rw [if_neg h]
            exact e
        · have e : (if fp i b then H b else F b) = some o := e
          by_cases h : fp i b
          · rw [if_pos h] at e
            exact e
          · rw [if_neg h] at e
            exact R.s b o e
        · have e : (if fp i b then H b else F b) = some o := e
          by_cases h : fp i b
          · exact .inr h
          · rw [if_neg h] at e
            exact .inl e
        · show (if fp i b then H b else F b) = some o
          rw [if_pos e]
          exact e2
      obtain ⟨G, g1, g2, g3, g4⟩ := hG
      have r : Rep K T G d v := ho.rep g1 g4
      have hl := R.l
      refine ⟨G, fun j a => j ≠ i ∧ fp j a, g2, R.h0, R.f0.trans g1, fun b o e => ?_, ?_, fun j x e => ?_, fun j k' x e => ?_, fun j a h => ?_, fun i j a h h' => R.dj i j a h.2 h'.2, fun j a h => ?_⟩
      · rcases g3 b o e with q | q
        · exact R.n b o q
        · exact .inr (R.fF i b q).2.1
      · rw [List.length_set]
        exact R.l
      · by_cases hj : i = j
        · subst hj
          rw [List.getElem?_set_self hlt] at e
          have e' : Sl.v d = Sl.v x := Option.some.inj e
          cases e'
          exact ⟨v, hv, r⟩
        · rw [List.getElem?_set_ne hj] at e
          obtain ⟨u, a, b⟩ := R.fr j x e
          exact ⟨u, a, Rep.mono g1 b⟩
      · by_cases hj : i = j
        · subst hj
          rw [List.getElem?_set_self hlt] at e
          have e' : Sl.v d = Sl.o k' x := Option.some.inj e
          cases e'
        · rw [List.getElem?_set_ne hj] at e
          obtain ⟨u, a, b⟩ := R.ow j k' x e
          refine ⟨u, a, ?_⟩
          have ef : (fun a => j ≠ i ∧ fp j a) = fp j := funext fun a => propext ⟨fun h => h.2, fun h => ⟨fun z => hj z.symm, h⟩⟩
          rw [ef]
          exact b.grow g1 (Same.refl H)
      · obtain ⟨k2, x, e⟩ := R.no j a h.2
        exact ⟨k2, x, by rw [List.getElem?_set_ne (Ne.symm h.1)]; exact e⟩
      · obtain ⟨h1, h2, o, h3⟩ := R.fF j a h.2
        refine ⟨?_, h2, o, h3⟩
        cases z : G a with
        | none => rfl
        | some u =>
          rcases g3 a u z with q | q
          · rw [h1] at q
            cases q
          · exact absurd (R.dj i j a q h.2) (Ne.symm h.1)
open Classical in
/-- without the frame's own lists -/
noncomputable def offF (G : Hp) (fp : Nat → Addr → Prop) : Hp := fun b => if ∃ i, fp i b then none else G b
theorem offF_at {G : Hp} {b : Addr} {o : HO} (e : offF G fp b = some o) : G b = some o ∧ ¬ ∃ i, fp i b := by
  unfold offF at e
  split at e
  · cases e
  · exact ⟨e, by assumption⟩
theorem offF_of {G : Hp} {b : Addr} (h : ¬ ∃ i, fp i b) : offF G fp b = G b := if_neg h
theorem StR.own_lst (R : StR K T F0 H0 F H fp σ st) {i : Nat} {a : Addr} (h : fp i a) : ∃ xs, H a = some (.lst xs) := by
  obtain ⟨k, d, e⟩ := R.no i a h
  obtain ⟨v, _, o⟩ := R.ow i k d e
  unfold Own at o
  split at o
  · obtain ⟨p, vs, _, h2, _, h4⟩ := o
    rw [(h4 a).mp h]
    exact ⟨_, h2⟩
  · exact o.elim
theorem StR.less_f (R : StR K T F0 H0 F H fp σ st) (g : Grow (allF F H fp) H F' H') : Same F (offF F' fp) := fun b o e => by
  have hb : ¬ ∃ i, fp i b := fun ⟨i, h⟩ => by
    rw [(R.fF i b h).1] at e
    cases e
  rw [offF_of hb]
  exact g.f _ _ (R.all_f _ _ e)
theorem StR.less (R : StR K T F0 H0 F H fp σ st) (g : Grow (allF F H fp) H F' H') : StR K T F0 H0 (offF F' fp) H' fp σ st where
  s := fun b o e => g.s _ _ (offF_at e).1
  h0 := R.h0.trans g.h
  f0 := R.f0.trans (R.less_f g)
  n := fun b o e => by
    obtain ⟨e, hb⟩ := offF_at e
    rcases g.n b o e with q | q
    · unfold allF at q
      rw [if_neg hb] at q
      exact R.n b o q
    · exact .inr (R.h0.free q)
  l := R.l
  fr := fun i d e => by
    obtain ⟨v, a, b⟩ := R.fr i d e
    exact ⟨v, a, Rep.mono (R.less_f g) b⟩
  ow := fun i k d e => by
    obtain ⟨v, a, b⟩ := R.ow i k d e
    exact ⟨v, a, b.grow (R.less_f g) g.h⟩
  no := R.no
  dj := R.dj
  fF := fun i a h => by
    obtain ⟨h1, h2, o, h3⟩ := R.fF i a h
    exact ⟨if_pos ⟨i, h⟩, h2, o, g.h _ _ h3⟩
mutual
theorem StR.off (R : StR K T F0 H0 F H fp σ st) (g : Grow (allF F H fp) H F' H') : ∀ {d : D} {v : V}, d.kept = true → Rep K T F' d v → Rep K T (offF F' fp) d v
  | .non, _, _, h => h
  | .bool _, _, _, h => h
  | .int _, _, _, h => h
  | .str _, _, _, h => h
  | .tup ds, v, hk, ⟨a, vs, h1, h2, h3⟩ => by
    refine ⟨a, vs, h1, ?_, StR.offs R g hk h3⟩
    have hb : ∀ u, F' a = some u → (∀ xs, u ≠ .lst xs) → ¬ ∃ i, fp i a := fun u e hu ⟨i, h⟩ => by
      obtain ⟨xs, hx⟩ := R.own_lst h
      have e1 := g.s _ _ e
      rw [g.h _ _ hx] at e1
      cases e1
      exact hu _ rfl
    rcases h2 with (q | ⟨o, q⟩) | q
    · exact .inl (.inl (by rw [offF_of (hb _ q fun xs z => by cases z)]; exact q))
    · exact .inl (.inr ⟨o, by rw [offF_of (hb _ q fun xs z => by cases z)]; exact q⟩)
    · exact .inr q
theorem StR.offs (R : StR K T F0 H0 F H fp σ st) (g : Grow (allF F H fp) H F' H') : ∀ {ds : List D} {vs : List V}, D.kepts ds = true → Reps K T F' ds vs → Reps K T (offF F' fp) ds vs
  | [], _, _, h => h
  | d :: ds, _, hk, ⟨v, r, h1, h2, h3⟩ => by
    obtain ⟨k1, k2⟩ := Bool.and_eq_true_iff.mp (show (d.kept && D.kepts ds) = true from hk)
    exact ⟨v, r, h1, StR.off R g k1 h2, StR.offs R g k2 h3⟩
end
end
end Py

namespace Py
open PySem L2

/-- what is wanted behind a statement that computes r; N: it hands back a new list -/
def PostS (K : PySem.W.Frag) (T : Tab) (W : WX) (N : Bool) (F0 H0 : Hp) (D : Ends) : Cf → Prop
  | .nx st => ∀ F H fp σ, StR K T F0 H0 F H fp σ st → D.nx σ H
  | .bk st => ∀ F H fp σ, StR K T F0 H0 F H fp σ st → D.bk σ H
  | .ct st => ∀ F H fp σ, StR K T F0 H0 F H fp σ st → D.ct σ H
  | .rt d => match N with
    | false => ∀ v F H, Grow F0 H0 F H → Rep K T F d v → D.rt v H
    | true => ∀ ds p vs F H, d = .lst ds → Grow F0 H0 F H → H0 p = none → F p = none → H p = some (.lst vs) → Reps K T F ds vs → D.rt (.ref p) H
  | .ex c fs st => ∀ dx F H fp σ, StR K T F0 H0 F H fp σ st → ExR K c fs dx H → W (.ref (T.addr c)) dx σ H
  | .no => False
def rdS (K : PySem.W.Frag) (T : Tab) (W : WX) (N : Bool) (F0 H0 : Hp) (f : Py.St → Cf) : TS := fun D σ H =>
  LenOk K H → ∃ F fp st, StR K T F0 H0 F H fp σ st ∧ PostS K T W N F0 H0 D (f st)

section
variable {X : Cx} {T : Tab} {W : WX} {N : Bool} {F0 H0 : Hp} {pos p2 p3 : Pos}
theorem ps_of {s : Stmt} {t : TS} {f : Py.St → Cf} (h : PS X s t) (imp : ∀ D σ H, LenOk X.K H → (∃ F fp st, StR X.K T F0 H0 F H fp σ st ∧ PostS X.K T W N F0 H0 D (f st)) → t D σ H) : PS X s (rdS X.K T W N F0 H0 f) :=
  ⟨fun pins s σ H D I q => h.run pins s σ H D I (imp D σ H (lenOk_of I) (q (lenOk_of I)))⟩
theorem pss_of {s : List Stmt} {t : TS} {f : Py.St → Cf} (h : PSs X s t) (imp : ∀ D σ H, LenOk X.K H → (∃ F fp st, StR X.K T F0 H0 F H fp σ st ∧ PostS X.K T W N F0 H0 D (f st)) → t D σ H) : PSs X s (rdS X.K T W N F0 H0 f) :=
  ⟨fun pins s σ H D I q => h.run pins s σ H D I (imp D σ H (lenOk_of I) (q (lenOk_of I)))⟩
/-- an expression's value, then what follows -/
theorem cf_rd {α β : Type} {rel : Hp → α → β → Prop} {m : Bool} {g : Env → R α} {k : α → Cf} {F H : Hp} {fp : Nat → Addr → Prop} {σ : L2.St} {st : Py.St} {D : Ends} {Q : β → Hp → Prop} (R : StR X.K T F0 H0 F H fp σ st)
    (q : PostS X.K T W N F0 H0 D ((g (envS m st)).cf st k))
    (h : ∀ a v F' H', g (envS m st) = .ok a → (m = false → Grow F H F' H') → (m = true → Grow (allF F H fp) H F' H') → rel F' a v → PostS X.K T W N F0 H0 D (k a) → Q v H') : rdG X.K T W rel g σ H Q := by
  intro _
  cases m with
  | false =>
    refine ⟨F, envS false st, R.vwF, ?_⟩
    cases e : g (envS false st) with
    | ok a =>
      rw [e] at q
      exact fun v F' H' gr r => h a v F' H' e (fun _ => gr) (fun z => by cases z) r q
    | ex c fs =>
      rw [e] at q
      exact fun dx H' s x => q dx F H' fp σ (R.only s) x
    | no =>
      rw [e] at q
      exact q
  | true =>
    refine ⟨allF F H fp, envS true st, R.vwT, ?_⟩
    cases e : g (envS true st) with
    | ok a =>
      rw [e] at q
      exact fun v F' H' gr r => h a v F' H' e (fun z => by cases z) (fun _ => gr) r q
    | ex c fs =>
      rw [e] at q
      exact fun dx H' s x => q dx F H' fp σ (R.only s) x
    | no =>
      rw [e] at q
      exact q
/-- behind a value that may be kept -/
theorem keep {m : Bool} {d : D} {v : V} {F H F' H' : Hp} {fp : Nat → Addr → Prop} {σ : L2.St} {st : Py.St} (R : StR X.K T F0 H0 F H fp σ st) (hm : okM m d = true) (g1 : m = false → Grow F H F' H') (g2 : m = true → Grow (allF F H fp) H F' H') (r : Rep X.K T F' d v) :
    ∃ F'', StR X.K T F0 H0 F'' H' fp σ st ∧ Rep X.K T F'' d v := by
  cases m with
  | false => exact ⟨F', R.grow (g1 rfl), r⟩
  | true => exact ⟨_, R.less (g2 rfl), R.off (g2 rfl) hm r⟩
theorem StR.hold {F H F' H' : Hp} {fp : Nat → Addr → Prop} {σ : L2.St} {st : Py.St} {m : Bool} (R : StR X.K T F0 H0 F H fp σ st) (g1 : m = false → Grow F H F' H') (g2 : m = true → Grow (allF F H fp) H F' H') : ∃ F'', StR X.K T F0 H0 F'' H' fp σ st := by
  cases m with
  | false => exact ⟨F', R.grow (g1 rfl)⟩
  | true => exact ⟨F, R.only (g2 rfl).h⟩

/-! ### small statements -/
theorem ss_nil : PSs X [] (rdS X.K T W N F0 H0 fun st => .nx st) := by
  refine pss_of pss_nil fun D σ H _ ⟨F, fp, st, R, q⟩ => ?_
  exact q F H fp σ R
theorem ss_cons {s : Stmt} {ss : List Stmt} {f g : Py.St → Cf} (h1 : PS X s (rdS X.K T W N F0 H0 f)) (h2 : PSs X ss (rdS X.K T W N F0 H0 g)) : PSs X (s :: ss) (rdS X.K T W N F0 H0 fun st => match f st with
    | .nx st' => g st'
    | r => r) := by
  refine pss_of (pss_cons h1 h2) fun D σ H _ ⟨F, fp, st, R, q⟩ _ => ⟨F, fp, st, R, ?_⟩
  cases e : f st with
  | nx st' =>
    rw [e] at q
    exact fun F' H' fp' σ' R' _ => ⟨F', fp', st', R', q⟩
  | _ =>
    rw [e] at q
    exact q
theorem ss_pass : PS X (.Pass pos) (rdS X.K T W N F0 H0 fun st => .nx st) := ps_of ps_pass fun D σ H _ ⟨F, fp, st, R, q⟩ => q F H fp σ R
theorem ss_brk : PS X (.Break pos) (rdS X.K T W N F0 H0 fun st => .bk st) := ps_of ps_break fun D σ H _ ⟨F, fp, st, R, q⟩ => q F H fp σ R
theorem ss_cont : PS X (.Continue pos) (rdS X.K T W N F0 H0 fun st => .ct st) := ps_of ps_continue fun D σ H _ ⟨F, fp, st, R, q⟩ => q F H fp σ R
theorem ss_ret {e : Expr} {f : Env → R D} (he : PE X e (rdE X.K T W f)) : PS X (.Return (some e) pos) (rdS X.K T W false F0 H0 fun st => (f (envS true st)).cf st fun d => .rt d) := by
  refine ps_of (ps_ret he) fun D σ H _ ⟨F, fp, st, R, q⟩ => ?_
  refine cf_rd R q fun d v F' H' e1 _ g2 r q2 => ?_
  refine q2 v F' H' ⟨(R.f0.trans R.all_f).trans (g2 rfl).f, (g2 rfl).s, R.h0.trans (g2 rfl).h, fun b o e => ?_⟩ r
  rcases (g2 rfl).n b o e with z | z
  · exact R.all_n b o z
  · exact .inr (R.h0.free z)
theorem ss_expr {e : Expr} {f : Env → R D} (he : PE X e (rdE X.K T W f)) (hs : swapsWith e none pos.line X.env = pure false) : PS X (.Expr e pos) (rdS X.K T W N F0 H0 fun st => (f (envS true st)).cf st fun _ => .nx st) := by
  refine ps_of (ps_expr he hs) fun D σ H _ ⟨F, fp, st, R, q⟩ => ?_
  refine cf_rd R q fun d v F' H' e1 _ g2 r q2 => ?_
  exact q2 F H' fp σ (R.only (g2 rfl).h)
theorem ss_if {c : Expr} {a b : List Stmt} {t : Env → R Bool} {f g : Py.St → Cf} (hc : PT X c (rdT X.K T W t)) (ha : PSs X a (rdS X.K T W N F0 H0 f)) (hb : PSs X b (rdS X.K T W N F0 H0 g)) :
    PS X (.If c a b pos) (rdS X.K T W N F0 H0 fun st => (t (envS true st)).cf st fun k => if k then f st else g st) := by
  refine ps_of (ps_if hc ha hb) fun D σ H _ ⟨F, fp, st, R, q⟩ => ?_
  refine cf_rd (rel := relB) R q fun k v F' H' e1 _ g2 r q2 => ?_
  have r : k = v := r
  subst r
  cases k with
  | true => exact fun _ => ⟨F, fp, st, R.only (g2 rfl).h, q2⟩
  | false => exact fun _ => ⟨F, fp, st, R.only (g2 rfl).h, q2⟩
/-- p = e -/
theorem asg_imp {m : Bool} {p : Pat} {f : Env → R D} {te : TE} (hte : ∀ σ H Q, LenOk X.K H → (∃ F env, Vw X.K T F H σ env ∧ Post X.K T (relD X.K T) (fun c d H' => W c d σ H') F H (f env) Q) → te σ H Q) :
    ∀ D σ H, LenOk X.K H → (∃ F fp st, StR X.K T F0 H0 F H fp σ st ∧ PostS X.K T W N F0 H0 D ((f (envS m st)).cf st fun d => if okM m d then (bindP p d st).cf st Cf.nx else .no)) → tAsg te (gP X.K p) D σ H := by
  intro D σ H L ⟨F, fp, st, R, q⟩
  refine hte σ H _ L (cf_rd (rel := relD X.K T) R q (fun d v F' H' e1 g1 g2 r q2 => ?_) L)
  split at q2
  · rename_i hm
    obtain ⟨F2, R2, r2⟩ := keep R hm g1 g2 r
    cases hb : bindP p d st with
    | ok st' =>
      rw [hb] at q2
      refine gP_ok (put := putP) (F := F2) (Pr := fun σ' s' => ∃ fp', StR X.K T F0 H0 F2 H' fp' σ' s') R2.s p (fun i u x σ1 a _ hr ⟨fp', Ra⟩ => ⟨_, Ra.put hr⟩) r2 hb ⟨fp, R2⟩ fun σ' ⟨fp', R3⟩ => ?_
      exact q2 F2 H' fp' σ' R3
    | ex c fs =>
      exact absurd hb (bindG_noex p d st c fs)
    | no =>
      rw [hb] at q2
      exact q2.elim
  · exact q2.elim
theorem ss_set {m : Bool} {i : Nat} {x : Str} {e : Expr} {f : Env → R D} (hN : X.N.Nodup) (hi : X.N[i]? = some x) (hx : Loc X.env.scope x) (hf : X.fn x = true ∨ X.env.scope.names.lookup x = some .local) (he : PE X e (rdE X.K T W f)) (hs : swapsWith e (some (.Name x p2)) pos.line X.env = pure false) :
    PS X (.Assign [.Name x p2] e pos) (rdS X.K T W N F0 H0 fun st => (f (envS m st)).cf st fun d => if okM m d then (bindP (.v i) d st).cf st Cf.nx else .no) :=
  ps_of (ps_set hN hi hx he hs hf) (asg_imp (p := .v i) fun σ H Q L h _ => h)
theorem ss_asg {m : Bool} {p : Pat} {tg e : Expr} {f : Env → R D} (hg : PG X tg (gP X.K p)) (he : PE X e (rdE X.K T W f)) (hs : swapsWithSole [tg] e pos.line X.env = pure false) (hw : swappedStores [tg] e X.env = pure none)
    (h1 : (assignEach [tg] X.env).map (·.2) = [assign tg X.env]) :
    PS X (.Assign [tg] e pos) (rdS X.K T W N F0 H0 fun st => (f (envS m st)).cf st fun d => if okM m d then (bindP p d st).cf st Cf.nx else .no) :=
  ps_of (ps_asg he hg hs hw h1) (asg_imp (p := p) fun σ H Q L h _ => h)
/-- name = [..] -/
theorem ss_setLc {m : Bool} {i : Nat} {y : Str} {elt iter tg : Expr} {ifs : List Expr} {scope : Scope} {own : List (Str × Nat)} {vs : List Nat} {p : Pat} {fi : Env → R (List D)} {fc : Env → R Bool} {fe : Env → R D} (hc : X.calm = true) (nd : X.N.Nodup) (hy : X.N[i]? = some y) (hyl : X.env.scope.names.lookup y = some .local)
    (hsw : swapsWith (.ListComp elt [⟨tg, iter, ifs, 0⟩] scope p3) (some (.Name y p2)) pos.line X.env = pure true) (hi : PI X tg iter (rdI X.K T W fi)) (ok : BlkOk X.N X.env.scope scope own)
    (hv : own.map (·.2) = vs) (hpi : ∀ i ∈ p.ix, i ∈ vs)
    (hg : ∀ (s : Shared) (H : Hp) (C : Addr) (cl : List (Str × Addr)) (fp : List Addr), PG (X.blk s H scope (compEnvC scope cl C X.env) fp) tg (gP X.K p))
    (ht : ∀ (s : Shared) (H : Hp) (C : Addr) (cl : List (Str × Addr)) (fp : List Addr), PTs (X.blk s H scope (compEnvC scope cl C X.env) fp) ifs (rdT X.K T W0 fc))
    (he : ∀ (s : Shared) (H : Hp) (C : Addr) (cl : List (Str × Addr)) (fp : List Addr), PE (X.blk s H scope (compEnvC scope cl C X.env) fp) elt (rdE X.K T W0 fe)) (hs : ∀ x, foldedSetIterable iter X.env x = pure x) :
    PS X (.Assign [.Name y p2] (.ListComp elt [⟨tg, iter, ifs, 0⟩] scope p3) pos) (rdS X.K T W N F0 H0 fun st => ((fi (envS m st)).bind fun xs => (compD xs fun x =>
      (bindG putE p x (wipeD (envS m st) vs)).bind fun env' => (fc env').bind fun t => if t then (fe env').map some else .ok none).map D.lst).cf st fun d => if okM m d then (bindP (.v i) d st).cf st Cf.nx else .no) := by
  subst hv
  exact ps_of (ps_setLc hc nd hy hyl hsw hi ok hg ht he hs) (asg_imp (p := .v i) (f := fun env => (fi env).bind fun xs => (compD xs fun x =>
      (bindG putE p x (wipeD env (own.map (·.2)))).bind fun env' => (fc env').bind fun t => if t then (fe env').map some else .ok none).map D.lst) fun σ H Q L ⟨F, env, vw, q⟩ => lc_imp hpi ⟨F, env, vw, PostN.of q (lc_lst _ _)⟩)

/-! ### new lists -/
/-- an expression's value is a new list -/
def rdN (K : PySem.W.Frag) (T : Tab) (W : WX) (f : Env → R D) : TE := fun σ H Q => LenOk K H → ∃ F env, Vw K T F H σ env ∧ PostN K T (fun c d H' => W c d σ H') F H (f env) Q
theorem pn_of {e : Expr} {t : TE} {f : Env → R D} (h : PE X e t) (imp : ∀ σ H Q, LenOk X.K H → (∃ F env, Vw X.K T F H σ env ∧ PostN X.K T (fun c d H' => W c d σ H') F H (f env) Q) → t σ H Q) : PE X e (rdN X.K T W f) :=
  ⟨fun pins s σ H Q I q => h.run pins s σ H Q I (imp σ H Q (lenOk_of I) (q (lenOk_of I)))⟩
theorem PostN.lst {F H : Hp} {W' : Value → Option Addr → Hp → Prop} {ds : List D} {vs : List V} {Q : VK} {p : Addr} (s : Same F H) (h : PostN X.K T W' F H (.ok (.lst ds)) Q) (r : Reps X.K T F ds vs) (n : H p = none) : Q (.ref p) (upd H p (.lst vs)) :=
  h p vs F (upd H p (.lst vs)) (Grow.only s (Same.upd n)) n (s.free n) upd_same r
theorem n_lst {es : List Expr} {g : Env → R (List D)} (hn : es.length ≤ 1000) (hr : PA X es (rdA X.K T W g)) (hl : ∀ env ds, g env = .ok ds → ds.length = es.length) : PE X (.List es pos) (rdN X.K T W fun env => (g env).map D.lst) := by
  refine pn_of (pe_lst hr) fun σ H Q _ ⟨F, env, vw, q⟩ => ?_
  refine vw.rd (Post.imp (PostN.bind' (rel := relL X.K T) q) fun y H2 ⟨F2, d2, e2, g2, r2, q2⟩ => ?_)
  refine ⟨?_, fun p hp => PostN.lst g2.s q2 r2 hp⟩
  rw [Reps.length r2, hl env d2 e2]
  exact Nat.le_trans hn (by decide)
theorem n_bin {o : BOp} {a b : Expr} {f g : Env → R D} (ho : o = .add ∨ o = .mul) (ha : PE X a (rdE X.K T W f)) (hb : PE X b (rdE X.K T W g)) :
    PE X (.BinOp a (bop o) b pos) (rdN X.K T W fun env => (f env).bind fun x => (g env).bind fun y => binD o x y) := by
  have op : OpR X (binaryOp (bop o)) (fun x y H Q => ∃ F W' a b, Same F H ∧ Rep X.K T F a x ∧ Rep X.K T F b y ∧ PostN X.K T W' F H (binD o a b) Q) := by
    intro pins s σ H x y v u Q I rx ry ⟨F, W', a, b, sF, ra, rb, q⟩
    rcases ho with rfl | rfl
    · cases a <;> cases b <;> first | exact q.elim | skip
      · rename_i s1 t1
        have q : PostN X.K T W' F H (if s1.length + t1.length ≤ cap then .ok (.str (s1 ++ t1)) else .no) Q := q
        split at q <;> exact q.elim
      · rename_i s1 t1
        have q : PostN X.K T W' F H (if s1.length + t1.length ≤ cap then .ok (.tup (s1 ++ t1)) else .no) Q := q
        split at q <;> exact q.elim
      · rename_i s1 t1
        have q : PostN X.K T W' F H (if s1.length + t1.length ≤ cap then .ok (.lst (s1 ++ t1)) else .no) Q := q
        split at q
        · rename_i hz
          obtain ⟨a1, vs, rfl, h1, r1⟩ := ra
          obtain ⟨b1, us, rfl, h2, r2⟩ := rb
          have l1 := Reps.length r1
          have l2 := Reps.length r2
          exact op_cat pins s σ H _ _ v u Q I rx ry ⟨a1, b1, vs, us, rfl, rfl, sF _ _ h1, sF _ _ h2, le_line (by rw [l1, l2]; exact hz), fun p hp => PostN.lst sF q (Reps.app r1 r2) hp⟩
        · exact q.elim
    · cases a <;> cases b <;> first | exact q.elim | skip
      · rename_i i j
        have q : PostN X.K T W' F H (if mulOk i j then .ok (.int (i * j)) else .no) Q := q
        split at q <;> exact q.elim
      · rename_i s1 n
        have q : PostN X.K T W' F H (if 2 ≤ n ∧ n ≤ 1000 ∧ s1.length ≤ 1000 ∧ s1 ≠ [] then .ok (.tup (repD s1 n)) else .no) Q := q
        split at q <;> exact q.elim
      · rename_i s1 n
        have q : PostN X.K T W' F H (if n ≤ (cap : Int) ∧ -(cap : Int) ≤ n ∧ s1.length * n.toNat ≤ cap then .ok (.lst (repD s1 n)) else .no) Q := q
        split at q
        · rename_i hz
          obtain ⟨h1, h2, h3⟩ := hz
          obtain ⟨a1, vs, rfl, g1, r1⟩ := ra
          cases rb
          have l1 := Reps.length r1
          have c1 : (cap : Int) = 100000 := rfl
          exact op_rep pins s σ H _ _ v u Q I rx ry ⟨a1, n, vs, rfl, rfl, sF _ _ g1, by omega, by omega, le_line (by rw [l1]; exact h3), fun p hp => PostN.lst sF q (Reps.rep r1 _) hp⟩
        · exact q.elim
  refine pn_of (pe_op op ha hb) fun σ H Q _ ⟨F, env, vw, q⟩ => ?_
  refine vw.rd (Post.imp (PostN.bind (rel := relD X.K T) q) fun x H1 ⟨F1, d1, e1, g1, r1, q1⟩ => ?_)
  refine (vw.grow g1).rd (Post.imp (PostN.bind (rel := relD X.K T) q1) fun y H2 ⟨F2, d2, e2, g2, r2, q2⟩ => ?_)
  exact ⟨F2, _, d1, d2, g2.s, Rep.mono g2.f r1, r2, q2⟩
theorem n_slice {a : Expr} {lo hi : Option Expr} {f : Env → R D} {l h : Env → R (Option Int)} (ha : PE X a (rdE X.K T W f)) (hl : PO X lo (rdO X.K T W l)) (hh : PO X hi (rdO X.K T W h)) :
    PE X (.Subscript a (.Slice lo hi none p2) pos) (rdN X.K T W fun env => (f env).bind fun x => (l env).bind fun l => (h env).bind fun h => sliceD l h x) := by
  have sl : SlR X (fun x lo hi H Q => ∃ F W' a, Same F H ∧ Rep X.K T F a x ∧ PostN X.K T W' F H (sliceD lo hi a) Q) := by
    intro pins s σ H x v vl vu lo hi sl Q I rx hs pl pu ⟨F, W', a, sF, ra, q⟩
    cases a <;> first | exact q.elim | skip
    · rename_i z
      have q : PostN X.K T W' F H (if z.length ≤ cap then .ok (.str (cutL z lo hi)) else .no) Q := q
      split at q <;> exact q.elim
    · rename_i xs
      obtain ⟨p, vs, rfl, h1, h2⟩ := ra
      exact sl_list pins s σ H _ v vl vu lo hi sl Q I rx hs pl pu ⟨p, vs, rfl, .inl (.inl (sF _ _ h1)), fun p2 hp => PostN.lst sF q (cut_reps h2 lo hi) hp⟩
  refine pn_of (pe_slice sl ha hl hh) fun σ H Q _ ⟨F, env, vw, q⟩ => ?_
  refine vw.rd (Post.imp (PostN.bind (rel := relD X.K T) q) fun x H1 ⟨F1, d1, e1, g1, r1, q1⟩ => ?_)
  refine (vw.grow g1).rd (Post.imp (PostN.bind (rel := relO) q1) fun y H2 ⟨F2, d2, e2, g2, r2, q2⟩ => ?_)
  refine ((vw.grow g1).grow g2).rd (Post.imp (PostN.bind (rel := relO) q2) fun z H3 ⟨F3, d3, e3, g3, r3, q3⟩ => ?_)
  have r2 : d2 = y := r2
  have r3 : d3 = z := r3
  subst r2 r3
  exact ⟨F3, _, d1, g3.s, Rep.mono g3.f (Rep.mono g2.f r1), q3⟩
theorem n_rev {a : Expr} {f : Env → R D} {k : Nat} {p1 p2 p3 : Pos} (ha : PE X a (rdE X.K T W f)) : PE X (.Subscript a (.Slice none none (some (.UnaryOp .USub (.Constant (.int 1) k p1) p2)) p3) pos) (rdN X.K T W fun env => (f env).bind revD) := by
  refine pn_of (pe_revL ha) fun σ H Q _ ⟨F, env, vw, q⟩ => ?_
  refine vw.rd (Post.imp (PostN.bind (rel := relD X.K T) q) fun x H1 ⟨F1, d1, e1, g1, r1, q1⟩ => ?_)
  cases d1 <;> first | exact q1.elim | skip
  obtain ⟨a, vs, rfl, h1, h2⟩ := r1
  exact ⟨a, vs, rfl, .inl (.inl (g1.s _ _ h1)), fun p hp => PostN.lst g1.s q1 (Reps.reverse h2) hp⟩
theorem n_list {e : Expr} {es : List Expr} {g : Env → R (List D)} (hg : Gl X ("list" : Str)) (hm : X.mg ("list" : Str) = none) (hp : ((e :: es).all isPlain) = true) (ha : PA X (e :: es) (rdA X.K T W g)) :
    PE X (.Call (.Name ("list" : Str) p2) (e :: es) [] pos) (rdN X.K T W fun env => (g env).bind (biD .list)) := by
  have hp' : (isPlain e && es.all isPlain) = true := hp
  obtain ⟨p1, p2'⟩ := Bool.and_eq_true_iff.mp hp'
  refine pn_of (pe_callTy call_list_of hg hm (boot_bi .list) ha (name_bi .list) (dbg_bi .list) (star_plain p1 es X.env) (star_none p2')) fun σ H Q _ ⟨F, env, vw, q⟩ => ?_
  refine vw.rd (Post.imp (PostN.bind (rel := relL X.K T) q) fun vs H1 ⟨F1, d1, e1, g1, r1, q1⟩ => ?_)
  cases d1 with
  | nil => exact q1.elim
  | cons d rest =>
    cases rest with
    | nil =>
      cases d <;> first | exact q1.elim | skip
      · obtain ⟨v, rfl, a, us, rfl, h1, h2⟩ := reps1 r1
        exact ⟨a, us, rfl, .inr (sameT g1.s h1), fun l hl => PostN.lst g1.s q1 h2 hl⟩
      · obtain ⟨v, rfl, a, us, rfl, h1, h2⟩ := reps1 r1
        exact ⟨a, us, rfl, .inl (.inl (.inl (g1.s _ _ h1))), fun l hl => PostN.lst g1.s q1 h2 hl⟩
    | cons d2 rest2 => cases d <;> exact q1.elim
theorem n_lc {elt iter tg : Expr} {ifs : List Expr} {scope : Scope} {own : List (Str × Nat)} {vs : List Nat} {p : Pat} {fi : Env → R (List D)} {fc : Env → R Bool} {fe : Env → R D} (hc : X.calm = true) (nd : X.N.Nodup) (hi : PI X tg iter (rdI X.K T W fi)) (ok : BlkOk X.N X.env.scope scope own)
    (hv : own.map (·.2) = vs) (hpi : ∀ i ∈ p.ix, i ∈ vs)
    (hg : ∀ (s : Shared) (H : Hp) (C : Addr) (cl : List (Str × Addr)) (fp : List Addr), PG (X.blk s H scope (compEnvC scope cl C X.env) fp) tg (gP X.K p))
    (ht : ∀ (s : Shared) (H : Hp) (C : Addr) (cl : List (Str × Addr)) (fp : List Addr), PTs (X.blk s H scope (compEnvC scope cl C X.env) fp) ifs (rdT X.K T W0 fc))
    (he : ∀ (s : Shared) (H : Hp) (C : Addr) (cl : List (Str × Addr)) (fp : List Addr), PE (X.blk s H scope (compEnvC scope cl C X.env) fp) elt (rdE X.K T W0 fe)) (hs : ∀ x, foldedSetIterable iter X.env x = pure x) :
    PE X (.ListComp elt [⟨tg, iter, ifs, 0⟩] scope pos) (rdN X.K T W fun env => (fi env).bind fun xs => (compD xs fun x =>
      (bindG putE p x (wipeD env vs)).bind fun env' => (fc env').bind fun t => if t then (fe env').map some else .ok none).map D.lst) := by
  subst hv
  exact pn_of (pe_lc hc nd hi ok hg ht he hs) fun σ H Q _ h => lc_imp hpi h
end
end Py

namespace Py
open PySem L2

section
variable {X : Cx} {T : Tab} {W : WX} {N : Bool} {F0 H0 : Hp} {pos p2 p3 : Pos}
/-- no statement: a slot's container is given up -/
theorem ss_frz {ss : List Stmt} {g : Py.St → Cf} (i : Nat) (h : PSs X ss (rdS X.K T W N F0 H0 g)) : PSs X ss (rdS X.K T W N F0 H0 fun st => g (st.set i (frzS st[i]?))) := by
  refine pss_of h fun D σ H _ ⟨F, fp, st, R, q⟩ _ => ?_
  obtain ⟨F', fp', R'⟩ := R.frz i
  exact ⟨F', fp', _, R', q⟩
/-- a new list's value, then what follows -/
theorem cf_rdN {m : Bool} {g : Env → R D} {k : D → Cf} {F H : Hp} {fp : Nat → Addr → Prop} {σ : L2.St} {st : Py.St} {D : Ends} {Q : VK} (R : StR X.K T F0 H0 F H fp σ st)
    (q : PostS X.K T W N F0 H0 D ((g (envS m st)).cf st k)) (hl : ∀ d, g (envS m st) = .ok d → (∃ ds, d = .lst ds) ∨ k d = .no)
    (h : ∀ ds p vs F' H', g (envS m st) = .ok (.lst ds) → (m = false → Grow F H F' H') → (m = true → Grow (allF F H fp) H F' H') → H p = none → F' p = none → H' p = some (.lst vs) → Reps X.K T F' ds vs → PostS X.K T W N F0 H0 D (k (.lst ds)) → Q (.ref p) H') : rdN X.K T W g σ H Q := by
  intro _
  cases m with
  | false =>
    refine ⟨F, envS false st, R.vwF, ?_⟩
    cases e : g (envS false st) with
    | ok a =>
      rw [e] at q
      rcases hl a e with ⟨ds, rfl⟩ | hn
      · exact fun p vs F' H' gr h1 h2 h3 h4 => h ds p vs F' H' e (fun _ => gr) (fun z => by cases z) h1 h2 h3 h4 q
      · have q : PostS X.K T W N F0 H0 D (k a) := q
        rw [hn] at q
        exact q.elim
    | ex c fs =>
      rw [e] at q
      exact fun dx H' s x => q dx F H' fp σ (R.only s) x
    | no =>
      rw [e] at q
      exact q
  | true =>
    refine ⟨allF F H fp, envS true st, R.vwT, ?_⟩
    cases e : g (envS true st) with
    | ok a =>
      rw [e] at q
      rcases hl a e with ⟨ds, rfl⟩ | hn
      · exact fun p vs F' H' gr h1 h2 h3 h4 => h ds p vs F' H' e (fun z => by cases z) (fun _ => gr) h1 h2 h3 h4 q
      · have q : PostS X.K T W N F0 H0 D (k a) := q
        rw [hn] at q
        exact q.elim
    | ex c fs =>
      rw [e] at q
      exact fun dx H' s x => q dx F H' fp σ (R.only s) x
    | no =>
      rw [e] at q
      exact q
theorem newS_l {st : Py.St} {i : Nat} (d : D) : (∃ ds, d = .lst ds) ∨ newS st i d = .no := by
  cases d <;> first | exact .inl ⟨_, rfl⟩ | exact .inr rfl
theorem asgN_imp {i : Nat} {f : Env → R D} {te : TE} (hte : ∀ σ H Q, LenOk X.K H → (∃ F env, Vw X.K T F H σ env ∧ PostN X.K T (fun c d H' => W c d σ H') F H (f env) Q) → te σ H Q) :
    ∀ D σ H, LenOk X.K H → (∃ F fp st, StR X.K T F0 H0 F H fp σ st ∧ PostS X.K T W N F0 H0 D ((f (envS false st)).cf st (newS st i))) → tAsg te (gName i) D σ H := by
  intro D σ H L ⟨F, fp, st, R, q⟩
  refine hte σ H _ L (cf_rdN R q (fun d _ => newS_l d) (fun ds p vs F' H' e g1 g2 h1 h2 h3 h4 q2 => ?_) L)
  have g := g1 rfl
  have R' := R.grow g
  unfold newS at q2
  simp only at q2
  split at q2
  · rename_i hi
    refine q2 F' H' _ _ (R'.own hi h2 (R.h0.free h1) h3 (fun j hj hf => ?_) h4)
    obtain ⟨_, _, o, ho⟩ := R.fF j p hf
    rw [h1] at ho
    cases ho
  · exact q2.elim
theorem ss_setN {i : Nat} {x : Str} {e : Expr} {f : Env → R D} (hN : X.N.Nodup) (hi : X.N[i]? = some x) (hx : Loc X.env.scope x) (hf : X.fn x = true ∨ X.env.scope.names.lookup x = some .local) (he : PE X e (rdN X.K T W f)) (hs : swapsWith e (some (.Name x p2)) pos.line X.env = pure false) :
    PS X (.Assign [.Name x p2] e pos) (rdS X.K T W N F0 H0 fun st => (f (envS false st)).cf st (newS st i)) :=
  ps_of (ps_set hN hi hx he hs hf) (asgN_imp fun σ H Q L h _ => h)
theorem ss_setLcN {i : Nat} {y : Str} {elt iter tg : Expr} {ifs : List Expr} {scope : Scope} {own : List (Str × Nat)} {vs : List Nat} {p : Pat} {fi : Env → R (List D)} {fc : Env → R Bool} {fe : Env → R D} (hc : X.calm = true) (nd : X.N.Nodup) (hy : X.N[i]? = some y) (hyl : X.env.scope.names.lookup y = some .local)
    (hsw : swapsWith (.ListComp elt [⟨tg, iter, ifs, 0⟩] scope p3) (some (.Name y p2)) pos.line X.env = pure true) (hi : PI X tg iter (rdI X.K T W fi)) (ok : BlkOk X.N X.env.scope scope own)
    (hv : own.map (·.2) = vs) (hpi : ∀ i ∈ p.ix, i ∈ vs)
    (hg : ∀ (s : Shared) (H : Hp) (C : Addr) (cl : List (Str × Addr)) (fp : List Addr), PG (X.blk s H scope (compEnvC scope cl C X.env) fp) tg (gP X.K p))
    (ht : ∀ (s : Shared) (H : Hp) (C : Addr) (cl : List (Str × Addr)) (fp : List Addr), PTs (X.blk s H scope (compEnvC scope cl C X.env) fp) ifs (rdT X.K T W0 fc))
    (he : ∀ (s : Shared) (H : Hp) (C : Addr) (cl : List (Str × Addr)) (fp : List Addr), PE (X.blk s H scope (compEnvC scope cl C X.env) fp) elt (rdE X.K T W0 fe)) (hs : ∀ x, foldedSetIterable iter X.env x = pure x) :
    PS X (.Assign [.Name y p2] (.ListComp elt [⟨tg, iter, ifs, 0⟩] scope p3) pos) (rdS X.K T W N F0 H0 fun st => ((fi (envS false st)).bind fun xs => (compD xs fun x =>
      (bindG putE p x (wipeD (envS false st) vs)).bind fun env' => (fc env').bind fun t => if t then (fe env').map some else .ok none).map D.lst).cf st (newS st i)) := by
  subst hv
  exact ps_of (ps_setLc hc nd hy hyl hsw hi ok hg ht he hs) (asgN_imp (f := fun env => (fi env).bind fun xs => (compD xs fun x =>
      (bindG putE p x (wipeD env (own.map (·.2)))).bind fun env' => (fc env').bind fun t => if t then (fe env').map some else .ok none).map D.lst) fun σ H Q L h => lc_imp (W := W) hpi h)
/-- return of a new list -/
theorem ss_retN {e : Expr} {f : Env → R D} (he : PE X e (rdN X.K T W f)) : PS X (.Return (some e) pos) (rdS X.K T W true F0 H0 fun st => (f (envS true st)).cf st retL) := by
  refine ps_of (ps_ret he) fun D σ H L ⟨F, fp, st, R, q⟩ => ?_
  show rdN X.K T W f σ H D.rt
  refine cf_rdN (m := true) R q (fun d _ => ?_) fun ds p vs F' H' e1 _ g2 h1 h2 h3 h4 q2 => ?_
  · cases d <;> first | exact .inl ⟨_, rfl⟩ | exact .inr rfl
  · refine q2 ds p vs F' H' rfl ⟨(R.f0.trans R.all_f).trans (g2 rfl).f, (g2 rfl).s, R.h0.trans (g2 rfl).h, fun b o e => ?_⟩ (R.h0.free h1) h2 h3 h4
    rcases (g2 rfl).n b o e with z | z
    · exact R.all_n b o z
    · exact .inr (R.h0.free z)
theorem ownL_of {st : Py.St} {i : Nat} {k : List D → Cf} {D : Ends} (q : PostS X.K T W N F0 H0 D (ownL st i k)) : ∃ ds, st[i]? = some (.o 1 (.lst ds)) ∧ PostS X.K T W N F0 H0 D (k ds) := by
  unfold ownL at q
  split at q
  · rename_i ds e
    exact ⟨ds, e, q⟩
  · exact q.elim
/-- return of the list that a slot alone holds -/
theorem ss_retO {i : Nat} {x : Str} (hN : X.N[i]? = some x) (hv : Vis X.env.scope x) (hd : (x == ("__debug__" : Str)) = false) (hcd : (x == ("__classdict__" : Str)) = false) :
    PS X (.Return (some (.Name x p2)) pos) (rdS X.K T W true F0 H0 fun st => ownL st i fun ds => .rt (.lst ds)) := by
  refine ps_of (ps_ret (pe_var hN hv hd hcd)) fun D σ H L ⟨F, fp, st, R, q⟩ => ?_
  obtain ⟨ds, e, q⟩ := ownL_of q
  obtain ⟨v, h1, p, vs, rfl, h2, h3, h4⟩ := R.ow i 1 _ e
  obtain ⟨f1, f2, _⟩ := R.fF i p ((h4 p).mpr rfl)
  exact ⟨.ref p, h1, q ds p vs F H rfl ⟨R.f0, R.s, R.h0, R.n⟩ f2 f1 h2 h3⟩

/-! ### lists that change -/
theorem lst_ty {a : Addr} {H : Hp} {xs : List V} {K : PySem.W.Frag} (h : H a = some (.lst xs)) : tyV K "list" (.ref a) H := Or.inl ⟨rfl, _, Or.inl (Or.inl h)⟩
theorem ss_app {m : Bool} {i : Nat} {x : Str} {e : Expr} {f : Env → R D} {apos cpos : Pos} (hN : X.N[i]? = some x) (hv : Vis X.env.scope x) (hd : (x == ("__debug__" : Str)) = false) (hcd : (x == ("__classdict__" : Str)) = false) (hp : isPlain e = true)
    (hline : (apos.endLine == cpos.line) = true) (he : PE X e (rdE X.K T W f)) :
    PS X (.Expr (.Call (.Attribute (.Name x p2) "append" apos) [e] [] cpos) pos) (rdS X.K T W N F0 H0 fun st => ownL st i fun ds => (f (envS m st)).cf st fun d => if okM m d && decide (ds.length < cap) then .nx (st.set i (.o 1 (.lst (ds ++ [d])))) else .no) := by
  have ha : PA X [e] (tCons (rdE X.K T W f) tNil) := pa_cons he pa_nil (star_plain hp [] X.env)
  have st1 : starEach [e] X.env = [(false, eval e X.env)] := star_plain hp [] X.env
  have hb := pe_bm (cpos := cpos) (apos := apos) PySem.F.plainAttrs_list PySem.F.slot_list_append PySem.F.type_list_append (mt_append (X := X)) (pe_var (pos := p2) hN hv hd hcd) ha (by rfl) (by rw [st1]; rfl) hline st1 (by rfl)
  refine ps_of (ps_expr hb (by rfl)) fun D σ H L ⟨F, fp, st, R, q⟩ => ?_
  obtain ⟨ds, es, q⟩ := ownL_of q
  obtain ⟨v, h1, p, vs, rfl, h2, h3, h4⟩ := R.ow i 1 _ es
  refine ⟨.ref p, h1, lst_ty h2, ?_⟩
  show rdE X.K T W f σ H _
  refine cf_rd (rel := relD X.K T) (m := m) R q fun d u F' H' e1 g1 g2 r q2 => ?_
  split at q2
  · rename_i hm
    obtain ⟨hm, hl⟩ := Bool.and_eq_true_iff.mp hm
    obtain ⟨F2, R2, r2⟩ := keep R hm g1 g2 r
    obtain ⟨v', k1, p', vs', kr, k2, k3, k4⟩ := R2.ow i 1 _ es
    have hp : p = p' := by
      have z := (h4 p).mpr rfl
      exact (k4 p).mp z
    subst hp
    have hl : ds.length < cap := of_decide_eq_true hl
    exact ⟨p, vs', u, rfl, rfl, k2, lt_line (by rw [Reps.length k3]; exact hl), q2 F2 _ fp σ (R2.change ⟨1, _, es⟩ k4 (by rw [k1, kr]) (Reps.app k3 (Reps.one r2)))⟩
  · exact q2.elim
theorem ss_setI {m : Bool} {i : Nat} {x : Str} {e j : Expr} {f g : Env → R D} {tpos : Pos} (hN : X.N[i]? = some x) (hv : Vis X.env.scope x) (hd : (x == ("__debug__" : Str)) = false) (hcd : (x == ("__classdict__" : Str)) = false)
    (he : PE X e (rdE X.K T W f)) (hj : PE X j (rdE X.K T W g))
    (pg : ∀ {to ti : TE} {t : TSet}, PE X (.Name x p2) to → PE X j ti → PSet X t → PG X (.Subscript (.Name x p2) j tpos) (gSub to ti t))
    (hs : swapsWithSole [.Subscript (.Name x p2) j tpos] e pos.line X.env = pure false) (hw : swappedStores [.Subscript (.Name x p2) j tpos] e X.env = pure none) (h1 : (assignEach [.Subscript (.Name x p2) j tpos] X.env).map (·.2) = [assign (.Subscript (.Name x p2) j tpos) X.env]) :
    PS X (.Assign [.Subscript (.Name x p2) j tpos] e pos) (rdS X.K T W N F0 H0 fun st => ownL st i fun ds => (f (envS m st)).cf st fun d => if okM m d then (g (envS true st)).cf st fun k => atS ds.length k fun n => .nx (st.set i (.o 1 (.lst (ds.set n d)))) else .no) := by
  refine ps_of (ps_asg he (pg (pe_var (pos := p2) hN hv hd hcd) hj set_list) hs hw h1) fun D σ H L ⟨F, fp, st, R, q⟩ => ?_
  obtain ⟨ds, es, q⟩ := ownL_of q
  show rdE X.K T W f σ H _
  refine cf_rd (rel := relD X.K T) (m := m) R q fun d u F' H' e1 g1 g2 r q2 => ?_
  split at q2
  · rename_i hm
    obtain ⟨F2, R2, r2⟩ := keep R hm g1 g2 r
    obtain ⟨v', k1, p, vs', kr, k2, k3, k4⟩ := R2.ow i 1 _ es
    subst kr
    refine ⟨.ref p, k1, ?_⟩
    show rdE X.K T W g σ H' _
    refine cf_rd (rel := relD X.K T) (m := true) R2 q2 fun k y F3 H3 e3 _ g4 r3 q3 => ?_
    unfold atS at q3
    split at q3
    · split at q3
      · rename_i n hn nn hix
        cases r3
        have hH := (g4 rfl).h
        have R3 := R2.only hH
        obtain ⟨v'', m1, p'', vs'', mr, m2, m3, m4⟩ := R3.ow i 1 _ es
        have hp : p = p'' := (m4 p).mp ((k4 p).mpr rfl)
        subst hp
        refine ⟨p, vs'', _, nn, rfl, rfl, m2, ?_, q3 F2 _ fp σ (R3.change ⟨1, _, es⟩ m4 (by rw [m1, mr]) (Reps.set r2 nn m3))⟩
        rw [Reps.length m3]
        exact hix
      · exact q3.elim
    · exact q3.elim
  · exact q2.elim
/-- x op= e -/
theorem ss_aug {o : BOp} {i : Nat} {x : Str} {e : Expr} {f : Env → R D} (ho : o = .add ∨ o = .sub ∨ o = .mul) (hN : X.N.Nodup) (hi : X.N[i]? = some x) (hx : Loc X.env.scope x) (hf : X.fn x = true ∨ X.env.scope.names.lookup x = some .local) (he : PE X e (rdE X.K T W f)) :
    PS X (.AugAssign (.Name x p2) (bop o) e pos) (rdS X.K T W N F0 H0 fun st => (Env.get (envS true st) i).cf st fun a => (f (envS true st)).cf st fun b => (binD o a b).cf st fun z => if z.scalar then .nx (st.set i (.v z)) else .no) := by
  have ip : PIp X (bop o) (fun x y H Q => ∃ F a b, Same F H ∧ Rep X.K T F a x ∧ Rep X.K T F b y ∧ ∃ z, binD o a b = .ok z ∧ z.scalar = true ∧ ∀ v, Rep X.K T F z v → Q v H) := by
    intro pins s σ H x y v u Q I rx ry ⟨F, a, b, sF, ra, rb, z, e1, hz, q⟩
    rcases ho with rfl | rfl | rfl
    · cases a <;> cases b <;> first | (cases e1; done) | skip
      · cases ra
        cases rb
        cases e1
        exact iop_add pins s σ H _ _ v u Q I rx ry ⟨_, _, rfl, rfl, q _ rfl⟩
      · rename_i s1 t1
        have e1 : (if s1.length + t1.length ≤ cap then R.ok (D.str (s1 ++ t1)) else .no) = .ok z := e1
        split at e1
        · rename_i hl
          cases ra
          cases rb
          cases e1
          refine iop_add_str pins s σ H _ _ v u Q I rx ry ⟨_, _, rfl, rfl, le_line hl, ?_⟩
          rw [str_cat]
          exact q _ rfl
        · cases e1
      · rename_i s1 t1
        have e1 : (if s1.length + t1.length ≤ cap then R.ok (D.tup (s1 ++ t1)) else .no) = .ok z := e1
        split at e1
        · cases e1
          cases hz
        · cases e1
      · rename_i s1 t1
        have e1 : (if s1.length + t1.length ≤ cap then R.ok (D.lst (s1 ++ t1)) else .no) = .ok z := e1
        split at e1
        · cases e1
          cases hz
        · cases e1
    · cases a <;> cases b <;> first | (cases e1; done) | skip
      cases ra
      cases rb
      cases e1
      exact iop_sub pins s σ H _ _ v u Q I rx ry ⟨_, _, rfl, rfl, q _ rfl⟩
    · cases a <;> cases b <;> first | (cases e1; done) | skip
      · rename_i i1 j1
        have e1 : (if mulOk i1 j1 then R.ok (D.int (i1 * j1)) else .no) = .ok z := e1
        split at e1
        · rename_i hm
          cases ra
          cases rb
          cases e1
          refine iop_mul pins s σ H _ _ v u Q I rx ry ⟨_, _, rfl, rfl, ?_, q _ rfl⟩
          unfold mulOk at hm
          rw [Bool.or_eq_true, decide_eq_true_eq, decide_eq_true_eq] at hm
          unfold CMul
          omega
        · cases e1
      · rename_i s1 n
        have e1 : (if 2 ≤ n ∧ n ≤ 1000 ∧ s1.length ≤ 1000 ∧ s1 ≠ [] then R.ok (D.tup (repD s1 n)) else .no) = .ok z := e1
        split at e1
        · cases e1
          cases hz
        · cases e1
      · rename_i s1 n
        have e1 : (if n ≤ (cap : Int) ∧ -(cap : Int) ≤ n ∧ s1.length * n.toNat ≤ cap then R.ok (D.lst (repD s1 n)) else .no) = .ok z := e1
        split at e1
        · cases e1
          cases hz
        · cases e1
  refine ps_of (ps_aug hN hi hx he ip hf) fun D σ H L ⟨F, fp, st, R, q⟩ => ?_
  have vT := R.vwT
  cases hg : Env.get (envS true st) i with
  | ok a =>
    rw [hg] at q
    have ha : (envS true st)[i]? = some (some a) := by
      unfold Env.get at hg
      split at hg
      · rename_i d e
        cases hg
        exact e
      · cases hg
    obtain ⟨v, h1, r1⟩ := vT.g i a ha
    refine ⟨v, h1, ?_⟩
    have q : PostS X.K T W N F0 H0 D ((f (envS true st)).cf st fun b => (binD o a b).cf st fun z => if z.scalar then .nx (st.set i (.v z)) else .no) := q
    refine cf_rd (rel := relD X.K T) (m := true) R q fun b u F' H' e1 _ g2 r q2 => ?_
    cases hb : binD o a b with
    | ok z =>
      rw [hb] at q2
      have q2 : PostS X.K T W N F0 H0 D (if z.scalar then .nx (st.set i (.v z)) else .no) := q2
      split at q2
      · rename_i hz
        exact ⟨F', a, b, (g2 rfl).s, Rep.mono (g2 rfl).f r1, r, z, hb, hz, fun w rw_ => q2 F H' _ _ ((R.only (g2 rfl).h).put (Rep.scalar hz rw_))⟩
      · exact q2.elim
    | ex c fs => exact absurd hb (bin_noex o a b c fs)
    | no =>
      rw [hb] at q2
      exact q2.elim
  | ex c fs =>
    unfold Env.get at hg
    split at hg <;> cases hg
  | no =>
    rw [hg] at q
    exact q.elim
where
  bin_noex (o : BOp) (a b : D) (c : Nat) (fs : List D) : binD o a b ≠ .ex c fs := by
    intro h
    unfold binD at h
    repeat' split at h
    all_goals cases h
end
end Py

namespace Py
open PySem L2

section
variable {K : PySem.W.Frag} {T : Tab} {F0 F1 H0 F H : Hp} {fp : Nat → Addr → Prop} {σ : L2.St} {st : Py.St}
/-- the ground moves up -/
theorem StR.up (R : StR K T F0 H0 F H fp σ st) : StR K T F H0 F H fp σ st := ⟨R.s, R.h0, Same.refl F, fun _ _ e => .inl e, R.l, R.fr, R.ow, R.no, R.dj, R.fF⟩
theorem StR.down (R : StR K T F1 H0 F H fp σ st) (h : Same F0 F1) (n : ∀ b o, F1 b = some o → F0 b = some o ∨ H0 b = none) : StR K T F0 H0 F H fp σ st := ⟨R.s, R.h0, h.trans R.f0, fun b o e => by
  rcases R.n b o e with q | q
  · exact n b o q
  · exact .inr q, R.l, R.fr, R.ow, R.no, R.dj, R.fF⟩
theorem Grow.down (g : Grow F1 H0 F H) (h : Same F0 F1) (n : ∀ b o, F1 b = some o → F0 b = some o ∨ H0 b = none) : Grow F0 H0 F H := ⟨h.trans g.f, g.s, g.h, fun b o e => by
  rcases g.n b o e with q | q
  · exact n b o q
  · exact .inr q⟩
end
section
variable {X : Cx} {T : Tab} {W : WX} {N : Bool} {F0 H0 : Hp} {pos p2 p3 : Pos}
/-- the end of a block moves down, and what follows is changed -/
theorem PostS.down {F1 : Hp} {D D' : Ends} {r r' : Cf} (h : Same F0 F1) (n : ∀ b o, F1 b = some o → F0 b = some o ∨ H0 b = none)
    (hn : ∀ st, r = .nx st → ∀ F H fp σ, StR X.K T F0 H0 F H fp σ st → Same F1 F → D'.nx σ H) (hb : ∀ st, r = .bk st → ∀ F H fp σ, StR X.K T F0 H0 F H fp σ st → Same F1 F → D'.bk σ H) (hc : ∀ st, r = .ct st → ∀ F H fp σ, StR X.K T F0 H0 F H fp σ st → Same F1 F → D'.ct σ H)
    (hr : ∀ d, r = .rt d → PostS X.K T W N F0 H0 D' (.rt d)) (hx : ∀ c fs st, r = .ex c fs st → PostS X.K T W N F0 H0 D' (.ex c fs st)) (ho : r ≠ .no) : PostS X.K T W N F1 H0 D' r := by
  cases r with
  | nx st => exact fun F H fp σ R => hn st rfl F H fp σ (R.down h n) R.f0
  | bk st => exact fun F H fp σ R => hb st rfl F H fp σ (R.down h n) R.f0
  | ct st => exact fun F H fp σ R => hc st rfl F H fp σ (R.down h n) R.f0
  | rt d =>
    have q := hr d rfl
    cases N with
    | false => exact fun v F H g r => q v F H (g.down h n) r
    | true => exact fun ds p vs F H e g => q ds p vs F H e (g.down h n)
  | ex c fs st => exact fun dx F H fp σ R x => hx c fs st rfl dx F H fp σ (R.down h n) x
  | no => exact absurd rfl ho

/-! ### loops -/
def forB (p : Pat) (fb : Py.St → Cf) : D → Py.St → Cf := fun x st => (bindP p x st).cf st fun st' => fb st'
theorem ss_for_core {m : Bool} {tg iter : Expr} {body : List Stmt} {p : Pat} {fi : Env → R (List D)} {fb : Py.St → Cf} {wi : TI} {rel : Hp → List D → L2.It → Prop} (hp : PassesOwn (model X.prog X.w) X.A X.env X.xe) (hc : X.calm = true)
    (hi : PI X tg iter (rdG X.K T W rel fi)) (hy : ∀ F H F' H' fp σ st ds J, StR X.K T F0 H0 F H fp σ st → (m = false → Grow F H F' H') → (m = true → Grow (allF F H fp) H F' H') → rel F' ds J → ∃ F'', StR X.K T F0 H0 F'' H' fp σ st ∧ Yields X.K T J F'' ds)
    (hg : PG X tg (gP X.K p)) (hb : ∀ F0, PSs X body (rdS X.K T W N F0 H0 fb)) (hs : ∀ x, foldedSetIterable iter X.env x = pure x) :
    PS X (.For tg iter body [] pos) (rdS X.K T W N F0 H0 fun st => (fi (envS m st)).cf st fun xs => forD xs (forB p fb) st) := by
  have hb' : PSs X body (fun D σ H => ∃ F1, rdS X.K T W N F1 H0 fb D σ H) := ⟨fun pins s σ H D I ⟨F1, q⟩ => (hb F1).run pins s σ H D I q⟩
  refine ps_of (ps_for hp hc hi hg hb' hs) fun D σ H L ⟨F, fp, st, R, q⟩ => ?_
  show rdG X.K T W rel fi σ H _
  refine cf_rd (rel := rel) (m := m) R q fun ds J F' H' e1 g1 g2 r q2 => ?_
  obtain ⟨F1, R1, y⟩ := hy F H F' H' fp σ st ds J R g1 g2 r
  refine ⟨fun i k σ' H'' => ∃ F2 fp2 st2, StR X.K T F0 H0 F2 H'' fp2 σ' st2 ∧ Same F1 F2 ∧ i ≤ ds.length ∧ k = ds.length - i ∧ PostS X.K T W N F0 H0 D (forD (ds.drop i) (forB p fb) st2),
    ⟨ds.length, F1, fp, st, R1, Same.refl _, Nat.zero_le _, rfl, q2⟩, ?_⟩
  rintro i k σ' H'' ⟨F2, fp2, st2, R2, hS, hi1, rfl, q3⟩
  by_cases hlt : i < ds.length
  · refine .inr ⟨y.go i H'' (hS.trans R2.s) hlt, fun σ3 H3 => ∃ F3 fp3 st3, StR X.K T F0 H0 F3 H3 fp3 σ3 st3 ∧ Same F1 F3 ∧ i + 1 ≤ ds.length ∧ PostS X.K T W N F0 H0 D (forD (ds.drop (i + 1)) (forB p fb) st3), fun σ3 H3 ⟨F3, fp3, st3, a1, a2, a3, a4⟩ => ⟨ds.length - (i + 1), by omega, F3, fp3, st3, a1, a2, a3, rfl, a4⟩, fun x H3 hyl => ?_⟩
    have e : ds[i]? = some ds[i] := List.getElem?_eq_getElem hlt
    obtain ⟨G2, g3, r3⟩ := y.yld i F2 H'' x H3 _ hS R2.s e hyl
    rw [List.drop_eq_getElem_cons hlt] at q3
    have R3 := R2.grow g3
    cases hbd : bindP p ds[i] st2 with
    | ok st4 =>
      refine gP_ok (put := putP) (F := G2) (Pr := fun σ' s' => ∃ fp', StR X.K T F0 H0 G2 H3 fp' σ' s') R3.s p (fun j v d σ1 a _ hr ⟨fp', Ra⟩ => ⟨_, Ra.put hr⟩) r3 hbd ⟨fp2, R3⟩ fun σ4 ⟨fp4, R4⟩ => ?_
      have q4 : PostS X.K T W N F0 H0 D (match fb st4 with
        | .nx st' => forD (ds.drop (i + 1)) (forB p fb) st'
        | .ct st' => forD (ds.drop (i + 1)) (forB p fb) st'
        | .bk st' => .nx st'
        | r => r) := by
        have z : forD (ds[i] :: ds.drop (i + 1)) (forB p fb) st2 = (match forB p fb ds[i] st2 with
          | .nx st' => forD (ds.drop (i + 1)) (forB p fb) st'
          | .ct st' => forD (ds.drop (i + 1)) (forB p fb) st'
          | .bk st' => .nx st'
          | r => r) := rfl
        rw [z] at q3
        have w : forB p fb ds[i] st2 = fb st4 := by
          unfold forB
          rw [hbd]
          rfl
        rw [w] at q3
        exact q3
      refine ⟨G2, fun _ => ⟨G2, fp4, st4, R4.up, ?_⟩⟩
      have n2 : ∀ b o, G2 b = some o → F0 b = some o ∨ H0 b = none := R4.n
      refine PostS.down (D := D) (r' := .no) R4.f0 n2 (fun st5 e5 F5 H5 fp5 σ5 R5 h5 => ?_) (fun st5 e5 F5 H5 fp5 σ5 R5 h5 => ?_) (fun st5 e5 F5 H5 fp5 σ5 R5 h5 => ?_) (fun d e5 => ?_) (fun c fs st5 e5 => ?_) (fun e5 => ?_)
      · rw [e5] at q4
        exact ⟨F5, fp5, st5, R5, (hS.trans g3.f).trans h5, hlt, q4⟩
      · rw [e5] at q4
        exact q4 F5 H5 fp5 σ5 R5
      · rw [e5] at q4
        exact ⟨F5, fp5, st5, R5, (hS.trans g3.f).trans h5, hlt, q4⟩
      · rw [e5] at q4
        exact q4
      · rw [e5] at q4
        exact q4
      · rw [e5] at q4
        exact q4.elim
    | ex c fs => exact absurd hbd (bindG_noex p _ _ c fs)
    | no =>
      have z : forD (ds[i] :: ds.drop (i + 1)) (forB p fb) st2 = .no := by
        show (match forB p fb ds[i] st2 with
          | .nx st' => forD (ds.drop (i + 1)) (forB p fb) st'
          | .ct st' => forD (ds.drop (i + 1)) (forB p fb) st'
          | .bk st' => .nx st'
          | r => r) = .no
        have w : forB p fb ds[i] st2 = .no := by
          unfold forB
          rw [hbd]
          rfl
        rw [w]
      rw [z] at q3
      exact q3.elim
  · have hi2 : i = ds.length := by omega
    refine .inl ⟨y.stop i H'' (hS.trans R2.s) (by omega), ?_⟩
    rw [hi2, List.drop_length] at q3
    exact q3 F2 H'' fp2 σ' R2
theorem ss_for {tg iter : Expr} {body : List Stmt} {p : Pat} {fi : Env → R (List D)} {fb : Py.St → Cf} (hp : PassesOwn (model X.prog X.w) X.A X.env X.xe) (hc : X.calm = true)
    (hi : PI X tg iter (rdI X.K T W fi)) (hg : PG X tg (gP X.K p)) (hb : ∀ F0, PSs X body (rdS X.K T W N F0 H0 fb)) (hs : ∀ x, foldedSetIterable iter X.env x = pure x) :
    PS X (.For tg iter body [] pos) (rdS X.K T W N F0 H0 fun st => (fi (envS false st)).cf st fun xs => forD xs (fun x st => (bindP p x st).cf st fun st' => fb st') st) :=
  ss_for_core (m := false) (wi := fun _ _ _ => True) (rel := relI X.K T) hp hc hi (fun F H F' H' fp σ st ds J R g1 _ y => ⟨F', R.grow (g1 rfl), y⟩) hg hb hs
theorem ss_forR {tg iter : Expr} {body : List Stmt} {p : Pat} {fi : Env → R (List D)} {fb : Py.St → Cf} (hp : PassesOwn (model X.prog X.w) X.A X.env X.xe) (hc : X.calm = true)
    (hi : PI X tg iter (rdR X.K T W fi)) (hg : PG X tg (gP X.K p)) (hb : ∀ F0, PSs X body (rdS X.K T W N F0 H0 fb)) (hs : ∀ x, foldedSetIterable iter X.env x = pure x) :
    PS X (.For tg iter body [] pos) (rdS X.K T W N F0 H0 fun st => (fi (envS true st)).cf st fun xs => forD xs (fun x st => (bindP p x st).cf st fun st' => fb st') st) :=
  ss_for_core (m := true) (wi := fun _ _ _ => True) (rel := relR X.K T) hp hc hi (fun F H F' H' fp σ st ds J R _ g2 y => ⟨F, R.only (g2 rfl).h, y F⟩) hg hb hs
theorem ss_while {c : Expr} {body : List Stmt} {fc : Env → R Bool} {fb : Py.St → Cf} (hp : PassesOwn (model X.prog X.w) X.A X.env X.xe) (hc : PT X c (rdT X.K T W fc)) (hb : PSs X body (rdS X.K T W N F0 H0 fb)) :
    PS X (.While c body [] pos) (rdS X.K T W N F0 H0 fun st => whileD cap (fun st => fc (envS true st)) fb st) := by
  refine ps_of (ps_while hp hc hb) fun D σ H L ⟨F, fp, st, R, q⟩ => ?_
  refine ⟨fun m σ' H' => ∃ F2 fp2 st2, StR X.K T F0 H0 F2 H' fp2 σ' st2 ∧ PostS X.K T W N F0 H0 D (whileD m (fun st => fc (envS true st)) fb st2), ⟨cap, F, fp, st, R, q⟩, ?_⟩
  rintro m σ' H' ⟨F2, fp2, st2, R2, q2⟩
  cases m with
  | zero => exact q2.elim
  | succ m =>
    have z : whileD (m + 1) (fun st => fc (envS true st)) fb st2 = (fc (envS true st2)).cf st2 (fun t => if t then (match fb st2 with
      | .nx st' => whileD m (fun st => fc (envS true st)) fb st'
      | .ct st' => whileD m (fun st => fc (envS true st)) fb st'
      | .bk st' => .nx st'
      | r => r) else .nx st2) := by
      show (match fc (envS true st2) with
        | .ok true => (match fb st2 with
          | .nx st' => whileD m (fun st => fc (envS true st)) fb st'
          | .ct st' => whileD m (fun st => fc (envS true st)) fb st'
          | .bk st' => .nx st'
          | r => r)
        | .ok false => .nx st2
        | .ex c fs => .ex c fs st2
        | .no => .no) = _
      cases fc (envS true st2) with
      | ok t => cases t <;> rfl
      | ex c fs => rfl
      | no => rfl
    rw [z] at q2
    show rdT X.K T W fc σ' H' _
    refine cf_rd (rel := relB) (m := true) R2 q2 fun t t' F' H2 e1 _ g2 r q3 => ?_
    have r : t = t' := r
    subst r
    have R3 := R2.only (g2 rfl).h
    cases t with
    | true =>
      refine iteT ⟨fun σ3 H3 => ∃ F3 fp3 st3, StR X.K T F0 H0 F3 H3 fp3 σ3 st3 ∧ PostS X.K T W N F0 H0 D (whileD m (fun st => fc (envS true st)) fb st3), fun σ3 H3 h => ⟨m, Nat.lt_succ_self m, h⟩, fun _ => ⟨F2, fp2, st2, R3, ?_⟩⟩
      have q3 : PostS X.K T W N F0 H0 D (match fb st2 with
        | .nx st' => whileD m (fun st => fc (envS true st)) fb st'
        | .ct st' => whileD m (fun st => fc (envS true st)) fb st'
        | .bk st' => .nx st'
        | r => r) := q3
      cases hf : fb st2 with
      | nx st' =>
        rw [hf] at q3
        exact fun F4 H4 fp4 σ4 R4 => ⟨F4, fp4, st', R4, q3⟩
      | ct st' =>
        rw [hf] at q3
        exact fun F4 H4 fp4 σ4 R4 => ⟨F4, fp4, st', R4, q3⟩
      | bk st' =>
        rw [hf] at q3
        exact q3
      | rt d =>
        rw [hf] at q3
        exact q3
      | ex c fs st' =>
        rw [hf] at q3
        exact q3
      | no =>
        rw [hf] at q3
        exact q3
    | false => exact iteF (q3 F2 H2 fp2 σ' R3)

/-! ### raise -/
/-- x is an own exception class without __init__, the c-th -/
structure ExcOk (P : Program) (w : World) (K : PySem.W.Frag) (mg : Str → Option Value) (T : Tab) (x : String) (c : Nat) : Prop where
  g : mg (x : Str) = some (.ref (T.addr c))
  x : PySem.W.excIn K (T.addr c) [.type "ValueError", .type "Exception", .type "BaseException", .type "object"] "ValueError.__new__" = true
  k : PySem.W.keepIn K (.ref (T.addr c)) = true
  s : PySem.W.subIn K (.ref (T.addr c)) (.type "BaseException") = some true
  t : PySem.W.typeIn K (.ref (T.addr c)) = some (.type "type")
theorem ss_raise {x : String} {c : Nat} {m : Str} {j : Nat} {p4 : Pos} (E : ExcOk X.prog X.w X.K X.mg T x c) (hc : X.calm = true) (tk : Takes X W) (hg : Gl X (x : Str)) (hd : ((x : Str) == ("__debug__" : Str)) = false) :
    PS X (.Raise (some (.Call (.Name (x : Str) p2) [.Constant (.str m) j p3] [] p4)) none pos) (rdS X.K T W N F0 H0 fun st => .ex c [] st) := by
  refine ps_of (ps_raise hc tk (pmk_own PySem.F.excBase_ValueError E.x E.g E.k (raises_own E.s E.t) hg hd)) fun D σ H L ⟨F, fp, st, R, q⟩ => ?_
  exact q none F H fp σ R ⟨rfl, rfl⟩
end
end Py

namespace Py
open PySem L2

/-! ### isinstance -/
def tyN : D → String
  | .non => "NoneType" | .bool _ => "bool" | .int _ => "int" | .str _ => "str" | .tup _ => "tuple" | _ => "list"
def plainD : D → Bool
  | .non => true | .bool _ => true | .int _ => true | .str _ => true | .tup _ => true | .lst _ => true | _ => false
theorem tyD_noex (t : Ty) (d : D) (c : Nat) (fs : List D) : tyD t d ≠ .ex c fs := by
  intro h
  unfold tyD at h
  repeat' split at h
  all_goals cases h
theorem tyX_of {K : PySem.W.Frag} {T : Tab} {F H : Hp} {d : D} {v : V} (s : Same F H) (r : Rep K T F d v) (h : plainD d = true) : TyX K H v (.type (tyN d)) := by
  cases d <;> first | (cases h; done) | skip
  · cases r
    exact .base .non
  · cases r
    exact .base (.bl _)
  · cases r
    exact .base (.int _)
  · cases r
    exact .base (.str _)
  · obtain ⟨a, vs, rfl, h1, _⟩ := r
    rcases sameT s h1 with (h2 | ⟨o, h2⟩) | ⟨o, its, n, h2, h3, _⟩
    · exact .base (.tup h2)
    · exact .fTuple h2
    · exact .kTuple h2 h3
  · obtain ⟨a, vs, rfl, h1, _⟩ := r
    exact .base (.lst (s _ _ h1))
def tyB : Ty → Option String
  | .int => some "int" | .bool => some "bool" | .str => some "str" | .tuple => some "tuple" | .list => some "list" | _ => none
section
variable {X : Cx} {T : Tab} {W : WX} {pos p2 p3 : Pos}
theorem kit_all : ∀ t : Ty, ∀ b, tyB t = some b → ∀ d : D, ∀ k, tyD t d = .ok k → plainD d = true ∧ kitB (tyN d) b = some k := by
  intro t b hb d k hk
  cases t <;> first | (cases hb; done) | skip
  all_goals (
    cases hb
    cases d <;> first | (cases hk; done) | skip
    all_goals (
      refine ⟨rfl, ?_⟩
      cases hk
      dsimp only [tyN]
      decide +kernel))
theorem boot_ty : ∀ t b, tyB t = some b → bootBuiltins ((b : String) : Str) = some (.type b) ∧ ((b : String) : Str) ≠ "__name__" ∧ (((b : String) : Str) == ("__debug__" : Str)) = false := by
  intro t b h
  cases t <;> first | (cases h; done) | skip
  all_goals (
    cases h
    exact ⟨by decide +kernel, by decide +kernel, by decide +kernel⟩)
theorem isi_boot : bootBuiltins ("isinstance" : Str) = some (.builtin "isinstance") := by decide +kernel
/-- isinstance(e, T), T a built-in type -/
theorem s_isin {t : Ty} {b : String} {e : Expr} {f : Env → R D} (ht : tyB t = some b) (hg : Gl X ("isinstance" : Str)) (hm : X.mg ("isinstance" : Str) = none) (hg2 : Gl X ((b : String) : Str)) (hm2 : X.mg ((b : String) : Str) = none) (hp : isPlain e = true) (he : PE X e (rdE X.K T W f)) :
    PE X (.Call (.Name ("isinstance" : Str) p2) [e, .Name ((b : String) : Str) p3] [] pos) (rdE X.K T W fun env => (f env).bind fun x => (tyD t x).map D.bool) := by
  obtain ⟨b1, b2, b3⟩ := boot_ty t b ht
  have ha : PA X [e, .Name ((b : String) : Str) p3] (tCons (rdE X.K T W f) (tCons (tC (.ty b)) tNil)) := pa_cons he (pa_cons (pe_bltn hg2 hm2 b1 rfl b2 b3) pa_nil (by rfl)) (star_plain hp _ X.env)
  refine pe_of (pe_callB call_isi hg hm isi_boot ha (by decide +kernel) (by decide +kernel) (star_plain hp _ X.env) (by rfl)) fun σ H Q _ ⟨F, env, vw, q⟩ => ?_
  refine vw.rd (Post.imp (Post.bind (rel := relD X.K T) q) fun x H1 ⟨F1, d1, e1, g1, r1, q1⟩ => ?_)
  cases hk : tyD t d1 with
  | ok k =>
    rw [hk] at q1
    obtain ⟨h1, h2⟩ := kit_all t b ht d1 k hk
    exact ⟨x, .ty b, .type (tyN d1), .type b, k, rfl, .ty b, tyX_of g1.s r1 h1, kit_ty h2, Post.ok g1.s q1 rfl⟩
  | ex c fs => exact absurd hk (tyD_noex t d1 c fs)
  | no =>
    rw [hk] at q1
    exact q1.elim
/-- isinstance(e, X), e the exception that the suite holds -/
structure IsExc (K : PySem.W.Frag) (mg : Str → Option Value) (T : Tab) (x : String) (cs al : List Nat) : Prop where
  g : ∃ C, mg (x : Str) = some (.ref C) ∧ ∀ c, al.contains c = true → PySem.W.kitOne K (.ref (T.addr c)) (.ref C) = some (cs.contains c)
theorem s_isexc {x : String} {cs al : List Nat} {e : Expr} {f : Env → R D} (E : IsExc X.K X.mg T x cs al) (hi : ∀ a c fs, T.exc a = some (c, fs) → CallR X (.builtin "isinstance") (rIsE X.K (T.addr c) a)) (hg : Gl X ("isinstance" : Str)) (hm : X.mg ("isinstance" : Str) = none)
    (hg2 : Gl X (x : Str)) (hd : ((x : Str) == ("__debug__" : Str)) = false) (hp : isPlain e = true) (he : PE X e (rdE X.K T W f)) :
    PE X (.Call (.Name ("isinstance" : Str) p2) [e, .Name (x : Str) p3] [] pos) (rdE X.K T W fun env => (f env).bind fun y => (tyD (.exc x cs al) y).map D.bool) := by
  obtain ⟨C, hC, hk⟩ := E.g
  have ha : PA X [e, .Name (x : Str) p3] (tCons (rdE X.K T W f) (tCons (tC (.ref C)) tNil)) := pa_cons he (pa_cons (pe_glob hg2 hC rfl hd) pa_nil (by rfl)) (star_plain hp _ X.env)
  have cr : CallR X (.builtin "isinstance") (fun xs H Q => ∃ a c fs, T.exc a = some (c, fs) ∧ rIsE X.K (T.addr c) a xs H Q) := by
    intro pins s σ H xs us Q I r ⟨a, c, fs, h1, h2⟩
    exact hi a c fs h1 pins s σ H xs us Q I r h2
  refine pe_of (pe_callB cr hg hm isi_boot ha (by decide +kernel) (by decide +kernel) (star_plain hp _ X.env) (by rfl)) fun σ H Q _ ⟨F, env, vw, q⟩ => ?_
  refine vw.rd (Post.imp (Post.bind (rel := relD X.K T) q) fun y H1 ⟨F1, d1, e1, g1, r1, q1⟩ => ?_)
  cases d1 <;> first | exact q1.elim | skip
  rename_i c fs
  obtain ⟨a, rfl, hx⟩ := r1
  have q1 : Post X.K T (relD X.K T) _ F1 H1 (R.map D.bool (if al.contains c then .ok (cs.contains c) else .no)) Q := q1
  split at q1
  · rename_i hc
    exact ⟨a, c, fs, hx, .ref C, .ref C, cs.contains c, rfl, fun u h => h, hk c hc, Post.ok g1.s q1 rfl⟩
  · exact q1.elim
end

/-! ### try -/
mutual
theorem Rep.toX {K : PySem.W.Frag} {T T' : Tab} {F : Hp} (ha : T'.addr = T.addr) (hf : T'.flds = T.flds) (hx : ∀ b, T.exc b = none) : ∀ {d : D} {v : V}, Rep K T F d v → Rep K T' F d v
  | .non, _, h => h
  | .bool _, _, h => h
  | .int _, _, h => h
  | .str _, _, h => h
  | .tup ds, _, ⟨a, vs, h1, h2, h3⟩ => ⟨a, vs, h1, h2, Reps.toX ha hf hx h3⟩
  | .lst ds, _, ⟨a, vs, h1, h2, h3⟩ => ⟨a, vs, h1, h2, Reps.toX ha hf hx h3⟩
  | .scr ns, _, h => h
  | .set _, _, h => h.elim
  | .dict _ _, _, h => h.elim
  | .exc _ _, _, ⟨a, h1, h2⟩ => by
    rw [hx a] at h2
    cases h2
  | .obj c ds, _, ⟨a, dx, vs, h1, h2, h4, h3⟩ => ⟨a, dx, vs, h1, by rw [ha, hf]; exact h2, by rw [hf]; exact h4, Reps.toX ha hf hx h3⟩
theorem Reps.toX {K : PySem.W.Frag} {T T' : Tab} {F : Hp} (ha : T'.addr = T.addr) (hf : T'.flds = T.flds) (hx : ∀ b, T.exc b = none) : ∀ {ds : List D} {vs : List V}, Reps K T F ds vs → Reps K T' F ds vs
  | [], _, h => h
  | d :: ds, _, ⟨v, r, h1, h2, h3⟩ => ⟨v, r, h1, Rep.toX ha hf hx h2, Reps.toX ha hf hx h3⟩
end
mutual
theorem Rep.ofX {K : PySem.W.Frag} {T T' : Tab} {F : Hp} (ha : T'.addr = T.addr) (hf : T'.flds = T.flds) : ∀ {d : D} {v : V}, d.noexc = true → Rep K T' F d v → Rep K T F d v
  | .non, _, _, h => h
  | .bool _, _, _, h => h
  | .int _, _, _, h => h
  | .str _, _, _, h => h
  | .tup ds, _, n, ⟨a, vs, h1, h2, h3⟩ => ⟨a, vs, h1, h2, Reps.ofX ha hf (show D.noexcs ds = true from n) h3⟩
  | .lst ds, _, n, ⟨a, vs, h1, h2, h3⟩ => ⟨a, vs, h1, h2, Reps.ofX ha hf (show D.noexcs ds = true from n) h3⟩
  | .scr ns, _, _, h => h
  | .set _, _, _, h => h.elim
  | .dict _ _, _, _, h => h.elim
  | .exc _ _, _, n, _ => by cases n
  | .obj c ds, _, n, ⟨a, dx, vs, h1, h2, h4, h3⟩ => ⟨a, dx, vs, h1, by rw [← ha, ← hf]; exact h2, by rw [← hf]; exact h4, Reps.ofX ha hf (show D.noexcs ds = true from n) h3⟩
theorem Reps.ofX {K : PySem.W.Frag} {T T' : Tab} {F : Hp} (ha : T'.addr = T.addr) (hf : T'.flds = T.flds) : ∀ {ds : List D} {vs : List V}, D.noexcs ds = true → Reps K T' F ds vs → Reps K T F ds vs
  | [], _, _, h => h
  | d :: ds, _, n, ⟨v, r, h1, h2, h3⟩ => by
    have n' : (D.noexc d && D.noexcs ds) = true := n
    obtain ⟨n1, n2⟩ := Bool.and_eq_true_iff.mp n'
    exact ⟨v, r, h1, Rep.ofX ha hf n1 h2, Reps.ofX ha hf n2 h3⟩
end
section
variable {K : PySem.W.Frag} {T T' : Tab} {F0 H0 F H : Hp} {fp : Nat → Addr → Prop} {σ : L2.St} {st : Py.St}
theorem StR.toX (R : StR K T F0 H0 F H fp σ st) (ha : T'.addr = T.addr) (hf : T'.flds = T.flds) (hx : ∀ b, T.exc b = none) : StR K T' F0 H0 F H fp σ st :=
  ⟨R.s, R.h0, R.f0, R.n, R.l, fun i d e => by
    obtain ⟨v, a, b⟩ := R.fr i d e
    exact ⟨v, a, Rep.toX ha hf hx b⟩, fun i k d e => by
    obtain ⟨v, a, b⟩ := R.ow i k d e
    refine ⟨v, a, ?_⟩
    unfold Own at b ⊢
    split at b
    · obtain ⟨p, vs, h1, h2, h3, h4⟩ := b
      exact ⟨p, vs, h1, h2, Reps.toX ha hf hx h3, h4⟩
    · exact b.elim, R.no, R.dj, R.fF⟩
theorem StR.ofX (R : StR K T' F0 H0 F H fp σ st) (ha : T'.addr = T.addr) (hf : T'.flds = T.flds) (hn : st.all Sl.noexc = true) : StR K T F0 H0 F H fp σ st := by
  have at_ : ∀ (i : Nat) (sl : Sl), st[i]? = some sl → sl.noexc = true := fun i sl e => List.all_eq_true.mp hn sl (List.mem_of_getElem? e)
  refine ⟨R.s, R.h0, R.f0, R.n, R.l, fun i d e => ?_, fun i k d e => ?_, R.no, R.dj, R.fF⟩
  · obtain ⟨v, a, b⟩ := R.fr i d e
    exact ⟨v, a, Rep.ofX ha hf (at_ i _ e) b⟩
  · obtain ⟨v, a, b⟩ := R.ow i k d e
    refine ⟨v, a, ?_⟩
    have nn : d.noexc = true := at_ i _ e
    unfold Own at b ⊢
    split at b
    · obtain ⟨p, vs, h1, h2, h3, h4⟩ := b
      exact ⟨p, vs, h1, h2, Reps.ofX ha hf nn h3, h4⟩
    · exact b.elim
end
/-- the table within a suite that holds the exception at a -/
def Tab.hot (T : Tab) (a : Addr) (c : Nat) (fs : List D) : Tab := { T with exc := fun b => if b = a then some (c, fs) else none }
/-- x in an except clause: the classes beneath it -/
structure Catch (X : Cx) (T : Tab) (x : String) (cs al : List Nat) : Prop where
  g : ∃ C, Names X (x : Str) (.ref C) ∧ ∀ c, al.contains c = true → PySem.W.exmOne X.K (.ref (T.addr c)) (.ref C) = some (cs.contains c)
section
variable {X : Cx} {T : Tab} {W : WX} {N : Bool} {F0 H0 : Hp} {pos p2 p3 : Pos}
theorem ss_try {x : String} {cs al : List Nat} {i : Nat} {n : Str} {body suite : List Stmt} {b₀ : Stmt} {fb fh : Py.St → Cf} (hx : ∀ b, T.exc b = none) (hs : X.stack = X.env :: X.outer) (hf : X.env.frame = some X.env.locals) (hN : X.N.Nodup) (hi : X.N[i]? = some n) (hln : X.env.kindOf n = some .local) (C : Catch X T x cs al) (tk : Takes X W)
    (hb : ∀ (W : WX) (pn : List (Addr × Obj)) (xe : Value → Shared → Prop), Takes (X.tr pn xe) W → PassesOwn (model X.prog X.w) X.A X.env xe → PSs (X.tr pn xe) body (rdS X.K T W N F0 H0 fb))
    (hsu : ∀ (a : Addr) (oe : Obj) (c : Nat) (fs : List D) (d : Option Addr) (H : Hp) (pn : List (Addr × Obj)), al.contains c = true → ExR X.K c fs d H → Zc (.ref (T.addr c)) d oe → (∃ vs, oe.data = .fields vs) → PSs (X.suite a ((a, oe) :: pn)) (b₀ :: suite) (rdS X.K (T.hot a c fs) W0 N F0 H0 fh)) :
    PS X (.Try body [.ExceptHandler (some (.Name (x : Str) p2)) (some n) (b₀ :: suite) p3] [] [] pos) (rdS X.K T W N F0 H0 fun st => match fb st with
      | .ex c fs st1 => if al.contains c then (if cs.contains c then catchD (some i) (fh (catchS (some i) c fs st1)) else .ex c fs st1) else .no
      | r => r) := by
  obtain ⟨Cv, hnm, hex⟩ := C.g
  have main := ps_try_as (pos := pos) (pos' := p3) (np := p2) (ts := fun a cls d => fun D σ H => ∃ c fs H', cls = .ref (T.addr c) ∧ al.contains c = true ∧ ExR X.K c fs d H' ∧ rdS X.K (T.hot a c fs) W0 N F0 H0 fh D σ H) hs hf hN hi hln hnm tk hb (fun a oe cls d pn hz hv => by
    refine ⟨fun pins s σ H D I ⟨c, fs, H', e1, e2, e3, q⟩ => ?_⟩
    subst e1
    exact (hsu a oe c fs d H' pn e2 e3 hz hv).run pins s σ H D I q)
  refine ps_of main fun D σ H L ⟨F, fp, st, R, q⟩ _ => ⟨F, fp, st, R, ?_⟩
  cases hfb : fb st with
  | nx st' =>
    rw [hfb] at q
    exact q
  | bk st' =>
    rw [hfb] at q
    exact q
  | ct st' =>
    rw [hfb] at q
    exact q
  | rt d =>
    rw [hfb] at q
    exact q
  | no =>
    rw [hfb] at q
    exact q
  | ex c fs st1 =>
    rw [hfb] at q
    have q : PostS X.K T W N F0 H0 D (if al.contains c then (if cs.contains c then catchD (some i) (fh (catchS (some i) c fs st1)) else .ex c fs st1) else .no) := q
    intro dx F1 H1 fp1 σ1 R1 hxr
    by_cases hal : al.contains c = true
    · rw [if_pos hal] at q
      refine ⟨cs.contains c, hex c hal, fun hc a ha => ?_, fun hc => ?_⟩
      · rw [if_pos hc] at q
        refine ⟨c, fs, H1, rfl, hal, hxr, fun _ => ?_⟩
        have R2 : StR X.K (T.hot a c fs) F0 H0 F1 H1 fp1 σ1 st1 := R1.toX rfl rfl hx
        have R3 := R2.put (i := i) (d := .exc c fs) (v := .ref a) ⟨a, rfl, if_pos rfl⟩
        refine ⟨F1, _, catchS (some i) c fs st1, R3, ?_⟩
        cases hfh : fh (catchS (some i) c fs st1) with
        | nx st' =>
          rw [hfh] at q
          have q : PostS X.K T W N F0 H0 D (if (dropS (some i) st').all Sl.noexc then .nx (dropS (some i) st') else .no) := q
          split at q
          · rename_i hne
            intro F4 H4 fp4 σ4 R4
            exact q F4 H4 _ _ ((R4.drop (i := i) (v := none)).ofX rfl rfl hne)
          · exact q.elim
        | rt d =>
          rw [hfh] at q
          have q : PostS X.K T W N F0 H0 D (if d.noexc then .rt d else .no) := q
          split at q
          · rename_i hne
            cases N with
            | false => exact fun v F4 H4 g r => q v F4 H4 g (Rep.ofX (T := T) (T' := T.hot a c fs) rfl rfl hne r)
            | true =>
              intro ds p vs F4 H4 e g h1 h2 h3 h4
              subst e
              exact q ds p vs F4 H4 rfl g h1 h2 h3 (Reps.ofX (T := T) (T' := T.hot a c fs) rfl rfl hne h4)
          · exact q.elim
        | bk st' =>
          rw [hfh] at q
          exact q.elim
        | ct st' =>
          rw [hfh] at q
          exact q.elim
        | ex c' fs' st' =>
          rw [hfh] at q
          exact q.elim
        | no =>
          rw [hfh] at q
          exact q.elim
      · rw [if_neg (by rw [hc]; exact Bool.false_ne_true)] at q
        exact q dx F1 H1 fp1 σ1 R1 hxr
    · rw [if_neg hal] at q
      exact q.elim
end
end Py

namespace Py
open PySem L2

/-! ### does this piece of the language stand for that piece of the text -/
structure Sg where
  N : List Str
  sc : Scope
  free : List Str
def isDbg (x : Str) : Bool := (x == ("__debug__" : Str)) || (x == ("__classdict__" : Str))
def visB (sc : Scope) (x : Str) : Bool := match sc.names.lookup x with
  | some .local => true
  | some .cell => true
  | some .free => true
  | _ => false
def locB (sc : Scope) (x : Str) : Bool := match sc.names.lookup x with
  | some .local => true
  | some .cell => true
  | _ => false
def glB (sc : Scope) (x : Str) : Bool := match sc.names.lookup x with
  | some .globalImplicit => true
  | _ => false
theorem vis_of {sc : Scope} {x : Str} (h : visB sc x = true) : Vis sc x := by
  unfold visB at h
  unfold Vis
  split at h
  · exact .inl (by assumption)
  · exact .inr (.inl (by assumption))
  · exact .inr (.inr (by assumption))
  · cases h
theorem loc_of {sc : Scope} {x : Str} (h : locB sc x = true) : L2.Loc sc x := by
  unfold locB at h
  unfold L2.Loc
  split at h
  · exact .inl (by assumption)
  · exact .inr (by assumption)
  · cases h
theorem gl_of {sc : Scope} {x : Str} (h : glB sc x = true) : sc.names.lookup x = some .globalImplicit := by
  unfold glB at h
  split at h
  · assumption
  · cases h
mutual
/-- a target; sc: the block's own scope -/
def mP (N : List Str) (sc : Scope) : Pat → Expr → Bool
  | .v i, .Name x _ => decide (N[i]? = some x) && locB sc x
  | .tup ps, .Tuple es _ _ => mPs N sc ps es
  | _, _ => false
def mPs (N : List Str) (sc : Scope) : List Pat → List Expr → Bool
  | [], [] => true
  | p :: ps, e :: es => mP N sc p e && mPs N sc ps es
  | _, _ => false
end
mutual
/-- an expression that may be a test -/
def tstOk : E → Bool
  | .ife _ _ _ => false
  | .not a => tstOk a
  | .ands _ es => tstOks es
  | _ => true
def tstOks : Es → Bool
  | .nil => true
  | .cons e es => tstOk e && tstOks es
end
def nameB (x : Str) (y : String) : Bool := decide (x = (y : Str))
mutual
def mE (h : Bool) (S : Sg) : E → Expr → Bool
  | .v i, .Name x _ => decide (S.N[i]? = some x) && (visB S.sc x && !isDbg x)
  | .non, .Constant .none _ _ => true
  | .tt, .Constant (.bool b) _ _ => b
  | .ff, .Constant (.bool b) _ _ => !b
  | .int i, .Constant (.int j) _ _ => decide (i = j)
  | .str z, .Constant (.str x) _ _ => decide (x = ⟨z.toArray⟩)
  | .glob x _, .Name y _ => nameB y x && (glB S.sc x && !isDbg x)
  | .bin o a b, .BinOp l op r _ => decide (op = bop o) && (mE h S a l && mE h S b r)
  | .neg a, .UnaryOp .USub x _ => mE h S a x
  | .cmp o a b, .Compare l [op] [r] _ => decide (op = cop o) && (!behindInMarks op r && (mE h S a l && mE h S b r))
  | .chain o o' a b c, .Compare l [op, op'] [r, r'] _ => decide (op = cop o) && (decide (op' = cop o') && (!lastMarks [op, op'] [r, r'] && (mE h S a l && (mE h S b r && mE h S c r'))))
  | .not a, .UnaryOp .Not x _ => mE h S a x
  | .ands o es, .BoolOp op vs _ => decide (op = if o then .And else .Or) && (!vs.isEmpty && mEs h S es vs)
  | .ife t a b, .IfExp c x y _ => tstOk t && (mE h S t c && (mE h S a x && mE h S b y))
  | .tup es, .Tuple xs _ _ => decide (xs.length ≤ 1000) && (xs.all isPlain && mEs h S es xs)
  | .lst es, .List xs _ => decide (xs.length ≤ 1000) && (xs.all isPlain && mEs h S es xs)
  | .idx a b, .Subscript x y _ => isPlain y && (mE h S a x && mE h S b y)
  | .slice a lo hi, .Subscript x (.Slice l u none _) _ => mE h S a x && (mO h S lo l && mO h S hi u)
  | .rev a, .Subscript x (.Slice none none (some (.UnaryOp .USub (.Constant (.int j) _ _) _)) _) _ => decide (j = 1) && mE h S a x
  | .call x _ _ es, .Call (.Name y _) as [] _ => !h && (nameB y x && (glB S.sc x && (!isDbg x && (!as.isEmpty && (as.all isPlain && mEs h S es as)))))
  | .bi f es, .Call (.Name y _) as [] _ => !h && (nameB y (biN f) && (glB S.sc (biN f) && (S.free.contains (biN f : Str) && (!as.isEmpty && (as.all isPlain && mEs h S es as)))))
  | .isin e t, .Call (.Name y _) [a, .Name z _] [] _ => nameB y "isinstance" && (glB S.sc ("isinstance" : Str) && (S.free.contains ("isinstance" : Str) && (isPlain a && (mE h S e a && (match t with
      | .exc x _ _ => nameB z x && (glB S.sc x && !isDbg x)
      | t => (match tyB t with
        | some b => nameB z b && (glB S.sc b && S.free.contains (b : Str))
        | none => false))))))
  | .lc own p it c e, .ListComp elt [⟨tg, iter, ifs, 0⟩] scope _ => !h && (blkC S.N S.sc scope (own.map fun q => ((q.1 : Str), q.2)) && ((p.ix.all fun i => (own.map (·.2)).contains i) && (mP S.N scope p tg && (mI h S it iter &&
      (mC h { S with sc := relS scope S.sc } c ifs && mE h { S with sc := relS scope S.sc } e elt)))))
  | _, _ => false
def mO (h : Bool) (S : Sg) : EO → Option Expr → Bool
  | .none, none => true
  | .some e, some a => mE h S e a
  | _, _ => false
def mC (h : Bool) (S : Sg) : EO → List Expr → Bool
  | .none, [] => true
  | .some e, [a] => tstOk e && mE h S e a
  | _, _ => false
def mEs (h : Bool) (S : Sg) : Es → List Expr → Bool
  | .nil, [] => true
  | .cons e es, a :: as => mE h S e a && mEs h S es as
  | _, _ => false
def mI (h : Bool) (S : Sg) : It → Expr → Bool
  | .seq e, a => isPlain a && mE h S e a
  | .range e, .Call (.Name y _) [a] [] _ => nameB y "range" && (glB S.sc ("range" : Str) && (S.free.contains ("range" : Str) && (isPlain a && mE h S e a)))
  | .range2 e f, .Call (.Name y _) [a, b] [] _ => nameB y "range" && (glB S.sc ("range" : Str) && (S.free.contains ("range" : Str) && (isPlain a && (isPlain b && (mE h S e a && mE h S f b)))))
  | _, _ => false
end

/-! ### defs that hand back a new list -/
def spOfN (K : PySem.W.Frag) (T : Tab) (n : Nat) (f : Sem) : Sp := fun vs H Q E => ∃ F ds, ds.length = n ∧ Same F H ∧ Reps K T F ds vs ∧ PostN K T E F H (f ds) Q
def GoodN (P : Program) (w : World) (K : PySem.W.Frag) (mg : Str → Option Value) (base : Heap) (T : Tab) (k : Nat) (x : String) (f : Sem) (dd : List D) : Prop :=
  ∃ (g : Addr) (fd : FuncData) (ps : List Str) (dvs : List V) (ds : List Value), mg (x : Str) = some (.ref g) ∧ PySem.W.keepIn K (.ref g) = true ∧ Binds K fd ps ds ∧ Vals dvs ds ∧ (∀ F, Reps K T F dd dvs) ∧ (∀ zs, zs.length ≠ ps.length → f zs = .no) ∧ (∀ zs d, f zs = .ok d → ∃ ls, d = .lst ls) ∧
    FnOk P w K mg base (L2.CX P w) k g fd ps (spOfN K T ps.length f)
theorem FnOk.imp {P : Program} {w : World} {K : PySem.W.Frag} {mg : Str → Option Value} {base : Heap} {CX : CXT} {k : Nat} {g : Addr} {fd : FuncData} {ps : List Str} {sp sp' : Sp} (h : FnOk P w K mg base CX k g fd ps sp) (i : ∀ vs H Q E, sp' vs H Q E → sp vs H Q E) : FnOk P w K mg base CX k g fd ps sp' :=
  ⟨fun vs H Q E q => h.len vs H Q E (i _ _ _ _ q), fun A outer s H args us vs Q E hr e0 hb r q => h.run A outer s H args us vs Q E hr e0 hb r (i _ _ _ _ q)⟩
theorem GoodN.good {P : Program} {w : World} {K : PySem.W.Frag} {mg : Str → Option Value} {base : Heap} {T : Tab} {k : Nat} {x : String} {f : Sem} {dd : List D} (h : GoodN P w K mg base T k x f dd) : Good P w K mg base T k x f dd := by
  obtain ⟨g, fd, ps, dvs, ds, h1, h2, h3, h4, h5, h6, h7, h8⟩ := h
  exact ⟨g, fd, ps, dvs, ds, h1, h2, h3, h4, h5, h6, FnOk.imp h8 fun vs H Q E ⟨F, ds, q1, q2, q3, q4⟩ => ⟨F, ds, q1, q2, q3, PostN.of q4 fun d e => h7 _ _ e⟩⟩
section
variable {X : Cx} {T : Tab} {W : WX} {pos p2 : Pos}
theorem s_callN {k : Nat} {x : String} {f : Sem} {dd : List D} {e : Expr} {es : List Expr} {g : Env → R (List D)} (G : GoodN X.prog X.w X.K X.mg X.base T k x f dd) (hr : Room k X.A) (hg : Gl X (x : Str)) (tk : Takes X W) (hd : (((x : Str)) == ("__debug__" : Str)) = false)
    (hp : ((e :: es).all isPlain) = true) (ha : PA X (e :: es) (rdA X.K T W g)) : PE X (.Call (.Name (x : Str) p2) (e :: es) [] pos) (rdN X.K T W fun env => (g env).bind fun xs => f (xs ++ dd)) := by
  obtain ⟨a, fd, ps, dvs, ds, h1, h2, h3, h4, h5, h7, h8, h6⟩ := G
  have hp' : (isPlain e && es.all isPlain) = true := hp
  obtain ⟨p1, p2'⟩ := Bool.and_eq_true_iff.mp hp'
  refine pn_of (pe_callSD (E := fun σ cls d H => W cls d σ H) h6 hr hg h1 h2 h3 h4 (fun σ => passAt tk σ) ha hd (star_plain p1 es X.env) (star_none p2')) fun σ H Q _ ⟨F, env, vw, q⟩ => ?_
  refine vw.rd (Post.imp (PostN.bind (rel := relL X.K T) q) fun vs H1 ⟨F1, d1, e1, g1, r1, q1⟩ => ?_)
  refine ⟨F1, d1 ++ dd, Decidable.byContradiction fun hn => ?_, g1.s, Reps.app r1 (h5 F1), q1⟩
  rw [h7 _ hn] at q1
  exact q1
end

/-! ### what a piece leans on -/
inductive Need where
  | call (x : String) (f : Sem) (dd : List D)
  | isexc (x : String) (cs al : List Nat)
  | glob (x : String) (d : D)
  | raise (x : String) (c : Nat)
  | catch_ (x : String) (cs al : List Nat)
  | callN (x : String) (f : Sem) (dd : List D)
def Need.ok (P : Program) (w : World) (K : PySem.W.Frag) (mg : Str → Option Value) (base : Heap) (T : Tab) (k : Nat) : Need → Prop
  | .call x f dd => Good P w K mg base T k x f dd
  | .isexc x cs al => IsExc K mg T x cs al
  | .glob x d => ∃ u v, mg (x : Str) = some u ∧ RelV v u ∧ ∀ F, Rep K T F d v
  | .raise x c => ExcOk P w K mg T x c
  | .catch_ x cs al => ∃ C, mg (x : Str) = some (.ref C) ∧ ∀ c, al.contains c = true → PySem.W.exmOne K (.ref (T.addr c)) (.ref C) = some (cs.contains c) ∧ ExcC K (T.addr c)
  | .callN x f dd => GoodN P w K mg base T k x f dd
abbrev Need.at (X : Cx) (T : Tab) (k : Nat) (n : Need) : Prop := n.ok X.prog X.w X.K X.mg X.base T k
mutual
def E.needs : E → List Need
  | .v _ => []
  | .non => []
  | .tt => []
  | .ff => []
  | .int _ => []
  | .str _ => []
  | .glob x d => [.glob x d]
  | .bin _ a b => a.needs ++ b.needs
  | .neg a => a.needs
  | .cmp _ a b => a.needs ++ b.needs
  | .chain _ _ a b c => a.needs ++ (b.needs ++ c.needs)
  | .not a => a.needs
  | .ands _ es => es.needs
  | .ife t a b => t.needs ++ (a.needs ++ b.needs)
  | .tup es => es.needs
  | .lst es => es.needs
  | .idx a b => a.needs ++ b.needs
  | .slice a lo hi => a.needs ++ (lo.needs ++ hi.needs)
  | .rev a => a.needs
  | .call x f dd es => .call x f dd :: es.needs
  | .bi _ es => es.needs
  | .isin e t => (match t with
    | .exc x cs al => [.isexc x cs al]
    | _ => []) ++ e.needs
  | .lc _ _ it c e => it.needs ++ (c.needs ++ e.needs)
def EO.needs : EO → List Need
  | .none => []
  | .some e => e.needs
def Es.needs : Es → List Need
  | .nil => []
  | .cons e es => e.needs ++ es.needs
def It.needs : It → List Need
  | .seq e => e.needs
  | .range a => a.needs
  | .range2 a b => a.needs ++ b.needs
end

/-! ### where one stands -/
structure Ctx (h : Bool) (X : Cx) (T : Tab) (W : WX) (k : Nat) (S : Sg) : Prop where
  hN : X.N = S.N
  sc : X.env.scope = S.sc
  nd : X.N.Nodup
  un : X.A.units + 65 < cLine
  calm : h = false → X.calm = true
  room : h = false → Room k X.A
  tk : Takes X W
  free : ∀ x, S.free.contains x = true → X.mg x = none
  nox : h = false → ∀ b, T.exc b = none
  ise : ∀ a c fs, T.exc a = some (c, fs) → CallR X (.builtin "isinstance") (rIsE X.K (T.addr c) a)
section
variable {X : Cx} {T : Tab} {W : WX} {k : Nat} {S : Sg} {h : Bool}
theorem Ctx.blk (hf : h = false) (C : Ctx h X T W k S) {s : Shared} {H : Hp} {scope : Scope} {Cc : Addr} {cl : List (Str × Addr)} {fp : List Addr} : Ctx h (X.blk s H scope (compEnvC scope cl Cc X.env) fp) T W0 k { S with sc := relS scope S.sc } where
  hN := C.hN
  sc := by
    rw [← C.sc]
    rfl
  nd := C.nd
  un := C.un
  calm := fun _ => C.calm hf
  room := fun _ => C.room hf
  tk := takes0
  free := C.free
  nox := C.nox
  ise := fun a c fs e => by
    rw [C.nox hf a] at e
    cases e
theorem ba {a b : Bool} (h : (a && b) = true) : a = true ∧ b = true := Bool.and_eq_true_iff.mp h
theorem name_of {x : Str} {y : String} (h : nameB x y = true) : x = (y : Str) := of_decide_eq_true h
theorem dbg1 {x : Str} (h : (!isDbg x) = true) : (x == ("__debug__" : Str)) = false := by
  unfold isDbg at h
  rw [Bool.not_or] at h
  have := (ba h).1
  simpa using this
theorem dbg2 {x : Str} (h : (!isDbg x) = true) : (x == ("__classdict__" : Str)) = false := by
  unfold isDbg at h
  rw [Bool.not_or] at h
  have := (ba h).2
  simpa using this
/-! targets -/
mutual
theorem pg_of {fnk : ∀ x, locB scb x = true → L2.Loc X.env.scope x ∧ (X.fn x = true ∨ X.env.scope.names.lookup x = some .local)} (nd : X.N.Nodup) (hc : X.calm = true) : ∀ (p : Pat) (e : Expr), mP X.N scb p e = true → PG X e (gP X.K p)
  | .v i, e, hm => by
    cases e <;> first | (cases hm; done) | skip
    rename_i x pos
    obtain ⟨h1, h2⟩ := ba hm
    obtain ⟨h3, h4⟩ := fnk x h2
    exact pg_name nd (of_decide_eq_true h1) h3 h4
  | .tup ps, e, hm => by
    cases e <;> first | (cases hm; done) | skip
    rename_i es kk pos
    have hm : mPs X.N scb ps es = true := hm
    obtain ⟨h1, h2⟩ := mPs_len hm
    exact pg_tup hc (pgs_of (fnk := fnk) nd hc ps es hm) h1 h2
theorem pgs_of {fnk : ∀ x, locB scb x = true → L2.Loc X.env.scope x ∧ (X.fn x = true ∨ X.env.scope.names.lookup x = some .local)} (nd : X.N.Nodup) (hc : X.calm = true) : ∀ (ps : List Pat) (es : List Expr), mPs X.N scb ps es = true → PGs X es (gPs X.K ps)
  | [], es, hm => by
    cases es with
    | nil => exact pgs_nil
    | cons _ _ => cases hm
  | p :: ps, es, hm => by
    cases es with
    | nil => cases hm
    | cons e es =>
      have hm : (mP X.N scb p e && mPs X.N scb ps es) = true := hm
      obtain ⟨h1, h2⟩ := ba hm
      refine pgs_cons (pg_of (fnk := fnk) nd hc p e h1) (pgs_of (fnk := fnk) nd hc ps es h2) ?_
      cases p <;> cases e <;> first | (cases h1; done) | rfl
theorem mPs_len : ∀ {ps : List Pat} {es : List Expr} {N : List Str} {sc : Scope} {env : PySem.Env}, mPs N sc ps es = true → (assignEach es env).length = ps.length ∧ (assignEach es env).findIdx? (·.1) = none
  | [], es, N, sc, env, hm => by
    cases es with
    | nil => exact ⟨rfl, rfl⟩
    | cons _ _ => cases hm
  | p :: ps, es, N, sc, env, hm => by
    cases es with
    | nil => cases hm
    | cons e es =>
      have hm : (mP N sc p e && mPs N sc ps es) = true := hm
      obtain ⟨h1, h2⟩ := ba hm
      obtain ⟨q1, q2⟩ := mPs_len (env := env) h2
      have e1 : assignEach (e :: es) env = (false, assign e env) :: assignEach es env := by
        cases p <;> cases e <;> first | (cases h1; done) | rfl
      rw [e1]
      refine ⟨by rw [List.length_cons, q1, List.length_cons], ?_⟩
      rw [List.findIdx?_cons]
      simp [q2]
end
end
end Py

namespace Py
open PySem L2

theorem ba3 {a b c : Bool} (h : (a && (b && c)) = true) : a = true ∧ b = true ∧ c = true := by
  simpa only [Bool.and_eq_true] using h
theorem ba4 {a b c d : Bool} (h : (a && (b && (c && d))) = true) : a = true ∧ b = true ∧ c = true ∧ d = true := by
  simpa only [Bool.and_eq_true] using h
theorem ba5 {a b c d e : Bool} (h : (a && (b && (c && (d && e)))) = true) : a = true ∧ b = true ∧ c = true ∧ d = true ∧ e = true := by
  simpa only [Bool.and_eq_true] using h
theorem ba6 {a b c d e f : Bool} (h : (a && (b && (c && (d && (e && f))))) = true) : a = true ∧ b = true ∧ c = true ∧ d = true ∧ e = true ∧ f = true := by
  simpa only [Bool.and_eq_true] using h
theorem ba7 {a b c d e f g : Bool} (h : (a && (b && (c && (d && (e && (f && g)))))) = true) : a = true ∧ b = true ∧ c = true ∧ d = true ∧ e = true ∧ f = true ∧ g = true := by
  simpa only [Bool.and_eq_true] using h
theorem ba8 {a b c d e f g h' : Bool} (h : (a && (b && (c && (d && (e && (f && (g && h'))))))) = true) : a = true ∧ b = true ∧ c = true ∧ d = true ∧ e = true ∧ f = true ∧ g = true ∧ h' = true := by
  simpa only [Bool.and_eq_true] using h
theorem evs_len : ∀ (es : Es) {as : List Expr} {h : Bool} {S : Sg}, mEs h S es as = true → ∀ env ds, evs env es = .ok ds → ds.length = as.length
  | .nil, as, h, S, hm, env, ds, e => by
    cases as with
    | nil =>
      cases e
      rfl
    | cons _ _ => cases hm
  | .cons x es, as, h, S, hm, env, ds, e => by
    cases as with
    | nil => cases hm
    | cons a as =>
      have hm : (mE h S x a && mEs h S es as) = true := hm
      obtain ⟨_, h2⟩ := ba hm
      have e : ((ev env x).bind fun x => (evs env es).map fun xs => x :: xs) = .ok ds := e
      cases hx : ev env x with
      | ok v =>
        rw [hx] at e
        cases hy : evs env es with
        | ok r =>
          rw [hy] at e
          cases e
          rw [List.length_cons, List.length_cons, evs_len es h2 env r hy]
        | ex c fs =>
          rw [hy] at e
          cases e
        | no =>
          rw [hy] at e
          cases e
      | ex c fs =>
        rw [hx] at e
        cases e
      | no =>
        rw [hx] at e
        cases e
theorem pe_eq {X : Cx} {a : Expr} {K : PySem.W.Frag} {T : Tab} {W : WX} {f g : Env → R D} (e : ∀ env, f env = g env) (h : PE X a (rdE K T W f)) : PE X a (rdE K T W g) := by
  rw [← funext e]
  exact h
theorem pt_eq {X : Cx} {a : Expr} {K : PySem.W.Frag} {T : Tab} {W : WX} {f g : Env → R Bool} (e : ∀ env, f env = g env) (h : PT X a (rdT K T W f)) : PT X a (rdT K T W g) := by
  rw [← funext e]
  exact h
theorem pw_eq {X : Cx} {a : Expr} {K : PySem.W.Frag} {T : Tab} {W : WX} {f g : Env → R Bool} (e : ∀ env, f env = g env) (h : PW X a (rdT K T W f)) : PW X a (rdT K T W g) := by
  rw [← funext e]
  exact h
theorem evt_cmp {r : R Bool} : (r.map D.bool).bind truth = r := by cases r <;> rfl
theorem evt_not {r : R D} : (r.bind fun x => (truth x).map fun t => D.bool (!t)).bind truth = (r.bind truth).map not := by
  cases r with
  | ok x =>
    show ((truth x).map fun t => D.bool (!t)).bind truth = (truth x).map not
    cases truth x <;> rfl
  | ex c fs => rfl
  | no => rfl
theorem bind_bind {α β γ : Type} {r : R α} {f : α → R β} {g : β → R γ} : (r.bind f).bind g = r.bind fun x => (f x).bind g := by cases r <;> rfl
theorem evt_and {r q : R D} {o : Bool} : (r.bind fun x => (truth x).bind fun t => if t = o then q else .ok x).bind truth = (r.bind truth).bind fun t => if t = o then q.bind truth else .ok t := by
  cases r with
  | ok x =>
    show ((truth x).bind fun t => if t = o then q else .ok x).bind truth = (truth x).bind fun t => if t = o then q.bind truth else .ok t
    cases hx : truth x with
    | ok t =>
      show (if t = o then q else .ok x).bind truth = if t = o then q.bind truth else .ok t
      by_cases ht : t = o
      · rw [if_pos ht, if_pos ht]
      · rw [if_neg ht, if_neg ht]
        exact hx
    | ex c fs => rfl
    | no => rfl
  | ex c fs => rfl
  | no => rfl
theorem relS_lookup {sc : Scope} {x : Str} (g : Str → NameKind → Bool) : ∀ (l : List (Str × NameKind)), (l.map fun (n, k) => if g n k then (n, NameKind.cell) else (n, k)).lookup x = (l.lookup x).map fun k => if g x k then .cell else k
  | [] => rfl
  | (n, k) :: r => by
    rw [List.map_cons]
    by_cases hx : x = n
    · subst hx
      show ((if g x k then (x, NameKind.cell) else (x, k)) :: _).lookup x = _
      by_cases hg : g x k = true
      · rw [if_pos hg, List.lookup_cons_self, List.lookup_cons_self]
        simp [hg]
      · rw [if_neg hg, List.lookup_cons_self, List.lookup_cons_self]
        simp [hg]
    · have hb : (x == n) = false := by simpa using hx
      show ((if g n k then (n, NameKind.cell) else (n, k)) :: _).lookup x = _
      have ih := relS_lookup (sc := sc) (x := x) g r
      by_cases hg : g n k = true
      · rw [if_pos hg]
        simp only [List.lookup, hb]
        exact ih
      · rw [if_neg hg]
        simp only [List.lookup, hb]
        exact ih
theorem fnk_blk {X : Cx} {s : Shared} {H : Hp} {scope : Scope} {C : Addr} {cl : List (Str × Addr)} {fp : List Addr} (x : Str) (h : locB scope x = true) :
    L2.Loc (X.blk s H scope (compEnvC scope cl C X.env) fp).env.scope x ∧ ((X.blk s H scope (compEnvC scope cl C X.env) fp).fn x = true ∨ (X.blk s H scope (compEnvC scope cl C X.env) fp).env.scope.names.lookup x = some .local) := by
  have e : (X.blk s H scope (compEnvC scope cl C X.env) fp).env.scope.names.lookup x = (scope.names.lookup x).map fun k => if (k == .free && X.env.scope.kind == .function && X.env.scope.names.lookup x == some .cell) then .cell else k :=
    relS_lookup (sc := scope) (fun n k => k == .free && X.env.scope.kind == .function && X.env.scope.names.lookup n == some .cell) scope.names
  rcases loc_of h with h | h
  · rw [h] at e
    have e : (X.blk s H scope (compEnvC scope cl C X.env) fp).env.scope.names.lookup x = some .local := e
    exact ⟨.inl e, .inr e⟩
  · rw [h] at e
    have e : (X.blk s H scope (compEnvC scope cl C X.env) fp).env.scope.names.lookup x = some .cell := e
    refine ⟨.inr e, .inl ?_⟩
    show (scope.names.lookup x == some .cell) = true
    rw [h]
    rfl
theorem iter_plain {a : Expr} (h : isPlain a = true) (env : PySem.Env) (x : Value) : foldedSetIterable a env x = pure x := by
  cases a <;> first | rfl | cases h
theorem mI_plain {N : List Str} {h : Bool} {S : Sg} {it : It} {a : Expr} (hm : mI h S it a = true) : isPlain a = true := by
  cases it with
  | seq e => exact (ba hm).1
  | range e =>
    cases a <;> first | rfl | cases hm
  | range2 e f =>
    cases a <;> first | rfl | cases hm

section
variable {T : Tab} {k : Nat} {h : Bool}
theorem left_of {α : Type} {P : α → Prop} {l r : List α} (q : ∀ n ∈ l ++ r, P n) : ∀ n ∈ l, P n := fun n m => q n (List.mem_append.mpr (.inl m))
theorem right_of {α : Type} {P : α → Prop} {l r : List α} (q : ∀ n ∈ l ++ r, P n) : ∀ n ∈ r, P n := fun n m => q n (List.mem_append.mpr (.inr m))
theorem gl_at {X : Cx} {S : Sg} {x : Str} (e : X.env.scope = S.sc) (hg : glB S.sc x = true) : Gl X x := by
  show X.env.scope.names.lookup x = _
  rw [e]
  exact gl_of hg
theorem free_at {X : Cx} {W : WX} {S : Sg} {x : Str} (C : Ctx h X T W k S) (hf : S.free.contains x = true) : X.mg x = none := C.free x hf
theorem not_of {b : Bool} (h : (!b) = true) : b = false := by
  cases b
  · rfl
  · cases h
theorem evt_cmp2 {r q : R D} {f : D → D → R Bool} : (r.bind fun x => q.bind fun y => (f x y).map D.bool).bind truth = r.bind fun x => q.bind fun y => f x y := by
  cases r with
  | ok x =>
    cases q with
    | ok y => exact evt_cmp
    | ex c fs => rfl
    | no => rfl
  | ex c fs => rfl
  | no => rfl
theorem evt_cmp3 {r q w : R D} {f g : D → D → R Bool} : (r.bind fun x => q.bind fun y => (f x y).bind fun t => if t then w.bind fun z => (g y z).map D.bool else .ok (.bool false)).bind truth = r.bind fun x => q.bind fun y => (f x y).bind fun t => if t then w.bind fun z => g y z else .ok false := by
  cases r with
  | ok x =>
    cases q with
    | ok y =>
      show ((f x y).bind fun t => if t then w.bind fun z => (g y z).map D.bool else .ok (.bool false)).bind truth = (f x y).bind fun t => if t then w.bind fun z => g y z else .ok false
      cases f x y with
      | ok t =>
        cases t with
        | true =>
          show (w.bind fun z => (g y z).map D.bool).bind truth = w.bind fun z => g y z
          cases w with
          | ok z => exact evt_cmp
          | ex c fs => rfl
          | no => rfl
        | false => rfl
      | ex c fs => rfl
      | no => rfl
    | ex c fs => rfl
    | no => rfl
  | ex c fs => rfl
  | no => rfl
theorem both {X : Cx} {W : WX} {a : Expr} {e : E} (he : ∀ whole, isTrue a X.env whole = (do let v ← whole; standAt a.pos; holding [v] (truthy v))) (p : PE X a (rdE X.K T W fun env => ev env e)) : PE X a (rdE X.K T W fun env => ev env e) ∧ (tstOk e = true → PT X a (rdT X.K T W fun env => evt env e)) :=
  ⟨p, fun _ => s_truth p he⟩
mutual
theorem sndE : ∀ (e : E) {X : Cx} {W : WX} {S : Sg} (C : Ctx h X T W k S) (a : Expr), mE h S e a = true → (∀ n ∈ e.needs, n.at X T k) → PE X a (rdE X.K T W fun env => ev env e) ∧ (tstOk e = true → PT X a (rdT X.K T W fun env => evt env e))
  | .v i, X, W, S, C, a, hm, q => by
    cases a <;> first | (cases hm; done) | skip
    obtain ⟨h1, h2, h3⟩ := ba3 hm
    refine both (fun _ => rfl) (s_var (by rw [C.hN]; exact of_decide_eq_true h1) (by rw [C.sc]; exact vis_of h2) (dbg1 h3) (dbg2 h3))
  | .non, X, W, S, C, a, hm, q => by
    cases a <;> first | (cases hm; done) | skip
    rename_i c j p
    cases c <;> first | (cases hm; done) | skip
    exact both (fun _ => rfl) s_non
  | .tt, X, W, S, C, a, hm, q => by
    cases a <;> first | (cases hm; done) | skip
    rename_i c j p
    cases c <;> first | (cases hm; done) | skip
    rename_i b
    cases b
    · cases hm
    · exact both (fun _ => rfl) s_bool
  | .ff, X, W, S, C, a, hm, q => by
    cases a <;> first | (cases hm; done) | skip
    rename_i c j p
    cases c <;> first | (cases hm; done) | skip
    rename_i b
    cases b
    · exact both (fun _ => rfl) s_bool
    · cases hm
  | .int i, X, W, S, C, a, hm, q => by
    cases a <;> first | (cases hm; done) | skip
    rename_i c j p
    cases c <;> first | (cases hm; done) | skip
    rename_i b
    have e : i = b := of_decide_eq_true hm
    subst e
    exact both (fun _ => rfl) s_int
  | .str z, X, W, S, C, a, hm, q => by
    cases a <;> first | (cases hm; done) | skip
    rename_i c j p
    cases c <;> first | (cases hm; done) | skip
    exact both (fun _ => rfl) (s_str (of_decide_eq_true hm))
  | .glob x d, X, W, S, C, a, hm, q => by
    cases a <;> first | (cases hm; done) | skip
    obtain ⟨h1, h2, h3⟩ := ba3 hm
    obtain ⟨u, v, g1, g2, g3⟩ := q _ (List.mem_singleton.mpr rfl)
    have hx := name_of h1
    subst hx
    exact both (fun _ => rfl) (s_c (pe_glob (gl_at C.sc h2) g1 g2 (dbg1 h3)) g3)
  | .bin o x y, X, W, S, C, a, hm, q => by
    cases a <;> first | (cases hm; done) | skip
    obtain ⟨h1, h2, h3⟩ := ba3 hm
    rw [of_decide_eq_true h1]
    exact both (fun _ => rfl) (s_bin (sndE x C _ h2 (left_of q)).1 (sndE y C _ h3 (right_of q)).1)
  | .neg x, X, W, S, C, a, hm, q => by
    cases a <;> first | (cases hm; done) | skip
    rename_i o y p
    cases o <;> first | (cases hm; done) | skip
    exact both (fun _ => rfl) (s_neg (sndE x C _ hm q).1)
  | .cmp o x y, X, W, S, C, a, hm, q => by
    cases a <;> first | (cases hm; done) | skip
    rename_i l os rs p
    match os, rs, hm with
    | [op], [r], hm =>
      obtain ⟨h1, h2, h3, h4⟩ := ba4 hm
      have h1 := of_decide_eq_true h1
      subst h1
      have p1 := (sndE x C _ h3 (left_of q)).1
      have p2 := (sndE y C _ h4 (right_of q)).1
      exact ⟨s_cmp C.un (not_of h2) p1 p2, fun _ => pt_eq (fun env => evt_cmp2.symm) (st_cmp C.un (not_of h2) p1 p2)⟩
  | .chain o o' x y z, X, W, S, C, a, hm, q => by
    cases a <;> first | (cases hm; done) | skip
    rename_i l os rs p
    match os, rs, hm with
    | [op, op'], [r, r'], hm =>
      obtain ⟨h1, h1', h2, h3, h4, h5⟩ := ba6 hm
      have h1 := of_decide_eq_true h1
      subst h1
      have h1' := of_decide_eq_true h1'
      subst h1'
      have p1 := (sndE x C _ h3 (left_of q)).1
      have p2 := (sndE y C _ h4 (left_of (right_of q))).1
      have p3 := (sndE z C _ h5 (right_of (right_of q))).1
      exact ⟨s_chain C.un (not_of h2) p1 p2 p3, fun _ => pt_eq (fun env => evt_cmp3.symm) (st_chain C.un (not_of h2) p1 p2 p3)⟩
  | .not x, X, W, S, C, a, hm, q => by
    cases a <;> first | (cases hm; done) | skip
    rename_i o y p
    cases o <;> first | (cases hm; done) | skip
    exact ⟨s_not (sndE x C _ hm q).1, fun ht => pt_eq (fun env => evt_not.symm) (st_not ((sndE x C _ hm q).2 ht))⟩
  | .ands o es, X, W, S, C, a, hm, q => by
    cases a <;> first | (cases hm; done) | skip
    obtain ⟨h1, h2, h3⟩ := ba3 hm
    rw [of_decide_eq_true h1]
    exact ⟨(sndA es o C _ h3 (not_of h2) q).1, fun ht => ((sndA es o C _ h3 (not_of h2) q).2 ht).pt⟩
  | .ife t x y, X, W, S, C, a, hm, q => by
    cases a <;> first | (cases hm; done) | skip
    obtain ⟨h0, h1, h2, h3⟩ := ba4 hm
    refine ⟨pe_eq (fun env => ?_) (s_ife ((sndE t C _ h1 (left_of q)).2 h0) (sndE x C _ h2 (left_of (right_of q))).1 (sndE y C _ h3 (right_of (right_of q))).1), fun ht => by cases ht⟩
    show ((ev env t).bind truth).bind _ = (ev env t).bind _
    rw [bind_bind]
  | .tup es, X, W, S, C, a, hm, q => by
    cases a <;> first | (cases hm; done) | skip
    obtain ⟨h1, h2, h3⟩ := ba3 hm
    exact both (fun _ => rfl) (s_tup 0 (of_decide_eq_true h1) (sndEs es C _ h3 h2 q) (evs_len es h3))
  | .lst es, X, W, S, C, a, hm, q => by
    cases a <;> first | (cases hm; done) | skip
    obtain ⟨h1, h2, h3⟩ := ba3 hm
    exact both (fun _ => rfl) (s_lst (of_decide_eq_true h1) (sndEs es C _ h3 h2 q) (evs_len es h3))
  | .idx x y, X, W, S, C, a, hm, q => by
    cases a <;> first | (cases hm; done) | skip
    obtain ⟨h1, h2, h3⟩ := ba3 hm
    exact both (fun _ => rfl) (s_idx h1 (sndE x C _ h2 (left_of q)).1 (sndE y C _ h3 (right_of q)).1)
  | .slice x lo hi, X, W, S, C, a, hm, q => by
    cases a <;> first | (cases hm; done) | skip
    rename_i b c p
    cases c <;> first | (cases hm; done) | skip
    rename_i l u st p2
    cases st with
    | some _ => cases hm
    | none =>
      obtain ⟨h1, h2, h3⟩ := ba3 hm
      exact both (fun _ => rfl) (s_slice (sndE x C _ h1 (left_of q)).1 (sndO lo C _ h2 (left_of (right_of q))) (sndO hi C _ h3 (right_of (right_of q))))
  | .rev x, X, W, S, C, a, hm, q => by
    cases a <;> first | (cases hm; done) | skip
    rename_i b c p
    cases c <;> first | (cases hm; done) | skip
    rename_i l u st p2
    cases l with
    | some _ => cases hm
    | none =>
    cases u with
    | some _ => cases hm
    | none =>
    cases st with
    | none => cases hm
    | some st =>
    cases st <;> first | (cases hm; done) | skip
    rename_i o b2 p3
    cases o <;> first | (cases hm; done) | skip
    cases b2 <;> first | (cases hm; done) | skip
    rename_i c j p4
    cases c <;> first | (cases hm; done) | skip
    rename_i j2
    obtain ⟨h1, h2⟩ := ba hm
    have h1 := of_decide_eq_true h1
    subst h1
    exact both (fun _ => rfl) (s_rev (sndE x C _ h2 q).1)
  | .call x f dd es, X, W, S, C, a, hm, q => by
    cases a <;> first | (cases hm; done) | skip
    rename_i fn as kw p
    cases fn <;> first | (cases hm; done) | skip
    rename_i y p2
    cases kw with
    | cons _ _ => cases hm
    | nil =>
      obtain ⟨h0, h1, h2, h3, h4, h5, h6⟩ := ba7 hm
      rw [name_of h1]
      cases as with
      | nil => cases h4
      | cons b bs => exact both (fun _ => rfl) (s_call (q _ (List.mem_cons_self ..)) (C.room (not_of h0)) (gl_at C.sc h2) C.tk (dbg1 h3) h5 (sndEs es C _ h6 h5 fun n m => q n (List.mem_cons_of_mem _ m)))
  | .bi f es, X, W, S, C, a, hm, q => by
    cases a <;> first | (cases hm; done) | skip
    rename_i fn as kw p
    cases fn <;> first | (cases hm; done) | skip
    rename_i y p2
    cases kw with
    | cons _ _ => cases hm
    | nil =>
      obtain ⟨h0, h1, h2, h3, h4, h5, h6⟩ := ba7 hm
      rw [name_of h1]
      cases as with
      | nil => cases h4
      | cons b bs => exact both (fun _ => rfl) (s_bi (C.calm (not_of h0)) (gl_at C.sc h2) (C.free _ h3) h5 (sndEs es C _ h6 h5 q))
  | .isin e t, X, W, S, C, a, hm, q => by
    cases a <;> first | (cases hm; done) | skip
    rename_i fn as kw p
    cases fn <;> first | (cases hm; done) | skip
    rename_i y p2
    match as, kw, hm with
    | [b, .Name z p3], [], hm =>
      obtain ⟨h1, h2, h3, h4, h5, h6⟩ := ba6 hm
      rw [name_of h1]
      cases t with
      | exc x cs al =>
        obtain ⟨h6, h7, h8⟩ := ba3 h6
        rw [name_of h6]
        exact both (fun _ => rfl) (s_isexc (q _ (List.mem_cons_self ..)) C.ise (gl_at C.sc h2) (C.free _ h3) (gl_at C.sc h7) (dbg1 h8) h4 (sndE e C _ h5 fun n m => q n (List.mem_cons_of_mem _ m)).1)
      | _ =>
        obtain ⟨h6, h7, h8⟩ := ba3 h6
        rw [name_of h6]
        exact both (fun _ => rfl) (s_isin rfl (gl_at C.sc h2) (C.free _ h3) (gl_at C.sc h7) (C.free _ h8) h4 (sndE e C _ h5 q).1)
  | .lc own p it c e, X, W, S, C, a, hm, q => by
    cases a <;> first | (cases hm; done) | skip
    rename_i elt gens scope pos
    match gens, hm with
    | [⟨tg, iter, ifs, 0⟩], hm =>
      obtain ⟨h0, h1, h2, h3, h4, h5, h6⟩ := ba7 hm
      refine both (fun _ => rfl) (s_lc (vs := own.map (·.2)) (C.calm (not_of h0)) C.nd (sndI it C iter h4 (left_of q)).1 (own := own.map fun q => ((q.1 : Str), q.2)) (blkOk_by (by rw [C.hN, C.sc]; exact h1)) ?_ ?_ (fun s H Cc cl fp => ?_) (fun s H Cc cl fp => ?_) (fun s H Cc cl fp => ?_) (iter_plain (mI_plain (N := []) h4) _))
      · rw [List.map_map]
        rfl
      · intro i hi
        exact List.contains_iff_mem.mp (List.all_eq_true.mp h2 i hi)
      · exact pg_of (scb := scope) (fnk := fnk_blk) C.nd (C.calm (not_of h0)) p tg (by rw [C.hN]; exact h3)
      · exact sndC c (C.blk (not_of h0)) ifs h5 (left_of (right_of q))
      · exact (sndE e (C.blk (not_of h0)) elt h6 (right_of (right_of q))).1
theorem sndA : ∀ (es : Es) (o : Bool) {X : Cx} {W : WX} {S : Sg} (C : Ctx h X T W k S) (as : List Expr) {pos : Pos}, mEs h S es as = true → as.isEmpty = false → (∀ n ∈ es.needs, n.at X T k) →
    PE X (.BoolOp (if o then .And else .Or) as pos) (rdE X.K T W fun env => eva env o es) ∧ (tstOks es = true → PW X (.BoolOp (if o then .And else .Or) as pos) (rdT X.K T W fun env => (eva env o es).bind truth))
  | .nil, o, X, W, S, C, as, pos, hm, he, q => by
    cases as with
    | nil => cases he
    | cons _ _ => cases hm
  | .cons e .nil, o, X, W, S, C, as, pos, hm, he, q => by
    match as, hm with
    | a :: as, hm =>
      obtain ⟨h1, h2⟩ := ba hm
      cases as with
      | cons _ _ => cases h2
      | nil =>
        have z := sndE e C a h1 (left_of q)
        refine ⟨s_and1 z.1, fun ht => ?_⟩
        have w := z.2 (ba ht).1
        cases o with
        | true => exact st_and1 w
        | false => exact st_or1 w
  | .cons e (.cons e2 es), o, X, W, S, C, as, pos, hm, he, q => by
    match as, hm with
    | a :: as, hm =>
      obtain ⟨h1, h2⟩ := ba hm
      cases as with
      | nil => cases h2
      | cons a2 as =>
        have z := sndE e C a h1 (left_of q)
        have y := sndA (.cons e2 es) o C (a2 :: as) (pos := pos) h2 rfl (right_of q)
        cases o with
        | true =>
          refine ⟨s_and z.1 y.1, fun ht => ?_⟩
          have ht : (tstOk e && tstOks (.cons e2 es)) = true := ht
          exact pw_eq (fun env => (evt_and (o := true)).symm) (st_and (z.2 (ba ht).1) (y.2 (ba ht).2))
        | false =>
          refine ⟨s_or z.1 y.1, fun ht => ?_⟩
          have ht : (tstOk e && tstOks (.cons e2 es)) = true := ht
          exact pw_eq (fun env => (evt_and (o := false)).symm) (st_or (z.2 (ba ht).1) (y.2 (ba ht).2))
theorem sndEs : ∀ (es : Es) {X : Cx} {W : WX} {S : Sg} (C : Ctx h X T W k S) (as : List Expr), mEs h S es as = true → as.all isPlain = true → (∀ n ∈ es.needs, n.at X T k) → PA X as (rdA X.K T W fun env => evs env es)
  | .nil, X, W, S, C, as, hm, hp, q => by
    cases as with
    | nil => exact s_nil
    | cons _ _ => cases hm
  | .cons e es, X, W, S, C, as, hm, hp, q => by
    match as, hm, hp with
    | a :: as, hm, hp =>
      obtain ⟨h1, h2⟩ := ba hm
      obtain ⟨p1, p2⟩ := ba (show (isPlain a && as.all isPlain) = true from hp)
      exact s_cons (sndE e C a h1 (left_of q)).1 (sndEs es C as h2 p2 (right_of q)) (star_plain p1 _ _)
theorem sndO : ∀ (e : EO) {X : Cx} {W : WX} {S : Sg} (C : Ctx h X T W k S) (a : Option Expr), mO h S e a = true → (∀ n ∈ e.needs, n.at X T k) → PO X a (rdO X.K T W fun env => evo env e)
  | .none, X, W, S, C, a, hm, q => by
    cases a with
    | none => exact s_nopart
    | some _ => cases hm
  | .some e, X, W, S, C, a, hm, q => by
    cases a with
    | none => cases hm
    | some a => exact s_part (sndE e C a hm q).1
theorem sndC : ∀ (e : EO) {X : Cx} {W : WX} {S : Sg} (C : Ctx h X T W k S) (a : List Expr), mC h S e a = true → (∀ n ∈ e.needs, n.at X T k) → PTs X a (rdT X.K T W fun env => evc env e)
  | .none, X, W, S, C, a, hm, q => by
    cases a with
    | nil => exact s_ifs0
    | cons _ _ => cases hm
  | .some e, X, W, S, C, a, hm, q => by
    match a, hm with
    | [a], hm =>
      obtain ⟨h1, h2⟩ := ba hm
      exact s_ifs1 ((sndE e C a h2 q).2 h1)
theorem sndI : ∀ (e : It) {X : Cx} {W : WX} {S : Sg} (C : Ctx h X T W k S) {tg : Expr} (a : Expr), mI h S e a = true → (∀ n ∈ e.needs, n.at X T k) → PI X tg a (rdI X.K T W fun env => evi env e) ∧ (e.rng = true → PI X tg a (rdR X.K T W fun env => evi env e))
  | .seq e, X, W, S, C, tg, a, hm, q => ⟨s_seq (sndE e C a (ba hm).2 q).1, fun hr => by cases hr⟩
  | .range e, X, W, S, C, tg, a, hm, q => by
    cases a <;> first | (cases hm; done) | skip
    rename_i fn as kw p
    cases fn <;> first | (cases hm; done) | skip
    rename_i y p2
    match as, kw, hm with
    | [b], [], hm =>
      obtain ⟨h1, h2, h3, h4, h5⟩ := ba5 hm
      rw [name_of h1]
      have z := s_range (tg := tg) (pos := p) (p2 := p2) (gl_at C.sc h2) (C.free _ h3) h4 (sndE e C b h5 q).1
      exact ⟨pi_weak z, fun _ => z⟩
  | .range2 e f, X, W, S, C, tg, a, hm, q => by
    cases a <;> first | (cases hm; done) | skip
    rename_i fn as kw p
    cases fn <;> first | (cases hm; done) | skip
    rename_i y p2
    match as, kw, hm with
    | [b, c], [], hm =>
      obtain ⟨h1, h2, h3, h4, h5, h6, h7⟩ := ba7 hm
      rw [name_of h1]
      have z := s_range2 (tg := tg) (pos := p) (p2 := p2) (gl_at C.sc h2) (C.free _ h3) h4 h5 (sndE e C b h6 (left_of q)).1 (sndE f C c h7 (right_of q)).1
      exact ⟨pi_weak z, fun _ => z⟩
end
end
end Py

namespace Py
open PySem L2

/-! ### expressions whose value is a new list -/
def isNew : E → Bool
  | .lst _ => true
  | .lc _ _ _ _ _ => true
  | .bin .add _ _ => true
  | .bin .mul _ _ => true
  | .slice _ _ _ => true
  | .rev _ => true
  | .bi .list _ => true
  | .call _ _ _ _ => true
  | _ => false
def E.needsN : E → List Need
  | .call x f dd es => .callN x f dd :: es.needs
  | e => e.needs
section
variable {T : Tab} {k : Nat} {h : Bool}
theorem sndN : ∀ (e : E) {X : Cx} {W : WX} {S : Sg} (C : Ctx h X T W k S) (a : Expr), mE h S e a = true → isNew e = true → (∀ n ∈ e.needsN, n.at X T k) → PE X a (rdN X.K T W fun env => ev env e) := by
  intro e X W S C a hm hn q
  cases e <;> first | (cases hn; done) | skip
  · rename_i o x y
    have ho : o = .add ∨ o = .mul := by
      cases o <;> first | exact .inl rfl | exact .inr rfl | cases hn
    cases a <;> first | (cases hm; done) | skip
    obtain ⟨h1, h2, h3⟩ := ba3 hm
    rw [of_decide_eq_true h1]
    exact n_bin ho (sndE x C _ h2 (left_of q)).1 (sndE y C _ h3 (right_of q)).1
  · rename_i es
    cases a <;> first | (cases hm; done) | skip
    obtain ⟨h1, h2, h3⟩ := ba3 hm
    exact n_lst (of_decide_eq_true h1) (sndEs es C _ h3 h2 q) (evs_len es h3)
  · rename_i x lo hi
    cases a <;> first | (cases hm; done) | skip
    rename_i b c p
    cases c <;> first | (cases hm; done) | skip
    rename_i l u st p2
    cases st with
    | some _ => cases hm
    | none =>
      obtain ⟨h1, h2, h3⟩ := ba3 hm
      exact n_slice (sndE x C _ h1 (left_of q)).1 (sndO lo C _ h2 (left_of (right_of q))) (sndO hi C _ h3 (right_of (right_of q)))
  · rename_i x
    cases a <;> first | (cases hm; done) | skip
    rename_i b c p
    cases c <;> first | (cases hm; done) | skip
    rename_i l u st p2
    cases l with
    | some _ => cases hm
    | none =>
    cases u with
    | some _ => cases hm
    | none =>
    cases st with
    | none => cases hm
    | some st =>
    cases st <;> first | (cases hm; done) | skip
    rename_i o b2 p3
    cases o <;> first | (cases hm; done) | skip
    cases b2 <;> first | (cases hm; done) | skip
    rename_i c j p4
    cases c <;> first | (cases hm; done) | skip
    rename_i j2
    obtain ⟨h1, h2⟩ := ba hm
    have h1 := of_decide_eq_true h1
    subst h1
    exact n_rev (sndE x C _ h2 q).1
  · rename_i x f dd es
    cases a <;> first | (cases hm; done) | skip
    rename_i fn as kw p
    cases fn <;> first | (cases hm; done) | skip
    rename_i y p2
    cases kw with
    | cons _ _ => cases hm
    | nil =>
      obtain ⟨h0, h1, h2, h3, h4, h5, h6⟩ := ba7 hm
      rw [name_of h1]
      cases as with
      | nil => cases h4
      | cons b bs => exact s_callN (q _ (List.mem_cons_self ..)) (C.room (not_of h0)) (gl_at C.sc h2) C.tk (dbg1 h3) h5 (sndEs es C _ h6 h5 fun n m => q n (List.mem_cons_of_mem _ m))
  · rename_i f es
    cases f <;> first | (cases hn; done) | skip
    cases a <;> first | (cases hm; done) | skip
    rename_i fn as kw p
    cases fn <;> first | (cases hm; done) | skip
    rename_i y p2
    cases kw with
    | cons _ _ => cases hm
    | nil =>
      obtain ⟨h0, h1, h2, h3, h4, h5, h6⟩ := ba7 hm
      rw [name_of h1]
      cases as with
      | nil => cases h4
      | cons b bs => exact n_list (gl_at C.sc h2) (C.free _ h3) h5 (sndEs es C _ h6 h5 q)
  · rename_i own p it c e
    cases a <;> first | (cases hm; done) | skip
    rename_i elt gens scope pos
    match gens, hm with
    | [⟨tg, iter, ifs, 0⟩], hm =>
      obtain ⟨h0, h1, h2, h3, h4, h5, h6⟩ := ba7 hm
      refine n_lc (vs := own.map (·.2)) (C.calm (not_of h0)) C.nd (sndI it C iter h4 (left_of q)).1 (own := own.map fun q => ((q.1 : Str), q.2)) (blkOk_by (by rw [C.hN, C.sc]; exact h1)) ?_ ?_ (fun s H Cc cl fp => ?_) (fun s H Cc cl fp => ?_) (fun s H Cc cl fp => ?_) (iter_plain (mI_plain (N := []) h4) _)
      · rw [List.map_map]
        rfl
      · intro i hi
        exact List.contains_iff_mem.mp (List.all_eq_true.mp h2 i hi)
      · exact pg_of (scb := scope) (fnk := fnk_blk) C.nd (C.calm (not_of h0)) p tg (by rw [C.hN]; exact h3)
      · exact sndC c (C.blk (not_of h0)) ifs h5 (left_of (right_of q))
      · exact (sndE e (C.blk (not_of h0)) elt h6 (right_of (right_of q))).1
end

/-! ### statements -/
def isComp : Expr → Bool
  | .ListComp _ _ _ _ => true
  | .SetComp _ _ _ _ => true
  | .DictComp _ _ _ _ _ => true
  | _ => false
def locO (sc : Scope) (x : Str) : Bool := match sc.names.lookup x with
  | some .local => true
  | _ => false
/-- is the old value of the name x swapped in while the comprehension runs -/
def swB (sc : Scope) (x : Str) (p : Pos) : Expr → Bool
  | .ListComp _ _ scope pos => locO sc x && (p.line == pos.line && !(scope.names.any fun (n, k) => n == x && (k == .local || k == .cell)))
  | _ => false
/-- a value for a name: it is no set's or dict's comprehension; a list's is swapped or not -/
def asgB : Expr → Bool
  | .SetComp _ _ _ _ => false
  | .DictComp _ _ _ _ _ => false
  | _ => true
def noTup : Expr → Bool
  | .Tuple _ _ _ => false
  | _ => true
theorem sw_false {e : Expr} {x : Str} {p : Pos} {l : Nat} {env : PySem.Env} (hk : env.scope.kind = .function) (ha : asgB e = true) (h : swB env.scope x p e = false) : swapsWith e (some (.Name x p)) l env = pure false := by
  cases e <;> first | rfl | (cases ha; done) | skip
  rename_i elt gs scope pos
  have hb : (env.blockKind == .function) = true := by
    unfold Env.blockKind
    rw [hk]
    rfl
  unfold swapsWith
  show pure (env.blockKind == .function && env.kindOf x == some .local && p.line == pos.line && !(scope.names.any fun (n, k) => n == x && (k == .local || k == .cell))) = pure false
  rw [hb]
  have h : (locO env.scope x && (p.line == pos.line && !(scope.names.any fun (n, k) => n == x && (k == .local || k == .cell)))) = false := h
  have hl : (env.kindOf x == some .local) = locO env.scope x := by
    show (env.scope.names.lookup x == some .local) = _
    unfold locO
    split
    · rename_i e
      rw [e]
      rfl
    · rename_i hne
      cases hq : env.scope.names.lookup x with
      | none => rfl
      | some kd => cases kd <;> first | rfl | exact absurd hq hne
  rw [hl, Bool.true_and, Bool.and_assoc, h]
theorem sw_none {e : Expr} {l : Nat} {env : PySem.Env} (ha : isComp e = false) : swapsWith e none l env = pure false := by
  cases e <;> first | rfl | cases ha
theorem sw_of {sc : Scope} {x : Str} {p : Pos} {e : Expr} (h : swB sc x p e = true) : ∃ elt gs scope pos, e = .ListComp elt gs scope pos ∧ sc.names.lookup x = some .local ∧ (p.line == pos.line) = true ∧ (scope.names.any fun (n, k) => n == x && (k == .local || k == .cell)) = false := by
  cases e <;> first | (cases h; done) | skip
  rename_i elt gs scope pos
  obtain ⟨h1, h2, h3⟩ := ba3 h
  refine ⟨elt, gs, scope, pos, rfl, ?_, h2, not_of h3⟩
  unfold locO at h1
  split at h1
  · assumption
  · cases h1

def Need.hot : Need → Bool
  | .isexc _ _ _ => true
  | .glob _ _ => true
  | _ => false

mutual
def mS (N h : Bool) (S : Sg) : Py.S → Stmt → Bool
  | .asg _ p e, .Assign [tg] v _ => (match p, tg with
    | .v i, .Name x _ => decide (S.N[i]? = some x) && locB S.sc x && asgB v
    | .tup ps, .Tuple es _ _ => !h && (mPs S.N S.sc ps es && (!isComp v && noTup v))
    | _, _ => false) && mE h S e v
  | .asgN i e, .Assign [.Name x _] v _ => decide (S.N[i]? = some x) && (locB S.sc x && (asgB v && (isNew e && mE h S e v)))
  | .aug i o e, .AugAssign (.Name x _) op v _ => decide (S.N[i]? = some x) && (locB S.sc x && (decide (op = bop o) && ((o == .add || (o == .sub || o == .mul)) && mE h S e v)))
  | .expr e, .Expr v _ => !isComp v && mE h S e v
  | .app _ i e, .Expr (.Call (.Attribute (.Name x _) y apos) [v] [] cpos) _ => decide (S.N[i]? = some x) && (visB S.sc x && (!isDbg x && (nameB y "append" && ((apos.endLine == cpos.line) && (isPlain v && mE h S e v)))))
  | .setI _ i j e, .Assign [.Subscript (.Name x _) b _] v _ => decide (S.N[i]? = some x) && (visB S.sc x && (!isDbg x && (isPlain b && (mE h S j b && mE h S e v))))
  | .ret e, .Return (some v) _ => !N && mE h S e v
  | .retN e, .Return (some v) _ => N && (isNew e && mE h S e v)
  | .retO i, .Return (some (.Name x _)) _ => N && (decide (S.N[i]? = some x) && (visB S.sc x && !isDbg x))
  | .ifs c a b, .If t ba bb _ => tstOk c && (mE h S c t && (mSs N h S a ba && mSs N h S b bb))
  | .forr p it b, .For tg iter body [] _ => !h && (mP S.N S.sc p tg && (mI h S it iter && mSs N h S b body))
  | .whil c b, .While t body [] _ => !h && (tstOk c && (mE h S c t && mSs N h S b body))
  | .brk, .Break _ => true
  | .cont, .Continue _ => true
  | .pass, .Pass _ => true
  | .raise x c, .Raise (some (.Call (.Name y _) [.Constant (.str _) _ _] [] _)) none _ => !h && (nameB y x && (glB S.sc x && !isDbg x))
  | .tri b x _ _ (some i) hd, .Try body [.ExceptHandler (some (.Name y _)) (some n) (b₀ :: suite) _] [] [] _ => !h && (nameB y x && (glB S.sc x && (!isDbg x && (decide (S.N[i]? = some n) && (locO S.sc n && (mSs N h S b body && (mSs N true S hd (b₀ :: suite) && hd.needs.all Need.hot)))))))
  | _, _ => false
def mSs (N h : Bool) (S : Sg) : Ss → List Stmt → Bool
  | .nil, [] => true
  | .cons (.frz _) ss, l => mSs N h S ss l
  | .cons s ss, x :: l => mS N h S s x && mSs N h S ss l
  | _, _ => false
def S.needs : Py.S → List Need
  | .asg _ _ e => e.needs
  | .asgN _ e => e.needsN
  | .aug _ _ e => e.needs
  | .expr e => e.needs
  | .app _ _ e => e.needs
  | .setI _ _ j e => j.needs ++ e.needs
  | .ret e => e.needs
  | .retN e => e.needsN
  | .retO _ => []
  | .ifs c a b => c.needs ++ (a.needs ++ b.needs)
  | .forr _ it b => it.needs ++ b.needs
  | .whil c b => c.needs ++ b.needs
  | .brk => []
  | .cont => []
  | .pass => []
  | .raise x c => [.raise x c]
  | .frz _ => []
  | .tri b x cs al _ hd => .catch_ x cs al :: (b.needs ++ hd.needs)
def Ss.needs : Ss → List Need
  | .nil => []
  | .cons s ss => s.needs ++ ss.needs
end
end Py

namespace Py
open PySem L2

structure SCtx (h : Bool) (X : Cx) (T : Tab) (W : WX) (k : Nat) (S : Sg) : Prop extends Ctx h X T W k S where
  stk : X.stack = X.env :: X.outer
  frm : X.env.frame = some X.env.locals
  own : h = false → PassesOwn (model X.prog X.w) X.A X.env X.xe
  fn : ∀ x, X.fn x = true
  kind : X.env.scope.kind = .function
section
variable {T : Tab} {k : Nat} {h : Bool} {X : Cx} {W : WX} {S : Sg}
theorem SCtx.fnk (C : SCtx h X T W k S) (x : Str) (hx : locB S.sc x = true) : L2.Loc X.env.scope x ∧ (X.fn x = true ∨ X.env.scope.names.lookup x = some .local) := by
  refine ⟨?_, .inl (C.fn x)⟩
  rw [C.sc]
  exact loc_of hx
theorem SCtx.tr (hf : h = false) (C : SCtx h X T W k S) {W' : WX} {pn : List (Addr × Obj)} {xe : Value → Shared → Prop} (tk : Takes (X.tr pn xe) W') (po : PassesOwn (model X.prog X.w) X.A X.env xe) : SCtx h (X.tr pn xe) T W' k S where
  hN := C.hN
  sc := C.sc
  nd := C.nd
  un := C.un
  calm := C.calm
  room := C.room
  tk := tk
  free := C.free
  nox := C.nox
  ise := fun a c fs e => by
    rw [C.nox hf a] at e
    cases e
  stk := C.stk
  frm := C.frm
  own := fun _ => po
  fn := C.fn
  kind := C.kind
theorem SCtx.suite (hf : h = false) (C : SCtx h X T W k S) {a : Addr} {oe : Obj} {pn : List (Addr × Obj)} {c : Nat} {fs : List D} {d : Option Addr} {H : Hp} (ex : ExcC X.K (T.addr c)) (r : ExR X.K c fs d H) (hz : Zc (.ref (T.addr c)) d oe) (hv : ∃ vs, oe.data = .fields vs) :
    SCtx true (X.suite a ((a, oe) :: pn)) (T.hot a c fs) W0 k S where
  hN := C.hN
  sc := C.sc
  nd := C.nd
  un := C.un
  calm := fun z => by cases z
  room := fun z => by cases z
  tk := takes0
  free := C.free
  nox := fun z => by cases z
  ise := fun b c' fs' e => by
    have e : (if b = a then some (c, fs) else none) = some (c', fs') := e
    by_cases hb : b = a
    · rw [if_pos hb] at e
      cases e
      subst hb
      obtain ⟨_, hd⟩ := r
      subst hd
      exact call_isE ex hz hv
    · rw [if_neg hb] at e
      cases e
  stk := C.stk
  frm := C.frm
  own := fun z => by cases z
  fn := C.fn
  kind := C.kind
theorem Need.toHot {n : Need} (hx : ∀ b, T.exc b = none) (hh : n.hot = true) {a : Addr} {c : Nat} {fs : List D} {pn : List (Addr × Obj)} (q : n.at X T k) : n.at (X.suite a pn) (T.hot a c fs) k := by
  cases n <;> first | (cases hh; done) | skip
  · obtain ⟨C, h1, h2⟩ := (q : IsExc X.K X.mg T _ _ _).g
    exact (⟨⟨C, h1, h2⟩⟩ : IsExc X.K X.mg (T.hot a c fs) _ _ _)
  · obtain ⟨u, v, h1, h2, h3⟩ := q
    exact ⟨u, v, h1, h2, fun F => Rep.toX (T := T) (T' := T.hot a c fs) rfl rfl hx (h3 F)⟩
theorem ps_eq {K : PySem.W.Frag} {N : Bool} {F0 H0 : Hp} {s : Stmt} {f g : Py.St → Cf} (e : ∀ st, f st = g st) (p : PS X s (rdS K T W N F0 H0 f)) : PS X s (rdS K T W N F0 H0 g) := by
  rw [← funext e]
  exact p
theorem pss_eq {K : PySem.W.Frag} {N : Bool} {F0 H0 : Hp} {s : List Stmt} {f g : Py.St → Cf} (e : ∀ st, f st = g st) (p : PSs X s (rdS K T W N F0 H0 f)) : PSs X s (rdS K T W N F0 H0 g) := by
  rw [← funext e]
  exact p
end
section
variable {k : Nat} {H0 : Hp}
theorem snd_asg {N h : Bool} {T : Tab} {X : Cx} {W : WX} {S : Sg} {F0 : Hp} (C : SCtx h X T W k S) {m : Bool} {p : Pat} {e : E} {tg v : Expr} {pos : Pos} (hm : mS N h S (.asg m p e) (.Assign [tg] v pos) = true) (q : ∀ n ∈ e.needs, n.at X T k) :
    PS X (.Assign [tg] v pos) (rdS X.K T W N F0 H0 fun st => run st (.asg m p e)) := by
  obtain ⟨h1, h2⟩ := ba hm
  cases p with
  | v i =>
    cases tg <;> first | (cases h1; done) | skip
    rename_i x p2
    obtain ⟨h3, h4⟩ := ba h1
    obtain ⟨h3, h5⟩ := ba h3
    have hi : X.N[i]? = some x := by
      rw [C.hN]
      exact of_decide_eq_true h3
    obtain ⟨l1, l2⟩ := C.fnk x h5
    by_cases hs : swB S.sc x p2 v = true
    · obtain ⟨elt, gens, scope, p3, e1, e2, e3, e4⟩ := sw_of hs
      subst e1
      cases e <;> first | (cases h2; done) | skip
      rename_i own p it c e
      match gens, h2 with
      | [⟨tg, iter, ifs, 0⟩], h2 =>
        obtain ⟨h0, h1, h2, h3, h4, h5, h6⟩ := ba7 h2
        refine ps_eq (fun st => Eq.refl (run st (.asg m (.v i) (.lc own p it c e)))) (ss_setLc (fi := fun env => evi env it) (fc := fun env => evc env c) (fe := fun env => ev env e) (p := p) (vs := own.map (·.2)) (C.calm (not_of h0)) C.nd hi (by rw [C.sc]; exact e2) (sw_true C.kind (by rw [C.sc]; exact e2) e3 e4) (sndI it C.toCtx iter h4 (left_of q)).1 (own := own.map fun q => ((q.1 : Str), q.2)) (blkOk_by (by rw [C.hN, C.sc]; exact h1)) ?_ ?_ (fun s H Cc cl fp => ?_) (fun s H Cc cl fp => ?_) (fun s H Cc cl fp => ?_) (iter_plain (mI_plain (N := []) h4) _))
        · rw [List.map_map]
          rfl
        · intro i hi
          exact List.contains_iff_mem.mp (List.all_eq_true.mp h2 i hi)
        · exact pg_of (scb := scope) (fnk := fnk_blk) C.nd (C.calm (not_of h0)) p tg (by rw [C.hN]; exact h3)
        · exact sndC c (C.toCtx.blk (not_of h0)) ifs h5 (left_of (right_of q))
        · exact (sndE e (C.toCtx.blk (not_of h0)) elt h6 (right_of (right_of q))).1
    · exact ss_set C.nd hi l1 l2 (sndE e C.toCtx v h2 q).1 (sw_false C.kind h4 (by rw [C.sc]; exact Bool.eq_false_iff.mpr hs))
  | tup ps =>
    cases tg <;> first | (cases h1; done) | skip
    rename_i es kk p2
    obtain ⟨h0, h3, h4, h5⟩ := ba4 h1
    refine ss_asg (pg_of (scb := S.sc) (fnk := C.fnk) C.nd (C.calm (not_of h0)) (.tup ps) _ (by rw [C.hN]; exact h3)) (sndE e C.toCtx v h2 q).1 ?_ ?_ (by rfl)
    · cases v <;> first | rfl | cases h4
    · cases v <;> first | rfl | cases h5
theorem snd_asgN {N h : Bool} {T : Tab} {X : Cx} {W : WX} {S : Sg} {F0 : Hp} (C : SCtx h X T W k S) {i : Nat} {e : E} {tg v : Expr} {pos : Pos} (hm : mS N h S (.asgN i e) (.Assign [tg] v pos) = true) (q : ∀ n ∈ e.needsN, n.at X T k) :
    PS X (.Assign [tg] v pos) (rdS X.K T W N F0 H0 fun st => run st (.asgN i e)) := by
  cases tg <;> first | (cases hm; done) | skip
  rename_i x p2
  obtain ⟨h3, h5, h4, hn, h2⟩ := ba5 hm
  have hi : X.N[i]? = some x := by
    rw [C.hN]
    exact of_decide_eq_true h3
  obtain ⟨l1, l2⟩ := C.fnk x h5
  by_cases hs : swB S.sc x p2 v = true
  · obtain ⟨elt, gens, scope, p3, e1, e2, e3, e4⟩ := sw_of hs
    subst e1
    cases e <;> first | (cases h2; done) | skip
    rename_i own p it c e
    match gens, h2 with
    | [⟨tg, iter, ifs, 0⟩], h2 =>
      obtain ⟨h0, h1, h2, h3, h4, h5, h6⟩ := ba7 h2
      refine ps_eq (fun st => Eq.refl (run st (.asgN i (.lc own p it c e)))) (ss_setLcN (fi := fun env => evi env it) (fc := fun env => evc env c) (fe := fun env => ev env e) (p := p) (vs := own.map (·.2)) (C.calm (not_of h0)) C.nd hi (by rw [C.sc]; exact e2) (sw_true C.kind (by rw [C.sc]; exact e2) e3 e4) (sndI it C.toCtx iter h4 (left_of q)).1 (own := own.map fun q => ((q.1 : Str), q.2)) (blkOk_by (by rw [C.hN, C.sc]; exact h1)) ?_ ?_ (fun s H Cc cl fp => ?_) (fun s H Cc cl fp => ?_) (fun s H Cc cl fp => ?_) (iter_plain (mI_plain (N := []) h4) _))
      · rw [List.map_map]
        rfl
      · intro i hi
        exact List.contains_iff_mem.mp (List.all_eq_true.mp h2 i hi)
      · exact pg_of (scb := scope) (fnk := fnk_blk) C.nd (C.calm (not_of h0)) p tg (by rw [C.hN]; exact h3)
      · exact sndC c (C.toCtx.blk (not_of h0)) ifs h5 (left_of (right_of q))
      · exact (sndE e (C.toCtx.blk (not_of h0)) elt h6 (right_of (right_of q))).1
  · exact ss_setN C.nd hi l1 l2 (sndN e C.toCtx v h2 hn q) (sw_false C.kind h4 (by rw [C.sc]; exact Bool.eq_false_iff.mpr hs))
mutual
theorem sndS : ∀ (s : Py.S) {N h : Bool} {T : Tab} {X : Cx} {W : WX} {S : Sg} {F0 : Hp} (C : SCtx h X T W k S) (a : Stmt), mS N h S s a = true → (∀ n ∈ s.needs, n.at X T k) → PS X a (rdS X.K T W N F0 H0 fun st => run st s)
  | .asg m p e, N, h, T, X, W, S, F0, C, a, hm, q => by
    cases a <;> first | (cases hm; done) | skip
    rename_i tgs v pos
    match tgs, hm with
    | [tg], hm => exact snd_asg C hm q
  | .asgN i e, N, h, T, X, W, S, F0, C, a, hm, q => by
    cases a <;> first | (cases hm; done) | skip
    rename_i tgs v pos
    match tgs, hm with
    | [.Name x p2], hm => exact snd_asgN C hm q
  | .aug i o e, N, h, T, X, W, S, F0, C, a, hm, q => by
    cases a <;> first | (cases hm; done) | skip
    rename_i tg op v pos
    cases tg <;> first | (cases hm; done) | skip
    rename_i x p2
    obtain ⟨h1, h2, h3, h4, h5⟩ := ba5 hm
    obtain ⟨l1, l2⟩ := C.fnk x h2
    rw [of_decide_eq_true h3]
    exact ss_aug (by
      cases o <;> first | exact .inl rfl | exact .inr (.inl rfl) | exact .inr (.inr rfl) | cases h4) C.nd (by rw [C.hN]; exact of_decide_eq_true h1) l1 l2 (sndE e C.toCtx v h5 q).1
  | .expr e, N, h, T, X, W, S, F0, C, a, hm, q => by
    cases a <;> first | (cases hm; done) | skip
    rename_i v pos
    obtain ⟨h1, h2⟩ := ba hm
    exact ss_expr (sndE e C.toCtx v h2 q).1 (sw_none (not_of h1))
  | .app m i e, N, h, T, X, W, S, F0, C, a, hm, q => by
    cases a <;> first | (cases hm; done) | skip
    rename_i v pos
    cases v <;> first | (cases hm; done) | skip
    rename_i f as kw cpos
    cases f <;> first | (cases hm; done) | skip
    rename_i o y apos
    cases o <;> first | (cases hm; done) | skip
    rename_i x p2
    match as, kw, hm with
    | [v], [], hm =>
      obtain ⟨h1, h2, h3, h4, h5, h6, h7⟩ := ba7 hm
      rw [name_of h4]
      exact ss_app (by rw [C.hN]; exact of_decide_eq_true h1) (by rw [C.sc]; exact vis_of h2) (dbg1 h3) (dbg2 h3) h6 h5 (sndE e C.toCtx v h7 q).1
  | .setI m i j e, N, h, T, X, W, S, F0, C, a, hm, q => by
    cases a <;> first | (cases hm; done) | skip
    rename_i tgs v pos
    match tgs, hm with
    | [.Subscript (.Name x p2) b tpos], hm =>
      obtain ⟨h1, h2, h3, h4, h5, h6⟩ := ba6 hm
      exact ss_setI (by rw [C.hN]; exact of_decide_eq_true h1) (by rw [C.sc]; exact vis_of h2) (dbg1 h3) (dbg2 h3) (sndE e C.toCtx v h6 (right_of q)).1 (sndE j C.toCtx b h5 (left_of q)).1 (fun {to ti t} ho hi hs => pg_sub ho hi hs (by
        cases b <;> first | (intro _; rfl) | cases h4)) (by cases v <;> rfl) (by cases v <;> rfl) (by rfl)
  | .ret e, N, h, T, X, W, S, F0, C, a, hm, q => by
    cases a <;> first | (cases hm; done) | skip
    rename_i v pos
    cases v with
    | none => cases hm
    | some v =>
      obtain ⟨h1, h2⟩ := ba hm
      have h1 := not_of h1
      subst h1
      exact ss_ret (sndE e C.toCtx v h2 q).1
  | .retN e, N, h, T, X, W, S, F0, C, a, hm, q => by
    cases a <;> first | (cases hm; done) | skip
    rename_i v pos
    cases v with
    | none => cases hm
    | some v =>
      obtain ⟨h1, h2, h3⟩ := ba3 hm
      subst h1
      exact ss_retN (sndN e C.toCtx v h3 h2 q)
  | .retO i, N, h, T, X, W, S, F0, C, a, hm, q => by
    cases a <;> first | (cases hm; done) | skip
    rename_i v pos
    match v, hm with
    | some (.Name x p2), hm =>
      obtain ⟨h1, h2, h3, h4⟩ := ba4 hm
      subst h1
      exact ss_retO (by rw [C.hN]; exact of_decide_eq_true h2) (by rw [C.sc]; exact vis_of h3) (dbg1 h4) (dbg2 h4)
  | .ifs c b1 b2, N, h, T, X, W, S, F0, C, a, hm, q => by
    cases a <;> first | (cases hm; done) | skip
    obtain ⟨h1, h2, h3, h4⟩ := ba4 hm
    exact ss_if ((sndE c C.toCtx _ h2 (left_of q)).2 h1) (sndSs b1 C _ h3 (left_of (right_of q))) (sndSs b2 C _ h4 (right_of (right_of q)))
  | .forr p it b, N, h, T, X, W, S, F0, C, a, hm, q => by
    cases a <;> first | (cases hm; done) | skip
    rename_i tg iter body els pos
    cases els with
    | cons _ _ => cases hm
    | nil =>
      obtain ⟨h0, h1, h2, h3⟩ := ba4 hm
      have pg := pg_of (scb := S.sc) (fnk := C.fnk) C.nd (C.calm (not_of h0)) p tg (by rw [C.hN]; exact h1)
      cases hr : it.rng with
      | false =>
        refine ps_eq (fun st => ?_) (ss_for (p := p) (fi := fun env => evi env it) (fb := fun st => runs st b) (C.own (not_of h0)) (C.calm (not_of h0)) (sndI it C.toCtx iter h2 (left_of q)).1 pg (fun F0 => sndSs b C _ h3 (right_of q)) (iter_plain (mI_plain (N := []) h2) _))
        show _ = run st (.forr p it b)
        unfold run
        rw [hr]
      | true =>
        refine ps_eq (fun st => ?_) (ss_forR (p := p) (fi := fun env => evi env it) (fb := fun st => runs st b) (C.own (not_of h0)) (C.calm (not_of h0)) ((sndI it C.toCtx iter h2 (left_of q)).2 hr) pg (fun F0 => sndSs b C _ h3 (right_of q)) (iter_plain (mI_plain (N := []) h2) _))
        show _ = run st (.forr p it b)
        unfold run
        rw [hr]
  | .whil c b, N, h, T, X, W, S, F0, C, a, hm, q => by
    cases a <;> first | (cases hm; done) | skip
    rename_i t body els pos
    cases els with
    | cons _ _ => cases hm
    | nil =>
      obtain ⟨h0, h1, h2, h3⟩ := ba4 hm
      exact ss_while (C.own (not_of h0)) ((sndE c C.toCtx _ h2 (left_of q)).2 h1) (sndSs b C _ h3 (right_of q))
  | .brk, N, h, T, X, W, S, F0, C, a, hm, q => by
    cases a <;> first | (cases hm; done) | skip
    exact ss_brk
  | .cont, N, h, T, X, W, S, F0, C, a, hm, q => by
    cases a <;> first | (cases hm; done) | skip
    exact ss_cont
  | .pass, N, h, T, X, W, S, F0, C, a, hm, q => by
    cases a <;> first | (cases hm; done) | skip
    exact ss_pass
  | .raise x c, N, h, T, X, W, S, F0, C, a, hm, q => by
    cases a <;> first | (cases hm; done) | skip
    rename_i e cs pos
    cases e with
    | none => cases hm
    | some e =>
      cases e <;> first | (cases hm; done) | skip
      rename_i f as kw p4
      cases f <;> first | (cases hm; done) | skip
      rename_i y p2
      cases as with
      | nil => cases hm
      | cons v as =>
        cases v <;> first | (cases hm; done) | skip
        rename_i cc j p3
        cases cc <;> first | (cases hm; done) | skip
        rename_i m
        cases as with
        | cons _ _ => cases hm
        | nil =>
          cases kw with
          | cons _ _ => cases hm
          | nil =>
            cases cs with
            | some _ => cases hm
            | none =>
              obtain ⟨h0, h1, h2, h3⟩ := ba4 hm
              rw [name_of h1]
              exact ss_raise (q _ (List.mem_singleton.mpr rfl)) (C.calm (not_of h0)) C.tk (gl_at C.sc h2) (dbg1 h3)
  | .frz i, N, h, T, X, W, S, F0, C, a, hm, q => by
    cases a <;> cases hm
  | .tri b x cs al i hd, N, h, T, X, W, S, F0, C, a, hm, q => by
    cases i with
    | none => cases a <;> cases hm
    | some i =>
      cases a <;> first | (cases hm; done) | skip
      rename_i body hs els fin pos
      cases hs with
      | nil => cases hm
      | cons hh hs =>
        obtain ⟨ty, nm, su, p3⟩ := hh
        cases ty with
        | none => cases hm
        | some ty =>
          cases ty <;> first | (cases hm; done) | skip
          rename_i y p2
          cases nm with
          | none => cases hm
          | some n =>
            cases su with
            | nil => cases hm
            | cons b₀ suite =>
              cases hs with
              | cons _ _ => cases hm
              | nil =>
              cases els with
              | cons _ _ => cases hm
              | nil =>
              cases fin with
              | cons _ _ => cases hm
              | nil =>
              obtain ⟨h0, h1, h2, h3, h4, hm⟩ := ba6 hm
              obtain ⟨h5, h6, h7, h8⟩ := ba4 hm
              rw [name_of h1]
              have hf := not_of h0
              obtain ⟨Cv, g1, g2⟩ := q _ (List.mem_cons_self ..)
              have q1 : ∀ n ∈ b.needs, n.at X T k := fun n m => q n (List.mem_cons_of_mem _ (List.mem_append.mpr (.inl m)))
              have q2 : ∀ n ∈ hd.needs, n.at X T k := fun n m => q n (List.mem_cons_of_mem _ (List.mem_append.mpr (.inr m)))
              have hln : X.env.kindOf n = some .local := by
                show X.env.scope.names.lookup n = _
                rw [C.sc]
                unfold locO at h5
                split at h5
                · assumption
                · cases h5
              have hb : ∀ (W : WX) (pn : List (Addr × Obj)) (xe : Value → Shared → Prop), Takes (X.tr pn xe) W → PassesOwn (model X.prog X.w) X.A X.env xe → PSs (X.tr pn xe) body (rdS X.K T W N F0 H0 fun st => runs st b) :=
                fun W pn xe tk po => sndSs b (C.tr hf tk po) body h6 q1
              have hsu : ∀ (a : Addr) (oe : Obj) (c : Nat) (fs : List D) (d : Option Addr) (H : Hp) (pn : List (Addr × Obj)), al.contains c = true → ExR X.K c fs d H → Zc (.ref (T.addr c)) d oe → (∃ vs, oe.data = .fields vs) → PSs (X.suite a ((a, oe) :: pn)) (b₀ :: suite) (rdS X.K (T.hot a c fs) W0 N F0 H0 fun st => runs st hd) := by
                intro a oe c fs d H pn hc hr hz hv
                have C' := C.suite (a := a) (pn := pn) hf (g2 c hc).2 hr hz hv
                have q' : ∀ n ∈ hd.needs, n.at (X.suite a ((a, oe) :: pn)) (T.hot a c fs) k := fun n m => Need.toHot (C.nox hf) (List.all_eq_true.mp h8 n m) (q2 n m)
                exact sndSs hd C' (b₀ :: suite) h7 q'
              have ct : Catch X T x cs al := ⟨⟨Cv, ⟨gl_at C.sc h2, dbg1 h3, .inl g1⟩, fun c hc => (g2 c hc).1⟩⟩
              have z := ss_try (pos := pos) (p2 := p2) (p3 := p3) (C.nox hf) C.stk C.frm C.nd (by rw [C.hN]; exact of_decide_eq_true h4) hln ct C.tk hb hsu
              exact z
theorem sndSs : ∀ (s : Ss) {N h : Bool} {T : Tab} {X : Cx} {W : WX} {S : Sg} {F0 : Hp} (C : SCtx h X T W k S) (a : List Stmt), mSs N h S s a = true → (∀ n ∈ s.needs, n.at X T k) → PSs X a (rdS X.K T W N F0 H0 fun st => runs st s)
  | .nil, N, h, T, X, W, S, F0, C, a, hm, q => by
    cases a with
    | nil => exact ss_nil
    | cons _ _ => cases hm
  | .cons s ss, N, h, T, X, W, S, F0, C, a, hm, q => by
    by_cases hz : ∃ i, s = .frz i
    · obtain ⟨i, rfl⟩ := hz
      exact ss_frz i (sndSs ss C a hm (right_of q))
    · cases a with
      | nil => cases s <;> first | (cases hm; done) | exact absurd ⟨_, rfl⟩ hz
      | cons a as =>
        have hm' : (mS N h S s a && mSs N h S ss as) = true := by
          cases s <;> first | exact hm | exact absurd ⟨_, rfl⟩ hz
        obtain ⟨h1, h2⟩ := ba hm'
        exact ss_cons (sndS s C a h1 (left_of q)) (sndSs ss C as h2 (right_of q))
end
end
end Py

namespace Py
open PySem PySem.Spec PyProof.Rows L2

/-! ### a def of the text -/
section
variable {P : Program} {w : World} {K : PySem.W.Frag} {mg : Str → Option Value} {base : Heap} {T : Tab} {k : Nat} {nm qual : Str} {params : Arguments} {body : List Stmt} {scope : Scope} {dvs : List V} {kws : List (Str × V)} {f : Addr} {fd : FuncData} {N ps free : List Str} {b : Ss}
theorem start_rel {F H : Hp} {n : Nat} {ds : List D} {vs : List V} (s : Same F H) (r : Reps K T F ds vs) (hn : N.length = n) : StR K T F H F H (fun _ _ => False) (L2.start N vs) (startS n ds) where
  s := s
  h0 := Same.refl H
  f0 := Same.refl F
  n := fun _ _ e => .inl e
  l := by
    have e := Reps.length r
    show (startS n ds).length = (L2.start N vs : List (Option V)).length
    unfold startS L2.start
    show _ = (vs.map some ++ List.replicate (N.length - vs.length) none).length
    rw [List.length_append, List.length_append, List.length_map, List.length_map, List.length_replicate, List.length_replicate, e, hn]
  fr := fun i d e => by
    unfold startS at e
    by_cases hi : i < ds.length
    · rw [List.getElem?_append_left (by rw [List.length_map]; exact hi), List.getElem?_map] at e
      cases hd : ds[i]? with
      | none =>
        rw [hd] at e
        cases e
      | some d' =>
        rw [hd] at e
        cases e
        obtain ⟨v, h1, h2⟩ := Reps.get r hd
        refine ⟨v, ?_, h2⟩
        show (vs.map some ++ List.replicate (N.length - vs.length) none)[i]? = _
        rw [List.getElem?_append_left (by rw [List.length_map, Reps.length r]; exact hi), List.getElem?_map, h1]
        rfl
    · rw [List.getElem?_append_right (by rw [List.length_map]; omega), List.getElem?_replicate] at e
      split at e <;> cases e
  ow := fun i k d e => by
    unfold startS at e
    by_cases hi : i < ds.length
    · rw [List.getElem?_append_left (by rw [List.length_map]; exact hi), List.getElem?_map] at e
      cases hd : ds[i]? with
      | none =>
        rw [hd] at e
        cases e
      | some d' =>
        rw [hd] at e
        cases e
    · rw [List.getElem?_append_right (by rw [List.length_map]; omega), List.getElem?_replicate] at e
      split at e <;> cases e
  no := fun _ _ z => z.elim
  dj := fun _ _ _ z => z.elim
  fF := fun _ _ z => z.elim
theorem sctx_of {cdv : Value} {A : Around} {outer : List PySem.Env} {s : Shared} {H : Hp} {E : XK} (S : FnScope N ps scope) (hfree : ∀ x, free.contains x = true → mg x = none) (hx : ∀ a, T.exc a = none) (hr : Room k (A.deeper (envOfC qual scope s.heap.objs.size f cdv))) :
    SCtx false (cxOf (L2.CX P w) P w K mg base N qual scope f cdv A outer s H E) T (fun cls d _ H => E cls d H) k ⟨N, scope, free⟩ where
  hN := rfl
  sc := rfl
  nd := S.nd
  un := by
    have := hr.un
    show (A.deeper (envOfC qual scope s.heap.objs.size f cdv)).units + 65 < cLine
    omega
  calm := fun _ => rfl
  room := fun _ => hr
  tk := takes_of rfl rfl rfl rfl
  free := hfree
  nox := fun _ => hx
  ise := fun a c fs e => by
    rw [hx a] at e
    cases e
  stk := rfl
  frm := rfl
  own := fun _ => passes_of rfl
  fn := fun _ => rfl
  kind := S.kind
theorem spOf_len {n : Nat} {g : Sem} : ∀ vs H Q E, spOf K T n g vs H Q E → vs.length = n := fun vs H Q E ⟨F, ds, h1, h2, h3, h4⟩ => (Reps.length h3).trans h1
theorem spOfN_len {n : Nat} {g : Sem} : ∀ vs H Q E, spOfN K T n g vs H Q E → vs.length = n := fun vs H Q E ⟨F, ds, h1, h2, h3, h4⟩ => (Reps.length h3).trans h1
theorem def_ok (F : FunD K nm qual params body scope dvs kws f fd) (S : FnScope N ps scope) (hfree : ∀ x, free.contains x = true → mg x = none) (hm : mSs false false ⟨N, scope, free⟩ b body = true) (hx : ∀ a, T.exc a = none)
    (q : ∀ n ∈ b.needs, n.ok P w K mg base T k) : FnOk P w K mg base (L2.CX P w) (k + 1) f fd ps (spOf K T ps.length (defD N.length ps.length b)) := by
  refine F.ok S spOf_len fun cdv A outer s H vs Q E hr ⟨F0, ds, h1, h2, h3, h4⟩ => ?_
  refine ⟨rdS K T (fun cls d _ H => E cls d H) false F0 H (fun st => runs st b), sndSs b (N := false) (F0 := F0) (H0 := H) (sctx_of S hfree hx hr) body hm q, ?_⟩
  refine fun _ => ⟨F0, _, startS N.length ds, start_rel h2 h3 rfl, ?_⟩
  have h4 : Post K T (relD K T) E F0 H (if ds.length = ps.length then fin (runs (startS N.length ds) b) else .no) Q := h4
  rw [if_pos h1] at h4
  show PostS K T (fun cls d _ H => E cls d H) false F0 H { nx := fun _ H' => Q .non H', rt := Q } (runs (startS N.length ds) b)
  cases hq : runs (startS N.length ds) b with
  | nx st =>
    rw [hq] at h4
    intro F1 H1 fp σ R
    exact h4 .non F1 H1 (R.back (Grow.refl R.s)) rfl
  | rt d =>
    rw [hq] at h4
    exact fun v F1 H1 g r => h4 v F1 H1 g r
  | ex c fs st =>
    rw [hq] at h4
    exact fun dx F1 H1 fp σ R e => h4 dx H1 R.h0 e
  | bk st =>
    rw [hq] at h4
    exact h4.elim
  | ct st =>
    rw [hq] at h4
    exact h4.elim
  | no =>
    rw [hq] at h4
    exact h4.elim
theorem def_okN (F : FunD K nm qual params body scope dvs kws f fd) (S : FnScope N ps scope) (hfree : ∀ x, free.contains x = true → mg x = none) (hm : mSs true false ⟨N, scope, free⟩ b body = true) (hx : ∀ a, T.exc a = none)
    (q : ∀ n ∈ b.needs, n.ok P w K mg base T k) : FnOk P w K mg base (L2.CX P w) (k + 1) f fd ps (spOfN K T ps.length (defN N.length ps.length b)) := by
  refine F.ok S spOfN_len fun cdv A outer s H vs Q E hr ⟨F0, ds, h1, h2, h3, h4⟩ => ?_
  refine ⟨rdS K T (fun cls d _ H => E cls d H) true F0 H (fun st => runs st b), sndSs b (N := true) (F0 := F0) (H0 := H) (sctx_of S hfree hx hr) body hm q, ?_⟩
  refine fun _ => ⟨F0, _, startS N.length ds, start_rel h2 h3 rfl, ?_⟩
  have h4 : PostN K T E F0 H (match (if ds.length = ps.length then fin (runs (startS N.length ds) b) else .no) with
    | .ok (.lst l) => .ok (.lst l)
    | .ok _ => .no
    | r => r) Q := h4
  rw [if_pos h1] at h4
  show PostS K T (fun cls d _ H => E cls d H) true F0 H { nx := fun _ H' => Q .non H', rt := Q } (runs (startS N.length ds) b)
  cases hq : runs (startS N.length ds) b with
  | nx st =>
    rw [hq] at h4
    exact h4.elim
  | rt d =>
    rw [hq] at h4
    cases d <;> first | exact h4.elim | skip
    intro l p vs' F1 H1 e
    cases e
    exact h4 p vs' F1 H1
  | ex c fs st =>
    rw [hq] at h4
    exact fun dx F1 H1 fp σ R e => h4 dx H1 R.h0 e
  | bk st =>
    rw [hq] at h4
    exact h4.elim
  | ct st =>
    rw [hq] at h4
    exact h4.elim
  | no =>
    rw [hq] at h4
    exact h4.elim
theorem defD_arity {n k : Nat} {b : Ss} : ∀ zs : List D, zs.length ≠ k → defD n k b zs = .no := fun zs h => if_neg h
theorem defN_arity {n k : Nat} {b : Ss} : ∀ zs : List D, zs.length ≠ k → defN n k b zs = .no := fun zs h => by
  unfold defN
  rw [defD_arity zs h]
theorem defN_lst {n k : Nat} {b : Ss} : ∀ (zs : List D) (d : D), defN n k b zs = .ok d → ∃ l, d = .lst l := fun zs d h => by
  unfold defN at h
  cases hq : defD n k b zs with
  | ok d' =>
    rw [hq] at h
    cases d' <;> first | (cases h; done) | skip
    cases h
    exact ⟨_, rfl⟩
  | ex c fs =>
    rw [hq] at h
    cases h
  | no =>
    rw [hq] at h
    cases h
abbrev Plain (nm qual : Str) (params : Arguments) (body : List Stmt) (scope : Scope) (ps : List Str) : Prop := ∀ (kV doc pm : Value) (an : Option Addr) (cdv ct : Value) (us : List Value), us.length = ps.length → bindArgs (PySem.W.fnOf nm qual params body scope .none kV doc pm an cdv ct) ⟨us, []⟩ = pure (ps.zip us)
def allP {α : Type} (p : α → Prop) : List α → Prop
  | [] => True
  | x :: xs => p x ∧ allP p xs
theorem allP_mem {α : Type} {p : α → Prop} : ∀ {l : List α}, allP p l → ∀ x ∈ l, p x
  | y :: ys, h, x, m => by
    cases m with
    | head => exact h.1
    | tail _ m => exact allP_mem h.2 x m
theorem good_of {x : String} (hg : mg (x : Str) = some (.ref f)) (F : FunD K nm qual params body scope [] [] f fd) (S : FnScope N ps scope) (hb : Plain nm qual params body scope ps) (hfree : ∀ x, free.contains x = true → mg x = none) (hm : mSs false false ⟨N, scope, free⟩ b body = true) (hx : ∀ a, T.exc a = none)
    (q : allP (fun n => n.ok P w K mg base T k) b.needs) : Good P w K mg base T (k + 1) x (defD N.length ps.length b) [] :=
  ⟨f, fd, ps, [], [], hg, F.kp, F.bindsN hb, .nil, fun _ => rfl, defD_arity, def_ok F S hfree hm hx (allP_mem q)⟩
theorem goodN_of {x : String} (hg : mg (x : Str) = some (.ref f)) (F : FunD K nm qual params body scope [] [] f fd) (S : FnScope N ps scope) (hb : Plain nm qual params body scope ps) (hfree : ∀ x, free.contains x = true → mg x = none) (hm : mSs true false ⟨N, scope, free⟩ b body = true) (hx : ∀ a, T.exc a = none)
    (q : allP (fun n => n.ok P w K mg base T k) b.needs) : GoodN P w K mg base T (k + 1) x (defN N.length ps.length b) [] :=
  ⟨f, fd, ps, [], [], hg, F.kp, F.bindsN hb, .nil, fun _ => rfl, defN_arity, defN_lst, def_okN F S hfree hm hx (allP_mem q)⟩
theorem Good.mono {x : String} {g : Sem} {dd : List D} {j : Nat} (h : Good P w K mg base T j x g dd) (hj : j ≤ k) : Good P w K mg base T k x g dd := by
  obtain ⟨a, fd, ps, dvs, ds, h1, h2, h3, h4, h5, h6, h7⟩ := h
  exact ⟨a, fd, ps, dvs, ds, h1, h2, h3, h4, h5, h6, h7.mono hj⟩
theorem GoodN.mono {x : String} {g : Sem} {dd : List D} {j : Nat} (h : GoodN P w K mg base T j x g dd) (hj : j ≤ k) : GoodN P w K mg base T k x g dd := by
  obtain ⟨a, fd, ps, dvs, ds, h1, h2, h3, h4, h5, h6, h8, h7⟩ := h
  exact ⟨a, fd, ps, dvs, ds, h1, h2, h3, h4, h5, h6, h8, h7.mono hj⟩
theorem good_rec {x : String} {b : Sem → Ss} {j : Nat} (hg : mg (x : Str) = some (.ref f)) (F : FunD K nm qual params body scope [] [] f fd) (S : FnScope N ps scope) (hb : Plain nm qual params body scope ps) (hfree : ∀ x, free.contains x = true → mg x = none) (hm : ∀ g, mSs false false ⟨N, scope, free⟩ (b g) body = true) (hx : ∀ a, T.exc a = none)
    (q : ∀ g j, k ≤ j → Good P w K mg base T j x g [] → allP (fun n => n.ok P w K mg base T j) (b g).needs) : ∀ m, Good P w K mg base T (k + m) x (itD N.length ps.length b m) []
  | 0 => ⟨f, fd, ps, [], [], hg, F.kp, F.bindsN hb, .nil, fun _ => rfl, fun _ _ => rfl, ⟨spOf_len, fun A outer s H args us vs Q E hr e0 hb r ⟨_, _, _, _, _, z⟩ => z.elim⟩⟩
  | m + 1 => ⟨f, fd, ps, [], [], hg, F.kp, F.bindsN hb, .nil, fun _ => rfl, defD_arity, def_ok (k := k + m) F S hfree (hm _) hx (allP_mem (q _ (k + m) (Nat.le_add_right _ _) (good_rec (j := j) hg F S hb hfree hm hx q m)))⟩
end

/-! ### the law's end -/
theorem law_end {l : PySem.W.OpenLaw} {n k : Nat} {q : Program} {loose : List Str} {XP : (Str → Option Value) → Heap → Prop} {YP : World → Heap → Prop} {d : DefRec} {x : Str}
    (hn : l.most = some n) (hn2 : n ≤ sizeLine) (hdf : d.params.defaults = []) (hr : Room k callerA) {g : Sem} (hg : ∀ ns : List Int, ns.length ≤ n → g [.scr ns] = .ok (.bool true))
    (F : ∀ (w : World) (mg : Str → Option Value) (fa : Addr) (h : Heap), YP w h → h.Ns mainGlobals mg → mg d.name = some (.ref fa) →
      ∃ (K : PySem.W.Frag) (fd : FuncData) (T : Tab), K.In h ∧ (∀ (s : Shared) (u : Value), BindsTo s fd ⟨[u], []⟩ [(x, u)]) ∧
        ∀ base : Heap, K.In base → base.Ns mainGlobals mg → FnOk l.prog w K mg base (L2.CX l.prog w) k fa fd [x] (spOf K T 1 g)) :
    PySem.W.WalkO q loose XP YP l.row.toRowW d [] (fun f vs => PySem.call f vs) := by
  refine Att.attach_call hn hdf fun w s₀ s₁ mg mb fa o pm cd doc a vs ns G Y ho hd hcd hmg hobj hints hlen hgn => ?_
  obtain ⟨K, fd, T, KX, hb, hF⟩ := F w mg fa _ Y G.T.g hmg
  exact law_call KX G.T.g G.T.b G.T.builtins G.T.nolimit hgn hobj hints (Nat.le_trans hlen hn2) hr hF hb (fun H hO hS => ⟨fun b => H b, [.scr ns], rfl, Same.refl H, ⟨_, _, rfl, ⟨a, rfl, hS⟩, rfl⟩, by
    rw [hg ns hlen]
    exact fun v F' H' _ r => r⟩) fun H e s' ⟨_, _, _, _, _, _, _, _, _, _, _, _, z⟩ => z
end Py

namespace Py
open PySem PySem.Spec PyProof.Rows L2

/-! ### the head's Hook: facts, defs, more Bools -/
def obsQ (fa : List He.Fa) (fn : List He.DefD) (ex : PySem.W.Frag → List Bool) (K : PySem.W.Frag) : He.AlD × List Bool := (He.obsD fa fn K, ex K)
def obsP (n : Nat) (fa : List He.Fa) (fn : List He.DefD) (ex : PySem.W.Frag → List Bool) (g : Addr → Option Obj) : He.AlD × List Bool := obsQ fa fn ex (He.frG g (He.asD g n))
def hookP (n : Nat) (fa : List He.Fa) (fn : List He.DefD) (ex : PySem.W.Frag → List Bool) (yes : List Bool) (hy : ∀ b ∈ yes, b = true) : PySem.W.Hook where
  α := He.AlD × List Bool
  obs := fun s => obsP n fa fn ex s.heap.get?
  val := fun _ => (He.valD fn, yes)
  says := fun _ h => ∃ K : PySem.W.Frag, K.In h ∧ He.SaysD fa fn K ∧ ∀ b ∈ ex K, b = true
  of := fun _ s e => ⟨He.frG s.heap.get? (He.asD s.heap.get? n), He.frG_in, by
    have e1 : He.obsD fa fn (He.frG s.heap.get? (He.asD s.heap.get? n)) = He.valD fn := congrArg (fun z : He.AlD × List Bool => z.1) e
    exact e1, by
    have e2 : ex (He.frG s.heap.get? (He.asD s.heap.get? n)) = yes := congrArg (fun z : He.AlD × List Bool => z.2) e
    rw [e2]
    exact hy⟩
  keeps := fun _ _ _ ⟨K, hK, c⟩ k => ⟨K, PySem.W.Frag.In.keeps hK k, c⟩
theorem obsP_eq {n : Nat} {fa : List He.Fa} {fn : List He.DefD} {ex : PySem.W.Frag → List Bool} {yes : List Bool} {hy : ∀ b ∈ yes, b = true} {g : Addr → Option Obj} {s : Shared} (h : ∀ a, g a = s.heap.get? a) : obsP n fa fn ex g = (hookP n fa fn ex yes hy).obs s := by
  have e : g = s.heap.get? := funext h
  rw [e]
  rfl
/-- an exception class, as isinstance looks at it -/
def xcB (K : PySem.W.Frag) (x : Str) : Bool :=
  He.eqO (PySem.W.findIn K (.ref (He.ga K x)) "__getattribute__") (some (some (.builtin "BaseException.__getattribute__"))) && (He.eqO (PySem.W.findIn K (.ref (He.ga K x)) "__getattr__") (some none) && (decide (PySem.W.subIn K (.ref (He.ga K x)) (.type "BaseException") = some true) && (PySem.W.hasDictIn K (He.ga K x) && (He.eqO (PySem.W.findIn K (.ref (He.ga K x)) "__class__") (some (some (.builtin "object.__class__"))) && (He.eqO (PySem.W.specialIn K (.builtin "object.__class__") "__get__") (some (some (.builtin "getset_descriptor.__get__"))) && (decide (PySem.W.takesIn K (.builtin "object.__class__") = some true) && decide (PySem.W.mroIn K (He.ga K x) (.type "object") = some true)))))))
theorem xcB_ok {K : PySem.W.Frag} {x : Str} (h : xcB K x = true) : ExcC K (He.ga K x) := by
  obtain ⟨h1, h2, h3, h4, h5, h6, h7, h8⟩ := ba8 h
  exact ⟨He.eqO_ok h1, He.eqO_ok h2, of_decide_eq_true h3, h4, He.eqO_ok h5, He.eqO_ok h6, of_decide_eq_true h7, of_decide_eq_true h8⟩
def kitB3 (K : PySem.W.Frag) (x y : Str) (b : Bool) : Bool := decide (PySem.W.kitOne K (.ref (He.ga K x)) (.ref (He.ga K y)) = some b)
theorem kitB3_ok {K : PySem.W.Frag} {x y : Str} {b : Bool} (h : kitB3 K x y b = true) : PySem.W.kitOne K (.ref (He.ga K x)) (.ref (He.ga K y)) = some b := of_decide_eq_true h
end Py

namespace Py
/-! plain steps of evaluation -/
section
variable {env : Env} {st : St}
@[simp] theorem ev_v {i} : ev env (.v i) = env.get i := rfl
@[simp] theorem ev_non : ev env .non = .ok .non := rfl
@[simp] theorem ev_tt : ev env .tt = .ok (.bool true) := rfl
@[simp] theorem ev_ff : ev env .ff = .ok (.bool false) := rfl
@[simp] theorem ev_int {i} : ev env (.int i) = .ok (.int i) := rfl
@[simp] theorem ev_str {s} : ev env (.str s) = .ok (.str s) := rfl
@[simp] theorem ev_glob {x d} : ev env (.glob x d) = .ok d := rfl
@[simp] theorem ev_bin {o a b} : ev env (.bin o a b) = (ev env a).bind fun x => (ev env b).bind fun y => binD o x y := rfl
@[simp] theorem ev_neg {a} : ev env (.neg a) = (ev env a).bind negD := rfl
@[simp] theorem ev_cmp {o a b} : ev env (.cmp o a b) = (ev env a).bind fun x => (ev env b).bind fun y => (cmpD o x y).map D.bool := rfl
@[simp] theorem ev_chain {o o' a b c} : ev env (.chain o o' a b c) = (ev env a).bind fun x => (ev env b).bind fun y => (cmpD o x y).bind fun t =>
      if t then (ev env c).bind fun z => (cmpD o' y z).map D.bool else .ok (.bool false) := rfl
@[simp] theorem ev_not {a} : ev env (.not a) = (ev env a).bind fun x => (truth x).map fun t => D.bool (!t) := rfl
@[simp] theorem ev_ands {o es} : ev env (.ands o es) = eva env o es := rfl
@[simp] theorem ev_ife {t a b} : ev env (.ife t a b) = (ev env t).bind fun x => (truth x).bind fun t => if t then ev env a else ev env b := rfl
@[simp] theorem ev_tup {es} : ev env (.tup es) = (evs env es).map D.tup := rfl
@[simp] theorem ev_lst {es} : ev env (.lst es) = (evs env es).map D.lst := rfl
@[simp] theorem ev_idx {a b} : ev env (.idx a b) = (ev env a).bind fun x => (ev env b).bind fun y => idxD x y := rfl
@[simp] theorem ev_slice {a lo hi} : ev env (.slice a lo hi) = (ev env a).bind fun x => (evo env lo).bind fun l => (evo env hi).bind fun h => sliceD l h x := rfl
@[simp] theorem ev_rev {a} : ev env (.rev a) = (ev env a).bind revD := rfl
@[simp] theorem ev_call {x s dd es} : ev env (.call x s dd es) = (evs env es).bind fun xs => s (xs ++ dd) := rfl
@[simp] theorem ev_bi {f es} : ev env (.bi f es) = (evs env es).bind (biD f) := rfl
@[simp] theorem ev_isin {e t} : ev env (.isin e t) = (ev env e).bind fun x => (tyD t x).map D.bool := rfl
@[simp] theorem ev_lc {own p it c e} : ev env (.lc own p it c e) = (evi env it).bind fun xs => (compD xs fun x =>
      (bindG putE p x (wipeD env (own.map (·.2)))).bind fun env' => (evc env' c).bind fun t =>
        if t then (ev env' e).map some else .ok none).map D.lst := rfl
@[simp] theorem eva_one {o e} : eva env o (.cons e .nil) = ev env e := rfl
@[simp] theorem eva_two {o e e2 es} : eva env o (.cons e (.cons e2 es)) = (ev env e).bind fun x => (truth x).bind fun t => if t = o then eva env o (.cons e2 es) else .ok x := rfl
@[simp] theorem evo_none : evo env .none = .ok none := rfl
@[simp] theorem evo_some {e} : evo env (.some e) = (ev env e).bind partI := rfl
@[simp] theorem evc_none : evc env .none = .ok true := rfl
@[simp] theorem evc_some {e} : evc env (.some e) = (ev env e).bind truth := rfl
@[simp] theorem evs_nil : evs env .nil = .ok [] := rfl
@[simp] theorem evs_cons {e es} : evs env (.cons e es) = (ev env e).bind fun x => (evs env es).map fun xs => x :: xs := rfl
@[simp] theorem evi_seq {e} : evi env (.seq e) = (ev env e).bind seqD := rfl
@[simp] theorem evi_range {a} : evi env (.range a) = (ev env a).bind fun x => match x with
    | .int n => if n ≤ (cap : Int) ∧ -bigI ≤ n then .ok (rangeD 0 n) else .no
    | _ => .no := rfl
@[simp] theorem evi_range2 {a b} : evi env (.range2 a b) = (ev env a).bind fun x => (ev env b).bind fun y => match x, y with
    | .int m, .int n => if -bigI ≤ m ∧ m ≤ bigI ∧ -bigI ≤ n ∧ n ≤ bigI ∧ n - m ≤ (cap : Int) then .ok (rangeD m n) else .no
    | _, _ => .no := rfl
@[simp] theorem run_asg {m p e} : run st (.asg m p e) = (ev (envS m st) e).cf st fun d => if okM m d then (bindP p d st).cf st Cf.nx else .no := rfl
@[simp] theorem run_asgN {i e} : run st (.asgN i e) = (ev (envS false st) e).cf st (newS st i) := rfl
@[simp] theorem run_aug {i o e} : run st (.aug i o e) = (Env.get (envS true st) i).cf st fun x => (ev (envS true st) e).cf st fun y => (binD o x y).cf st fun z =>
      if z.scalar then .nx (st.set i (.v z)) else .no := rfl
@[simp] theorem run_expr {e} : run st (.expr e) = (ev (envS true st) e).cf st fun _ => .nx st := rfl
@[simp] theorem run_app {m i e} : run st (.app m i e) = ownL st i fun ds => (ev (envS m st) e).cf st fun d => if okM m d && decide (ds.length < cap) then .nx (st.set i (.o 1 (.lst (ds ++ [d])))) else .no := rfl
@[simp] theorem run_setI {m i j e} : run st (.setI m i j e) = ownL st i fun ds => (ev (envS m st) e).cf st fun d => if okM m d then (ev (envS true st) j).cf st fun k => atS ds.length k fun n => .nx (st.set i (.o 1 (.lst (ds.set n d)))) else .no := rfl
@[simp] theorem run_ret {e} : run st (.ret e) = (ev (envS true st) e).cf st fun d => .rt d := rfl
@[simp] theorem run_retN {e} : run st (.retN e) = (ev (envS true st) e).cf st retL := rfl
@[simp] theorem run_retO {i} : run st (.retO i) = ownL st i fun ds => .rt (.lst ds) := rfl
@[simp] theorem run_ifs {c a b} : run st (.ifs c a b) = (evt (envS true st) c).cf st fun t => if t then runs st a else runs st b := rfl
@[simp] theorem run_forr {p it b} : run st (.forr p it b) = (evi (envS it.rng st) it).cf st fun xs => forD xs (fun x st => (bindP p x st).cf st fun st' => runs st' b) st := rfl
@[simp] theorem run_whil {c b} : run st (.whil c b) = whileD cap (fun st => evt (envS true st) c) (fun st => runs st b) st := rfl
@[simp] theorem run_brk : run st .brk = .bk st := rfl
@[simp] theorem run_cont : run st .cont = .ct st := rfl
@[simp] theorem run_pass : run st .pass = .nx st := rfl
@[simp] theorem run_raise {x c} : run st (.raise x c) = .ex c [] st := rfl
@[simp] theorem run_frz {i} : run st (.frz i) = .nx (st.set i (frzS st[i]?)) := rfl
@[simp] theorem run_tri {b x cs al i h} : run st (.tri b x cs al i h) = match runs st b with
    | .ex c fs st1 => if al.contains c then (if cs.contains c then catchD i (runs (catchS i c fs st1) h) else .ex c fs st1) else .no
    | r => r := rfl
@[simp] theorem runs_nil : runs st .nil = .nx st := rfl
def thenC (r : Cf) (k : St → Cf) : Cf := match r with
  | .nx st' => k st'
  | r => r
@[simp] theorem runs_cons {s ss} : runs st (.cons s ss) = thenC (run st s) fun st' => runs st' ss := rfl
@[simp] theorem thenC_nx {k : St → Cf} : thenC (.nx st) k = k st := rfl
@[simp] theorem thenC_rt {k : St → Cf} {d} : thenC (.rt d) k = .rt d := rfl
@[simp] theorem thenC_ex {k : St → Cf} {c fs} : thenC (.ex c fs st) k = .ex c fs st := rfl
@[simp] theorem thenC_bk {k : St → Cf} : thenC (.bk st) k = .bk st := rfl
@[simp] theorem thenC_ct {k : St → Cf} : thenC (.ct st) k = .ct st := rfl
@[simp] theorem cf_ok {α : Type} {a : α} {k : α → Cf} : R.cf st (.ok a) k = k a := rfl
@[simp] theorem cf_ex {α : Type} {c fs} {k : α → Cf} : R.cf st (.ex c fs : R α) k = .ex c fs st := rfl
@[simp] theorem it_rng1 {a} : (It.range a).rng = true := rfl
@[simp] theorem it_rng2 {a b} : (It.range2 a b).rng = true := rfl
@[simp] theorem it_rng0 {a} : (It.seq a).rng = false := rfl
@[simp] theorem envS_cons {m : Bool} {s : Sl} {st : St} : envS m (s :: st) = (if m then Sl.rd s else Sl.fr s) :: envS m st := by cases m <;> rfl
@[simp] theorem envS_nil {m : Bool} : envS m [] = [] := rfl
@[simp] theorem get_0 {x : D} {env : Env} : Env.get (some x :: env) 0 = .ok x := rfl
@[simp] theorem get_s {o : Option D} {env : Env} {n : Nat} : Env.get (o :: env) (n + 1) = Env.get env n := rfl
@[simp] theorem bindP_v {i d} : bindP (.v i) d st = .ok (st.set i (.v d)) := rfl
theorem bindP_tup {ps d} : bindP (.tup ps) d st = match d with
    | .tup ds => bindGs putP ps ds st
    | _ => .no := rfl
@[simp] theorem bindGs_nil {α : Type} {put : Nat → D → α → α} {a : α} : bindGs put [] [] a = .ok a := rfl
@[simp] theorem bindGs_cons {α : Type} {put : Nat → D → α → α} {a : α} {p ps d ds} : bindGs put (p :: ps) (d :: ds) a = (bindG put p d a).bind fun b => bindGs put ps ds b := rfl
@[simp] theorem bindG_v {α : Type} {put : Nat → D → α → α} {a : α} {i d} : bindG put (.v i) d a = .ok (put i d a) := rfl
@[simp] theorem putP_e {i d} : putP i d st = st.set i (.v d) := rfl
@[simp] theorem putE_e {i d} {env : Env} : putE i d env = env.set i (some d) := rfl
@[simp] theorem wipe_nil {env : Env} : wipeD env [] = env := rfl
@[simp] theorem wipe_cons {env : Env} {v vs} : wipeD env (v :: vs) = (wipeD env vs).set v none := rfl
@[simp] theorem evt_e {e} : evt env e = (ev env e).bind truth := rfl
@[simp] theorem truth_b {b} : truth (.bool b) = .ok b := rfl
@[simp] theorem truth_i {i} : truth (.int i) = .ok (i != 0) := rfl
@[simp] theorem start_e {n as} : startS n as = as.map Sl.v ++ List.replicate (n - as.length) .u := rfl
@[simp] theorem fin_rt {d} : fin (.rt d) = .ok d := rfl
@[simp] theorem fin_nx : fin (.nx st) = .ok .non := rfl
@[simp] theorem fin_ex {c fs} : fin (.ex c fs st) = .ex c fs := rfl
@[simp] theorem okM_f {d} : okM false d = true := rfl
theorem okM_t {d} : okM true d = d.kept := rfl
@[simp] theorem bi_len_tup {xs} : biD .len [.tup xs] = .ok (.int xs.length) := rfl
@[simp] theorem bi_len_lst {xs} : biD .len [.lst xs] = .ok (.int xs.length) := rfl
@[simp] theorem bi_len_scr {xs} : biD .len [.scr xs] = .ok (.int xs.length) := rfl
@[simp] theorem bi_int_int {i} : biD .int [.int i] = .ok (.int i) := rfl
@[simp] theorem bi_int_bool {b} : biD .int [.bool b] = .ok (.int (if b then 1 else 0)) := rfl
@[simp] theorem bi_abs {i} : biD .abs [.int i] = .ok (.int (if i < 0 then -i else i)) := rfl
@[simp] theorem bi_tuple_lst {xs} : biD .tuple [.lst xs] = .ok (.tup xs) := rfl
@[simp] theorem bi_tuple_tup {xs} : biD .tuple [.tup xs] = .ok (.tup xs) := rfl
@[simp] theorem bi_list_lst {xs} : biD .list [.lst xs] = .ok (.lst xs) := rfl
@[simp] theorem bi_list_tup {xs} : biD .list [.tup xs] = .ok (.lst xs) := rfl
@[simp] theorem bi_max {i j} : biD .max [.int i, .int j] = .ok (.int (if j > i then j else i)) := rfl
@[simp] theorem bi_min {i j} : biD .min [.int i, .int j] = .ok (.int (if j < i then j else i)) := rfl
@[simp] theorem bin_add {i j} : binD .add (.int i) (.int j) = .ok (.int (i + j)) := rfl
@[simp] theorem bin_sub {i j} : binD .sub (.int i) (.int j) = .ok (.int (i - j)) := rfl
@[simp] theorem bin_mul {i j} : binD .mul (.int i) (.int j) = if mulOk i j then .ok (.int (i * j)) else .no := rfl
@[simp] theorem bin_mod {i j} : binD .mod (.int i) (.int j) = if 0 < j then .ok (.int (i % j)) else .no := rfl
@[simp] theorem bin_fdiv {i j} : binD .fdiv (.int i) (.int j) = if 0 < j ∧ j < 1073741824 then .ok (.int (i / j)) else .no := rfl
@[simp] theorem bin_add_tup {s t} : binD .add (.tup s) (.tup t) = if s.length + t.length ≤ cap then .ok (.tup (s ++ t)) else .no := rfl
@[simp] theorem bin_add_lst {s t} : binD .add (.lst s) (.lst t) = if s.length + t.length ≤ cap then .ok (.lst (s ++ t)) else .no := rfl
@[simp] theorem bin_add_str {s t} : binD .add (.str s) (.str t) = if s.length + t.length ≤ cap then .ok (.str (s ++ t)) else .no := rfl
@[simp] theorem neg_int {i} : negD (.int i) = .ok (.int (-i)) := rfl
@[simp] theorem cmp_lt {i j} : cmpD .lt (.int i) (.int j) = .ok (decide (i < j)) := rfl
@[simp] theorem cmp_le {i j} : cmpD .le (.int i) (.int j) = .ok (decide (i ≤ j)) := rfl
@[simp] theorem cmp_gt {i j} : cmpD .gt (.int i) (.int j) = .ok (decide (j < i)) := rfl
@[simp] theorem cmp_ge {i j} : cmpD .ge (.int i) (.int j) = .ok (decide (j ≤ i)) := rfl
@[simp] theorem cmp_eq_int {i j : Int} : cmpD .eq (.int i) (.int j) = .ok (i == j) := rfl
@[simp] theorem cmp_ne_int {i j : Int} : cmpD .ne (.int i) (.int j) = .ok (!(i == j)) := rfl
@[simp] theorem cmp_eq_bool {i j : Bool} : cmpD .eq (.bool i) (.bool j) = .ok (i == j) := rfl
@[simp] theorem cmp_ne_bool {i j : Bool} : cmpD .ne (.bool i) (.bool j) = .ok (!(i == j)) := rfl
@[simp] theorem cmp_is_nn : cmpD .is .non .non = .ok true := rfl
@[simp] theorem cmp_isn_nn : cmpD .isn .non .non = .ok false := rfl
@[simp] theorem cmp_is_tup {xs} : cmpD .is (.tup xs) .non = .ok false := rfl
@[simp] theorem cmp_isn_tup {xs} : cmpD .isn (.tup xs) .non = .ok true := rfl
@[simp] theorem cmp_is_lst {xs} : cmpD .is (.lst xs) .non = .ok false := rfl
@[simp] theorem cmp_isn_lst {xs} : cmpD .isn (.lst xs) .non = .ok true := rfl
@[simp] theorem cmp_is_int {i} : cmpD .is (.int i) .non = .ok false := rfl
@[simp] theorem cmp_isn_int {i} : cmpD .isn (.int i) .non = .ok true := rfl
@[simp] theorem cmp_is_str {z} : cmpD .is (.str z) .non = .ok false := rfl
@[simp] theorem cmp_isn_str {z} : cmpD .isn (.str z) .non = .ok true := rfl
@[simp] theorem cmp_is_bool {b} : cmpD .is (.bool b) .non = .ok false := rfl
@[simp] theorem cmp_isn_bool {b} : cmpD .isn (.bool b) .non = .ok true := rfl
@[simp] theorem cmp_is_dict {ks}{vs} : cmpD .is (.dict ks vs) .non = .ok false := rfl
@[simp] theorem cmp_isn_dict {ks}{vs} : cmpD .isn (.dict ks vs) .non = .ok true := rfl
@[simp] theorem cmp_is_obj {c}{fs} : cmpD .is (.obj c fs) .non = .ok false := rfl
@[simp] theorem cmp_isn_obj {c}{fs} : cmpD .isn (.obj c fs) .non = .ok true := rfl
@[simp] theorem idx_tup {xs i} : idxD (.tup xs) (.int i) = ofO (atI xs i) := rfl
@[simp] theorem idx_lst {xs i} : idxD (.lst xs) (.int i) = ofO (atI xs i) := rfl
@[simp] theorem idx_scr {ns i} : idxD (.scr ns) (.int i) = ofO ((atI ns i).map D.int) := rfl
@[simp] theorem ofO_some {d} : ofO (some d) = .ok d := rfl
@[simp] theorem seq_tup {xs} : seqD (.tup xs) = .ok xs := rfl
@[simp] theorem seq_lst {xs} : seqD (.lst xs) = .ok xs := rfl
@[simp] theorem rev_lst {xs} : revD (.lst xs) = .ok (.lst xs.reverse) := rfl
@[simp] theorem part_int {i} : partI (.int i) = .ok (some i) := rfl
@[simp] theorem slice_tup {lo hi xs} : sliceD lo hi (.tup xs) = .ok (.tup (cutL xs lo hi)) := rfl
@[simp] theorem slice_lst {lo hi xs} : sliceD lo hi (.lst xs) = .ok (.lst (cutL xs lo hi)) := rfl
theorem atI_nat {α : Type} (xs : List α) (i : Nat) : atI xs (i : Int) = xs[i]? := by
  unfold atI ixN
  have h0 : (0 : Int) ≤ (i : Int) := Int.natCast_nonneg i
  rw [if_pos h0]
  by_cases h : i < xs.length
  · rw [if_pos (by omega)]
    rfl
  · rw [if_neg (by omega), List.getElem?_eq_none (by omega)]
    rfl
theorem atI_0 {α : Type} (xs : List α) : atI xs 0 = xs[0]? := atI_nat xs 0
theorem atI_1 {α : Type} (xs : List α) : atI xs 1 = xs[1]? := atI_nat xs 1
theorem atI_2 {α : Type} (xs : List α) : atI xs 2 = xs[2]? := atI_nat xs 2
theorem rangeD_nat (n : Nat) : rangeD 0 (n : Int) = (List.range n).map fun (i : Nat) => D.int (i : Int) := by
  unfold rangeD
  simp
end
theorem defD_eq {n k : Nat} {b : Ss} {as : List D} (h : as.length = k) : defD n k b as = fin (runs (startS n as) b) := if_pos h
theorem okcap {n : Nat} (h : n ≤ 1000) : (n : Int) ≤ (cap : Int) ∧ -bigI ≤ (n : Int) := by
  unfold cap bigI
  omega
theorem fin_if {p : Prop} [Decidable p] {a b : Cf} : fin (if p then a else b) = if p then fin a else fin b := by split <;> rfl
theorem sIx_none {n d : Nat} : sIx n d none = d := rfl
theorem sIx_nat {n d i : Nat} : sIx n d (some (i : Int)) = min i n := by
  show (if (i : Int) < 0 then ((i : Int) + (n : Int)).toNat else min (i : Int).toNat n) = min i n
  have h : ¬ ((i : Int) < 0) := Int.not_lt.mpr (Int.natCast_nonneg i)
  rw [if_neg h, Int.toNat_natCast]
theorem cut_to {α : Type} {xs : List α} {p : Nat} (h : p ≤ xs.length) : cutL xs none (some (p : Int)) = xs.take p := by
  unfold cutL
  rw [sIx_none, sIx_nat, Nat.min_eq_left h]
  rfl
theorem cut_from {α : Type} {xs : List α} {p : Nat} (h : p ≤ xs.length) : cutL xs (some (p : Int)) none = xs.drop p := by
  unfold cutL
  rw [sIx_none, sIx_nat, Nat.min_eq_left h, List.take_of_length_le]
  rw [List.length_drop]
  omega
/-! loops -/
theorem forD_nil {f : D → St → Cf} {st : St} : forD [] f st = .nx st := rfl
theorem forD_cons {f : D → St → Cf} {st : St} {x xs} : forD (x :: xs) f st = match f x st with
    | .nx st' => forD xs f st'
    | .ct st' => forD xs f st'
    | .bk st' => .nx st'
    | r => r := rfl
/-- a search: it goes on while P, returns d at the first that is not -/
theorem forD_all {f : D → St → Cf} {d : D} {P : D → Bool} {I : St → Prop} : ∀ {xs : List D}, (∀ x ∈ xs, ∀ st, I st → (P x = true → ∃ st', f x st = .nx st' ∧ I st') ∧ (P x = false → f x st = .rt d)) → ∀ st, I st →
    (xs.all P = true → ∃ st', forD xs f st = .nx st' ∧ I st') ∧ (xs.all P = false → forD xs f st = .rt d)
  | [], _, st, hI => ⟨fun _ => ⟨st, rfl, hI⟩, fun h => (by cases h)⟩
  | x :: xs, h, st, hI => by
    obtain ⟨h1, h2⟩ := h x (List.mem_cons_self ..) st hI
    have ih := forD_all (f := f) (d := d) (P := P) (I := I) (xs := xs) fun y hy => h y (List.mem_cons_of_mem _ hy)
    rw [List.all_cons, forD_cons]
    cases hx : P x with
    | true =>
      obtain ⟨st', e, hI'⟩ := h1 hx
      rw [e]
      exact ih st' hI'
    | false =>
      rw [h2 hx]
      exact ⟨fun z => (by cases z), fun _ => rfl⟩
/-- the same, to the def's end -/
theorem fin_search {f : D → St → Cf} {d : D} {P : D → Bool} {I : St → Prop} {xs : List D} {st : St} {k : St → Cf} {v : R D} (h : ∀ x ∈ xs, ∀ st, I st → f x st = .rt d ∧ P x = false ∨ ∃ st', f x st = .nx st' ∧ I st' ∧ P x = true) (hI : I st)
    (hk : ∀ st', I st' → fin (k st') = v) : fin (thenC (forD xs f st) k) = if xs.all P then v else .ok d := by
  obtain ⟨h1, h2⟩ := forD_all (f := f) (d := d) (P := P) (I := I) (xs := xs) (fun x hx st hI => ⟨fun hp => by
    rcases h x hx st hI with ⟨_, q⟩ | ⟨st', q1, q2, _⟩
    · rw [hp] at q
      cases q
    · exact ⟨st', q1, q2⟩, fun hp => by
    rcases h x hx st hI with ⟨q, _⟩ | ⟨st', _, _, q⟩
    · exact q
    · rw [hp] at q
      cases q⟩) st hI
  cases ha : xs.all P with
  | true =>
    obtain ⟨st', e, hI'⟩ := h1 ha
    rw [e]
    exact hk st' hI'
  | false =>
    rw [h2 ha]
    rfl
/-- a loop that runs through; J at the items that are left -/
theorem forD_thru {f : D → St → Cf} (J : List D → St → Prop) : ∀ {xs : List D}, (∀ x r st, J (x :: r) st → ∃ st', f x st = .nx st' ∧ J r st') → ∀ st, J xs st → ∃ st', forD xs f st = .nx st' ∧ J [] st'
  | [], _, st, hJ => ⟨st, rfl, hJ⟩
  | x :: xs, h, st, hJ => by
    obtain ⟨st', e, hJ'⟩ := h x xs st hJ
    rw [forD_cons, e]
    exact forD_thru J h st' hJ'
/-- a loop that runs through, then the rest -/
theorem thru {f : D → St → Cf} (J : List D → St → Prop) {xs : List D} {st : St} {k : St → Cf} {r : R D} (h : ∀ x r st, J (x :: r) st → ∃ st', f x st = .nx st' ∧ J r st') (hJ : J xs st) (hk : ∀ st', J [] st' → fin (k st') = r) : fin (thenC (forD xs f st) k) = r := by
  obtain ⟨st', e, hJ'⟩ := forD_thru J h st hJ
  rw [e]
  exact hk st' hJ'
theorem comp_ok {f : D → R (Option D)} {g : D → Option D} : ∀ {xs : List D}, (∀ x ∈ xs, f x = .ok (g x)) → compD xs f = .ok (xs.filterMap g)
  | [], _ => rfl
  | x :: xs, h => by
    have ih := comp_ok (f := f) (g := g) (xs := xs) fun y hy => h y (List.mem_cons_of_mem _ hy)
    have hx := h x (List.mem_cons_self ..)
    show (match f x with
      | .ok o => (compD xs f).bind fun r => .ok (match o with
        | some d => d :: r
        | none => r)
      | _ => .no) = _
    rw [hx, ih]
    cases hg : g x with
    | none =>
      rw [List.filterMap_cons_none hg]
      rfl
    | some d =>
      rw [List.filterMap_cons_some hg]
      rfl
/-! tuples and lists of ints -/
def ti (xs : List Int) : D := .tup (xs.map D.int)
def li (xs : List Int) : D := .lst (xs.map D.int)
/-- the i-th -/
def nth (xs : List Int) (i : Nat) : Int := xs.getD i 0
theorem map_at {xs : List Int} {i : Nat} (h : i < xs.length) : (xs.map D.int)[i]? = some (.int (nth xs i)) := by
  unfold nth
  rw [List.getElem?_map, List.getElem?_eq_getElem h, List.getD_eq_getElem?_getD, List.getElem?_eq_getElem h]
  rfl
theorem atI_ti {xs : List Int} {i : Nat} (h : i < xs.length) : atI (xs.map D.int) (i : Int) = some (.int (nth xs i)) := by
  rw [atI_nat, map_at h]
/-- xs at least ys, place by place -/
def geB (xs ys : List Int) : Bool := (List.range xs.length).all fun i => decide (nth ys i ≤ nth xs i)
theorem geB_iff {xs ys : List Int} : geB xs ys = true ↔ ∀ i, i < xs.length → nth ys i ≤ nth xs i := by
  unfold geB
  rw [List.all_eq_true]
  exact ⟨fun h i hi => of_decide_eq_true (h i (List.mem_range.mpr hi)), fun h i hi => decide_eq_true (h i (List.mem_range.mp hi))⟩
end Py

namespace LawP
open Py
/-- _law_shape(_law_draws_here); slots 0 _law_draws_here, 1 _law_pool, 2 _law_pro, 3 _law_con, 4 _law_tops, 5 _law_n, 6 _law_side, 7 _law_at, 8 _law_letter -/
def b_law_shape : Ss := (.cons (.asg false (.v 1) (.str [97, 98, 99, 100, 101, 102, 103, 104, 105, 106, 107, 108, 109, 110, 111, 112, 113, 114, 115, 116, 117, 118, 119, 120, 121, 122])) (.cons (.asg false (.v 2) (.str [])) (.cons (.asg false (.v 3) (.str [])) (.cons (.asgN 4 (.lst .nil)) (.cons (.forr (.v 5) (.range (.bin .add (.int 1) (.bin .mod (.bi .int (.cons (.idx (.v 0) (.int 0)) .nil)) (.int 5)))) (.cons (.asg false (.v 6) (.bin .mod (.bi .int (.cons (.idx (.v 0) (.bin .add (.int 1) (.bin .mul (.int 2) (.v 5)))) .nil)) (.int 4))) (.cons (.ifs (.ands true (.cons (.cmp .eq (.v 6) (.int 3)) (.cons (.cmp .gt (.bi .len (.cons (.v 4) .nil)) (.int 0)) (.cons (.cmp .lt (.idx (.v 4) (.neg (.int 1))) (.int 3)) .nil)))) (.cons (.setI true 4 (.neg (.int 1)) (.bin .add (.idx (.v 4) (.neg (.int 1))) (.int 1))) .nil) (.cons (.ifs (.cmp .eq (.v 6) (.int 2)) (.cons (.app false 4 (.int 1)) .nil) (.cons (.asg false (.v 7) (.bin .mod (.bi .int (.cons (.idx (.v 0) (.bin .add (.int 2) (.bin .mul (.int 2) (.v 5)))) .nil)) (.bi .len (.cons (.v 1) .nil)))) (.cons (.asg false (.v 8) (.idx (.v 1) (.v 7))) (.cons (.asg false (.v 1) (.bin .add (.slice (.v 1) .none (.some (.v 7))) (.slice (.v 1) (.some (.bin .add (.v 7) (.int 1))) .none))) (.cons (.ifs (.cmp .eq (.v 6) (.int 1)) (.cons (.asg false (.v 3) (.bin .add (.v 3) (.v 8))) .nil) (.cons (.asg false (.v 2) (.bin .add (.v 2) (.v 8))) .nil)) .nil))))) .nil)) .nil))) (.cons (.ret (.tup (.cons (.v 2) (.cons (.v 3) (.cons (.bi .tuple (.cons (.v 4) .nil)) .nil))))) .nil))))))
def f_law_shape : Sem := defD 9 1 b_law_shape
/-- _law_limits(_law_shape_here); slots 0 _law_shape_here -/
def b_law_limits : Ss := (.cons (.ret (.bin .add (.bin .mul (.lst (.cons (.int 1) .nil)) (.bin .add (.bi .len (.cons (.idx (.v 0) (.int 0)) .nil)) (.bi .len (.cons (.idx (.v 0) (.int 1)) .nil)))) (.bi .list (.cons (.idx (.v 0) (.int 2)) .nil)))) .nil)
def f_law_limits : Sem := defD 1 1 b_law_limits
/-- _law_cases(_law_limits_here); slots 0 _law_limits_here, 1 _law_cases_here, 2 _law_limit, 3 _law_longer, 4 _law_k, 5 _law_level -/
def b_law_cases : Ss := (.cons (.asg false (.v 1) (.lst (.cons (.tup .nil) .nil))) (.cons (.forr (.v 2) (.seq (.v 0)) (.cons (.asgN 3 (.lst .nil)) (.cons (.forr (.v 4) (.range (.bi .len (.cons (.v 1) .nil))) (.cons (.forr (.v 5) (.range (.bin .add (.v 2) (.int 1))) (.cons (.app false 3 (.bin .add (.idx (.v 1) (.v 4)) (.tup (.cons (.v 5) .nil)))) .nil)) .nil)) (.cons (.frz 3) (.cons (.asg false (.v 1) (.v 3)) .nil))))) (.cons (.ret (.v 1)) .nil)))
def f_law_cases : Sem := defD 6 1 b_law_cases
/-- _law_above(_law_x, _law_y); slots 0 _law_x, 1 _law_y, 2 _law_p -/
def b_law_above : Ss := (.cons (.forr (.v 2) (.range (.bi .len (.cons (.v 0) .nil))) (.cons (.ifs (.cmp .lt (.idx (.v 0) (.v 2)) (.idx (.v 1) (.v 2))) (.cons (.ret .ff) .nil) .nil) .nil)) (.cons (.ret .tt) .nil))
def f_law_above : Sem := defD 3 2 b_law_above
/-- _law_bounds(_law_rows, _law_top, _law_case_here); slots 0 _law_rows, 1 _law_top, 2 _law_case_here, 3 _law_least, 4 _law_most, 5 _law_row -/
def b_law_bounds : Ss := (.cons (.asg false (.v 3) (.int 0)) (.cons (.asg false (.v 4) (.v 1)) (.cons (.forr (.v 5) (.seq (.v 0)) (.cons (.ifs (.call "_law_above" f_law_above [] (.cons (.v 2) (.cons (.idx (.v 5) (.int 0)) .nil))) (.cons (.asg false (.v 3) (.bi .max (.cons (.v 3) (.cons (.idx (.v 5) (.int 1)) .nil)))) .nil) .nil) (.cons (.ifs (.call "_law_above" f_law_above [] (.cons (.idx (.v 5) (.int 0)) (.cons (.v 2) .nil))) (.cons (.asg false (.v 4) (.bi .min (.cons (.v 4) (.cons (.idx (.v 5) (.int 1)) .nil)))) .nil) .nil) .nil))) (.cons (.ret (.tup (.cons (.v 3) (.cons (.v 4) .nil)))) .nil))))
def f_law_bounds : Sem := defD 6 3 b_law_bounds
/-- _law_ruled(_law_draws_here, _law_at, _law_limits_here, _law_many, _law_kept); slots 0 _law_draws_here, 1 _law_at, 2 _law_limits_here, 3 _law_many, 4 _law_kept, 5 _law_rows, 6 _law_decided, 7 _law_n, 8 _law_case_here, 9 _law_rule, 10 _law_grade, 11 _law_levels, 12 _law_span, 13 _law_p -/
def b_law_ruled : Ss := (.cons (.asgN 5 (.lst .nil)) (.cons (.asgN 6 (.lst .nil)) (.cons (.forr (.v 7) (.range (.v 3)) (.cons (.asg false (.v 8) (.tup .nil)) (.cons (.asg false (.v 9) (.tup .nil)) (.cons (.asg false (.v 10) (.bin .mod (.bi .int (.cons (.idx (.v 0) (.bin .add (.bin .add (.v 1) (.bin .mul (.int 6) (.v 7))) (.int 5))) .nil)) (.int 2))) (.cons (.asg false (.v 11) (.lc [("_law_p", 13)] (.v 13) (.range (.bi .len (.cons (.v 2) .nil))) .none (.bi .int (.cons (.idx (.v 0) (.bin .add (.bin .add (.v 1) (.bin .mul (.int 6) (.v 7))) (.v 13))) .nil)))) (.cons (.asg false (.v 8) (.bi .tuple (.cons (.lc [("_law_p", 13)] (.v 13) (.range (.bi .len (.cons (.v 2) .nil))) .none (.bin .mod (.idx (.v 11) (.v 13)) (.bin .add (.idx (.v 2) (.v 13)) (.int 1)))) .nil))) (.cons (.ifs (.v 4) (.cons (.asg true (.v 12) (.call "_law_bounds" f_law_bounds [] (.cons (.v 6) (.cons (.int 1) (.cons (.v 8) .nil))))) (.cons (.asg false (.v 10) (.bin .add (.idx (.v 12) (.int 0)) (.bin .mod (.v 10) (.bin .add (.bin .sub (.idx (.v 12) (.int 1)) (.idx (.v 12) (.int 0))) (.int 1))))) .nil)) .nil) (.cons (.ifs (.cmp .eq (.v 10) (.int 1)) (.cons (.asg false (.v 9) (.bi .tuple (.cons (.lc [("_law_p", 13)] (.v 13) (.range (.bi .len (.cons (.v 2) .nil))) .none (.bin .sub (.idx (.v 8) (.v 13)) (.bin .mod (.bin .fdiv (.idx (.v 11) (.v 13)) (.int 12)) (.bin .add (.idx (.v 8) (.v 13)) (.int 1))))) .nil))) .nil) (.cons (.asg false (.v 9) (.bi .tuple (.cons (.lc [("_law_p", 13)] (.v 13) (.range (.bi .len (.cons (.v 2) .nil))) .none (.bin .add (.idx (.v 8) (.v 13)) (.bin .mod (.bin .fdiv (.idx (.v 11) (.v 13)) (.int 12)) (.bin .add (.bin .sub (.idx (.v 2) (.v 13)) (.idx (.v 8) (.v 13))) (.int 1))))) .nil))) .nil)) (.cons (.app false 5 (.tup (.cons (.v 8) (.cons (.v 9) (.cons (.v 10) .nil))))) (.cons (.app false 6 (.tup (.cons (.v 8) (.cons (.v 10) .nil)))) .nil)))))))))) (.cons (.retO 5) .nil))))
def f_law_ruled : Sem := defN 14 5 b_law_ruled
/-- _law_cell(_law_script, _law_k); slots 0 _law_script, 1 _law_k -/
def b_law_cell : Ss := (.cons (.ifs (.cmp .lt (.v 1) (.bi .len (.cons (.v 0) .nil))) (.cons (.ret (.bi .int (.cons (.idx (.v 0) (.v 1)) .nil))) .nil) .nil) (.cons (.ret (.int 0)) .nil))
def f_law_cell : Sem := defD 2 2 b_law_cell
/-- _law_draws(_law_script, _law_k, _law_many); slots 0 _law_script, 1 _law_k, 2 _law_many, 3 _law_cell_here, 4 _law_seed, 5 _law_draws_here, 6 _law_n, 7 _law_one, 8 _law_two -/
def b_law_draws : Ss := (.cons (.asg false (.v 3) (.bi .abs (.cons (.call "_law_cell" f_law_cell [] (.cons (.v 0) (.cons (.v 1) .nil))) .nil))) (.cons (.asg false (.v 4) (.bin .mod (.bi .int (.cons (.bin .add (.bin .add (.v 3) (.bin .mul (.int 7919) (.v 1))) (.int 1)) .nil)) (.int 2147483629))) (.cons (.asgN 5 (.lst .nil)) (.cons (.ifs (.cmp .ge (.v 3) (.bin .pow (.int 10) (.int 18))) (.cons (.forr (.v 6) (.range (.v 2)) (.cons (.ifs (.cmp .gt (.v 3) (.int 0)) (.cons (.app false 5 (.bin .mod (.bi .int (.cons (.v 3) .nil)) (.int 1000))) (.cons (.asg false (.v 3) (.bin .fdiv (.v 3) (.int 1000))) .nil)) .nil) .nil)) .nil) .nil) (.cons (.forr (.v 6) (.range2 (.bi .len (.cons (.v 5) .nil)) (.v 2)) (.cons (.asg false (.v 7) (.bin .mod (.bi .int (.cons (.bin .add (.bin .add (.bin .mul (.v 4) (.int 48271)) (.bin .mul (.v 6) (.int 69621))) (.int 17)) .nil)) (.int 2147483629))) (.cons (.asg false (.v 8) (.bin .mod (.bi .int (.cons (.bin .add (.bin .add (.bin .mul (.v 7) (.v 7)) (.v 4)) (.v 6)) .nil)) (.int 998244353))) (.cons (.app false 5 (.bin .mod (.bi .int (.cons (.bin .fdiv (.v 8) (.int 11)) .nil)) (.int 1000))) .nil)))) (.cons (.ret (.v 5)) .nil))))))
def f_law_draws : Sem := defD 9 3 b_law_draws
/-- _law_case(_law_draws_here, _law_at, _law_limits_here); slots 0 _law_draws_here, 1 _law_at, 2 _law_limits_here, 3 _law_p -/
def b_law_case : Ss := (.cons (.ret (.bi .tuple (.cons (.lc [("_law_p", 3)] (.v 3) (.range (.bi .len (.cons (.v 2) .nil))) .none (.bin .mod (.bi .int (.cons (.idx (.v 0) (.bin .add (.v 1) (.v 3))) .nil)) (.bin .add (.idx (.v 2) (.v 3)) (.int 1)))) .nil))) .nil)
def f_law_case : Sem := defD 4 3 b_law_case
/-- _law_speaks(_law_row, _law_case_here); slots 0 _law_row, 1 _law_case_here -/
def b_law_speaks : Ss := (.cons (.ifs (.cmp .eq (.idx (.v 0) (.int 2)) (.int 1)) (.cons (.ret (.call "_law_above" f_law_above [] (.cons (.v 1) (.cons (.idx (.v 0) (.int 1)) .nil)))) .nil) .nil) (.cons (.ret (.call "_law_above" f_law_above [] (.cons (.idx (.v 0) (.int 1)) (.cons (.v 1) .nil)))) .nil))
def f_law_speaks : Sem := defD 2 2 b_law_speaks
/-- _law_due(_law_row, _law_case_here); slots 0 _law_row, 1 _law_case_here, 2 _law_own, 3 _law_places, 4 _law_by, 5 _law_p, 6 _law_rule, 7 _law_level -/
def b_law_due : Ss := (.cons (.asg false (.v 2) (.idx (.v 0) (.int 0))) (.cons (.ifs (.not (.call "_law_speaks" f_law_speaks [] (.cons (.v 0) (.cons (.v 1) .nil)))) (.cons (.ret (.v 0)) .nil) .nil) (.cons (.ifs (.cmp .eq (.idx (.v 0) (.int 2)) (.int 1)) (.cons (.asg false (.v 3) (.lc [("_law_p", 5)] (.v 5) (.range (.bi .len (.cons (.v 2) .nil))) (.some (.cmp .gt (.idx (.v 2) (.v 5)) (.idx (.v 1) (.v 5)))) (.v 5))) (.cons (.asg false (.v 4) (.int 1)) .nil)) (.cons (.asg false (.v 3) (.lc [("_law_p", 5)] (.v 5) (.range (.bi .len (.cons (.v 2) .nil))) (.some (.cmp .lt (.idx (.v 2) (.v 5)) (.idx (.v 1) (.v 5)))) (.v 5))) (.cons (.asg false (.v 4) (.neg (.int 1))) .nil))) (.cons (.ifs (.cmp .eq (.bi .len (.cons (.v 3) .nil)) (.int 0)) (.cons (.ret (.tup .nil)) .nil) .nil) (.cons (.asgN 6 (.lc [("_law_level", 7)] (.v 7) (.seq (.idx (.v 0) (.int 1))) .none (.v 7))) (.cons (.setI false 6 (.idx (.v 3) (.int 0)) (.bin .add (.idx (.v 1) (.idx (.v 3) (.int 0))) (.v 4))) (.cons (.ret (.tup (.cons (.v 2) (.cons (.bi .tuple (.cons (.v 6) .nil)) (.cons (.idx (.v 0) (.int 2)) .nil))))) .nil)))))))
def f_law_due : Sem := defD 8 2 b_law_due
/-- at_least(x, y); slots 0 x, 1 y, 2 place -/
def b_at_least : Ss := (.cons (.forr (.v 2) (.range (.bi .len (.cons (.v 0) .nil))) (.cons (.ifs (.cmp .lt (.idx (.v 0) (.v 2)) (.idx (.v 1) (.v 2))) (.cons (.ret .ff) .nil) .nil) .nil)) (.cons (.ret .tt) .nil))
def f_at_least : Sem := defD 3 2 b_at_least
/-- speaks(row, case); slots 0 row, 1 case, 2 _, 3 rule, 4 grade -/
def b_speaks : Ss := (.cons (.asg false (.tup [(.v 2), (.v 3), (.v 4)]) (.v 0)) (.cons (.ifs (.cmp .eq (.v 4) (.int 1)) (.cons (.ret (.call "at_least" f_at_least [] (.cons (.v 1) (.cons (.v 3) .nil)))) .nil) .nil) (.cons (.ret (.call "at_least" f_at_least [] (.cons (.v 3) (.cons (.v 1) .nil)))) .nil)))
def f_speaks : Sem := defD 5 2 b_speaks
/-- narrowed(row, case); slots 0 row, 1 case, 2 own, 3 rule, 4 grade, 5 by, 6 place, 7 k -/
def b_narrowed : Ss := (.cons (.asg false (.tup [(.v 2), (.v 3), (.v 4)]) (.v 0)) (.cons (.ifs (.not (.call "speaks" f_speaks [] (.cons (.v 0) (.cons (.v 1) .nil)))) (.cons (.ret (.v 0)) .nil) .nil) (.cons (.ifs (.call "speaks" f_speaks [] (.cons (.tup (.cons (.v 2) (.cons (.v 2) (.cons (.v 4) .nil)))) (.cons (.v 1) .nil))) (.cons (.raise "NoRule" 1) .nil) .nil) (.cons (.asg false (.v 5) (.ife (.cmp .eq (.v 4) (.int 1)) (.int 1) (.neg (.int 1)))) (.cons (.asg false (.v 6) (.idx (.lc [("k", 7)] (.v 7) (.range (.bi .len (.cons (.v 2) .nil))) (.some (.cmp .gt (.bin .mul (.bin .sub (.idx (.v 2) (.v 7)) (.idx (.v 1) (.v 7))) (.v 5)) (.int 0))) (.v 7)) (.int 0))) (.cons (.ret (.tup (.cons (.v 2) (.cons (.bin .add (.bin .add (.slice (.v 3) .none (.some (.v 6))) (.tup (.cons (.bin .add (.idx (.v 1) (.v 6)) (.v 5)) .nil))) (.slice (.v 3) (.some (.bin .add (.v 6) (.int 1))) .none)) (.cons (.v 4) .nil))))) .nil))))))
def f_narrowed : Sem := defD 8 2 b_narrowed
/-- _law_same(_law_told, _law_due_here); slots 0 _law_told, 1 _law_due_here, 2 _law_k -/
def b_law_same (g : Sem) : Ss := (.cons (.ifs (.ands false (.cons (.isin (.v 0) .bool) (.cons (.isin (.v 1) .bool) .nil))) (.cons (.ret (.ands true (.cons (.isin (.v 0) .bool) (.cons (.isin (.v 1) .bool) (.cons (.cmp .eq (.v 0) (.v 1)) .nil))))) .nil) .nil) (.cons (.ifs (.isin (.v 1) .int) (.cons (.ret (.ands true (.cons (.isin (.v 0) .int) (.cons (.cmp .eq (.v 0) (.v 1)) .nil)))) .nil) .nil) (.cons (.ifs (.isin (.v 1) .str) (.cons (.ret (.ands true (.cons (.isin (.v 0) .str) (.cons (.cmp .eq (.v 0) (.v 1)) .nil)))) .nil) .nil) (.cons (.ifs (.cmp .is (.v 1) .non) (.cons (.ret (.cmp .is (.v 0) .non)) .nil) .nil) (.cons (.ifs (.isin (.v 1) .tuple) (.cons (.ifs (.ands false (.cons (.not (.isin (.v 0) .tuple)) (.cons (.cmp .ne (.bi .len (.cons (.v 0) .nil)) (.bi .len (.cons (.v 1) .nil))) .nil))) (.cons (.ret .ff) .nil) .nil) .nil) (.cons (.ifs (.ands false (.cons (.not (.isin (.v 0) .list)) (.cons (.cmp .ne (.bi .len (.cons (.v 0) .nil)) (.bi .len (.cons (.v 1) .nil))) .nil))) (.cons (.ret .ff) .nil) .nil) .nil)) (.cons (.forr (.v 2) (.range (.bi .len (.cons (.v 1) .nil))) (.cons (.ifs (.not (.call "_law_same" g [] (.cons (.idx (.v 0) (.v 2)) (.cons (.idx (.v 1) (.v 2)) .nil)))) (.cons (.ret .ff) .nil) .nil) .nil)) (.cons (.ret .tt) .nil)))))))
def f_law_same : Sem := itD 3 2 b_law_same 8
/-- _law_narrowed(_law_row, _law_case_here); slots 0 _law_row, 1 _law_case_here, 2 e -/
def b_law_narrowed : Ss := (.cons (.tri (.cons (.ret (.call "narrowed" f_narrowed [] (.cons (.v 0) (.cons (.v 1) .nil)))) .nil) "CourtError" [0, 1] [0, 1] (some 2) (.cons (.ifs (.isin (.v 2) (.exc "NoRule" [1] [0, 1])) (.cons (.ret (.tup .nil)) .nil) .nil) .nil)) (.cons (.ret (.tup (.cons .ff .nil))) .nil))
def f_law_narrowed : Sem := defD 3 2 b_law_narrowed
/-- _law_is_whole(_law_told); slots 0 _law_told -/
def b_law_is_whole : Ss := (.cons (.ret (.ands true (.cons (.isin (.v 0) .int) (.cons (.not (.isin (.v 0) .bool)) .nil)))) .nil)
def f_law_is_whole : Sem := defD 1 1 b_law_is_whole
/-- _law_is_case(_law_told, _law_limits_here); slots 0 _law_told, 1 _law_limits_here, 2 _law_p -/
def b_law_is_case : Ss := (.cons (.ifs (.ands false (.cons (.not (.isin (.v 0) .tuple)) (.cons (.cmp .ne (.bi .len (.cons (.v 0) .nil)) (.bi .len (.cons (.v 1) .nil))) .nil))) (.cons (.ret .ff) .nil) .nil) (.cons (.forr (.v 2) (.range (.bi .len (.cons (.v 1) .nil))) (.cons (.ifs (.ands false (.cons (.not (.call "_law_is_whole" f_law_is_whole [] (.cons (.idx (.v 0) (.v 2)) .nil))) (.cons (.not (.chain .le .le (.int 0) (.idx (.v 0) (.v 2)) (.idx (.v 1) (.v 2)))) .nil))) (.cons (.ret .ff) .nil) .nil) .nil)) (.cons (.ret .tt) .nil)))
def f_law_is_case : Sem := defD 3 2 b_law_is_case
/-- _law_held(_law_row, _law_case_here, _law_told, _law_limits_here); slots 0 _law_row, 1 _law_case_here, 2 _law_told, 3 _law_limits_here, 4 _law_p -/
def b_law_held : Ss := (.cons (.ifs (.ands false (.cons (.not (.call "_law_is_case" f_law_is_case [] (.cons (.idx (.v 2) (.int 1)) (.cons (.v 3) .nil)))) (.cons (.call "_law_speaks" f_law_speaks [] (.cons (.v 2) (.cons (.v 1) .nil))) (.cons (.not (.call "_law_speaks" f_law_speaks [] (.cons (.v 2) (.cons (.idx (.v 0) (.int 0)) .nil)))) .nil)))) (.cons (.ret .ff) .nil) .nil) (.cons (.ifs (.ands false (.cons (.ands true (.cons (.cmp .eq (.idx (.v 0) (.int 2)) (.int 1)) (.cons (.not (.call "_law_above" f_law_above [] (.cons (.idx (.v 2) (.int 1)) (.cons (.idx (.v 0) (.int 1)) .nil)))) .nil))) (.cons (.ands true (.cons (.cmp .eq (.idx (.v 0) (.int 2)) (.int 0)) (.cons (.not (.call "_law_above" f_law_above [] (.cons (.idx (.v 0) (.int 1)) (.cons (.idx (.v 2) (.int 1)) .nil)))) .nil))) .nil))) (.cons (.ret .ff) .nil) .nil) (.cons (.ret (.cmp .eq (.bi .len (.cons (.lc [("_law_p", 4)] (.v 4) (.range (.bi .len (.cons (.v 1) .nil))) (.some (.cmp .ne (.idx (.idx (.v 2) (.int 1)) (.v 4)) (.idx (.idx (.v 0) (.int 1)) (.v 4)))) (.v 4)) .nil)) (.bi .int (.cons (.call "_law_speaks" f_law_speaks [] (.cons (.v 0) (.cons (.v 1) .nil))) .nil)))) .nil)))
def f_law_held : Sem := defD 5 4 b_law_held
/-- _law_against(_law_row, _law_case_here, _law_limits_here); slots 0 _law_row, 1 _law_case_here, 2 _law_limits_here, 3 _law_due_here, 4 _law_told -/
def b_law_against : Ss := (.cons (.asg false (.v 3) (.call "_law_due" f_law_due [] (.cons (.v 0) (.cons (.v 1) .nil)))) (.cons (.ifs (.not (.call "_law_same" f_law_same [] (.cons (.call "_law_narrowed" f_law_narrowed [] (.cons (.v 0) (.cons (.v 1) .nil))) (.cons (.v 3) .nil)))) (.cons (.ret .ff) .nil) .nil) (.cons (.ifs (.cmp .eq (.bi .len (.cons (.v 3) .nil)) (.int 0)) (.cons (.ret (.call "_law_same" f_law_same [] (.cons (.call "_law_narrowed" f_law_narrowed [] (.cons (.v 0) (.cons (.v 1) .nil))) (.cons (.tup .nil) .nil)))) .nil) .nil) (.cons (.asg false (.v 4) (.call "narrowed" f_narrowed [] (.cons (.v 0) (.cons (.v 1) .nil)))) (.cons (.ifs (.ands false (.cons (.not (.call "_law_same" f_law_same [] (.cons (.v 4) (.cons (.v 3) .nil)))) (.cons (.not (.call "_law_held" f_law_held [] (.cons (.v 0) (.cons (.v 1) (.cons (.v 4) (.cons (.v 2) .nil)))))) .nil))) (.cons (.ret .ff) .nil) .nil) (.cons (.ret (.call "_law_same" f_law_same [] (.cons (.call "narrowed" f_narrowed [] (.cons (.v 4) (.cons (.v 1) .nil))) (.cons (.v 3) .nil)))) .nil))))))
def f_law_against : Sem := defD 5 3 b_law_against
/-- _law_chain(_law_row, _law_against_here, _law_limits_here); slots 0 _law_row, 1 _law_against_here, 2 _law_limits_here, 3 _law_here, 4 _law_case_here, 5 _law_due_here, 6 _law_told -/
def b_law_chain : Ss := (.cons (.asg false (.v 3) (.v 0)) (.cons (.forr (.v 4) (.seq (.v 1)) (.cons (.asg false (.v 5) (.call "_law_due" f_law_due [] (.cons (.v 3) (.cons (.v 4) .nil)))) (.cons (.asg false (.v 6) (.call "_law_narrowed" f_law_narrowed [] (.cons (.v 3) (.cons (.v 4) .nil)))) (.cons (.ifs (.not (.call "_law_same" f_law_same [] (.cons (.v 6) (.cons (.v 5) .nil)))) (.cons (.ret .ff) .nil) .nil) (.cons (.ifs (.cmp .gt (.bi .len (.cons (.v 5) .nil)) (.int 0)) (.cons (.ifs (.not (.call "_law_held" f_law_held [] (.cons (.v 3) (.cons (.v 4) (.cons (.v 6) (.cons (.v 2) .nil)))))) (.cons (.ret .ff) .nil) .nil) (.cons (.asg false (.v 3) (.v 6)) .nil)) .nil) .nil))))) (.cons (.forr (.v 4) (.seq (.v 1)) (.cons (.ifs (.cmp .ne (.call "_law_speaks" f_law_speaks [] (.cons (.v 3) (.cons (.v 4) .nil))) (.cmp .eq (.bi .len (.cons (.call "_law_due" f_law_due [] (.cons (.tup (.cons (.idx (.v 0) (.int 0)) (.cons (.idx (.v 0) (.int 0)) (.cons (.idx (.v 0) (.int 2)) .nil)))) (.cons (.v 4) .nil))) .nil)) (.int 0))) (.cons (.ret .ff) .nil) .nil) .nil)) (.cons (.ret .tt) .nil))))
def f_law_chain : Sem := defD 7 3 b_law_chain
/-- law(_law_script); slots 0 _law_script, 1 _law_shape_here, 2 _law_limits_here, 3 _law_cases_here, 4 _law_rows, 5 _law_limit, 6 _law_row, 7 _law_case_here, 8 _law_draws_here, 9 _law_against_here, 10 _law_n -/
def b_law : Ss := (.cons (.asg false (.v 1) (.call "_law_shape" f_law_shape [] (.cons (.call "_law_draws" f_law_draws [] (.cons (.v 0) (.cons (.int 0) (.cons (.int 11) .nil)))) .nil))) (.cons (.asg false (.v 2) (.call "_law_limits" f_law_limits [] (.cons (.v 1) .nil))) (.cons (.asg false (.v 3) (.call "_law_cases" f_law_cases [] (.cons (.v 2) .nil))) (.cons (.asgN 4 (.call "_law_ruled" f_law_ruled [] (.cons (.call "_law_draws" f_law_draws [] (.cons (.v 0) (.cons (.int 1) (.cons (.int 24) .nil)))) (.cons (.int 0) (.cons (.v 2) (.cons (.int 4) (.cons .ff .nil))))))) (.cons (.app true 4 (.tup (.cons (.idx (.idx (.v 4) (.int 0)) (.int 0)) (.cons (.bi .tuple (.cons (.lc [("_law_limit", 5)] (.v 5) (.seq (.v 2)) .none (.int 0)) .nil)) (.cons (.int 1) .nil))))) (.cons (.app true 4 (.tup (.cons (.idx (.idx (.v 4) (.int 1)) (.int 0)) (.cons (.bi .tuple (.cons (.v 2) .nil)) (.cons (.int 0) .nil))))) (.cons (.frz 4) (.cons (.forr (.v 6) (.seq (.v 4)) (.cons (.forr (.v 7) (.seq (.v 3)) (.cons (.ifs (.not (.call "_law_against" f_law_against [] (.cons (.v 6) (.cons (.v 7) (.cons (.v 2) .nil))))) (.cons (.ret .ff) .nil) .nil) .nil)) (.cons (.ifs (.not (.call "_law_against" f_law_against [] (.cons (.tup (.cons (.idx (.v 6) (.int 0)) (.cons (.idx (.v 6) (.int 0)) (.cons (.idx (.v 6) (.int 2)) .nil)))) (.cons (.idx (.v 6) (.int 0)) (.cons (.v 2) .nil))))) (.cons (.ret .ff) .nil) .nil) .nil))) (.cons (.asg false (.v 8) (.call "_law_draws" f_law_draws [] (.cons (.v 0) (.cons (.int 2) (.cons (.int 60) .nil))))) (.cons (.asg false (.v 9) (.lc [("_law_n", 10)] (.v 10) (.range (.int 12)) .none (.call "_law_case" f_law_case [] (.cons (.v 8) (.cons (.bin .mul (.int 5) (.v 10)) (.cons (.v 2) .nil)))))) (.cons (.forr (.v 6) (.seq (.v 4)) (.cons (.ifs (.ands false (.cons (.not (.call "_law_chain" f_law_chain [] (.cons (.v 6) (.cons (.v 9) (.cons (.v 2) .nil))))) (.cons (.not (.call "_law_chain" f_law_chain [] (.cons (.v 6) (.cons (.rev (.v 9)) (.cons (.v 2) .nil))))) .nil))) (.cons (.ret .ff) .nil) .nil) .nil)) (.cons (.ret .tt) .nil))))))))))))
def f_law : Sem := defD 11 1 b_law
end LawP

namespace LawP
open Py
theorem above_ok (xs ys : List Int) (hl : xs.length = ys.length) (hs : xs.length ≤ 1000) : f_law_above [ti xs, ti ys] = .ok (.bool (geB xs ys)) := by
  have hc := okcap hs
  unfold f_law_above ti
  simp only [defD, b_law_above]
  simp [hc, rangeD_nat, List.replicate]
  refine (fin_search (d := .bool false) (v := .ok (.bool true)) (P := fun x => match x with | .int i => decide (nth ys i.toNat ≤ nth xs i.toNat) | _ => true) (I := fun st => ∃ s, st = [Sl.v (ti xs), Sl.v (ti ys), s]) (fun x hx st ⟨s, e⟩ => ?_) ⟨_, rfl⟩ (fun st' _ => rfl)).trans ?_
  · obtain ⟨i, hi, rfl⟩ := List.mem_map.mp hx
    have hi := List.mem_range.mp hi
    subst e
    simp [ti, atI_ti hi, atI_ti (hl ▸ hi), List.set]
    by_cases h : nth xs i < nth ys i
    · left
      simp [h]
    · right
      simp [h]
      omega
  · rw [List.all_map]
    show (if geB xs ys then _ else _) = _
    cases geB xs ys <;> rfl
end LawP
namespace LawP
open Py
theorem at_least_ok (xs ys : List Int) (hl : xs.length = ys.length) (hs : xs.length ≤ 1000) : f_at_least [ti xs, ti ys] = .ok (.bool (geB xs ys)) := above_ok xs ys hl hs
def rw3 (own rule : List Int) (g : Int) : D := .tup [ti own, ti rule, .int g]
/-- does the row speak -/
def spk (g : Int) (rule c : List Int) : Bool := if g = 1 then geB c rule else geB rule c
theorem lspeaks_ok (own rule c : List Int) (g : Int) (hl : rule.length = c.length) (hs : c.length ≤ 1000) : f_law_speaks [rw3 own rule g, ti c] = .ok (.bool (spk g rule c)) := by
  unfold f_law_speaks rw3
  simp only [defD, b_law_speaks]
  have h1 := above_ok c rule hl.symm hs
  have h2 := above_ok rule c hl (hl ▸ hs)
  by_cases h : g = 1 <;> simp [List.replicate, atI_0, atI_1, atI_2, h, h1, h2, spk]
theorem speaks_ok (own rule c : List Int) (g : Int) (hl : rule.length = c.length) (hs : c.length ≤ 1000) : f_speaks [rw3 own rule g, ti c] = .ok (.bool (spk g rule c)) := by
  unfold f_speaks rw3
  simp only [defD, b_speaks]
  have h1 := at_least_ok c rule hl.symm hs
  have h2 := at_least_ok rule c hl (hl ▸ hs)
  by_cases h : g = 1 <;> simp [List.replicate, atI_0, atI_1, atI_2, h, h1, h2, spk, bindP_tup]
@[simp] theorem rw3_0 {o r : List Int} {g : Int} : idxD (rw3 o r g) (.int 0) = .ok (ti o) := rfl
@[simp] theorem rw3_1 {o r : List Int} {g : Int} : idxD (rw3 o r g) (.int 1) = .ok (ti r) := rfl
@[simp] theorem rw3_2 {o r : List Int} {g : Int} : idxD (rw3 o r g) (.int 2) = .ok (.int g) := rfl
@[simp] theorem len_rw3 {o r : List Int} {g : Int} : biD .len [rw3 o r g] = .ok (.int 3) := rfl
@[simp] theorem len_ti {xs : List Int} : biD .len [ti xs] = .ok (.int xs.length) := by
  show R.ok (D.int ((xs.map D.int).length : Nat)) = _
  rw [List.length_map]
@[simp] theorem len_li {xs : List Int} : biD .len [li xs] = .ok (.int xs.length) := by
  show R.ok (D.int ((xs.map D.int).length : Nat)) = _
  rw [List.length_map]
@[simp] theorem tuple_li {xs : List Int} : biD .tuple [li xs] = .ok (ti xs) := rfl
@[simp] theorem seq_ti {xs : List Int} : seqD (ti xs) = .ok (xs.map D.int) := rfl
@[simp] theorem seq_li {xs : List Int} : seqD (li xs) = .ok (xs.map D.int) := rfl
theorem idx_ti {xs : List Int} {i : Nat} (h : i < xs.length) : idxD (ti xs) (.int (i : Int)) = .ok (.int (nth xs i)) := by
  show ofO (atI _ _) = _
  rw [atI_ti h]
  rfl
theorem idx_li {xs : List Int} {i : Nat} (h : i < xs.length) : idxD (li xs) (.int (i : Int)) = .ok (.int (nth xs i)) := by
  show ofO (atI _ _) = _
  rw [atI_ti h]
  rfl
/-- the places where the row's own case is on the far side of c -/
def plc (g : Int) (own c : List Int) : List Nat := (List.range own.length).filter fun i => if g = 1 then decide (nth c i < nth own i) else decide (nth own i < nth c i)
def by1 (g : Int) : Int := if g = 1 then 1 else -1
/-- the row narrowed at c, as the law has it -/
def dueD (own rule : List Int) (g : Int) (c : List Int) : D := if spk g rule c then (match plc g own c with
  | [] => .tup []
  | p :: _ => rw3 own (rule.set p (nth c p + by1 g)) g) else rw3 own rule g
theorem comp_filter {P : Nat → Bool} {f : D → R (Option D)} {n : Nat} (h : ∀ i, i < n → f (.int (i : Int)) = .ok (if P i then some (.int (i : Int)) else none)) :
    compD ((List.range n).map fun (i : Nat) => D.int (i : Int)) f = .ok (((List.range n).filter P).map fun (i : Nat) => D.int (i : Int)) := by
  have hl : ∀ l : List Nat, (∀ i ∈ l, i < n) → compD (l.map fun (i : Nat) => D.int (i : Int)) f = .ok ((l.filter P).map fun (i : Nat) => D.int (i : Int)) := by
    intro l
    induction l with
    | nil => exact fun _ => rfl
    | cons a l ih =>
      intro hl
      have e := h a (hl a (List.mem_cons_self ..))
      have ih := ih fun i hi => hl i (List.mem_cons_of_mem _ hi)
      show (match f (.int (a : Int)) with
        | .ok o => (compD (l.map fun (i : Nat) => D.int (i : Int)) f).bind fun r => .ok (match o with
          | some d => d :: r
          | none => r)
        | _ => .no) = _
      rw [e, ih]
      cases hp : P a with
      | true =>
        rw [List.filter_cons_of_pos hp]
        rfl
      | false =>
        rw [List.filter_cons_of_neg (by rw [hp]; exact Bool.false_ne_true)]
        rfl
  exact hl _ fun i hi => List.mem_range.mp hi
theorem plc_lt {g : Int} {own c : List Int} {p : Nat} {ps : List Nat} (h : plc g own c = p :: ps) : p < own.length := by
  have : p ∈ plc g own c := by
    rw [h]
    exact List.mem_cons_self ..
  exact List.mem_range.mp (List.mem_filter.mp this).1
theorem comp_id {l : List D} : compD l (fun x => R.ok (some x)) = .ok l := by
  rw [comp_ok (g := some) fun _ _ => rfl]
  rw [List.filterMap_some]
theorem ixN_nat {n p : Nat} (h : p < n) : ixN n (p : Int) = some p := by
  unfold ixN
  rw [if_pos (by omega), if_pos (by omega)]
  rfl
theorem atS_nat {n p : Nat} (h : p < n) {k : Nat → Cf} : atS n (.int (p : Int)) k = k p := by
  unfold atS
  simp only [ixN_nat h]
theorem due_ok (own rule c : List Int) (g : Int) (hg : g = 1 ∨ g = 0) (ho : own.length = c.length) (hl : rule.length = c.length) (hs : c.length ≤ 1000) : f_law_due [rw3 own rule g, ti c] = .ok (dueD own rule g c) := by
  unfold f_law_due
  simp only [defD, b_law_due]
  have h1 := lspeaks_ok own rule c g hl hs
  have hc := okcap (n := own.length) (ho ▸ hs)
  cases hk : spk g rule c with
  | false =>
    rw [hk] at h1
    simp [List.replicate, h1, dueD, hk]
  | true =>
    rw [hk] at h1
    have key : ∀ (f : D → R (Option D)), (∀ i, i < own.length → f (.int (i : Int)) = .ok (if (if g = 1 then decide (nth c i < nth own i) else decide (nth own i < nth c i)) = true then some (.int (i : Int)) else none)) →
        compD ((List.range own.length).map fun (i : Nat) => D.int (i : Int)) f = .ok ((plc g own c).map fun (i : Nat) => D.int (i : Int)) := fun f h => comp_filter h
    have fin1 : ∀ (p : Nat) (ps : List Nat), plc g own c = p :: ps → p < c.length ∧ p < rule.length ∧ ¬ ((ps.length : Int) + 1 = 0) := fun p ps hp => by
      have p1 := plc_lt hp
      exact ⟨by omega, by omega, by omega⟩
    rcases hg with rfl | rfl
    · simp [List.replicate, h1, hc, rangeD_nat]
      rw [key _ fun i hi => by
        have hi2 : i < c.length := ho ▸ hi
        by_cases hd : nth c i < nth own i <;> simp [idx_ti hi, idx_ti hi2, hd]]
      cases hp : plc 1 own c with
      | nil => simp [dueD, hk, hp]
      | cons p ps =>
        obtain ⟨p2, p3, p4⟩ := fin1 p ps hp
        simp [dueD, hk, hp, comp_id, newS, ownL, atI_0, idx_ti p2, atS_nat p3, by1, p4]
        simp [rw3, ti, List.map_set]
    · simp [List.replicate, h1, hc, rangeD_nat]
      rw [key _ fun i hi => by
        have hi2 : i < c.length := ho ▸ hi
        by_cases hd : nth own i < nth c i <;> simp [idx_ti hi, idx_ti hi2, hd]]
      cases hp : plc 0 own c with
      | nil => simp [dueD, hk, hp]
      | cons p ps =>
        obtain ⟨p2, p3, p4⟩ := fin1 p ps hp
        simp [dueD, hk, hp, comp_id, newS, ownL, atI_0, idx_ti p2, atS_nat p3, by1, p4]
        simp [rw3, ti, List.map_set]
/-! the program's own -/
theorem bindGs3 {st : St} {o r : List Int} {g : Int} {a b c : Nat} : bindP (.tup [.v a, .v b, .v c]) (rw3 o r g) st = .ok (((st.set a (.v (ti o))).set b (.v (ti r))).set c (.v (.int g))) := rfl
/-- no place is on the far side: the row's own case decides c -/
theorem plc_nil {g : Int} {own c : List Int} (hg : g = 1 ∨ g = 0) (ho : own.length = c.length) : plc g own c = [] ↔ spk g own c = true := by
  unfold plc spk
  rcases hg with rfl | rfl
  · simp only [if_true, List.filter_eq_nil_iff, List.mem_range, geB_iff]
    constructor
    · intro h i hi
      have := h i (by omega)
      simp only [decide_eq_true_eq] at this
      omega
    · intro h i hi
      have := h i (by omega)
      simp only [decide_eq_true_eq]
      omega
  · rw [if_neg (by decide)]
    simp only [List.filter_eq_nil_iff, List.mem_range, geB_iff]
    constructor
    · intro h i hi
      have := h i (by omega)
      simp only [if_neg (show ¬ ((0 : Int) = 1) by decide), decide_eq_true_eq] at this
      omega
    · intro h i hi
      have := h i (by omega)
      simp only [if_neg (show ¬ ((0 : Int) = 1) by decide), decide_eq_true_eq]
      omega
theorem set_cut {xs : List D} {p : Nat} {x : D} (h : p < xs.length) : cutL xs none (some (p : Int)) ++ [x] ++ cutL xs (some ((p : Int) + 1)) none = xs.set p x := by
  have e2 : cutL xs (some ((p : Int) + 1)) none = xs.drop (p + 1) := cut_from (p := p + 1) h
  rw [cut_to (Nat.le_of_lt h), e2, List.set_eq_take_append_cons_drop, if_pos h]
  simp
theorem mulOk_1 {x : Int} : mulOk x 1 = true := by
  unfold mulOk
  simp
theorem mulOk_m {x : Int} : mulOk x (-1) = true := by
  unfold mulOk
  simp
theorem cut_set {rule : List Int} {p : Nat} {x : Int} (h : p < rule.length) (hs : rule.length ≤ 1000) :
    (((sliceD none (some (p : Int)) (ti rule)).bind fun a => binD .add a (.tup [.int x])).bind fun a => (sliceD (some ((p : Int) + 1)) none (ti rule)).bind fun b => binD .add a b) = .ok (ti (rule.set p x)) := by
  have h' : p < (rule.map D.int).length := by
    rw [List.length_map]
    exact h
  have e := set_cut (x := D.int x) h'
  have e1 := cut_to (xs := rule.map D.int) (p := p) (Nat.le_of_lt h')
  have e2 : cutL (rule.map D.int) (some ((p : Int) + 1)) none = (rule.map D.int).drop (p + 1) := cut_from (p := p + 1) h'
  have hm : (rule.map D.int).length = rule.length := List.length_map ..
  unfold ti
  rw [slice_tup, slice_tup, bind_ok, bin_add_tup, if_pos, bind_ok, bind_ok, bin_add_tup, if_pos, e, List.map_set]
  · rw [List.length_append, e1, e2, List.length_take, List.length_drop, hm]
    show _ ≤ 100000
    simp only [List.length_cons, List.length_nil]
    omega
  · rw [e1, List.length_take, hm]
    show _ ≤ 100000
    simp only [List.length_cons, List.length_nil]
    omega
theorem narrowed_ok (own rule c : List Int) (g : Int) (hg : g = 1 ∨ g = 0) (ho : own.length = c.length) (hl : rule.length = c.length) (hs : c.length ≤ 1000) :
    f_narrowed [rw3 own rule g, ti c] = if spk g rule c && (plc g own c).isEmpty then .ex 1 [] else .ok (dueD own rule g c) := by
  unfold f_narrowed
  simp only [defD, b_narrowed]
  have h1 := speaks_ok own rule c g hl hs
  have h2 := speaks_ok own own c g ho hs
  have hc := okcap (n := own.length) (ho ▸ hs)
  have e3 : D.tup [ti own, ti own, D.int g] = rw3 own own g := rfl
  cases hk : spk g rule c with
  | false =>
    rw [hk] at h1
    simp [List.replicate, h1, dueD, hk, bindGs3]
  | true =>
    rw [hk] at h1
    have hn := plc_nil hg ho
    cases hp : plc g own c with
    | nil =>
      rw [hn.mp hp] at h2
      simp [List.replicate, h1, h2, bindGs3, e3]
    | cons p ps =>
      have hf : spk g own c = false := by
        cases hz : spk g own c with
        | false => rfl
        | true =>
          rw [hn.mpr hz] at hp
          cases hp
      rw [hf] at h2
      have p1 := plc_lt hp
      have key : ∀ (f : D → R (Option D)), (∀ i, i < own.length → f (.int (i : Int)) = .ok (if (if g = 1 then decide (nth c i < nth own i) else decide (nth own i < nth c i)) = true then some (.int (i : Int)) else none)) →
          compD ((List.range own.length).map fun (i : Nat) => D.int (i : Int)) f = .ok ((plc g own c).map fun (i : Nat) => D.int (i : Int)) := fun f h => comp_filter h
      have p2 : p < c.length := by omega
      have sc := fun x => cut_set (rule := rule) (p := p) (x := x) (by omega) (by omega)
      rcases hg with rfl | rfl
      · simp [List.replicate, h1, h2, bindGs3, e3, hc, rangeD_nat]
        rw [key _ fun i hi => by
          have hi2 : i < c.length := ho ▸ hi
          by_cases hd : nth c i < nth own i
          · have : 0 < nth own i - nth c i := by omega
            simp [idx_ti hi, idx_ti hi2, hd, mulOk_1, this]
          · have : ¬ (0 < nth own i - nth c i) := by omega
            simp [idx_ti hi, idx_ti hi2, hd, mulOk_1, this]]
        simp [hp, atI_0, dueD, hk, idx_ti p2, by1]
        rw [sc]
        rfl
      · simp [List.replicate, h1, h2, bindGs3, e3, hc, rangeD_nat]
        rw [key _ fun i hi => by
          have hi2 : i < c.length := ho ▸ hi
          by_cases hd : nth own i < nth c i
          · have : nth own i - nth c i < 0 := by omega
            simp [idx_ti hi, idx_ti hi2, hd, mulOk_m, this]
          · have : ¬ (nth own i - nth c i < 0) := by omega
            simp [idx_ti hi, idx_ti hi2, hd, mulOk_m, this]]
        simp [hp, atI_0, dueD, hk, idx_ti p2, by1]
        rw [sc]
        rfl
/-- the law's look at it -/
theorem lnarrowed_ok (own rule c : List Int) (g : Int) (hg : g = 1 ∨ g = 0) (ho : own.length = c.length) (hl : rule.length = c.length) (hs : c.length ≤ 1000) :
    f_law_narrowed [rw3 own rule g, ti c] = .ok (dueD own rule g c) := by
  have h := narrowed_ok own rule c g hg ho hl hs
  unfold f_law_narrowed
  simp only [defD, b_law_narrowed]
  cases hk : spk g rule c && (plc g own c).isEmpty with
  | true =>
    obtain ⟨k1, k2⟩ := Bool.and_eq_true_iff.mp hk
    rw [hk] at h
    have e : plc g own c = [] := List.isEmpty_iff.mp k2
    simp [List.replicate, h, tyD, catchS, catchD, dropS, dueD, k1, e, D.noexc, D.noexcs]
  | false =>
    rw [hk] at h
    simp [List.replicate, h]
end LawP

namespace LawP
open Py
abbrev sam (m : Nat) : Sem := itD 3 2 b_law_same m
theorem same_int {m : Nat} {i : Int} : sam (m + 1) [.int i, .int i] = .ok (.bool true) := by
  show defD 3 2 (b_law_same (sam m)) _ = _
  simp only [defD, b_law_same]
  simp [List.replicate, tyD]
theorem fin_go {f : D → St → Cf} {I : St → Prop} {xs : List D} {st : St} {k : St → Cf} {v : R D} (h : ∀ x ∈ xs, ∀ st, I st → ∃ st', f x st = .nx st' ∧ I st') (hI : I st) (hk : ∀ st', I st' → fin (k st') = v) : fin (thenC (forD xs f st) k) = v := by
  have e := fin_search (f := f) (d := .non) (P := fun _ => true) (I := I) (xs := xs) (st := st) (k := k) (v := v) (fun x hx st hI => by
    obtain ⟨st', h1, h2⟩ := h x hx st hI
    exact .inr ⟨st', h1, h2, rfl⟩) hI hk
  rw [e, if_pos]
  exact List.all_eq_true.mpr fun _ _ => rfl
theorem same_tup {m : Nat} {xs : List D} (hs : xs.length ≤ 1000) (h : ∀ x ∈ xs, sam m [x, x] = .ok (.bool true)) : sam (m + 1) [.tup xs, .tup xs] = .ok (.bool true) := by
  have hc := okcap hs
  show defD 3 2 (b_law_same (sam m)) _ = _
  simp only [defD, b_law_same]
  simp [List.replicate, tyD, hc, rangeD_nat]
  refine fin_go (I := fun st => ∃ s, st = [Sl.v (.tup xs), Sl.v (.tup xs), s]) (fun x hx st ⟨s, e⟩ => ?_) ⟨_, rfl⟩ (fun st' _ => rfl)
  obtain ⟨i, hi, rfl⟩ := List.mem_map.mp hx
  have hi := List.mem_range.mp hi
  have e1 : atI xs (i : Int) = some xs[i] := by
    rw [atI_nat, List.getElem?_eq_getElem hi]
  have hx := h xs[i] (List.getElem_mem hi)
  subst e
  simp [e1, hx]
theorem same_ti {m : Nat} {xs : List Int} (hs : xs.length ≤ 1000) : sam (m + 2) [ti xs, ti xs] = .ok (.bool true) := by
  refine same_tup (by rw [List.length_map]; exact hs) fun x hx => ?_
  obtain ⟨i, _, rfl⟩ := List.mem_map.mp hx
  exact same_int
theorem same_rw {m : Nat} {o r : List Int} {g : Int} (ho : o.length ≤ 1000) (hr : r.length ≤ 1000) : sam (m + 3) [rw3 o r g, rw3 o r g] = .ok (.bool true) := by
  refine same_tup (show 3 ≤ 1000 by decide) fun x hx => ?_
  simp only [List.mem_cons, List.not_mem_nil, or_false] at hx
  rcases hx with rfl | rfl | rfl
  · exact same_ti ho
  · exact same_ti hr
  · exact same_int
theorem same_nil {m : Nat} : sam (m + 1) [.tup [], .tup []] = .ok (.bool true) := same_tup (by decide) fun x hx => by cases hx
theorem same_due (own rule c : List Int) (g : Int) (ho : own.length = c.length) (hl : rule.length = c.length) (hs : c.length ≤ 1000) : f_law_same [dueD own rule g c, dueD own rule g c] = .ok (.bool true) := by
  unfold dueD
  split
  · split
    · exact same_nil
    · exact same_rw (by omega) (by rw [List.length_set]; omega)
  · exact same_rw (by omega) (by omega)
/-! a case of the limits -/
def Case (L c : List Int) : Prop := c.length = L.length ∧ ∀ i, i < L.length → 0 ≤ nth c i ∧ nth c i ≤ nth L i
theorem whole_ok {i : Int} : f_law_is_whole [.int i] = .ok (.bool true) := by
  unfold f_law_is_whole
  simp only [defD, b_law_is_whole]
  simp [List.replicate, tyD]
theorem is_case_ok {L c : List Int} (hs : L.length ≤ 1000) (h : Case L c) : f_law_is_case [ti c, li L] = .ok (.bool true) := by
  have hc := okcap hs
  obtain ⟨hl, hi⟩ := h
  unfold f_law_is_case
  simp only [defD, b_law_is_case]
  have e : tyD .tuple (ti c) = .ok true := rfl
  simp [List.replicate, e, hl, hc, rangeD_nat]
  refine fin_go (I := fun st => ∃ s, st = [Sl.v (ti c), Sl.v (li L), s]) (fun x hx st ⟨s, e⟩ => ?_) ⟨_, rfl⟩ (fun st' _ => rfl)
  obtain ⟨i, hi2, rfl⟩ := List.mem_map.mp hx
  have hi2 := List.mem_range.mp hi2
  obtain ⟨h1, h2⟩ := hi i hi2
  subst e
  simp [idx_ti (hl ▸ hi2), idx_li hi2, whole_ok, h1, h2]
/-! what holds of a row, narrowed -/
structure Row (L own rule : List Int) (g : Int) : Prop where
  hg : g = 1 ∨ g = 0
  o : Case L own
  r : Case L rule
  s : spk g rule own = true
theorem nth_set {xs : List Int} {p i : Nat} {x : Int} (h : p < xs.length) : nth (xs.set p x) i = if i = p then x else nth xs i := by
  unfold nth
  rw [List.getD_eq_getElem?_getD, List.getD_eq_getElem?_getD, List.getElem?_set]
  by_cases e : p = i
  · subst e
    rw [if_pos rfl, if_pos h, if_pos rfl]
    rfl
  · rw [if_neg e, if_neg fun z => e z.symm]
theorem plc_at {g : Int} {own c : List Int} {p : Nat} {ps : List Nat} (h : plc g own c = p :: ps) : p < own.length ∧ (if g = 1 then nth c p < nth own p else nth own p < nth c p) := by
  have : p ∈ plc g own c := by
    rw [h]
    exact List.mem_cons_self ..
  obtain ⟨h1, h2⟩ := List.mem_filter.mp this
  refine ⟨List.mem_range.mp h1, ?_⟩
  by_cases hg : g = 1
  · rw [if_pos hg] at h2 ⊢
    exact of_decide_eq_true h2
  · rw [if_neg hg] at h2 ⊢
    exact of_decide_eq_true h2
theorem spk_iff {g : Int} {rule c : List Int} (hl : rule.length = c.length) : spk g rule c = true ↔ ∀ i, i < c.length → if g = 1 then nth rule i ≤ nth c i else nth c i ≤ nth rule i := by
  unfold spk
  by_cases hg : g = 1
  · simp only [hg, if_true]
    exact geB_iff
  · simp only [hg, if_false]
    rw [geB_iff, hl]
/-- the row narrowed at c: its rule -/
def nw (own rule : List Int) (g : Int) (c : List Int) : List Int := if spk g rule c then (match plc g own c with
  | [] => rule
  | p :: _ => rule.set p (nth c p + by1 g)) else rule
theorem none_of {p : Nat} : ∀ {n : Nat}, n ≤ p → ((List.range n).filter fun i => i == p) = [] := fun {n} h => by
  rw [List.filter_eq_nil_iff]
  intro i hi
  have := List.mem_range.mp hi
  simp
  omega
theorem one_of {p : Nat} : ∀ {n : Nat}, p < n → ((List.range n).filter fun i => i == p).length = 1
  | 0, h => absurd h (Nat.not_lt_zero _)
  | n + 1, h => by
    rw [List.range_succ, List.filter_append, List.length_append]
    by_cases e : n = p
    · subst e
      rw [none_of (Nat.le_refl _)]
      simp
    · rw [one_of (n := n) (by omega)]
      simp [e]
/-- what narrowing does: the rule stays a case, goes one way, does not speak of c, still speaks of the row's own case; exactly where it spoke one place changes -/
structure Nar (L own rule c : List Int) (g : Int) (rule' : List Int) : Prop where
  row : Row L own rule' g
  no : spk g rule' c = false
  up : ∀ i, i < L.length → if g = 1 then nth rule i ≤ nth rule' i else nth rule' i ≤ nth rule i
  one : ((List.range c.length).filter fun i => !(nth rule' i == nth rule i)).length = if spk g rule c then 1 else 0
theorem nar {L own rule c : List Int} {g : Int} (R : Row L own rule g) (hc : Case L c) (hn : ¬ (spk g rule c = true ∧ plc g own c = [])) : dueD own rule g c = rw3 own (nw own rule g c) g ∧ Nar L own rule c g (nw own rule g c) := by
  obtain ⟨lo, bo⟩ := R.o
  obtain ⟨lr, br⟩ := R.r
  obtain ⟨lc, bc⟩ := hc
  cases hk : spk g rule c with
  | false =>
    have e : nw own rule g c = rule := by
      unfold nw
      rw [hk]
      rfl
    rw [e]
    refine ⟨by unfold dueD; rw [hk]; rfl, R, hk, fun i _ => by split <;> exact Int.le_refl _, ?_⟩
    rw [hk, List.filter_eq_nil_iff.mpr]
    · rfl
    · intro i _
      simp
  | true =>
    cases hp : plc g own c with
    | nil => exact absurd ⟨hk, hp⟩ hn
    | cons p ps =>
      obtain ⟨p1, p2⟩ := plc_at hp
      have e : nw own rule g c = rule.set p (nth c p + by1 g) := by
        unfold nw
        rw [hk, hp]
        rfl
      have pr : p < rule.length := by omega
      have sp := (spk_iff (by omega)).mp hk
      have so := (spk_iff (by omega)).mp R.s
      have at_ : ∀ i, nth (rule.set p (nth c p + by1 g)) i = if i = p then nth c p + by1 g else nth rule i := fun i => nth_set pr
      rw [e]
      have spp := sp p (by omega)
      have bop := bo p (by omega)
      have sl : (rule.set p (nth c p + by1 g)).length = rule.length := List.length_set ..
      refine ⟨by unfold dueD; rw [hk, hp]; rfl, ⟨R.hg, R.o, ⟨by omega, fun i hi => ?_⟩, (spk_iff (by omega)).mpr fun i hi => ?_⟩, ?_, fun i hi => ?_, ?_⟩
      · rw [at_]
        have := br i hi
        rcases R.hg with rfl | rfl
        · unfold by1
          simp only [if_true] at p2 ⊢
          split
          · rename_i z
            subst z
            have := bc i hi
            omega
          · exact this
        · unfold by1
          simp only [if_neg (show ¬ ((0 : Int) = 1) by decide)] at p2 ⊢
          split
          · rename_i z
            subst z
            have := bc i hi
            omega
          · exact this
      · rw [at_]
        have s1 := so i hi
        rcases R.hg with rfl | rfl
        · unfold by1
          simp only [if_true] at p2 s1 ⊢
          split
          · rename_i z
            subst z
            omega
          · exact s1
        · unfold by1
          simp only [if_neg (show ¬ ((0 : Int) = 1) by decide)] at p2 s1 ⊢
          split
          · rename_i z
            subst z
            omega
          · exact s1
      · cases hz : spk g (rule.set p (nth c p + by1 g)) c with
        | false => rfl
        | true =>
          have z := (spk_iff (by omega)).mp hz p (by omega)
          rw [at_, if_pos rfl] at z
          unfold by1 at z
          rcases R.hg with rfl | rfl
          · simp only [if_true] at z
            omega
          · simp only [if_neg (show ¬ ((0 : Int) = 1) by decide)] at z
            omega
      · rw [at_]
        have s1 := sp i (by omega)
        unfold by1
        rcases R.hg with rfl | rfl
        · simp only [if_true] at s1 ⊢
          split
          · rename_i z
            subst z
            omega
          · exact Int.le_refl _
        · simp only [if_neg (show ¬ ((0 : Int) = 1) by decide)] at s1 ⊢
          split
          · rename_i z
            subst z
            omega
          · exact Int.le_refl _
      · rw [hk]
        have e2 : ((List.range c.length).filter fun i => !(nth (rule.set p (nth c p + by1 g)) i == nth rule i)) = (List.range c.length).filter fun i => i == p := by
          refine List.filter_congr fun i hi => ?_
          rw [at_]
          by_cases z : i = p
          · subst z
            rw [if_pos rfl]
            have : nth c i + by1 g ≠ nth rule i := by
              unfold by1
              rcases R.hg with rfl | rfl
              · simp only [if_true] at spp ⊢
                omega
              · simp only [if_neg (show ¬ ((0 : Int) = 1) by decide)] at spp ⊢
                omega
            simp [this]
          · rw [if_neg z]
            simp [z]
        rw [e2]
        have e3 : ((List.range c.length).filter fun i => i == p).length = 1 := by
          exact one_of (by omega)
        rw [e3]
        rfl
end LawP

namespace LawP
open Py
theorem held_ok {L own rule c rule' : List Int} {g : Int} (hs : L.length ≤ 1000) (hR : Row L own rule g) (hC : Case L c) (N : Nar L own rule c g rule') : f_law_held [rw3 own rule g, ti c, rw3 own rule' g, li L] = .ok (.bool true) := by
  have lo := hR.o.1
  have lr := hR.r.1
  have lr' := N.row.r.1
  have lc := hC.1
  have h1 := is_case_ok hs N.row.r
  have h2 := lspeaks_ok own rule' c g (by omega) (by omega)
  rw [N.no] at h2
  have h3 := lspeaks_ok own rule' own g (by omega) (by omega)
  rw [N.row.s] at h3
  have h4 := lspeaks_ok own rule c g (by omega) (by omega)
  have h5 := above_ok rule' rule (by omega) (by omega)
  have h6 := above_ok rule rule' (by omega) (by omega)
  have hc := okcap (n := c.length) (by omega)
  have key : ∀ (f : D → R (Option D)), (∀ i, i < c.length → f (.int (i : Int)) = .ok (if (!(nth rule' i == nth rule i)) = true then some (.int (i : Int)) else none)) →
      compD ((List.range c.length).map fun (i : Nat) => D.int (i : Int)) f = .ok (((List.range c.length).filter fun i => !(nth rule' i == nth rule i)).map fun (i : Nat) => D.int (i : Int)) := fun f h => comp_filter h
  unfold f_law_held
  simp only [defD, b_law_held]
  rcases hR.hg with rfl | rfl
  · have e5 : geB rule' rule = true := geB_iff.mpr fun i hi => by
      have := N.up i (by omega)
      simpa using this
    rw [e5] at h5
    simp [List.replicate, h1, h2, h3, h4, h5, hc, rangeD_nat]
    rw [key _ fun i hi => by
      simp [idx_ti (show i < rule'.length by omega), idx_ti (show i < rule.length by omega)]
      by_cases z : nth rule' i = nth rule i <;> simp [z]]
    simp [N.one]
    cases spk 1 rule c <;> simp
  · have e6 : geB rule rule' = true := geB_iff.mpr fun i hi => by
      have := N.up i (by omega)
      simpa using this
    rw [e6] at h6
    simp [List.replicate, h1, h2, h3, h4, h6, hc, rangeD_nat]
    rw [key _ fun i hi => by
      simp [idx_ti (show i < rule'.length by omega), idx_ti (show i < rule.length by omega)]
      by_cases z : nth rule' i = nth rule i <;> simp [z]]
    simp [N.one]
    cases spk 0 rule c <;> simp
theorem against_ok {L own rule c : List Int} {g : Int} (hs : L.length ≤ 1000) (hR : Row L own rule g) (hC : Case L c) : f_law_against [rw3 own rule g, ti c, li L] = .ok (.bool true) := by
  have lo := hR.o.1
  have lr := hR.r.1
  have lc := hC.1
  have h1 := due_ok own rule c g hR.hg (by omega) (by omega) (by omega)
  have h2 := lnarrowed_ok own rule c g hR.hg (by omega) (by omega) (by omega)
  have h3 := same_due own rule c g (by omega) (by omega) (by omega)
  have h4 := narrowed_ok own rule c g hR.hg (by omega) (by omega) (by omega)
  unfold f_law_against
  simp only [defD, b_law_against]
  by_cases hz : spk g rule c = true ∧ plc g own c = []
  · have e : dueD own rule g c = .tup [] := by
      unfold dueD
      rw [if_pos hz.1, hz.2]
    rw [e] at h1 h2 h3
    simp [List.replicate, h1, h2, h3]
  · obtain ⟨e, N⟩ := nar hR hC hz
    have ln := N.row.r.1
    have h5 := held_ok hs hR hC N
    have h6 := narrowed_ok own (nw own rule g c) c g hR.hg (by omega) (by omega) (by omega)
    have e6 : dueD own (nw own rule g c) g c = rw3 own (nw own rule g c) g := by
      unfold dueD
      rw [N.no]
      rfl
    rw [N.no, e6] at h6
    have hk : (spk g rule c && (plc g own c).isEmpty) = false := by
      cases q : spk g rule c && (plc g own c).isEmpty with
      | false => rfl
      | true =>
        obtain ⟨q1, q2⟩ := Bool.and_eq_true_iff.mp q
        exact absurd ⟨q1, List.isEmpty_iff.mp q2⟩ hz
    rw [hk] at h4
    rw [e] at h1 h2 h3 h4
    simp [List.replicate, h1, h2, h3, h4, h5, h6]
end LawP

namespace LawP
open Py
theorem spk_trans {L own rule c : List Int} {g : Int} (hg : g = 1 ∨ g = 0) (h1 : rule.length = L.length) (h2 : own.length = L.length) (h3 : c.length = L.length) (a : spk g rule own = true) (b : spk g own c = true) : spk g rule c = true := by
  have a := (spk_iff (by omega)).mp a
  have b := (spk_iff (by omega)).mp b
  refine (spk_iff (by omega)).mpr fun i hi => ?_
  have a := a i (by omega)
  have b := b i hi
  rcases hg with rfl | rfl
  · simp only [if_true] at a b ⊢
    omega
  · simp only [if_neg (show ¬ ((0 : Int) = 1) by decide)] at a b ⊢
    omega
theorem spk_up {L own rule c rule' c' : List Int} {g : Int} (N : Nar L own rule c g rule') (hr : rule.length = L.length) (hc : c'.length = L.length) (h : spk g rule c' = false) : spk g rule' c' = false := by
  cases z : spk g rule' c' with
  | false => rfl
  | true =>
    have lr := N.row.r.1
    have z := (spk_iff (by omega)).mp z
    have : spk g rule c' = true := (spk_iff (by omega)).mpr fun i hi => by
      have z := z i hi
      have u := N.up i (by omega)
      rcases N.row.hg with rfl | rfl
      · simp only [if_true] at z u ⊢
        omega
      · simp only [if_neg (show ¬ ((0 : Int) = 1) by decide)] at z u ⊢
        omega
    rw [this] at h
    cases h
theorem chain_ok {L own rule : List Int} {g : Int} {cs : List (List Int)} (hs : L.length ≤ 1000) (hR : Row L own rule g) (hC : ∀ c ∈ cs, Case L c) : f_law_chain [rw3 own rule g, .lst (cs.map ti), li L] = .ok (.bool true) := by
  have lo := hR.o.1
  unfold f_law_chain
  simp only [defD, b_law_chain]
  simp [List.replicate]
  refine thru (fun rem st => ∃ (done r : List (List Int)) (rule' : List Int) (s4 s5 s6 : Sl), rem = r.map ti ∧ cs = done ++ r ∧ st = [Sl.v (rw3 own rule g), Sl.v (.lst (cs.map ti)), Sl.v (li L), Sl.v (rw3 own rule' g), s4, s5, s6] ∧ Row L own rule' g ∧ ∀ c ∈ done, spk g own c = false → spk g rule' c = false) ?_ ⟨[], cs, rule, _, _, _, rfl, rfl, rfl, hR, fun c hc => by cases hc⟩ ?_
  · rintro x rest st ⟨done, r, rule', s4, s5, s6, e1, e2, rfl, hR', hd⟩
    cases r with
    | nil => cases e1
    | cons c r =>
      cases e1
      have hc : Case L c := hC c (by rw [e2]; exact List.mem_append.mpr (.inr (List.mem_cons_self ..)))
      have lr := hR'.r.1
      have lc := hc.1
      have h1 := due_ok own rule' c g hR'.hg (by omega) (by omega) (by omega)
      have h2 := lnarrowed_ok own rule' c g hR'.hg (by omega) (by omega) (by omega)
      have h3 := same_due own rule' c g (by omega) (by omega) (by omega)
      have e3 : cs = (done ++ [c]) ++ r := by
        rw [e2, List.append_assoc]
        rfl
      by_cases hz : spk g rule' c = true ∧ plc g own c = []
      · have e : dueD own rule' g c = .tup [] := by
          unfold dueD
          rw [if_pos hz.1, hz.2]
        rw [e] at h1 h2 h3
        refine ⟨_, ?_, done ++ [c], r, rule', Sl.v (ti c), Sl.v (.tup []), Sl.v (.tup []), rfl, e3, rfl, hR', fun c' hc' ho => ?_⟩
        · simp [h1, h2, h3]
        · rcases List.mem_append.mp hc' with q | q
          · exact hd c' q ho
          · have q : c' = c := by simpa using q
            subst q
            rw [(plc_nil hR'.hg (by omega)).mp hz.2] at ho
            cases ho
      · obtain ⟨e, N⟩ := nar hR' hc hz
        have h5 := held_ok hs hR' hc N
        rw [e] at h1 h2 h3
        refine ⟨_, ?_, done ++ [c], r, nw own rule' g c, Sl.v (ti c), Sl.v (rw3 own (nw own rule' g c) g), Sl.v (rw3 own (nw own rule' g c) g), rfl, e3, rfl, N.row, fun c' hc' ho => ?_⟩
        · simp [h1, h2, h3, h5]
        · rcases List.mem_append.mp hc' with q | q
          · exact spk_up N lr (hC c' (by rw [e2]; exact List.mem_append.mpr (.inl q))).1 (hd c' q ho)
          · have q : c' = c := by simpa using q
            subst q
            exact N.no
  · rintro st ⟨done, r, rule', s4, s5, s6, e1, e2, rfl, hR', hd⟩
    have er : r = [] := by
      cases r with
      | nil => rfl
      | cons _ _ => cases e1
    subst er
    rw [List.append_nil] at e2
    subst e2
    have lr := hR'.r.1
    simp
    refine fin_go (I := fun st => ∃ (s4 s5 s6 : Sl), st = [Sl.v (rw3 own rule g), Sl.v (.lst (cs.map ti)), Sl.v (li L), Sl.v (rw3 own rule' g), s4, s5, s6]) ?_ ⟨_, _, _, rfl⟩ (fun st' _ => rfl)
    rintro x hx st ⟨s4, s5, s6, rfl⟩
    obtain ⟨c, hc, rfl⟩ := List.mem_map.mp hx
    have hcc := hC c hc
    have lc := hcc.1
    have h1 := lspeaks_ok own rule' c g (by omega) (by omega)
    have h2 := due_ok own own c g hR'.hg (by omega) (by omega) (by omega)
    have e3 : D.tup [ti own, ti own, D.int g] = rw3 own own g := rfl
    cases hk : spk g own c with
    | true =>
      have e : dueD own own g c = .tup [] := by
        unfold dueD
        rw [if_pos hk, (plc_nil hR'.hg (by omega)).mpr hk]
      rw [e] at h2
      rw [spk_trans hR'.hg lr lo lc hR'.s hk] at h1
      simp [h1, h2, e3]
    | false =>
      have e : dueD own own g c = rw3 own own g := by
        unfold dueD
        rw [hk]
        rfl
      rw [e] at h2
      rw [hd c hc hk] at h1
      simp [h1, h2, e3]
end LawP

namespace LawP
open Py
@[simp] theorem bin_pow {i j : Int} : binD .pow (.int i) (.int j) = if 0 ≤ j ∧ j ≤ 1000000 ∧ i.natAbs < 2 ^ 64 then .ok (.int (i ^ j.toNat)) else .no := rfl
theorem cell_ok (ns : List Int) (k : Nat) : ∃ i, f_law_cell [.scr ns, .int (k : Int)] = .ok (.int i) := by
  unfold f_law_cell
  simp only [defD, b_law_cell]
  by_cases h : k < ns.length
  · have e : atI ns (k : Int) = some ns[k] := by
      rw [atI_nat, List.getElem?_eq_getElem h]
    refine ⟨ns[k], ?_⟩
    have h' : (k : Int) < (ns.length : Int) := by omega
    simp [List.replicate, e, h]
  · refine ⟨0, ?_⟩
    simp [List.replicate, h]
theorem mul_l {i j : Int} (h : i.natAbs < 2 ^ 64) : mulOk i j = true := by
  unfold mulOk
  rw [decide_eq_true h]
  rfl
theorem mul_r {i j : Int} (h : j.natAbs < 2 ^ 64) : mulOk i j = true := by
  unfold mulOk
  rw [decide_eq_true h, Bool.or_true]
theorem stepP {Pr : R D → Prop} {A : Cf} {K : St → Cf} {I : St → Prop} (hA : ∃ st', A = .nx st' ∧ I st') (hK : ∀ st', I st' → Pr (fin (K st'))) : Pr (fin (thenC A K)) := by
  obtain ⟨st', e, h⟩ := hA
  rw [e]
  exact hK st' h
@[simp] theorem thenC_id {r : Cf} : thenC r (fun st' => .nx st') = r := by cases r <;> rfl
def drI (ns : List Int) (k m n : Nat) (st : St) : Prop := ∃ (c2 s : Int) (ds : List Int) (s6 s7 s8 : Sl), st = [Sl.v (.scr ns), Sl.v (.int k), Sl.v (.int m), Sl.v (.int c2), Sl.v (.int s), Sl.o 1 (li ds), s6, s7, s8] ∧ 0 ≤ c2 ∧ ds.length + n ≤ m ∧ ∀ x ∈ ds, 0 ≤ x
def drJ (ns : List Int) (k m : Nat) (rem : List D) (st : St) : Prop := ∃ (c2 s : Int) (ds : List Int) (s6 s7 s8 : Sl), st = [Sl.v (.scr ns), Sl.v (.int k), Sl.v (.int m), Sl.v (.int c2), Sl.v (.int s), Sl.o 1 (li ds), s6, s7, s8] ∧ ds.length + rem.length = m ∧ (∀ x ∈ ds, 0 ≤ x) ∧ ∀ x ∈ rem, ∃ i : Int, x = .int i
theorem draws_ok (ns : List Int) (k m : Nat) (hm : m ≤ 1000) : ∃ ds : List Int, f_law_draws [.scr ns, .int (k : Int), .int (m : Int)] = .ok (li ds) ∧ ds.length = m ∧ ∀ x ∈ ds, 0 ≤ x := by
  obtain ⟨c, hc⟩ := cell_ok ns k
  have oc := okcap hm
  have m1 : mulOk 7919 (k : Int) = true := mul_l (by decide)
  unfold f_law_draws
  simp only [defD, b_law_draws]
  have e0 : ∃ c1 : Int, 0 ≤ c1 ∧ (if c < 0 then -c else c) = c1 := ⟨if c < 0 then -c else c, by split <;> omega, rfl⟩
  obtain ⟨c1, hc1, e0⟩ := e0
  simp [List.replicate, hc, m1, e0]
  simp [newS, Int.pow_succ]
  have hcap : m ≤ cap := by
    unfold cap
    omega
  have hbig : -bigI ≤ (m : Int) := oc.2
  refine stepP (Pr := fun r => ∃ ds : List Int, r = .ok (li ds) ∧ ds.length = m ∧ ∀ x ∈ ds, 0 ≤ x) (I := drI ns k m 0) ?_ ?_
  · by_cases hb : 1000000000000000000 ≤ c1
    · simp [hb, hcap, hbig, rangeD_nat]
      have h0 : drI ns k m ((List.range m).map fun (i : Nat) => D.int (i : Int)).length [Sl.v (.scr ns), Sl.v (.int k), Sl.v (.int m), Sl.v (.int c1), Sl.v (.int ((c1 + 7919 * k + 1) % 2147483629)), Sl.o 1 (.lst []), Sl.u, Sl.u, Sl.u] := ⟨c1, _, [], _, _, _, rfl, hc1, by simp, by simp⟩
      refine forD_thru (fun rem st => drI ns k m rem.length st) ?_ _ h0
      rintro x r st ⟨c2, s, ds, s6, s7, s8, rfl, g1, g2, g3⟩
      have g2 : ds.length + (r.length + 1) ≤ m := g2
      have gc : ds.length < cap := by omega
      by_cases hp : 0 < c2
      · refine ⟨_, ?_, c2 / 1000, s, ds ++ [c2 % 1000], Sl.v x, s7, s8, rfl, by omega, ?_, ?_⟩
        · simp [hp, ownL, li, gc]
        · simp
          omega
        · intro y hy
          rcases List.mem_append.mp hy with q | q
          · exact g3 y q
          · have q : y = c2 % 1000 := by simpa using q
            omega
      · refine ⟨_, ?_, c2, s, ds, Sl.v x, s7, s8, rfl, g1, by omega, g3⟩
        simp [hp]
    · refine ⟨_, if_neg hb, c1, _, [], _, _, _, rfl, hc1, by simp, by simp⟩
  · rintro st ⟨c2, s, ds, s6, s7, s8, rfl, g1, g2, g3⟩
    have q1 : -bigI ≤ (ds.length : Int) ∧ (ds.length : Int) ≤ bigI ∧ -bigI ≤ (m : Int) ∧ (m : Int) ≤ bigI ∧ (m : Int) - (ds.length : Int) ≤ (cap : Int) := by
      unfold bigI cap
      omega
    simp
    rw [if_pos q1]
    simp
    refine stepP (Pr := fun r => ∃ ds : List Int, r = .ok (li ds) ∧ ds.length = m ∧ ∀ x ∈ ds, 0 ≤ x) (I := drJ ns k m []) ?_ ?_
    · have h0 : drJ ns k m (rangeD (ds.length : Int) (m : Int)) [Sl.v (.scr ns), Sl.v (.int k), Sl.v (.int m), Sl.v (.int c2), Sl.v (.int s), Sl.o 1 (li ds), s6, s7, s8] := ⟨c2, s, ds, _, _, _, rfl, by
        unfold rangeD
        rw [List.length_map, List.length_range]
        omega, g3, fun x hx => by
        obtain ⟨i, _, rfl⟩ := List.mem_map.mp hx
        exact ⟨_, rfl⟩⟩
      refine forD_thru (fun rem st => drJ ns k m rem st) ?_ _ h0
      rintro x r st ⟨c2, s, ds, s6, s7, s8, rfl, g2, g3, g4⟩
      have g2 : ds.length + (r.length + 1) = m := g2
      have gc : ds.length < cap := by omega
      obtain ⟨i, rfl⟩ := g4 x (List.mem_cons_self ..)
      have n1 : mulOk s 48271 = true := mul_r (by decide)
      have n2 : mulOk i 69621 = true := mul_r (by decide)
      have n3 : mulOk ((s * 48271 + i * 69621 + 17) % 2147483629) ((s * 48271 + i * 69621 + 17) % 2147483629) = true := mul_l (by omega)
      refine ⟨_, ?_, c2, s, ds ++ [(((s * 48271 + i * 69621 + 17) % 2147483629 * ((s * 48271 + i * 69621 + 17) % 2147483629) + s + i) % 998244353) / 11 % 1000], Sl.v (.int i), Sl.v (.int ((s * 48271 + i * 69621 + 17) % 2147483629)), Sl.v (.int (((s * 48271 + i * 69621 + 17) % 2147483629 * ((s * 48271 + i * 69621 + 17) % 2147483629) + s + i) % 998244353)), rfl, ?_, ?_, fun y hy => g4 y (List.mem_cons_of_mem _ hy)⟩
      · simp [ownL, li, gc, n1, n2, n3]
      · simp
        omega
      · intro y hy
        rcases List.mem_append.mp hy with q | q
        · exact g3 y q
        · have q := List.mem_singleton.mp q
          omega
    · rintro st ⟨c2, s, ds, s6, s7, s8, rfl, g2, g3, g4⟩
      refine ⟨ds, ?_, by simpa using g2, g3⟩
      simp
end LawP

namespace LawP
open Py
@[simp] theorem len_str {z : List Nat} : biD .len [.str z] = if z.length ≤ cap then .ok (.int z.length) else .no := rfl
@[simp] theorem idx_str {z : List Nat} {i : Int} : idxD (.str z) (.int i) = if z.length ≤ cap then ofO ((Py.atI z i).map fun c => D.str [c]) else .no := rfl
@[simp] theorem slice_str {lo hi : Option Int} {z : List Nat} : sliceD lo hi (.str z) = if z.length ≤ cap then .ok (.str (cutL z lo hi)) else .no := rfl
theorem atI_last {α : Type} {xs : List α} {t : α} : Py.atI (xs ++ [t]) (-1) = some t := by
  unfold Py.atI Py.ixN
  rw [if_neg (by decide), List.length_append, if_pos (by simp; omega)]
  show (xs ++ [t])[((-1 : Int) + ((xs.length + 1 : Nat) : Int)).toNat]? = some t
  have : ((-1 : Int) + ((xs.length + 1 : Nat) : Int)).toNat = xs.length := by omega
  rw [this]
  simp
theorem atS_last {n : Nat} {k : Nat → Cf} : atS (n + 1) (.int (-1)) k = k n := by
  have : Py.ixN (n + 1) (-1) = some n := by
    unfold Py.ixN
    rw [if_neg (by decide), if_pos (by omega)]
    congr 1
    omega
  unfold atS
  simp only [this]
def shJ (ds : List Int) (rem : List D) (st : St) : Prop := ∃ (pool pro con : List Nat) (tops : List Int) (s5 s6 s7 s8 : Sl), st = [Sl.v (li ds), Sl.v (.str pool), Sl.v (.str pro), Sl.v (.str con), Sl.o 1 (.lst (tops.map D.int)), s5, s6, s7, s8] ∧
  pool.length + (pro.length + con.length) = 26 ∧ pro.length + con.length + tops.length + rem.length ≤ 5 ∧ (∀ t ∈ tops, 1 ≤ t ∧ t ≤ 3) ∧ ∀ x ∈ rem, ∃ i : Nat, x = .int (i : Int) ∧ i < 5
theorem nth_mem {xs : List Int} {i : Nat} (h : i < xs.length) : nth xs i ∈ xs := by
  unfold nth
  rw [List.getD_eq_getElem?_getD, List.getElem?_eq_getElem h]
  exact List.getElem_mem h
theorem shape_ok (ds : List Int) (hl : 11 ≤ ds.length) (h0 : ∀ x ∈ ds, 0 ≤ x) : ∃ (pro con : List Nat) (tops : List Int), f_law_shape [li ds] = .ok (.tup [.str pro, .str con, ti tops]) ∧ pro.length + con.length + tops.length ≤ 5 ∧ ∀ t ∈ tops, 1 ≤ t ∧ t ≤ 3 := by
  unfold f_law_shape
  simp only [defD, b_law_shape]
  have e0 := idx_li (xs := ds) (i := 0) (by omega)
  have p0 := h0 _ (nth_mem (xs := ds) (i := 0) (by omega))
  have hr : 1 + nth ds 0 % 5 ≤ (cap : Int) ∧ -bigI ≤ 1 + nth ds 0 % 5 := by
    unfold cap bigI
    omega
  have e0 : idxD (li ds) (.int 0) = .ok (.int (nth ds 0)) := e0
  simp [List.replicate, newS, e0]
  rw [if_pos hr]
  simp
  have hJ : shJ ds (rangeD 0 (1 + nth ds 0 % 5)) [Sl.v (li ds), Sl.v (.str [97, 98, 99, 100, 101, 102, 103, 104, 105, 106, 107, 108, 109, 110, 111, 112, 113, 114, 115, 116, 117, 118, 119, 120, 121, 122]), Sl.v (.str []), Sl.v (.str []), Sl.o 1 (.lst []), .u, .u, .u, .u] := by
    refine ⟨_, [], [], [], _, _, _, _, rfl, rfl, ?_, by simp, fun x hx => ?_⟩
    · unfold rangeD
      simp
      omega
    · obtain ⟨i, hi, rfl⟩ := List.mem_map.mp hx
      have hi := List.mem_range.mp hi
      exact ⟨i, by simp, by omega⟩
  refine stepP (Pr := fun r => ∃ (pro con : List Nat) (tops : List Int), r = .ok (.tup [.str pro, .str con, ti tops]) ∧ pro.length + con.length + tops.length ≤ 5 ∧ ∀ t ∈ tops, 1 ≤ t ∧ t ≤ 3) (I := shJ ds []) ?_ ?_
  · refine forD_thru (fun rem st => shJ ds rem st) ?_ _ hJ
    rintro x r st ⟨pool, pro, con, tops, s5, s6, s7, s8, rfl, g1, g2, g3, g4⟩
    have g2 : pro.length + con.length + tops.length + (r.length + 1) ≤ 5 := g2
    obtain ⟨i, rfl, hi⟩ := g4 x (List.mem_cons_self ..)
    have g5 : ∀ x ∈ r, ∃ i : Nat, x = .int (i : Int) ∧ i < 5 := fun y hy => g4 y (List.mem_cons_of_mem _ hy)
    have n1 : mulOk 2 (i : Int) = true := mul_l (by decide)
    have e1 : idxD (li ds) (.int (1 + 2 * (i : Int))) = .ok (.int (nth ds (1 + 2 * i))) := idx_li (xs := ds) (i := 1 + 2 * i) (by omega)
    have e2 : idxD (li ds) (.int (2 + 2 * (i : Int))) = .ok (.int (nth ds (2 + 2 * i))) := idx_li (xs := ds) (i := 2 + 2 * i) (by omega)
    have pc : pool.length ≤ cap := by
      unfold cap
      omega
    have pp : 0 < pool.length := by omega
    obtain ⟨at_, ha, hb⟩ : ∃ at_ : Nat, nth ds (2 + 2 * i) % (pool.length : Int) = (at_ : Int) ∧ at_ < pool.length := by
      have h1 := Int.emod_nonneg (nth ds (2 + 2 * i)) (show (pool.length : Int) ≠ 0 by omega)
      have h2 := Int.emod_lt_of_pos (nth ds (2 + 2 * i)) (show (0 : Int) < pool.length by omega)
      exact ⟨(nth ds (2 + 2 * i) % (pool.length : Int)).toNat, by omega, by omega⟩
    have e3 : Py.atI pool (at_ : Int) = some pool[at_] := by
      rw [atI_nat, List.getElem?_eq_getElem hb]
    have e4 : cutL pool none (some (at_ : Int)) = pool.take at_ := cut_to (by omega)
    have e5 : cutL pool (some ((at_ : Int) + 1)) none = pool.drop (at_ + 1) := cut_from (p := at_ + 1) (by omega)
    have l1 : (pool.take at_ ++ pool.drop (at_ + 1)).length + 1 = pool.length := by
      rw [List.length_append, List.length_take, List.length_drop]
      omega
    have c1 : min at_ pool.length + (pool.length - (at_ + 1)) ≤ cap := by omega
    have c2 : pro.length + 1 ≤ cap := by
      unfold cap
      omega
    have c3 : con.length + 1 ≤ cap := by
      unfold cap
      omega
    have pp' : (0 : Int) < (pool.length : Int) := by omega
    obtain ⟨sd, hsd⟩ : ∃ sd, nth ds (1 + 2 * i) % 4 = sd := ⟨_, rfl⟩
    by_cases k2 : sd = 2
    · subst k2
      refine ⟨_, ?_, pool, pro, con, tops ++ [1], Sl.v (.int (i : Int)), Sl.v (.int 2), s7, s8, rfl, g1, ?_, ?_, g5⟩
      · have gc : tops.length < cap := by
          unfold cap
          omega
        simp [e1, n1, hsd, ownL, gc]
      · simp
        omega
      · intro y hy
        rcases List.mem_append.mp hy with q | q
        · exact g3 y q
        · have q := List.mem_singleton.mp q
          omega
    · by_cases k3 : sd = 3
      · subst k3
        rcases List.eq_nil_or_concat tops with ht | ⟨tp, t, ht⟩
        · subst ht
          refine ⟨_, ?_, pool.take at_ ++ pool.drop (at_ + 1), pro ++ [pool[at_]], con, [], Sl.v (.int (i : Int)), Sl.v (.int 3), Sl.v (.int (at_ : Int)), Sl.v (.str [pool[at_]]), rfl, ?_, ?_, by simp, g5⟩
          · simp [e1, e2, n1, hsd, ownL, pc, pp, ha, e3, e4, e5, c1, c2]
          · rw [List.length_append] at l1 ⊢
            simp at l1 ⊢
            omega
          · simp at g2 ⊢
            omega
        · rw [List.concat_eq_append] at ht
          subst ht
          have gt := g3 t (List.mem_append.mpr (.inr (List.mem_singleton.mpr rfl)))
          have eL : Py.atI (tp.map D.int ++ [D.int t]) (-1) = some (.int t) := atI_last
          have pz : (0 : Int) < (tp.length : Int) + 1 := by omega
          by_cases k4 : t < 3
          · refine ⟨_, ?_, pool, pro, con, tp ++ [t + 1], Sl.v (.int (i : Int)), Sl.v (.int 3), s7, s8, rfl, g1, ?_, ?_, g5⟩
            · simp [e1, n1, hsd, ownL, eL, pz, k4, atS_last, okM_t, D.kept]
            · simp at g2 ⊢
              omega
            · intro y hy
              rcases List.mem_append.mp hy with q | q
              · exact g3 y (List.mem_append.mpr (.inl q))
              · have q := List.mem_singleton.mp q
                omega
          · refine ⟨_, ?_, pool.take at_ ++ pool.drop (at_ + 1), pro ++ [pool[at_]], con, tp ++ [t], Sl.v (.int (i : Int)), Sl.v (.int 3), Sl.v (.int (at_ : Int)), Sl.v (.str [pool[at_]]), rfl, ?_, ?_, g3, g5⟩
            · simp [e1, e2, n1, hsd, ownL, pc, pp, ha, e3, e4, e5, c1, c2, eL, pz, k4]
            · rw [List.length_append] at l1 ⊢
              simp at l1 ⊢
              omega
            · simp at g2 ⊢
              omega
      · by_cases k1 : sd = 1
        · subst k1
          refine ⟨_, ?_, pool.take at_ ++ pool.drop (at_ + 1), pro, con ++ [pool[at_]], tops, Sl.v (.int (i : Int)), Sl.v (.int 1), Sl.v (.int (at_ : Int)), Sl.v (.str [pool[at_]]), rfl, ?_, ?_, g3, g5⟩
          · simp [e1, e2, n1, hsd, ownL, pc, pp, ha, e3, e4, e5, c1, c3]
          · rw [List.length_append] at l1 ⊢
            simp at l1 ⊢
            omega
          · simp at g2 ⊢
            omega
        · refine ⟨_, ?_, pool.take at_ ++ pool.drop (at_ + 1), pro ++ [pool[at_]], con, tops, Sl.v (.int (i : Int)), Sl.v (.int sd), Sl.v (.int (at_ : Int)), Sl.v (.str [pool[at_]]), rfl, ?_, ?_, g3, g5⟩
          · simp [e1, e2, n1, hsd, ownL, pc, pp, ha, e3, e4, e5, c1, c2, k1, k2, k3]
          · rw [List.length_append] at l1 ⊢
            simp at l1 ⊢
            omega
          · simp at g2 ⊢
            omega
  · rintro st ⟨pool, pro, con, tops, s5, s6, s7, s8, rfl, g1, g2, g3, g4⟩
    refine ⟨pro, con, tops, ?_, by simpa using g2, g3⟩
    simp [ti]
end LawP

namespace LawP
open Py
/-- limits: 5 at most, from 1 to 3 -/
def Lim (L : List Int) : Prop := L.length ≤ 5 ∧ ∀ x ∈ L, 1 ≤ x ∧ x ≤ 3
theorem Lim.at {L : List Int} (h : Lim L) {i : Nat} (hi : i < L.length) : 1 ≤ nth L i ∧ nth L i ≤ 3 := h.2 _ (nth_mem hi)
@[simp] theorem bin_mul_lst {s : List D} {n : Int} : binD .mul (.lst s) (.int n) = if n ≤ (cap : Int) ∧ -(cap : Int) ≤ n ∧ s.length * n.toNat ≤ cap then .ok (.lst (repD s n)) else .no := rfl
theorem limits_ok {pro con : List Nat} {tops : List Int} (h : pro.length + con.length + tops.length ≤ 5) (ht : ∀ t ∈ tops, 1 ≤ t ∧ t ≤ 3) : ∃ L, f_law_limits [.tup [.str pro, .str con, ti tops]] = .ok (li L) ∧ Lim L := by
  refine ⟨List.replicate (pro.length + con.length) 1 ++ tops, ?_, ?_, ?_⟩
  · unfold f_law_limits
    simp only [defD, b_law_limits]
    have c1 : pro.length ≤ cap := by
      unfold cap
      omega
    have c2 : con.length ≤ cap := by
      unfold cap
      omega
    have c3 : (pro.length : Int) + (con.length : Int) ≤ (cap : Int) ∧ -(cap : Int) ≤ (pro.length : Int) + (con.length : Int) ∧ ((pro.length : Int) + (con.length : Int)).toNat ≤ cap := by
      unfold cap
      omega
    have e1 : ((pro.length : Int) + (con.length : Int)).toNat = pro.length + con.length := by omega
    have e2 : repD [D.int 1] ((pro.length : Int) + (con.length : Int)) = List.replicate (pro.length + con.length) (D.int 1) := by
      unfold repD
      rw [e1]
      simp
    have e3 : biD .list [ti tops] = .ok (.lst (tops.map D.int)) := rfl
    have c4 : pro.length + con.length + tops.length ≤ cap := by
      unfold cap
      omega
    simp [List.replicate, atI_0, atI_1, atI_2, c1, c2, e2, e3, e1, li]
    rw [if_pos (by unfold cap; omega)]
    simp [c4]
  · simp
    omega
  · intro x hx
    rcases List.mem_append.mp hx with q | q
    · have := List.eq_of_mem_replicate q
      omega
    · exact ht x q
theorem case_ok {L ds : List Int} {a : Nat} (hL : Lim L) (hd : a + L.length ≤ ds.length) (h0 : ∀ x ∈ ds, 0 ≤ x) : ∃ c, f_law_case [li ds, .int (a : Int), li L] = .ok (ti c) ∧ Case L c := by
  have hc := okcap (n := L.length) (by have := hL.1; omega)
  unfold f_law_case
  simp only [defD, b_law_case]
  simp [List.replicate, hc, rangeD_nat]
  rw [comp_ok (g := fun x => match x with | .int i => some (.int (nth ds (a + i.toNat) % (nth L i.toNat + 1))) | _ => none) fun x hx => by
    obtain ⟨i, hi, rfl⟩ := List.mem_map.mp hx
    have hi := List.mem_range.mp hi
    have hl := hL.at hi
    have e1 : idxD (li ds) (.int ((a : Int) + (i : Int))) = .ok (.int (nth ds (a + i))) := idx_li (xs := ds) (i := a + i) (by omega)
    have p : 0 < nth L i + 1 := by omega
    simp [e1, idx_li hi, p]]
  refine ⟨(List.range L.length).map fun i => nth ds (a + i) % (nth L i + 1), ?_, by simp, fun i hi => ?_⟩
  · simp [List.filterMap_map, Function.comp_def, ti]
  · have e : nth ((List.range L.length).map fun i => nth ds (a + i) % (nth L i + 1)) i = nth ds (a + i) % (nth L i + 1) := by
      unfold nth
      simp [List.getElem?_map, List.getElem?_range hi]
    rw [e]
    have hl := hL.at hi
    have := h0 _ (nth_mem (xs := ds) (i := a + i) (by omega))
    have := Int.emod_nonneg (nth ds (a + i)) (show nth L i + 1 ≠ 0 by omega)
    have := Int.emod_lt_of_pos (nth ds (a + i)) (show 0 < nth L i + 1 by omega)
    omega
end LawP

namespace LawP
open Py
/-- the cases of the limits so far -/
def Cs (L : List Int) (j : Nat) (cs : List (List Int)) : Prop := cs.length ≤ 4 ^ j ∧ ∀ c ∈ cs, c.length = j ∧ ∀ i, i < j → 0 ≤ nth c i ∧ nth c i ≤ nth L i
def csJ (L : List Int) (rem : List D) (st : St) : Prop := ∃ (j : Nat) (cs : List (List Int)) (s2 s3 s4 s5 : Sl), st = [Sl.v (li L), Sl.v (.lst (cs.map ti)), s2, s3, s4, s5] ∧ rem = (L.drop j).map D.int ∧ j ≤ L.length ∧ Cs L j cs
def csK (L : List Int) (x : Int) (j : Nat) (cs : List (List Int)) (n : Nat) (st : St) : Prop := ∃ (new : List (List Int)) (s4 s5 : Sl), st = [Sl.v (li L), Sl.v (.lst (cs.map ti)), Sl.v (.int x), Sl.o 1 (.lst (new.map ti)), s4, s5] ∧ new.length ≤ n ∧ ∀ c ∈ new, c.length = j + 1 ∧ ∀ i, i < j + 1 → 0 ≤ nth c i ∧ nth c i ≤ nth L i
theorem nth_app {xs : List Int} {x : Int} {i : Nat} : nth (xs ++ [x]) i = if i < xs.length then nth xs i else if i = xs.length then x else 0 := by
  unfold nth
  by_cases h : i < xs.length
  · rw [if_pos h, List.getD_eq_getElem?_getD, List.getElem?_append_left h, List.getD_eq_getElem?_getD]
  · rw [if_neg h, List.getD_eq_getElem?_getD, List.getElem?_append_right (by omega)]
    by_cases e : i = xs.length
    · subst e
      simp
    · rw [if_neg e]
      have : i - xs.length ≠ 0 := by omega
      rw [List.getElem?_eq_none (by simp; omega)]
      rfl
theorem stepN {A : Cf} {K : St → Cf} {I J : St → Prop} (hA : ∃ st', A = .nx st' ∧ I st') (hK : ∀ st', I st' → ∃ st'', K st' = .nx st'' ∧ J st'') : ∃ st'', thenC A K = .nx st'' ∧ J st'' := by
  obtain ⟨st', e, h⟩ := hA
  rw [e]
  exact hK st' h
theorem forD_to {f : D → St → Cf} {I : St → Prop} (J : List D → St → Prop) {xs : List D} {st : St} (h : ∀ x r st, J (x :: r) st → ∃ st', f x st = .nx st' ∧ J r st') (hJ : J xs st) (hI : ∀ st', J [] st' → I st') : ∃ st', forD xs f st = .nx st' ∧ I st' := by
  obtain ⟨st', e, q⟩ := forD_thru J h st hJ
  exact ⟨st', e, hI st' q⟩
theorem cases_ok {L : List Int} (hL : Lim L) : ∃ cs : List (List Int), f_law_cases [li L] = .ok (.lst (cs.map ti)) ∧ ∀ c ∈ cs, Case L c := by
  unfold f_law_cases
  simp only [defD, b_law_cases]
  simp [List.replicate]
  refine stepP (Pr := fun r => ∃ cs : List (List Int), r = .ok (.lst (cs.map ti)) ∧ ∀ c ∈ cs, Case L c) (I := csJ L []) ?_ ?_
  · have h0 : csJ L (L.map D.int) [Sl.v (li L), Sl.v (.lst [.tup []]), .u, .u, .u, .u] := ⟨0, [[]], _, _, _, _, rfl, by simp, by omega, by simp, by simp⟩
    refine forD_thru (fun rem st => csJ L rem st) ?_ _ h0
    rintro x r st ⟨j, cs, s2, s3, s4, s5, rfl, e1, e2, hcs⟩
    have hj : j < L.length := by
      by_cases z : j < L.length
      · exact z
      · rw [List.drop_eq_nil_of_le (by omega)] at e1
        cases e1
    rw [List.drop_eq_getElem_cons hj] at e1
    cases e1
    have hx := hL.2 L[j] (List.getElem_mem hj)
    have hn : nth L j = L[j] := by
      unfold nth
      rw [List.getD_eq_getElem?_getD, List.getElem?_eq_getElem hj]
      rfl
    have h5 := hL.1
    have c4 : 4 ^ j ≤ 1024 := by
      have : j ≤ 5 := by omega
      calc 4 ^ j ≤ 4 ^ 5 := Nat.pow_le_pow_right (by decide) this
        _ = 1024 := by decide
    have hc1 := hcs.1
    have hc : cs.length ≤ cap ∧ -bigI ≤ (cs.length : Int) := by
      unfold cap bigI
      omega
    have hxc : L[j] + 1 ≤ (cap : Int) ∧ -bigI ≤ L[j] + 1 := by
      unfold cap bigI
      omega
    simp [newS, hc, hxc, rangeD_nat]
    refine stepN (I := csK L L[j] j cs (4 * cs.length)) ?_ ?_
    · refine forD_to (fun rem st => csK L L[j] j cs (4 * (cs.length - rem.length)) st ∧ rem.length ≤ cs.length ∧ ∀ x ∈ rem, ∃ i : Nat, x = .int (i : Int) ∧ i < cs.length) ?_ ⟨⟨[], _, _, rfl, by simp, by simp⟩, by simp, ?_⟩ (fun st' h => h.1)
      · rintro x r st ⟨⟨new, s4, s5, rfl, g1, g2⟩, g3, g4⟩
        obtain ⟨i, rfl, hi⟩ := g4 x (List.mem_cons_self ..)
        have g3 : r.length + 1 ≤ cs.length := g3
        have g1 : new.length ≤ 4 * (cs.length - (r.length + 1)) := g1
        have ec : Py.atI (cs.map ti) (i : Int) = some (ti cs[i]) := by
          rw [atI_nat, List.getElem?_map, List.getElem?_eq_getElem hi]
          rfl
        have hci := hcs.2 cs[i] (List.getElem_mem hi)
        simp [hxc]
        refine forD_to (fun rem st => (∃ (new : List (List Int)) (s5 : Sl), st = [Sl.v (li L), Sl.v (.lst (cs.map ti)), Sl.v (.int L[j]), Sl.o 1 (.lst (new.map ti)), Sl.v (.int (i : Int)), s5] ∧ new.length + rem.length ≤ 4 * (cs.length - r.length) ∧ ∀ c ∈ new, c.length = j + 1 ∧ ∀ i, i < j + 1 → 0 ≤ nth c i ∧ nth c i ≤ nth L i) ∧ ∀ x ∈ rem, ∃ v : Int, x = .int v ∧ 0 ≤ v ∧ v ≤ L[j]) ?_ ⟨⟨new, _, rfl, ?_, g2⟩, ?_⟩ (fun st' h => ?_)
        · rintro x r2 st ⟨⟨new, s5, rfl, q1, q2⟩, q3⟩
          obtain ⟨v, rfl, v1, v2⟩ := q3 x (List.mem_cons_self ..)
          have q1 : new.length + (r2.length + 1) ≤ 4 * (cs.length - r.length) := q1
          have gc : new.length < cap := by
            unfold cap
            omega
          have lc : cs[i].length + 1 ≤ cap := by
            unfold cap
            omega
          refine ⟨_, ?_, ⟨new ++ [cs[i] ++ [v]], Sl.v (.int v), rfl, ?_, ?_⟩, fun y hy => q3 y (List.mem_cons_of_mem _ hy)⟩
          · simp [ec, ownL, gc, ti, lc]
          · simp
            omega
          · intro c hc
            rcases List.mem_append.mp hc with q | q
            · exact q2 c q
            · have q := List.mem_singleton.mp q
              subst q
              refine ⟨by simp [hci.1], fun i' hi' => ?_⟩
              rw [nth_app, hci.1]
              by_cases z : i' < j
              · rw [if_pos z]
                exact hci.2 i' z
              · have z2 : i' = j := by omega
                rw [if_neg z, if_pos z2, z2, hn]
                exact ⟨v1, v2⟩
        · unfold rangeD
          simp
          omega
        · intro x hx
          obtain ⟨v, hv, rfl⟩ := List.mem_map.mp hx
          have hv := List.mem_range.mp hv
          exact ⟨_, rfl, by omega, by omega⟩
        · obtain ⟨⟨new, s5, rfl, q1, q2⟩, _⟩ := h
          refine ⟨⟨new, _, _, rfl, by simpa using q1, q2⟩, by omega, fun y hy => g4 y (List.mem_cons_of_mem _ hy)⟩
      · intro x hx
        obtain ⟨i, hi, rfl⟩ := List.mem_map.mp hx
        exact ⟨i, rfl, List.mem_range.mp hi⟩
    · rintro st ⟨new, s4, s5, rfl, g1, g2⟩
      refine ⟨_, ?_, j + 1, new, Sl.v (.int L[j]), Sl.v (.lst (new.map ti)), s4, s5, rfl, (List.map_drop ..).symm, hj, ?_, g2⟩
      · simp [frzS]
      · rw [Nat.pow_succ]
        omega
  · rintro st ⟨j, cs, s2, s3, s4, s5, rfl, e1, e2, hcs⟩
    have hj : j = L.length := by
      have := congrArg List.length e1
      simp at this
      omega
    subst hj
    refine ⟨cs, by simp, fun c hc => ?_⟩
    exact hcs.2 c hc
end LawP

namespace LawP
open Py
def rwT (t : List Int × List Int × Int) : D := rw3 t.1 t.2.1 t.2.2
def RowT (L : List Int) (t : List Int × List Int × Int) : Prop := Row L t.1 t.2.1 t.2.2
def AllR (L : List Int) (rows : List (List Int × List Int × Int)) : Prop := ∀ t ∈ rows, RowT L t
theorem comp_ints {F : Nat → Int} {f : D → R (Option D)} {n : Nat} (h : ∀ i, i < n → f (.int (i : Int)) = .ok (some (.int (F i)))) : compD ((List.range n).map fun (i : Nat) => D.int (i : Int)) f = .ok (((List.range n).map F).map D.int) := by
  rw [comp_ok (g := fun x => match x with | .int i => some (.int (F i.toNat)) | _ => none) fun x hx => by
    obtain ⟨i, hi, rfl⟩ := List.mem_map.mp hx
    have hi := List.mem_range.mp hi
    simp [h i hi]]
  simp [List.filterMap_map, Function.comp_def]
theorem comp_li {F : Nat → Int} {f : D → R (Option D)} {n : Nat} (h : ∀ i, i < n → f (.int (i : Int)) = .ok (some (.int (F i)))) : R.map D.lst (compD ((List.range n).map fun (i : Nat) => D.int (i : Int)) f) = .ok (li ((List.range n).map F)) := by
  rw [comp_ints h]
  rfl
theorem nth_range {F : Nat → Int} {n i : Nat} (h : i < n) : nth ((List.range n).map F) i = F i := by
  unfold nth
  simp [List.getElem?_map, List.getElem?_range h]
def ruJ (ds L : List Int) (rem : List D) (st : St) : Prop := ∃ (rows : List (List Int × List Int × Int)) (dec : List D) (s7 s8 s9 s10 s11 s12 s13 : Sl),
  st = [Sl.v (li ds), Sl.v (.int 0), Sl.v (li L), Sl.v (.int 4), Sl.v (.bool false), Sl.o 1 (.lst (rows.map rwT)), Sl.o 1 (.lst dec), s7, s8, s9, s10, s11, s12, s13] ∧ rows.length + rem.length = 4 ∧ dec.length ≤ rows.length ∧ AllR L rows ∧ ∀ x ∈ rem, ∃ i : Nat, x = .int (i : Int) ∧ i < 4
theorem ruled_ok {L ds : List Int} (hL : Lim L) (hd : 24 ≤ ds.length) (h0 : ∀ x ∈ ds, 0 ≤ x) : ∃ rows : List (List Int × List Int × Int), f_law_ruled [li ds, .int 0, li L, .int 4, .bool false] = .ok (.lst (rows.map rwT)) ∧ rows.length = 4 ∧ AllR L rows := by
  have h5 := hL.1
  have hc := okcap (n := L.length) (by omega)
  suffices h : ∃ rows : List (List Int × List Int × Int), defD 14 5 b_law_ruled [li ds, .int 0, li L, .int 4, .bool false] = .ok (.lst (rows.map rwT)) ∧ rows.length = 4 ∧ AllR L rows by
    obtain ⟨rows, e, q⟩ := h
    refine ⟨rows, ?_, q⟩
    unfold f_law_ruled defN
    rw [e]
  simp only [defD, b_law_ruled]
  have h4 : ((4 : Int) ≤ (cap : Int)) ∧ -bigI ≤ (4 : Int) := by decide
  simp [List.replicate, newS, h4]
  refine stepP (Pr := fun r => ∃ rows : List (List Int × List Int × Int), r = .ok (.lst (rows.map rwT)) ∧ rows.length = 4 ∧ AllR L rows) (I := ruJ ds L []) ?_ ?_
  · have hJ : ruJ ds L (rangeD 0 4) [Sl.v (li ds), Sl.v (.int 0), Sl.v (li L), Sl.v (.int 4), Sl.v (.bool false), Sl.o 1 (.lst []), Sl.o 1 (.lst []), .u, .u, .u, .u, .u, .u, .u] := by
      refine ⟨[], [], _, _, _, _, _, _, _, rfl, by simp [rangeD], by simp, fun t ht => (by cases ht), fun x hx => ?_⟩
      obtain ⟨i, hi, rfl⟩ := List.mem_map.mp hx
      have hi := List.mem_range.mp hi
      exact ⟨i, by simp, by omega⟩
    refine forD_thru (fun rem st => ruJ ds L rem st) ?_ _ hJ
    rintro x r st ⟨rows, dec, s7, s8, s9, s10, s11, s12, s13, rfl, g1, g2, g3, g4⟩
    obtain ⟨i, rfl, hi⟩ := g4 x (List.mem_cons_self ..)
    have g5 : ∀ x ∈ r, ∃ i : Nat, x = .int (i : Int) ∧ i < 4 := fun y hy => g4 y (List.mem_cons_of_mem _ hy)
    have g1 : rows.length + (r.length + 1) = 4 := g1
    have n1 : mulOk 6 (i : Int) = true := mul_l (by decide)
    have e1 : idxD (li ds) (.int (6 * (i : Int) + 5)) = .ok (.int (nth ds (6 * i + 5))) := idx_li (xs := ds) (i := 6 * i + 5) (by omega)
    simp [n1, e1, hc, rangeD_nat]
    rw [comp_li (F := fun p => nth ds (6 * i + p)) fun p hp => by
      have e : idxD (li ds) (.int (6 * (i : Int) + (p : Int))) = .ok (.int (nth ds (6 * i + p))) := idx_li (xs := ds) (i := 6 * i + p) (by omega)
      simp [n1, e]]
    generalize hlv : (List.range L.length).map (fun p => nth ds (6 * i + p)) = lv
    have llv : lv.length = L.length := by
      rw [← hlv]
      simp
    have plv : ∀ p, p < L.length → 0 ≤ nth lv p := fun p hp => by
      rw [← hlv, nth_range hp]
      exact h0 _ (nth_mem (by omega))
    simp [hc, rangeD_nat]
    rw [comp_li (F := fun p => nth lv p % (nth L p + 1)) fun p hp => by
      have hl := hL.at hp
      have q : 0 < nth L p + 1 := by omega
      simp [idx_li (show p < lv.length by omega), idx_li hp, q]]
    generalize hcv : (List.range L.length).map (fun p => nth lv p % (nth L p + 1)) = c
    have lc : c.length = L.length := by
      rw [← hcv]
      simp
    have pc : ∀ p, p < L.length → 0 ≤ nth c p ∧ nth c p ≤ nth L p := fun p hp => by
      rw [← hcv, nth_range hp]
      have hl := hL.at hp
      have := Int.emod_nonneg (nth lv p) (show nth L p + 1 ≠ 0 by omega)
      have := Int.emod_lt_of_pos (nth lv p) (show 0 < nth L p + 1 by omega)
      omega
    obtain ⟨g, hg⟩ : ∃ g, nth ds (6 * i + 5) % 2 = g := ⟨_, rfl⟩
    have hgg : g = 1 ∨ g = 0 := by omega
    have gcap : rows.length < cap ∧ dec.length < cap := by
      unfold cap
      omega
    have fin1 : ∀ rule : List Int, Row L c rule g → ruJ ds L r [Sl.v (li ds), Sl.v (.int 0), Sl.v (li L), Sl.v (.int 4), Sl.v (.bool false), Sl.o 1 (.lst (rows.map rwT ++ [.tup [ti c, ti rule, .int g]])), Sl.o 1 (.lst (dec ++ [D.tup [ti c, .int g]])), Sl.v (.int (i : Int)), Sl.v (ti c), Sl.v (ti rule), Sl.v (.int g), Sl.v (li lv), s12, s13] := fun rule hr => by
      refine ⟨rows ++ [(c, rule, g)], dec ++ [D.tup [ti c, .int g]], Sl.v (.int (i : Int)), Sl.v (ti c), Sl.v (ti rule), Sl.v (.int g), Sl.v (li lv), s12, s13, ?_, ?_, ?_, ?_, g5⟩
      · simp [rwT, rw3]
      · simp
        omega
      · simp
        omega
      · intro t ht
        rcases List.mem_append.mp ht with q | q
        · exact g3 t q
        · have q := List.mem_singleton.mp q
          subst q
          exact hr
    have cc : Case L c := ⟨lc, pc⟩
    rcases hgg with rfl | rfl
    · simp [hg, hc, rangeD_nat]
      rw [comp_li (F := fun p => nth c p - nth lv p / 12 % (nth c p + 1)) fun p hp => by
        have q := pc p hp
        have q2 : 0 < nth c p + 1 := by omega
        have e : idxD (ti c) (.int (p : Int)) = .ok (.int (nth c p)) := idx_ti (by omega)
        simp [idx_li (show p < lv.length by omega), e, q2]]
      have hb : ∀ p, p < L.length → 0 ≤ nth c p - nth lv p / 12 % (nth c p + 1) ∧ nth c p - nth lv p / 12 % (nth c p + 1) ≤ nth c p := fun p hp => by
        have q := pc p hp
        have := Int.emod_nonneg (nth lv p / 12) (show nth c p + 1 ≠ 0 by omega)
        have := Int.emod_lt_of_pos (nth lv p / 12) (show 0 < nth c p + 1 by omega)
        omega
      have row : Row L c ((List.range L.length).map fun p => nth c p - nth lv p / 12 % (nth c p + 1)) 1 := by
        refine ⟨.inl rfl, cc, ⟨by simp, fun p hp => ?_⟩, (spk_iff (by simp [lc])).mpr fun p hp => ?_⟩
        · rw [nth_range hp]
          have := hb p hp
          have := pc p hp
          omega
        · rw [nth_range (by omega)]
          simp only [if_true]
          exact (hb p (by omega)).2
      simp [ownL, gcap]
      exact fin1 _ row
    · simp [hg, hc, rangeD_nat]
      rw [comp_li (F := fun p => nth c p + nth lv p / 12 % (nth L p - nth c p + 1)) fun p hp => by
        have q := pc p hp
        have q2 : 0 < nth L p - nth c p + 1 := by omega
        have e : idxD (ti c) (.int (p : Int)) = .ok (.int (nth c p)) := idx_ti (by omega)
        simp [idx_li (show p < lv.length by omega), idx_li hp, e, q2]]
      have hb : ∀ p, p < L.length → nth c p ≤ nth c p + nth lv p / 12 % (nth L p - nth c p + 1) ∧ nth c p + nth lv p / 12 % (nth L p - nth c p + 1) ≤ nth L p := fun p hp => by
        have q := pc p hp
        have := Int.emod_nonneg (nth lv p / 12) (show nth L p - nth c p + 1 ≠ 0 by omega)
        have := Int.emod_lt_of_pos (nth lv p / 12) (show 0 < nth L p - nth c p + 1 by omega)
        omega
      have row : Row L c ((List.range L.length).map fun p => nth c p + nth lv p / 12 % (nth L p - nth c p + 1)) 0 := by
        refine ⟨.inr rfl, cc, ⟨by simp, fun p hp => ?_⟩, (spk_iff (by simp [lc])).mpr fun p hp => ?_⟩
        · rw [nth_range hp]
          have := hb p hp
          have := pc p hp
          omega
        · rw [nth_range (by omega)]
          simp only [if_neg (show ¬ ((0 : Int) = 1) by decide)]
          exact (hb p (by omega)).1
      simp [ownL, gcap]
      exact fin1 _ row
  · rintro st ⟨rows, dec, s7, s8, s9, s10, s11, s12, s13, rfl, g1, g2, g3, g4⟩
    refine ⟨rows, ?_, by simpa using g1, g3⟩
    simp [ownL]
end LawP

namespace LawP
open Py
theorem nth_rep {n p : Nat} : nth (List.replicate n 0) p = 0 := by
  unfold nth
  rw [List.getD_eq_getElem?_getD, List.getElem?_replicate]
  split <;> rfl
theorem law_true : ∀ ns : List Int, ns.length ≤ 63 → f_law [.scr ns] = .ok (.bool true) := by
  intro ns _
  obtain ⟨d0, e0, l0, p0⟩ := draws_ok ns 0 11 (by decide)
  have e0 : f_law_draws [.scr ns, .int 0, .int 11] = .ok (li d0) := e0
  obtain ⟨pro, con, tops, e1, b1, b2⟩ := shape_ok d0 (by omega) p0
  obtain ⟨L, e2, hL⟩ := limits_ok b1 b2
  obtain ⟨cs, e3, hcs⟩ := cases_ok hL
  obtain ⟨d1, e4, l1, p1⟩ := draws_ok ns 1 24 (by decide)
  have e4 : f_law_draws [.scr ns, .int 1, .int 24] = .ok (li d1) := e4
  obtain ⟨rows, e5, lr, hr⟩ := ruled_ok hL (by omega) p1
  obtain ⟨d2, e6, l2, p2⟩ := draws_ok ns 2 60 (by decide)
  have e6 : f_law_draws [.scr ns, .int 2, .int 60] = .ok (li d2) := e6
  have h5 := hL.1
  have hs : L.length ≤ 1000 := by omega
  obtain ⟨r0, r1, r2, r3, rfl⟩ : ∃ r0 r1 r2 r3, rows = [r0, r1, r2, r3] := by
    match rows, lr with
    | [r0, r1, r2, r3], _ => exact ⟨r0, r1, r2, r3, rfl⟩
  have k0 := hr r0 (by simp)
  have k1 := hr r1 (by simp)
  have z0 : Row L r0.1 (List.replicate L.length 0) 1 := by
    refine ⟨.inl rfl, k0.o, ⟨by simp, fun p hp => ?_⟩, (spk_iff (by have := k0.o.1; simp; omega)).mpr fun p hp => ?_⟩
    · rw [nth_rep]
      have := hL.at hp
      omega
    · have := k0.o.1
      rw [nth_rep]
      simp only [if_true]
      exact (k0.o.2 p (by omega)).1
  have z1 : Row L r1.1 L 0 := by
    refine ⟨.inr rfl, k1.o, ⟨rfl, fun p hp => ?_⟩, (spk_iff (by have := k1.o.1; omega)).mpr fun p hp => ?_⟩
    · have := hL.at hp
      omega
    · have := k1.o.1
      simp only [if_neg (show ¬ ((0 : Int) = 1) by decide)]
      exact (k1.o.2 p (by omega)).2
  obtain ⟨all, hall, hR⟩ : ∃ all : List (List Int × List Int × Int), all = [r0, r1, r2, r3, (r0.1, List.replicate L.length 0, 1), (r1.1, L, 0)] ∧ AllR L all := by
    refine ⟨_, rfl, fun t ht => ?_⟩
    simp only [List.mem_cons, List.not_mem_nil, or_false] at ht
    rcases ht with rfl | rfl | rfl | rfl | rfl | rfl
    · exact k0
    · exact k1
    · exact hr _ (by simp)
    · exact hr _ (by simp)
    · exact z0
    · exact z1
  have cz : R.map D.lst (compD (L.map D.int) (fun x => R.ok (some (D.int 0)))) = .ok (li (List.replicate L.length 0)) := by
    rw [comp_ok (g := fun _ => some (D.int 0)) fun _ _ => rfl]
    show R.ok (D.lst _) = R.ok (D.lst _)
    congr 2
    generalize L = l
    induction l with
    | nil => rfl
    | cons x xs ih =>
      show D.int 0 :: _ = D.int 0 :: _
      rw [ih]
  have kt : ∀ xs : List Int, (ti xs).kept = true := fun xs => by
    show D.kepts (xs.map D.int) = true
    induction xs with
    | nil => rfl
    | cons x xs ih => exact ih
  have k3 : ∀ (a b : List Int) (g : Int), (D.tup [ti a, ti b, D.int g]).kept = true := fun a b g => by
    show ((ti a).kept && ((ti b).kept && true)) = true
    rw [kt, kt]
    rfl
  have cap4 : 4 < cap ∧ 5 < cap := by decide
  unfold f_law
  simp only [defD, b_law]
  have a0 : ∀ (t : List Int × List Int × Int), idxD (rwT t) (.int 0) = .ok (ti t.1) := fun _ => rfl
  simp [List.replicate, e0, e1, e2, e3, e4, e5, newS, ownL, atI_0, atI_1, a0, cz, okM_t, cap4, k3, frzS]
  have ea : [rwT r0, rwT r1, rwT r2, rwT r3, D.tup [ti r0.1, ti (List.replicate L.length 0), D.int 1], D.tup [ti r1.1, ti L, D.int 0]] = all.map rwT := by
    rw [hall]
    rfl
  rw [ea]
  have c12 : (12 : Int) ≤ (cap : Int) ∧ -bigI ≤ (12 : Int) := by decide
  refine fin_go (I := fun st => ∃ s6 s7 : Sl, st = [Sl.v (.scr ns), Sl.v (.tup [.str pro, .str con, ti tops]), Sl.v (li L), Sl.v (.lst (cs.map ti)), Sl.v (.lst (all.map rwT)), .u, s6, s7, .u, .u, .u]) ?_ ⟨_, _, rfl⟩ ?_
  · rintro x hx st ⟨s6, s7, rfl⟩
    obtain ⟨t, ht, rfl⟩ := List.mem_map.mp hx
    have hRt := hR t ht
    simp
    refine stepN (I := fun st => ∃ s7 : Sl, st = [Sl.v (.scr ns), Sl.v (.tup [.str pro, .str con, ti tops]), Sl.v (li L), Sl.v (.lst (cs.map ti)), Sl.v (.lst (all.map rwT)), .u, Sl.v (rwT t), s7, .u, .u, .u]) ?_ ?_
    · refine forD_to (fun rem st => (∀ x ∈ rem, ∃ c, x = ti c ∧ Case L c) ∧ ∃ s7 : Sl, st = [Sl.v (.scr ns), Sl.v (.tup [.str pro, .str con, ti tops]), Sl.v (li L), Sl.v (.lst (cs.map ti)), Sl.v (.lst (all.map rwT)), .u, Sl.v (rwT t), s7, .u, .u, .u]) ?_ ⟨fun x hx => ?_, _, rfl⟩ (fun st' h => h.2)
      · rintro x r st ⟨h1, s7, rfl⟩
        obtain ⟨c, rfl, hc⟩ := h1 _ (List.mem_cons_self ..)
        have ha := against_ok hs hRt hc
        have ha : f_law_against [rwT t, ti c, li L] = .ok (.bool true) := ha
        refine ⟨_, ?_, fun y hy => h1 y (List.mem_cons_of_mem _ hy), Sl.v (ti c), rfl⟩
        simp [ha]
      · obtain ⟨c, hc, rfl⟩ := List.mem_map.mp hx
        exact ⟨c, rfl, hcs c hc⟩
    · rintro st ⟨s7, rfl⟩
      have hown : Row L t.1 t.1 t.2.2 := ⟨hRt.hg, hRt.o, hRt.o, by
        refine (spk_iff rfl).mpr fun i hi => ?_
        split <;> exact Int.le_refl _⟩
      have ha := against_ok hs hown hRt.o
      have a2 : idxD (rwT t) (.int 2) = .ok (.int t.2.2) := rfl
      have ha : f_law_against [.tup [ti t.1, ti t.1, .int t.2.2], ti t.1, li L] = .ok (.bool true) := ha
      refine ⟨_, ?_, Sl.v (rwT t), s7, rfl⟩
      simp [a0, a2, ha]
  · rintro st ⟨s6, s7, rfl⟩
    have ck : ∀ i : Nat, i < 12 → ∃ c, f_law_case [li d2, .int (5 * (i : Int)), li L] = .ok (ti c) ∧ Case L c := fun i hi => case_ok (a := 5 * i) hL (by omega) p2
    have r12 : rangeD 0 12 = (List.range 12).map fun (i : Nat) => D.int (i : Int) := rangeD_nat 12
    obtain ⟨F, hF⟩ : ∃ F : Nat → List Int, ∀ i : Nat, i < 12 → f_law_case [li d2, .int (5 * (i : Int)), li L] = .ok (ti (F i)) ∧ Case L (F i) :=
      ⟨fun i => if h : i < 12 then Classical.choose (ck i h) else [], fun i h => by
        simp only [dif_pos h]
        exact Classical.choose_spec (ck i h)⟩
    have comp_F : ∀ f : D → R (Option D), (∀ i : Nat, i < 12 → f (.int (i : Int)) = .ok (some (ti (F i)))) → compD (rangeD 0 12) f = .ok (((List.range 12).map F).map ti) := fun f h => by
      rw [r12, comp_ok (g := fun x => match x with | .int i => some (ti (F i.toNat)) | _ => none) fun x hx => by
        obtain ⟨i, hi, rfl⟩ := List.mem_map.mp hx
        have hi := List.mem_range.mp hi
        simp [h i hi]]
      simp [List.filterMap_map, Function.comp_def]
    simp [e6, c12]
    rw [comp_F _ fun i hi => by
      have n5 : mulOk 5 (i : Int) = true := mul_l (by decide)
      simp [n5, (hF i hi).1]]
    generalize has : (List.range 12).map F = as
    have h7 : ∀ c ∈ as, Case L c := fun c hc => by
      rw [← has] at hc
      obtain ⟨i, hi, rfl⟩ := List.mem_map.mp hc
      exact (hF i (List.mem_range.mp hi)).2
    simp
    refine fin_go (I := fun st => ∃ s6 s7 : Sl, st = [Sl.v (.scr ns), Sl.v (.tup [.str pro, .str con, ti tops]), Sl.v (li L), Sl.v (.lst (cs.map ti)), Sl.v (.lst (all.map rwT)), .u, s6, s7, Sl.v (li d2), Sl.v (.lst (as.map ti)), .u]) ?_ ⟨_, _, rfl⟩ (fun st' _ => rfl)
    rintro x hx st ⟨s6, s7, rfl⟩
    obtain ⟨t, ht, rfl⟩ := List.mem_map.mp hx
    have hRt := hR t ht
    have q1 : f_law_chain [rwT t, .lst (as.map ti), li L] = .ok (.bool true) := chain_ok hs hRt h7
    have q2 : f_law_chain [rwT t, .lst (as.reverse.map ti), li L] = .ok (.bool true) := chain_ok hs hRt fun c hc => h7 c (List.mem_reverse.mp hc)
    rw [List.map_reverse] at q2
    refine ⟨_, ?_, Sl.v (rwT t), s7, rfl⟩
    simp [q1, q2]
end LawP

namespace LawP
open PySem PySem.Spec PyProof.Rows L2 Py
abbrev prg : Program := PySem.Challenge.pw_settledcases_k24_narrowed_rules
def top (i : Nat) : Stmt := prg.main.body.getD i (.Pass ⟨0, 0, 0, 0⟩)
def d_law_shape : He.DefD := ⟨("_law_shape", none), "_law_shape", "_law_shape", defArgs (top 13), defBody (top 13), defScope (top 13), [], []⟩
def d_law_limits : He.DefD := ⟨("_law_limits", none), "_law_limits", "_law_limits", defArgs (top 16), defBody (top 16), defScope (top 16), [], []⟩
def d_law_cases : He.DefD := ⟨("_law_cases", none), "_law_cases", "_law_cases", defArgs (top 17), defBody (top 17), defScope (top 17), [], []⟩
def d_law_above : He.DefD := ⟨("_law_above", none), "_law_above", "_law_above", defArgs (top 9), defBody (top 9), defScope (top 9), [], []⟩
def d_law_bounds : He.DefD := ⟨("_law_bounds", none), "_law_bounds", "_law_bounds", defArgs (top 18), defBody (top 18), defScope (top 18), [], []⟩
def d_law_ruled : He.DefD := ⟨("_law_ruled", none), "_law_ruled", "_law_ruled", defArgs (top 19), defBody (top 19), defScope (top 19), [], []⟩
def d_law_cell : He.DefD := ⟨("_law_cell", none), "_law_cell", "_law_cell", defArgs (top 14), defBody (top 14), defScope (top 14), [], []⟩
def d_law_draws : He.DefD := ⟨("_law_draws", none), "_law_draws", "_law_draws", defArgs (top 15), defBody (top 15), defScope (top 15), [], []⟩
def d_law_case : He.DefD := ⟨("_law_case", none), "_law_case", "_law_case", defArgs (top 20), defBody (top 20), defScope (top 20), [], []⟩
def d_law_speaks : He.DefD := ⟨("_law_speaks", none), "_law_speaks", "_law_speaks", defArgs (top 21), defBody (top 21), defScope (top 21), [], []⟩
def d_law_due : He.DefD := ⟨("_law_due", none), "_law_due", "_law_due", defArgs (top 22), defBody (top 22), defScope (top 22), [], []⟩
def d_at_least : He.DefD := ⟨("at_least", none), "at_least", "at_least", defArgs (top 4), defBody (top 4), defScope (top 4), [], []⟩
def d_speaks : He.DefD := ⟨("speaks", none), "speaks", "speaks", defArgs (top 6), defBody (top 6), defScope (top 6), [], []⟩
def d_narrowed : He.DefD := ⟨("narrowed", none), "narrowed", "narrowed", defArgs (top 7), defBody (top 7), defScope (top 7), [], []⟩
def d_law_same : He.DefD := ⟨("_law_same", none), "_law_same", "_law_same", defArgs (top 12), defBody (top 12), defScope (top 12), [], []⟩
def d_law_narrowed : He.DefD := ⟨("_law_narrowed", none), "_law_narrowed", "_law_narrowed", defArgs (top 23), defBody (top 23), defScope (top 23), [], []⟩
def d_law_is_whole : He.DefD := ⟨("_law_is_whole", none), "_law_is_whole", "_law_is_whole", defArgs (top 10), defBody (top 10), defScope (top 10), [], []⟩
def d_law_is_case : He.DefD := ⟨("_law_is_case", none), "_law_is_case", "_law_is_case", defArgs (top 11), defBody (top 11), defScope (top 11), [], []⟩
def d_law_held : He.DefD := ⟨("_law_held", none), "_law_held", "_law_held", defArgs (top 24), defBody (top 24), defScope (top 24), [], []⟩
def d_law_against : He.DefD := ⟨("_law_against", none), "_law_against", "_law_against", defArgs (top 25), defBody (top 25), defScope (top 25), [], []⟩
def d_law_chain : He.DefD := ⟨("_law_chain", none), "_law_chain", "_law_chain", defArgs (top 26), defBody (top 26), defScope (top 26), [], []⟩
def d_law : He.DefD := ⟨("law", none), "law", "law", defArgs (top 27), defBody (top 27), defScope (top 27), [], []⟩
def fn : List He.DefD := [d_law_shape, d_law_limits, d_law_cases, d_law_above, d_law_bounds, d_law_ruled, d_law_cell, d_law_draws, d_law_case, d_law_speaks, d_law_due, d_at_least, d_speaks, d_narrowed, d_law_same, d_law_narrowed, d_law_is_whole, d_law_is_case, d_law_held, d_law_against, d_law_chain, d_law]
def fa : List He.Fa := [.glo "_law_shape", .glo "_law_limits", .glo "_law_cases", .glo "_law_above", .glo "_law_bounds", .glo "_law_ruled", .glo "_law_cell", .glo "_law_draws", .glo "_law_case", .glo "_law_speaks", .glo "_law_due", .glo "at_least", .glo "speaks", .glo "narrowed", .glo "_law_same", .glo "_law_narrowed", .glo "_law_is_whole", .glo "_law_is_case", .glo "_law_held", .glo "_law_against", .glo "_law_chain", .glo "law", .free "abs", .free "bool", .free "int", .free "isinstance", .free "len", .free "list", .free "max", .free "min", .free "range", .free "str", .free "tuple", .glo "CourtError", .glo "NoRule", .exc "CourtError", .exc "NoRule", .exm "CourtError" "CourtError" true, .exm "NoRule" "CourtError" true]
def fr : List Str := ["abs", "bool", "int", "isinstance", "len", "list", "max", "min", "range", "str", "tuple"]
def exb (K : PySem.W.Frag) : List Bool := [xcB K "CourtError", xcB K "NoRule", kitB3 K "CourtError" "NoRule" false, kitB3 K "NoRule" "NoRule" true]
def yes : List Bool := [true, true, true, true]
def tab (K : PySem.W.Frag) : Py.Tab := ⟨fun c => match c with | 0 => He.ga K "CourtError" | 1 => He.ga K "NoRule" | _ => 0, fun _ => [], fun _ => none⟩
section
variable {P : Program} {w : World} {K : PySem.W.Frag} {mg : Str → Option Value} {base h : Heap}
structure Sit (K : PySem.W.Frag) (mg : Str → Option Value) : Prop where
  h : ∃ h : Heap, K.In h ∧ h.Ns mainGlobals mg
  c : He.SaysD fa fn K
  x : ∀ b ∈ exb K, b = true
theorem Sit.glo (Z : Sit K mg) {x : Str} (i : Nat) (e : fa[i]? = some (.glo x)) : mg x = some (.ref (He.ga K x)) := by
  obtain ⟨h, X, G⟩ := Z.h
  exact He.glo_ok X G (Z.c.fact i e)
theorem Sit.free (Z : Sit K mg) (x : Str) (hx : fr.contains x = true) : mg x = none := by
  obtain ⟨h, X, G⟩ := Z.h
  have hm : He.Fa.free x ∈ fa := by
    have hx : x ∈ fr := List.contains_iff_mem.mp hx
    have e : ∀ y ∈ fr, He.Fa.free y ∈ fa := by
      have : ∀ y ∈ fr, ∃ i : Nat, fa[i]? = some (He.Fa.free y) := by
        intro y hy
        simp only [fr, List.mem_cons, List.not_mem_nil, or_false] at hy
        rcases hy with rfl | rfl | rfl | rfl | rfl | rfl | rfl | rfl | rfl | rfl | rfl
        · exact ⟨22, rfl⟩
        · exact ⟨23, rfl⟩
        · exact ⟨24, rfl⟩
        · exact ⟨25, rfl⟩
        · exact ⟨26, rfl⟩
        · exact ⟨27, rfl⟩
        · exact ⟨28, rfl⟩
        · exact ⟨29, rfl⟩
        · exact ⟨30, rfl⟩
        · exact ⟨31, rfl⟩
        · exact ⟨32, rfl⟩
      intro y hy
      obtain ⟨i, hi⟩ := this y hy
      exact List.mem_of_getElem? hi
    exact e x hx
  exact He.free_ok X G (He.SaysD.facts Z.c hm)
theorem x_CourtError (Z : Sit K mg) : ExcOk P w K mg (tab K) "CourtError" 0 := by
  obtain ⟨h1, h2, h3, h4⟩ := He.exc_ok (Z.c.fact 35 (f := .exc "CourtError") rfl)
  exact ⟨Z.glo 33 rfl, h1, h2, h3, h4⟩
theorem x_NoRule (Z : Sit K mg) : ExcOk P w K mg (tab K) "NoRule" 1 := by
  obtain ⟨h1, h2, h3, h4⟩ := He.exc_ok (Z.c.fact 36 (f := .exc "NoRule") rfl)
  exact ⟨Z.glo 34 rfl, h1, h2, h3, h4⟩
abbrev ps_law_shape : List Str := ["_law_draws_here"]
abbrev nm_law_shape : List Str := ["_law_draws_here", "_law_pool", "_law_pro", "_law_con", "_law_tops", "_law_n", "_law_side", "_law_at", "_law_letter"]
theorem sc_law_shape : FnScope nm_law_shape ps_law_shape (defScope (top 13)) := C8.fnScope_by (by kernel_rfl)
theorem m_law_shape : mSs false false ⟨nm_law_shape, defScope (top 13), fr⟩ b_law_shape (defBody (top 13)) = true := by kernel_rfl
theorem ok_law_shape (Z : Sit K mg)  : Good P w K mg base (tab K) 1 "_law_shape" f_law_shape [] := by
  obtain ⟨fd, F⟩ := Z.c.def_ 0 (d := d_law_shape) rfl
  exact good_of (k := 0) (N := nm_law_shape) (ps := ps_law_shape) (b := b_law_shape) (Z.glo 0 rfl) F sc_law_shape (fun _ _ _ _ _ _ us hl => match us, hl with | [_], _ => rfl) Z.free m_law_shape (fun _ => rfl) trivial
abbrev ps_law_limits : List Str := ["_law_shape_here"]
abbrev nm_law_limits : List Str := ["_law_shape_here"]
theorem sc_law_limits : FnScope nm_law_limits ps_law_limits (defScope (top 16)) := C8.fnScope_by (by kernel_rfl)
theorem m_law_limits : mSs false false ⟨nm_law_limits, defScope (top 16), fr⟩ b_law_limits (defBody (top 16)) = true := by kernel_rfl
theorem ok_law_limits (Z : Sit K mg)  : Good P w K mg base (tab K) 1 "_law_limits" f_law_limits [] := by
  obtain ⟨fd, F⟩ := Z.c.def_ 1 (d := d_law_limits) rfl
  exact good_of (k := 0) (N := nm_law_limits) (ps := ps_law_limits) (b := b_law_limits) (Z.glo 1 rfl) F sc_law_limits (fun _ _ _ _ _ _ us hl => match us, hl with | [_], _ => rfl) Z.free m_law_limits (fun _ => rfl) trivial
abbrev ps_law_cases : List Str := ["_law_limits_here"]
abbrev nm_law_cases : List Str := ["_law_limits_here", "_law_cases_here", "_law_limit", "_law_longer", "_law_k", "_law_level"]
theorem sc_law_cases : FnScope nm_law_cases ps_law_cases (defScope (top 17)) := C8.fnScope_by (by kernel_rfl)
theorem m_law_cases : mSs false false ⟨nm_law_cases, defScope (top 17), fr⟩ b_law_cases (defBody (top 17)) = true := by kernel_rfl
theorem ok_law_cases (Z : Sit K mg)  : Good P w K mg base (tab K) 1 "_law_cases" f_law_cases [] := by
  obtain ⟨fd, F⟩ := Z.c.def_ 2 (d := d_law_cases) rfl
  exact good_of (k := 0) (N := nm_law_cases) (ps := ps_law_cases) (b := b_law_cases) (Z.glo 2 rfl) F sc_law_cases (fun _ _ _ _ _ _ us hl => match us, hl with | [_], _ => rfl) Z.free m_law_cases (fun _ => rfl) trivial
abbrev ps_law_above : List Str := ["_law_x", "_law_y"]
abbrev nm_law_above : List Str := ["_law_x", "_law_y", "_law_p"]
theorem sc_law_above : FnScope nm_law_above ps_law_above (defScope (top 9)) := C8.fnScope_by (by kernel_rfl)
theorem m_law_above : mSs false false ⟨nm_law_above, defScope (top 9), fr⟩ b_law_above (defBody (top 9)) = true := by kernel_rfl
theorem ok_law_above (Z : Sit K mg)  : Good P w K mg base (tab K) 1 "_law_above" f_law_above [] := by
  obtain ⟨fd, F⟩ := Z.c.def_ 3 (d := d_law_above) rfl
  exact good_of (k := 0) (N := nm_law_above) (ps := ps_law_above) (b := b_law_above) (Z.glo 3 rfl) F sc_law_above (fun _ _ _ _ _ _ us hl => match us, hl with | [_, _], _ => rfl) Z.free m_law_above (fun _ => rfl) trivial
abbrev ps_law_bounds : List Str := ["_law_rows", "_law_top", "_law_case_here"]
abbrev nm_law_bounds : List Str := ["_law_rows", "_law_top", "_law_case_here", "_law_least", "_law_most", "_law_row"]
theorem sc_law_bounds : FnScope nm_law_bounds ps_law_bounds (defScope (top 18)) := C8.fnScope_by (by kernel_rfl)
theorem m_law_bounds : mSs false false ⟨nm_law_bounds, defScope (top 18), fr⟩ b_law_bounds (defBody (top 18)) = true := by kernel_rfl
theorem ok_law_bounds (Z : Sit K mg) (g_law_above : Good P w K mg base (tab K) 1 "_law_above" f_law_above []) : Good P w K mg base (tab K) 2 "_law_bounds" f_law_bounds [] := by
  obtain ⟨fd, F⟩ := Z.c.def_ 4 (d := d_law_bounds) rfl
  exact good_of (k := 1) (N := nm_law_bounds) (ps := ps_law_bounds) (b := b_law_bounds) (Z.glo 4 rfl) F sc_law_bounds (fun _ _ _ _ _ _ us hl => match us, hl with | [_, _, _], _ => rfl) Z.free m_law_bounds (fun _ => rfl) ⟨(Good.mono g_law_above (by decide)), (Good.mono g_law_above (by decide)), trivial⟩
abbrev ps_law_ruled : List Str := ["_law_draws_here", "_law_at", "_law_limits_here", "_law_many", "_law_kept"]
abbrev nm_law_ruled : List Str := ["_law_draws_here", "_law_at", "_law_limits_here", "_law_many", "_law_kept", "_law_rows", "_law_decided", "_law_n", "_law_case_here", "_law_rule", "_law_grade", "_law_levels", "_law_span", "_law_p"]
theorem sc_law_ruled : FnScope nm_law_ruled ps_law_ruled (defScope (top 19)) := C8.fnScope_by (by kernel_rfl)
theorem m_law_ruled : mSs true false ⟨nm_law_ruled, defScope (top 19), fr⟩ b_law_ruled (defBody (top 19)) = true := by kernel_rfl
theorem ok_law_ruled (Z : Sit K mg) (g_law_bounds : Good P w K mg base (tab K) 2 "_law_bounds" f_law_bounds []) : GoodN P w K mg base (tab K) 3 "_law_ruled" f_law_ruled [] := by
  obtain ⟨fd, F⟩ := Z.c.def_ 5 (d := d_law_ruled) rfl
  exact goodN_of (k := 2) (N := nm_law_ruled) (ps := ps_law_ruled) (b := b_law_ruled) (Z.glo 5 rfl) F sc_law_ruled (fun _ _ _ _ _ _ us hl => match us, hl with | [_, _, _, _, _], _ => rfl) Z.free m_law_ruled (fun _ => rfl) ⟨(Good.mono g_law_bounds (by decide)), trivial⟩
abbrev ps_law_cell : List Str := ["_law_script", "_law_k"]
abbrev nm_law_cell : List Str := ["_law_script", "_law_k"]
theorem sc_law_cell : FnScope nm_law_cell ps_law_cell (defScope (top 14)) := C8.fnScope_by (by kernel_rfl)
theorem m_law_cell : mSs false false ⟨nm_law_cell, defScope (top 14), fr⟩ b_law_cell (defBody (top 14)) = true := by kernel_rfl
theorem ok_law_cell (Z : Sit K mg)  : Good P w K mg base (tab K) 1 "_law_cell" f_law_cell [] := by
  obtain ⟨fd, F⟩ := Z.c.def_ 6 (d := d_law_cell) rfl
  exact good_of (k := 0) (N := nm_law_cell) (ps := ps_law_cell) (b := b_law_cell) (Z.glo 6 rfl) F sc_law_cell (fun _ _ _ _ _ _ us hl => match us, hl with | [_, _], _ => rfl) Z.free m_law_cell (fun _ => rfl) trivial
abbrev ps_law_draws : List Str := ["_law_script", "_law_k", "_law_many"]
abbrev nm_law_draws : List Str := ["_law_script", "_law_k", "_law_many", "_law_cell_here", "_law_seed", "_law_draws_here", "_law_n", "_law_one", "_law_two"]
theorem sc_law_draws : FnScope nm_law_draws ps_law_draws (defScope (top 15)) := C8.fnScope_by (by kernel_rfl)
theorem m_law_draws : mSs false false ⟨nm_law_draws, defScope (top 15), fr⟩ b_law_draws (defBody (top 15)) = true := by kernel_rfl
theorem ok_law_draws (Z : Sit K mg) (g_law_cell : Good P w K mg base (tab K) 1 "_law_cell" f_law_cell []) : Good P w K mg base (tab K) 2 "_law_draws" f_law_draws [] := by
  obtain ⟨fd, F⟩ := Z.c.def_ 7 (d := d_law_draws) rfl
  exact good_of (k := 1) (N := nm_law_draws) (ps := ps_law_draws) (b := b_law_draws) (Z.glo 7 rfl) F sc_law_draws (fun _ _ _ _ _ _ us hl => match us, hl with | [_, _, _], _ => rfl) Z.free m_law_draws (fun _ => rfl) ⟨(Good.mono g_law_cell (by decide)), trivial⟩
abbrev ps_law_case : List Str := ["_law_draws_here", "_law_at", "_law_limits_here"]
abbrev nm_law_case : List Str := ["_law_draws_here", "_law_at", "_law_limits_here", "_law_p"]
theorem sc_law_case : FnScope nm_law_case ps_law_case (defScope (top 20)) := C8.fnScope_by (by kernel_rfl)
theorem m_law_case : mSs false false ⟨nm_law_case, defScope (top 20), fr⟩ b_law_case (defBody (top 20)) = true := by kernel_rfl
theorem ok_law_case (Z : Sit K mg)  : Good P w K mg base (tab K) 1 "_law_case" f_law_case [] := by
  obtain ⟨fd, F⟩ := Z.c.def_ 8 (d := d_law_case) rfl
  exact good_of (k := 0) (N := nm_law_case) (ps := ps_law_case) (b := b_law_case) (Z.glo 8 rfl) F sc_law_case (fun _ _ _ _ _ _ us hl => match us, hl with | [_, _, _], _ => rfl) Z.free m_law_case (fun _ => rfl) trivial
abbrev ps_law_speaks : List Str := ["_law_row", "_law_case_here"]
abbrev nm_law_speaks : List Str := ["_law_row", "_law_case_here"]
theorem sc_law_speaks : FnScope nm_law_speaks ps_law_speaks (defScope (top 21)) := C8.fnScope_by (by kernel_rfl)
theorem m_law_speaks : mSs false false ⟨nm_law_speaks, defScope (top 21), fr⟩ b_law_speaks (defBody (top 21)) = true := by kernel_rfl
theorem ok_law_speaks (Z : Sit K mg) (g_law_above : Good P w K mg base (tab K) 1 "_law_above" f_law_above []) : Good P w K mg base (tab K) 2 "_law_speaks" f_law_speaks [] := by
  obtain ⟨fd, F⟩ := Z.c.def_ 9 (d := d_law_speaks) rfl
  exact good_of (k := 1) (N := nm_law_speaks) (ps := ps_law_speaks) (b := b_law_speaks) (Z.glo 9 rfl) F sc_law_speaks (fun _ _ _ _ _ _ us hl => match us, hl with | [_, _], _ => rfl) Z.free m_law_speaks (fun _ => rfl) ⟨(Good.mono g_law_above (by decide)), (Good.mono g_law_above (by decide)), trivial⟩
abbrev ps_law_due : List Str := ["_law_row", "_law_case_here"]
abbrev nm_law_due : List Str := ["_law_row", "_law_case_here", "_law_own", "_law_places", "_law_by", "_law_p", "_law_rule", "_law_level"]
theorem sc_law_due : FnScope nm_law_due ps_law_due (defScope (top 22)) := C8.fnScope_by (by kernel_rfl)
theorem m_law_due : mSs false false ⟨nm_law_due, defScope (top 22), fr⟩ b_law_due (defBody (top 22)) = true := by kernel_rfl
theorem ok_law_due (Z : Sit K mg) (g_law_speaks : Good P w K mg base (tab K) 2 "_law_speaks" f_law_speaks []) : Good P w K mg base (tab K) 3 "_law_due" f_law_due [] := by
  obtain ⟨fd, F⟩ := Z.c.def_ 10 (d := d_law_due) rfl
  exact good_of (k := 2) (N := nm_law_due) (ps := ps_law_due) (b := b_law_due) (Z.glo 10 rfl) F sc_law_due (fun _ _ _ _ _ _ us hl => match us, hl with | [_, _], _ => rfl) Z.free m_law_due (fun _ => rfl) ⟨(Good.mono g_law_speaks (by decide)), trivial⟩
abbrev ps_at_least : List Str := ["x", "y"]
abbrev nm_at_least : List Str := ["x", "y", "place"]
theorem sc_at_least : FnScope nm_at_least ps_at_least (defScope (top 4)) := C8.fnScope_by (by kernel_rfl)
theorem m_at_least : mSs false false ⟨nm_at_least, defScope (top 4), fr⟩ b_at_least (defBody (top 4)) = true := by kernel_rfl
theorem ok_at_least (Z : Sit K mg)  : Good P w K mg base (tab K) 1 "at_least" f_at_least [] := by
  obtain ⟨fd, F⟩ := Z.c.def_ 11 (d := d_at_least) rfl
  exact good_of (k := 0) (N := nm_at_least) (ps := ps_at_least) (b := b_at_least) (Z.glo 11 rfl) F sc_at_least (fun _ _ _ _ _ _ us hl => match us, hl with | [_, _], _ => rfl) Z.free m_at_least (fun _ => rfl) trivial
abbrev ps_speaks : List Str := ["row", "case"]
abbrev nm_speaks : List Str := ["row", "case", "_", "rule", "grade"]
theorem sc_speaks : FnScope nm_speaks ps_speaks (defScope (top 6)) := C8.fnScope_by (by kernel_rfl)
theorem m_speaks : mSs false false ⟨nm_speaks, defScope (top 6), fr⟩ b_speaks (defBody (top 6)) = true := by kernel_rfl
theorem ok_speaks (Z : Sit K mg) (g_at_least : Good P w K mg base (tab K) 1 "at_least" f_at_least []) : Good P w K mg base (tab K) 2 "speaks" f_speaks [] := by
  obtain ⟨fd, F⟩ := Z.c.def_ 12 (d := d_speaks) rfl
  exact good_of (k := 1) (N := nm_speaks) (ps := ps_speaks) (b := b_speaks) (Z.glo 12 rfl) F sc_speaks (fun _ _ _ _ _ _ us hl => match us, hl with | [_, _], _ => rfl) Z.free m_speaks (fun _ => rfl) ⟨(Good.mono g_at_least (by decide)), (Good.mono g_at_least (by decide)), trivial⟩
abbrev ps_narrowed : List Str := ["row", "case"]
abbrev nm_narrowed : List Str := ["row", "case", "own", "rule", "grade", "by", "place", "k"]
theorem sc_narrowed : FnScope nm_narrowed ps_narrowed (defScope (top 7)) := C8.fnScope_by (by kernel_rfl)
theorem m_narrowed : mSs false false ⟨nm_narrowed, defScope (top 7), fr⟩ b_narrowed (defBody (top 7)) = true := by kernel_rfl
theorem ok_narrowed (Z : Sit K mg) (g_speaks : Good P w K mg base (tab K) 2 "speaks" f_speaks []) : Good P w K mg base (tab K) 3 "narrowed" f_narrowed [] := by
  obtain ⟨fd, F⟩ := Z.c.def_ 13 (d := d_narrowed) rfl
  exact good_of (k := 2) (N := nm_narrowed) (ps := ps_narrowed) (b := b_narrowed) (Z.glo 13 rfl) F sc_narrowed (fun _ _ _ _ _ _ us hl => match us, hl with | [_, _], _ => rfl) Z.free m_narrowed (fun _ => rfl) ⟨(Good.mono g_speaks (by decide)), (Good.mono g_speaks (by decide)), (x_NoRule Z), trivial⟩
abbrev ps_law_same : List Str := ["_law_told", "_law_due_here"]
abbrev nm_law_same : List Str := ["_law_told", "_law_due_here", "_law_k"]
theorem sc_law_same : FnScope nm_law_same ps_law_same (defScope (top 12)) := C8.fnScope_by (by kernel_rfl)
theorem m_law_same (g : Sem) : mSs false false ⟨nm_law_same, defScope (top 12), fr⟩ (b_law_same g) (defBody (top 12)) = true := by kernel_rfl
theorem ok_law_same (Z : Sit K mg)  : Good P w K mg base (tab K) 8 "_law_same" f_law_same [] := by
  obtain ⟨fd, F⟩ := Z.c.def_ 14 (d := d_law_same) rfl
  exact good_rec (k := 0) (j := 0) (N := nm_law_same) (ps := ps_law_same) (b := b_law_same) (Z.glo 14 rfl) F sc_law_same (fun _ _ _ _ _ _ us hl => match us, hl with | [_, _], _ => rfl) Z.free m_law_same (fun _ => rfl) (fun g j hj gg => ⟨gg, trivial⟩) 8
abbrev ps_law_narrowed : List Str := ["_law_row", "_law_case_here"]
abbrev nm_law_narrowed : List Str := ["_law_row", "_law_case_here", "e"]
theorem sc_law_narrowed : FnScope nm_law_narrowed ps_law_narrowed (defScope (top 23)) := C8.fnScope_by (by kernel_rfl)
theorem m_law_narrowed : mSs false false ⟨nm_law_narrowed, defScope (top 23), fr⟩ b_law_narrowed (defBody (top 23)) = true := by kernel_rfl
theorem ok_law_narrowed (Z : Sit K mg) (g_narrowed : Good P w K mg base (tab K) 3 "narrowed" f_narrowed []) : Good P w K mg base (tab K) 4 "_law_narrowed" f_law_narrowed [] := by
  obtain ⟨fd, F⟩ := Z.c.def_ 15 (d := d_law_narrowed) rfl
  exact good_of (k := 3) (N := nm_law_narrowed) (ps := ps_law_narrowed) (b := b_law_narrowed) (Z.glo 15 rfl) F sc_law_narrowed (fun _ _ _ _ _ _ us hl => match us, hl with | [_, _], _ => rfl) Z.free m_law_narrowed (fun _ => rfl) ⟨⟨He.ga K "CourtError", Z.glo 33 rfl, fun c hc => match c, hc with | 0, _ => ⟨He.exm_ok (Z.c.fact 37 (f := .exm "CourtError" "CourtError" true) rfl), xcB_ok (Z.x _ (List.mem_of_getElem? (i := 0) rfl))⟩ | 1, _ => ⟨He.exm_ok (Z.c.fact 38 (f := .exm "NoRule" "CourtError" true) rfl), xcB_ok (Z.x _ (List.mem_of_getElem? (i := 1) rfl))⟩ | (n + 2), hc => absurd hc (by simp)⟩, (Good.mono g_narrowed (by decide)), ⟨⟨He.ga K "NoRule", Z.glo 34 rfl, fun c hc => match c, hc with | 0, _ => kitB3_ok (Z.x _ (List.mem_of_getElem? (i := 2) rfl)) | 1, _ => kitB3_ok (Z.x _ (List.mem_of_getElem? (i := 3) rfl)) | (n + 2), hc => absurd hc (by simp)⟩⟩, trivial⟩
abbrev ps_law_is_whole : List Str := ["_law_told"]
abbrev nm_law_is_whole : List Str := ["_law_told"]
theorem sc_law_is_whole : FnScope nm_law_is_whole ps_law_is_whole (defScope (top 10)) := C8.fnScope_by (by kernel_rfl)
theorem m_law_is_whole : mSs false false ⟨nm_law_is_whole, defScope (top 10), fr⟩ b_law_is_whole (defBody (top 10)) = true := by kernel_rfl
theorem ok_law_is_whole (Z : Sit K mg)  : Good P w K mg base (tab K) 1 "_law_is_whole" f_law_is_whole [] := by
  obtain ⟨fd, F⟩ := Z.c.def_ 16 (d := d_law_is_whole) rfl
  exact good_of (k := 0) (N := nm_law_is_whole) (ps := ps_law_is_whole) (b := b_law_is_whole) (Z.glo 16 rfl) F sc_law_is_whole (fun _ _ _ _ _ _ us hl => match us, hl with | [_], _ => rfl) Z.free m_law_is_whole (fun _ => rfl) trivial
abbrev ps_law_is_case : List Str := ["_law_told", "_law_limits_here"]
abbrev nm_law_is_case : List Str := ["_law_told", "_law_limits_here", "_law_p"]
theorem sc_law_is_case : FnScope nm_law_is_case ps_law_is_case (defScope (top 11)) := C8.fnScope_by (by kernel_rfl)
theorem m_law_is_case : mSs false false ⟨nm_law_is_case, defScope (top 11), fr⟩ b_law_is_case (defBody (top 11)) = true := by kernel_rfl
theorem ok_law_is_case (Z : Sit K mg) (g_law_is_whole : Good P w K mg base (tab K) 1 "_law_is_whole" f_law_is_whole []) : Good P w K mg base (tab K) 2 "_law_is_case" f_law_is_case [] := by
  obtain ⟨fd, F⟩ := Z.c.def_ 17 (d := d_law_is_case) rfl
  exact good_of (k := 1) (N := nm_law_is_case) (ps := ps_law_is_case) (b := b_law_is_case) (Z.glo 17 rfl) F sc_law_is_case (fun _ _ _ _ _ _ us hl => match us, hl with | [_, _], _ => rfl) Z.free m_law_is_case (fun _ => rfl) ⟨(Good.mono g_law_is_whole (by decide)), trivial⟩
abbrev ps_law_held : List Str := ["_law_row", "_law_case_here", "_law_told", "_law_limits_here"]
abbrev nm_law_held : List Str := ["_law_row", "_law_case_here", "_law_told", "_law_limits_here", "_law_p"]
theorem sc_law_held : FnScope nm_law_held ps_law_held (defScope (top 24)) := C8.fnScope_by (by kernel_rfl)
theorem m_law_held : mSs false false ⟨nm_law_held, defScope (top 24), fr⟩ b_law_held (defBody (top 24)) = true := by kernel_rfl
theorem ok_law_held (Z : Sit K mg) (g_law_above : Good P w K mg base (tab K) 1 "_law_above" f_law_above []) (g_law_speaks : Good P w K mg base (tab K) 2 "_law_speaks" f_law_speaks []) (g_law_is_case : Good P w K mg base (tab K) 2 "_law_is_case" f_law_is_case []) : Good P w K mg base (tab K) 3 "_law_held" f_law_held [] := by
  obtain ⟨fd, F⟩ := Z.c.def_ 18 (d := d_law_held) rfl
  exact good_of (k := 2) (N := nm_law_held) (ps := ps_law_held) (b := b_law_held) (Z.glo 18 rfl) F sc_law_held (fun _ _ _ _ _ _ us hl => match us, hl with | [_, _, _, _], _ => rfl) Z.free m_law_held (fun _ => rfl) ⟨(Good.mono g_law_is_case (by decide)), (Good.mono g_law_speaks (by decide)), (Good.mono g_law_speaks (by decide)), (Good.mono g_law_above (by decide)), (Good.mono g_law_above (by decide)), (Good.mono g_law_speaks (by decide)), trivial⟩
abbrev ps_law_against : List Str := ["_law_row", "_law_case_here", "_law_limits_here"]
abbrev nm_law_against : List Str := ["_law_row", "_law_case_here", "_law_limits_here", "_law_due_here", "_law_told"]
theorem sc_law_against : FnScope nm_law_against ps_law_against (defScope (top 25)) := C8.fnScope_by (by kernel_rfl)
theorem m_law_against : mSs false false ⟨nm_law_against, defScope (top 25), fr⟩ b_law_against (defBody (top 25)) = true := by kernel_rfl
theorem ok_law_against (Z : Sit K mg) (g_law_due : Good P w K mg base (tab K) 3 "_law_due" f_law_due []) (g_narrowed : Good P w K mg base (tab K) 3 "narrowed" f_narrowed []) (g_law_same : Good P w K mg base (tab K) 8 "_law_same" f_law_same []) (g_law_narrowed : Good P w K mg base (tab K) 4 "_law_narrowed" f_law_narrowed []) (g_law_held : Good P w K mg base (tab K) 3 "_law_held" f_law_held []) : Good P w K mg base (tab K) 9 "_law_against" f_law_against [] := by
  obtain ⟨fd, F⟩ := Z.c.def_ 19 (d := d_law_against) rfl
  exact good_of (k := 8) (N := nm_law_against) (ps := ps_law_against) (b := b_law_against) (Z.glo 19 rfl) F sc_law_against (fun _ _ _ _ _ _ us hl => match us, hl with | [_, _, _], _ => rfl) Z.free m_law_against (fun _ => rfl) ⟨(Good.mono g_law_due (by decide)), (Good.mono g_law_same (by decide)), (Good.mono g_law_narrowed (by decide)), (Good.mono g_law_same (by decide)), (Good.mono g_law_narrowed (by decide)), (Good.mono g_narrowed (by decide)), (Good.mono g_law_same (by decide)), (Good.mono g_law_held (by decide)), (Good.mono g_law_same (by decide)), (Good.mono g_narrowed (by decide)), trivial⟩
abbrev ps_law_chain : List Str := ["_law_row", "_law_against_here", "_law_limits_here"]
abbrev nm_law_chain : List Str := ["_law_row", "_law_against_here", "_law_limits_here", "_law_here", "_law_case_here", "_law_due_here", "_law_told"]
theorem sc_law_chain : FnScope nm_law_chain ps_law_chain (defScope (top 26)) := C8.fnScope_by (by kernel_rfl)
theorem m_law_chain : mSs false false ⟨nm_law_chain, defScope (top 26), fr⟩ b_law_chain (defBody (top 26)) = true := by kernel_rfl
theorem ok_law_chain (Z : Sit K mg) (g_law_speaks : Good P w K mg base (tab K) 2 "_law_speaks" f_law_speaks []) (g_law_due : Good P w K mg base (tab K) 3 "_law_due" f_law_due []) (g_law_same : Good P w K mg base (tab K) 8 "_law_same" f_law_same []) (g_law_narrowed : Good P w K mg base (tab K) 4 "_law_narrowed" f_law_narrowed []) (g_law_held : Good P w K mg base (tab K) 3 "_law_held" f_law_held []) : Good P w K mg base (tab K) 9 "_law_chain" f_law_chain [] := by
  obtain ⟨fd, F⟩ := Z.c.def_ 20 (d := d_law_chain) rfl
  exact good_of (k := 8) (N := nm_law_chain) (ps := ps_law_chain) (b := b_law_chain) (Z.glo 20 rfl) F sc_law_chain (fun _ _ _ _ _ _ us hl => match us, hl with | [_, _, _], _ => rfl) Z.free m_law_chain (fun _ => rfl) ⟨(Good.mono g_law_due (by decide)), (Good.mono g_law_narrowed (by decide)), (Good.mono g_law_same (by decide)), (Good.mono g_law_held (by decide)), (Good.mono g_law_speaks (by decide)), (Good.mono g_law_due (by decide)), trivial⟩
abbrev ps_law : List Str := ["_law_script"]
abbrev nm_law : List Str := ["_law_script", "_law_shape_here", "_law_limits_here", "_law_cases_here", "_law_rows", "_law_limit", "_law_row", "_law_case_here", "_law_draws_here", "_law_against_here", "_law_n"]
theorem sc_law : FnScope nm_law ps_law (defScope (top 27)) := C8.fnScope_by (by kernel_rfl)
theorem m_law : mSs false false ⟨nm_law, defScope (top 27), fr⟩ b_law (defBody (top 27)) = true := by kernel_rfl
theorem facts (Z : Sit K mg) : ∃ fd : FuncData, (∀ (s : Shared) (u : Value), BindsTo s fd ⟨[u], []⟩ [("_law_script", u)]) ∧ ∀ base : Heap, FnOk P w K mg base (L2.CX P w) 10 (He.ga K "law") fd ps_law (spOf K (tab K) 1 f_law) := by
  have g_law_shape := fun base : Heap => ok_law_shape (P := P) (w := w) (base := base) Z 
  have g_law_limits := fun base : Heap => ok_law_limits (P := P) (w := w) (base := base) Z 
  have g_law_cases := fun base : Heap => ok_law_cases (P := P) (w := w) (base := base) Z 
  have g_law_above := fun base : Heap => ok_law_above (P := P) (w := w) (base := base) Z 
  have g_law_bounds := fun base : Heap => ok_law_bounds (P := P) (w := w) (base := base) Z (g_law_above base)
  have g_law_ruled := fun base : Heap => ok_law_ruled (P := P) (w := w) (base := base) Z (g_law_bounds base)
  have g_law_cell := fun base : Heap => ok_law_cell (P := P) (w := w) (base := base) Z 
  have g_law_draws := fun base : Heap => ok_law_draws (P := P) (w := w) (base := base) Z (g_law_cell base)
  have g_law_case := fun base : Heap => ok_law_case (P := P) (w := w) (base := base) Z 
  have g_law_speaks := fun base : Heap => ok_law_speaks (P := P) (w := w) (base := base) Z (g_law_above base)
  have g_law_due := fun base : Heap => ok_law_due (P := P) (w := w) (base := base) Z (g_law_speaks base)
  have g_at_least := fun base : Heap => ok_at_least (P := P) (w := w) (base := base) Z 
  have g_speaks := fun base : Heap => ok_speaks (P := P) (w := w) (base := base) Z (g_at_least base)
  have g_narrowed := fun base : Heap => ok_narrowed (P := P) (w := w) (base := base) Z (g_speaks base)
  have g_law_same := fun base : Heap => ok_law_same (P := P) (w := w) (base := base) Z 
  have g_law_narrowed := fun base : Heap => ok_law_narrowed (P := P) (w := w) (base := base) Z (g_narrowed base)
  have g_law_is_whole := fun base : Heap => ok_law_is_whole (P := P) (w := w) (base := base) Z 
  have g_law_is_case := fun base : Heap => ok_law_is_case (P := P) (w := w) (base := base) Z (g_law_is_whole base)
  have g_law_held := fun base : Heap => ok_law_held (P := P) (w := w) (base := base) Z (g_law_above base) (g_law_speaks base) (g_law_is_case base)
  have g_law_against := fun base : Heap => ok_law_against (P := P) (w := w) (base := base) Z (g_law_due base) (g_narrowed base) (g_law_same base) (g_law_narrowed base) (g_law_held base)
  have g_law_chain := fun base : Heap => ok_law_chain (P := P) (w := w) (base := base) Z (g_law_speaks base) (g_law_due base) (g_law_same base) (g_law_narrowed base) (g_law_held base)
  obtain ⟨fd, F⟩ := Z.c.def_ 21 (d := d_law) rfl
  have b := FunD.bindsA (ps := ps_law) F (fun _ _ _ _ _ _ us hl => match us, hl with | [_], _ => rfl)
  refine ⟨fd, fun s u => b s [u] rfl, fun base => ?_⟩
  have g_law_shape := g_law_shape base
  have g_law_limits := g_law_limits base
  have g_law_cases := g_law_cases base
  have g_law_ruled := g_law_ruled base
  have g_law_draws := g_law_draws base
  have g_law_case := g_law_case base
  have g_law_against := g_law_against base
  have g_law_chain := g_law_chain base
  exact def_ok (k := 9) (N := nm_law) (ps := ps_law) (b := b_law) F sc_law Z.free m_law (fun _ => rfl) (allP_mem ⟨(Good.mono g_law_shape (by decide)), (Good.mono g_law_draws (by decide)), (Good.mono g_law_limits (by decide)), (Good.mono g_law_cases (by decide)), (GoodN.mono g_law_ruled (by decide)), (Good.mono g_law_draws (by decide)), (Good.mono g_law_against (by decide)), (Good.mono g_law_against (by decide)), (Good.mono g_law_draws (by decide)), (Good.mono g_law_case (by decide)), (Good.mono g_law_chain (by decide)), (Good.mono g_law_chain (by decide)), trivial⟩)
end
def loose0 : List Str := ["CourtError", "NoRule", "at_least", "speaks", "narrowed", "_law_above", "_law_is_whole", "_law_is_case", "_law_same", "_law_shape", "_law_cell", "_law_draws", "_law_limits", "_law_cases", "_law_bounds", "_law_ruled", "_law_case", "_law_speaks", "_law_due", "_law_narrowed", "_law_held", "_law_against", "_law_chain"]
def loose : List Str := loose0
abbrev R : PySem.W.OpenRow := PySem.W.OpenLaw.row PySem.Challenge.rw_settledcases_k24_narrowed_rules
abbrev hk : PySem.W.Hook := hookP 4 fa fn exb yes (by decide)
def ob (s : PySem.W.SharedT) : He.AlD × List Bool := obsP 4 fa fn exb (HandSHeadRun.getT s)
theorem ob_eq (s : PySem.W.SharedT) : ob s = hk.obs s.abs := obsP_eq (HandSHeadRun.getT_eq s)
theorem run (w : World) : HandSHeadRun.RunEq R (PySem.W.view R.prog [27]) hk ob 4000 loose w := by
  intro os
  kernel_rfl
end LawP

open PySem PySem.W PySem.Calls PyProof.Rows
theorem PySem.Challenge.cw_settledcases_k24_narrowed_rules_holds : PySem.Challenge.rw_settledcases_k24_narrowed_rules.Holds := by
  w_on; o_law
  refine HandSHeadRun.head_any (r := PySem.W.OpenLaw.row PySem.Challenge.rw_settledcases_k24_narrowed_rules) (q := PySem.W.view (PySem.W.OpenLaw.row PySem.Challenge.rw_settledcases_k24_narrowed_rules).prog [27]) (H := LawP.hk) (ob := LawP.ob) (M := 4000) (loose := LawP.loose) (d := HandSHeadRun.topDef (PySem.W.OpenLaw.row PySem.Challenge.rw_settledcases_k24_narrowed_rules).prog 27) (kwd := []) LawP.ob_eq
    (by kernel_rfl) (fun s => by kernel_rfl) LawP.run (by kernel_rfl) (by kernel_rfl) (by kernel_rfl) (by rfl) (by first | assumption | decide +kernel) (by decide +kernel) ⟨rfl, rfl, rfl, rfl, rfl, by decide +kernel⟩ ?hw ?hc
  case hw => w_witness2
  case hc =>
    refine Py.law_end (l := PySem.Challenge.rw_settledcases_k24_narrowed_rules) (n := 63) (k := 10) (x := "_law_script") (g := LawP.f_law) rfl (by decide) (by kernel_rfl) ⟨rfl, by decide, by decide⟩ LawP.law_true ?F
    intro w mg fa h Y G hmg0
    obtain ⟨K, KX, c, x⟩ := Y
    have hmg : mg ("law" : PySem.Str) = some (.ref fa) := by
      have e : (HandSHeadRun.topDef (PySem.W.OpenLaw.row PySem.Challenge.rw_settledcases_k24_narrowed_rules).prog 27).name = ("law" : PySem.Str) := by kernel_rfl
      rw [← e]
      exact hmg0
    have Z : LawP.Sit K mg := ⟨⟨h, KX, G⟩, c, x⟩
    have e := hmg.symm.trans (Z.glo 21 rfl)
    cases e
    obtain ⟨fd, hb, hF⟩ := LawP.facts (P := (PySem.Challenge.rw_settledcases_k24_narrowed_rules).prog) (w := w) Z
    exact ⟨K, fd, LawP.tab K, KX, hb, fun base _ _ => hF base⟩
