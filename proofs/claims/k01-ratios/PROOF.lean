import PyProof.Rows.All
import Wide.All
import OpenK.AllK
import Wide.FinOn
import HandS.ForMost
import HandS.FStr
import HandS.Lambda
import HandS.JoinGen
import HandS.Exc
import HandS.ExcOwn
import HandS.CallSlots
import HandS.WordsExc
import HandS.Wide
import HandS.Deep
import HandS.EndTab
import KE.DataEq
import KE.DataFind
import KE.DataMinMax
import KE.SortData
import KE.DataAny
import PySem.Str
import HandS.Zip
import KE.KTupSum
import PyProof.TupleOfStr
import HandS.SortKw
import HandS.Style
import HandS.TryOnly
import KE.GoesZip
import KE.GoesEnum
import KE.GoesMore
import HandS.Defaults
import PySem.Syntax
import HandS.Comp
import HandS.Nested
import HandS.ExcValue
import HandS.GenList
import PyProof.GenComp
import HandS.AnyAll
import PyProof.TupleOfGen
import HandS.HeadHook4
import HandS.HeadWalk
import HandS.Head2
import HandS.Words
import PyProof.ExcBaseAll.ValueError
import PySem.Challenge.RW_chancestack_k01_ratios_in_least_terms
/-! Mini -/
set_option autoImplicit false
namespace Mini
open PySem

/-- values: trees are never changed; ref: an object of the own heap; clo: a lambda with what it has captured -/
inductive PV where
  | non | bl (b : Bool) | int (i : Int) | str (s : List Nat)
  | tup (xs : List PV) | lst (xs : List PV) | dic (kvs : List (PV × PV))
  | ref (n : Nat) | clo (i : Nat) (cap : List PV)
deriving Inhabited

/-- what may be changed -/
inductive Ob where
  | lst (xs : List PV) | dic (kvs : List (PV × PV)) | ins (c : Nat) (fs : List (Nat × PV))
deriving Inhabited
abbrev Hh := List Ob
abbrev Env := List (Option PV)

/-- outcome of an expression -/
inductive Rs (α : Type) where
  | ok (a : α) (h : Hh) | exc (c : Nat) (h : Hh) | bad
/-- outcome of a statement -/
inductive O where
  | nx (env : Env) (h : Hh) | rt (p : PV) (h : Hh) | bk (env : Env) (h : Hh) | ct (env : Env) (h : Hh) | ex (c : Nat) (h : Hh) | bad

/-- no ref, no dict, no lambda in it, not too deep -/
def flatN : Nat → PV → Bool
  | k + 1, .tup xs => xs.all (flatN k)
  | k + 1, .lst xs => xs.all (flatN k)
  | _, .non => true
  | _, .bl _ => true
  | _, .int _ => true
  | _, .str _ => true
  | _, _ => false
def flat (p : PV) : Bool := flatN 24 p
def flats (ps : List PV) : Bool := ps.all flat

mutual
def eqv : PV → PV → Bool
  | .non, .non => true
  | .bl a, .bl b => a == b
  | .bl a, .int j => (if a then 1 else 0) == j
  | .int i, .bl b => i == (if b then 1 else 0)
  | .int i, .int j => i == j
  | .str x, .str y => x == y
  | .tup xs, .tup ys => eqvs xs ys
  | .lst xs, .lst ys => eqvs xs ys
  | _, _ => false
def eqvs : List PV → List PV → Bool
  | [], [] => true
  | x :: xs, y :: ys => eqv x y && eqvs xs ys
  | _, _ => false
end

mutual
/-- x < y of alike data -/
def plt : PV → PV → Bool
  | .bl a, .bl b => !a && b
  | .int a, .int b => decide (a < b)
  | .str x, .str y => decide (x < y)
  | .tup xs, .tup ys => plts xs ys
  | .lst xs, .lst ys => plts xs ys
  | _, _ => false
def plts : List PV → List PV → Bool
  | [], [] => false
  | [], _ :: _ => true
  | _ :: _, [] => false
  | x :: xs, y :: ys => if eqv x y then plts xs ys else plt x y
end
mutual
/-- to be compared, place by place -/
def alike : PV → PV → Bool
  | .bl _, .bl _ => true
  | .int _, .int _ => true
  | .str _, .str _ => true
  | .tup xs, .tup ys => alikes xs ys
  | .lst xs, .lst ys => alikes xs ys
  | _, _ => false
def alikes : List PV → List PV → Bool
  | x :: xs, y :: ys => alike x y && alikes xs ys
  | _, _ => true
end
def ins (x : PV) : List PV → List PV
  | [] => [x]
  | y :: ys => if plt y x then y :: ins x ys else x :: y :: ys
def isort : List PV → List PV
  | [] => []
  | x :: xs => ins x (isort xs)

inductive Bop where | add | sub | mul | fdiv | mod | pow
inductive Cop where | eq | ne | lt | le | gt | ge | isin | notin | is_ | isnot
/-- built-in functions and methods -/
inductive Prim where
  | len | abs | int_ | str_ | sum | min2 | max2 | minD | any | all | sorted | tuple | list | dict
  | partition | startswith | index | append
/-- what is walked -/
inductive Src where | seq | range | zip | enum

mutual
/-- targets -/
inductive T where | name (i : Nat) | tup (ts : Ts)
inductive Ts where | nil | cons (t : T) (ts : Ts)
end

mutual
inductive E where
  | lit (p : PV) | var (i : Nat) | con (i : Nat)
  | bin (o : Bop) (a b : E) | neg (a : E) | not_ (a : E) | and_ (a b : E) | or_ (a b : E) | ife (c a b : E)
  | cmp (o : Cop) (a b : E) | cmp2 (o o' : Cop) (a b c : E)
  | tup (es : Es) | lst (m : Bool) (es : Es)
  | idx (a b : E) | sli (kl ku : Bool) (a l u : E)
  | call (f : Nat) (es : Es) | prim (f : Prim) (es : Es) | meth (f : Prim) (a : E) (es : Es) | fstr (es : Es) | told (k : Nat) (ret : List Nat) (e : E)
  | comp (m : Bool) (vs : List Nat) (t : T) (s : Src) (es : Es) (c e : E)
  | gen (f : Prim) (vs : List Nat) (t : T) (s : Src) (es : Es) (c e : E)
  | lam (i : Nat) (caps : List Nat) | app (i : Nat) (es : Es)
inductive Es where | nil | cons (e : E) (es : Es)
end
mutual
inductive S where
  | asg (t : T) (e : E) | par (i j : Nat) (a b : E) | set (o i v : E) | aug (i : Nat) (o : Bop) (e : E) | augx (a i : E) (o : Bop) (e : E)
  | expr (e : E) | ife (c : E) (a b : Ss) | for_ (t : T) (s : Src) (es : Es) (b : Ss) | whl (c : E) (b : Ss)
  | ret (e : E) | raise (c : Nat) | brk | cnt | pass | del (i : Nat) | try1 (s : S) (c : Nat) (hb : Ss)
inductive Ss where | nil | cons (s : S) (ss : Ss)
end

def Es.lits : List PV → Es
  | [] => .nil
  | p :: ps => .cons (.lit p) (Es.lits ps)
def Es.app : Es → Es → Es
  | .nil, b => b
  | .cons e es, b => .cons e (es.app b)
/-- what a frame is known by: a def's own, its qualified name, its code object -/
structure Tp where
  top : Bool
  ql : PySem.Str
  cd : Option Nat
/-- writes: only from base on, and nothing that is walked -/
structure Lk where
  base : Nat
  locked : List Nat
def Lk.ok (L : Lk) (r : Nat) : Bool := decide (L.base ≤ r) && !L.locked.contains r

/-- the items of a list or a tuple -/
def seqOf (h : Hh) : PV → Option (List PV)
  | .tup xs => some xs
  | .lst xs => some xs
  | .ref r => match h[r]? with
    | some (.lst xs) => some xs
    | _ => none
  | _ => none
def chars (s : List Nat) : List PV := s.map fun c => .str [c]
/-- a list that may be changed, as data -/
def view (h : Hh) : PV → PV
  | .ref r => match h[r]? with
    | some (.lst xs) => .lst xs
    | some (.dic kvs) => .dic kvs
    | _ => .ref r
  | p => p
def lim : Nat := 1000000
def mulOk (i j : Int) : Bool := decide (i.natAbs < 2 ^ 64) || decide (j.natAbs < 2 ^ 64) || decide (i.natAbs.log2 + j.natAbs.log2 < 1000000)
def cut {α : Type} (xs : List α) (l u : Nat) : List α := (xs.drop l).take (u - l)
/-- a slice's bound -/
def bnd (n d : Nat) : PV → Option Nat
  | .non => some d
  | .int v => some (if v < 0 then (v + n).toNat else min v.toNat n)
  | _ => none
def ixOf (n : Nat) (i : Int) : Option Nat := if 0 ≤ i then (if i < n then some i.toNat else none) else if -(n : Int) ≤ i then some (i + n).toNat else none

def binE (o : Bop) (a b : PV) (h : Hh) : Rs PV :=
  match o, a, b with
  | .add, .int i, .int j => .ok (.int (i + j)) h
  | .sub, .int i, .int j => .ok (.int (i - j)) h
  | .mul, .int i, .int j => if mulOk i j then .ok (.int (i * j)) h else .bad
  | .fdiv, .int i, .int j => if j ≠ 0 ∧ j.natAbs.log2 < 9000 then .ok (.int (i.fdiv j)) h else .bad
  | .mod, .int i, .int j => if j ≠ 0 then .ok (.int (i.fmod j)) h else .bad
  | .pow, .int i, .int j => if 0 ≤ j ∧ j ≤ 1000 ∧ i.natAbs < 2 ^ 64 then .ok (.int (i ^ j.toNat)) h else .bad
  | .add, .str x, .str y => if x.length + y.length ≤ lim then .ok (.str (x ++ y)) h else .bad
  | .add, .tup x, .tup y => if x.length + y.length ≤ lim ∧ x ≠ [] then .ok (.tup (x ++ y)) h else .bad
  | .add, a, b => match view h a, view h b with
    | .lst x, .lst y => if x.length + y.length ≤ lim then .ok (.lst (x ++ y)) h else .bad
    | _, _ => .bad
  | _, _, _ => .bad
def negE (a : PV) (h : Hh) : Rs PV := match a with
  | .int i => .ok (.int (-i)) h
  | _ => .bad
def memE (x : PV) : List PV → Bool
  | [] => false
  | y :: ys => eqv y x || memE x ys
def isSub (x : List Nat) : List Nat → Bool
  | [] => x.isEmpty
  | c :: cs => x.isPrefixOf (c :: cs) || isSub x cs
def inE (a b : PV) : Option Bool := match b with
  | .lst xs => if flat a && flats xs then some (memE a xs) else none
  | .tup xs => if flat a && flats xs then some (memE a xs) else none
  | .str s => match a with
    | .str [c] => some (s.contains c)
    | _ => none
  | _ => none
def cmpE (o : Cop) (a b : PV) (h : Hh) : Rs PV :=
  match o with
  | .eq => let a := view h a; let b := view h b; if flat a && flat b then .ok (.bl (eqv a b)) h else .bad
  | .ne => let a := view h a; let b := view h b; if flat a && flat b then .ok (.bl (!eqv a b)) h else .bad
  | .lt => match a, b with
    | .int i, .int j => .ok (.bl (decide (i < j))) h
    | _, _ => .bad
  | .le => match a, b with
    | .int i, .int j => .ok (.bl (decide (i ≤ j))) h
    | _, _ => .bad
  | .gt => match a, b with
    | .int i, .int j => .ok (.bl (decide (j < i))) h
    | _, _ => .bad
  | .ge => match a, b with
    | .int i, .int j => .ok (.bl (decide (j ≤ i))) h
    | _, _ => .bad
  | .isin => match inE a (view h b) with
    | some k => .ok (.bl k) h
    | none => .bad
  | .notin => match inE a (view h b) with
    | some k => .ok (.bl (!k)) h
    | none => .bad
  | .is_ => match b with
    | .non => .ok (.bl (match a with | .non => true | _ => false)) h
    | _ => .bad
  | .isnot => match b with
    | .non => .ok (.bl (match a with | .non => false | _ => true)) h
    | _ => .bad
def idxE (a b : PV) (h : Hh) : Rs PV :=
  match a, b with
  | .str s, .int i => match (ixOf s.length i).bind (s[·]?) with
    | some c => if s.length ≤ lim then .ok (.str [c]) h else .bad
    | none => .bad
  | a, .int i => match seqOf h a with
    | some xs => match (ixOf xs.length i).bind (xs[·]?) with
      | some v => .ok v h
      | none => .bad
    | none => .bad
  | _, _ => .bad
/-- .. of a changeable list -/
def idxR (a b : PV) (h : Hh) : Rs PV := match a with
  | .ref _ => idxE a b h
  | _ => .bad
/-- a slice's end: there (an int), or left out -/
def isPart (k : Bool) : PV → Bool
  | .int _ => k
  | .non => !k
  | _ => false
def sliE (a l u : PV) (h : Hh) : Rs PV :=
  match a with
  | .str s => match bnd s.length 0 l, bnd s.length s.length u with
    | some i, some j => if s.length ≤ lim then .ok (.str (cut s i j)) h else .bad
    | _, _ => .bad
  | .tup xs => match bnd xs.length 0 l, bnd xs.length xs.length u with
    | some i, some j => if i = 0 ∧ j = xs.length then .bad else .ok (.tup (cut xs i j)) h
    | _, _ => .bad
  | a => match view h a with
    | .lst xs => match bnd xs.length 0 l, bnd xs.length xs.length u with
      | some i, some j => .ok (.lst (cut xs i j)) h
      | _, _ => .bad
    | _ => .bad
def asInts : List PV → Option (List Int)
  | [] => some []
  | .int i :: xs => (asInts xs).map (i :: ·)
  | _ => none
def asBls : List PV → Option (List Bool)
  | [] => some []
  | .bl i :: xs => (asBls xs).map (i :: ·)
  | _ => none
def allAlike (xs : List PV) : Bool := xs.all fun x => xs.all (alike x)
def natText (n : Nat) : List Nat := (Nat.toDigits 10 n).map Char.toNat
def intText (i : Int) : List Nat := if i < 0 then 45 :: natText i.natAbs else natText i.natAbs
def natOf : List Nat → Nat → Option Nat
  | [], acc => some acc
  | c :: cs, acc => if 48 ≤ c ∧ c ≤ 57 then natOf cs (acc * 10 + (c - 48)) else none
/-- int(text): figures alone, or "-" and figures -/
def intOf : List Nat → Option Int
  | [] => none
  | 45 :: [] => none
  | 45 :: cs => Option.map (fun n : Nat => -(n : Int)) (natOf cs 0)
  | cs => Option.map (fun n : Nat => (n : Int)) (natOf cs 0)
/-- before and behind the first c -/
def part1 (c : Nat) : List Nat → List Nat × Bool × List Nat
  | [] => ([], false, [])
  | d :: ds => if d = c then ([], true, ds) else match part1 c ds with | (x, k, y) => (d :: x, k, y)
/-- all tuples with an item at least, or none a tuple or None -/
def headed : PV → Bool
  | .tup (_ :: _) => true
  | _ => false
def noTup : PV → Bool
  | .tup _ => false
  | .non => false
  | _ => true
def sortable (xs : List PV) : Bool := xs.all headed || xs.all noTup
def placeOf (x : PV) : List PV → Option Nat
  | [] => none
  | y :: ys => if eqv y x then some 0 else (placeOf x ys).map (· + 1)
def fmtOf : PV → Option (List Nat)
  | .str s => some s
  | .int i => if i.natAbs.log2 < 1900 then some (intText i) else none
  | _ => none
def fmts : List PV → Option (List Nat)
  | [] => some []
  | p :: ps => match fmtOf p, fmts ps with
    | some x, some y => some (x ++ y)
    | _, _ => none

def primE (f : Prim) (args : List PV) (L : Lk) (h : Hh) : Rs PV :=
  match f, args with
  | .len, [.str s] => if s.length ≤ lim then .ok (.int s.length) h else .bad
  | .len, [a] => match seqOf h a with
    | some xs => .ok (.int xs.length) h
    | none => .bad
  | .abs, [.int i] => .ok (.int (if i < 0 then -i else i)) h
  | .int_, [.int i] => .ok (.int i) h
  | .int_, [.bl b] => .ok (.int (if b then 1 else 0)) h
  | .int_, [.str s] => if s.length ≤ 640 then (match intOf s with | some i => .ok (.int i) h | none => .bad) else .bad
  | .str_, [.int i] => if i.natAbs.log2 < 1900 then .ok (.str (intText i)) h else .bad
  | .sum, [a] => match seqOf h a with
    | some xs => (match asInts xs with | some is => .ok (.int is.sum) h | none => .bad)
    | none => .bad
  | .min2, [.int i, .int j] => .ok (.int (if j < i then j else i)) h
  | .max2, [.int i, .int j] => .ok (.int (if j > i then j else i)) h
  | .minD, [a, d] => match seqOf h a with
    | some [] => .ok d h
    | some (x :: xs) => (match asInts (x :: xs) with | some (i :: is) => .ok (.int (is.foldl min i)) h | _ => .bad)
    | none => .bad
  | .any, [a] => match seqOf h a with
    | some xs => (match asBls xs with | some bs => .ok (.bl (bs.any id)) h | none => .bad)
    | none => .bad
  | .all, [a] => match seqOf h a with
    | some xs => (match asBls xs with | some bs => .ok (.bl (bs.all id)) h | none => .bad)
    | none => .bad
  | .sorted, [a] => match view h a with
    | .lst xs => if flats xs && allAlike xs && sortable xs && decide (xs.length ≤ lim) then .ok (.lst (isort xs)) h else .bad
    | _ => .bad
  | .tuple, [.tup xs] => .ok (.tup xs) h
  | .tuple, [a] => match seqOf h a with
    | some xs => .ok (.tup xs) h
    | none => .bad
  | .list, [a] => match seqOf h a with
    | some xs => .ok (.lst xs) h
    | none => .bad
  | .partition, [.str s, .str [c]] => if s.length ≤ lim then (match part1 c s with
    | (x, true, y) => .ok (.tup [.str x, .str [c], .str y]) h
    | (x, false, y) => .ok (.tup [.str x, .str [], .str y]) h) else .bad
  | .startswith, [.str s, .str x] => .ok (.bl (x.isPrefixOf s)) h
  | .index, [a, x] => match view h a with
    | .lst xs => if flat x && flats xs then (match placeOf x xs with | some j => .ok (.int j) h | none => .bad) else .bad
    | _ => .bad
  | .append, [.ref r, x] => match h[r]? with
    | some (.lst xs) => if L.ok r && decide (xs.length < lim) then .ok .non (h.set r (.lst (xs ++ [x]))) else .bad
    | _ => .bad
  | _, _ => .bad

/-- what a method may be called on -/
def recv (f : Prim) (p : PV) (h : Hh) : Bool := match f with
  | .partition => match p with | .str _ => true | _ => false
  | .startswith => match p with | .str _ => true | _ => false
  | .index => match view h p with | .lst _ => true | _ => false
  | .append => match view h p with | .lst _ => true | _ => false
  | _ => false
def zipP : List PV → List PV → List PV
  | x :: xs, y :: ys => .tup [x, y] :: zipP xs ys
  | _, _ => []
def enumP (k : Int) : List PV → List PV
  | [] => []
  | x :: xs => .tup [.int k, x] :: enumP (k + 1) xs
def rangeP (lo : Int) : Nat → List PV
  | 0 => []
  | n + 1 => .int lo :: rangeP (lo + 1) n
def small (i : Int) : Bool := decide (-(2 ^ 62) ≤ i) && decide (i < 2 ^ 62)
/-- the items walked -/
def srcItems (s : Src) (args : List PV) (h : Hh) : Option (List PV) :=
  match s, args with
  | .seq, [.str s] => some (chars s)
  | .seq, [a] => seqOf h a
  | .range, [.int n] => if small n then some (rangeP 0 n.toNat) else none
  | .range, [.int a, .int b] => if small a && small b then some (rangeP a (b - a).toNat) else none
  | .zip, [a, b] => match seqOf h a, seqOf h b with
    | some xs, some ys => some (zipP xs ys)
    | _, _ => none
  | .enum, [a] => match view h a with
    | .lst xs => some (enumP 0 xs)
    | _ => none
  | _, _ => none
def refsOf : List PV → List Nat
  | [] => []
  | .ref r :: ps => r :: refsOf ps
  | _ :: ps => refsOf ps

mutual
def asgT : T → PV → Env → Option Env
  | .name i, p, env => some (env.set i (some p))
  | .tup ts, p, env => match p with
    | .tup xs => asgTs ts xs env
    | _ => none
def asgTs : Ts → List PV → Env → Option Env
  | .nil, [], env => some env
  | .cons t ts, x :: xs, env => match asgT t x env with
    | some env => asgTs ts xs env
    | none => none
  | _, _, _ => none
end

/-- a block's own names are forgotten -/
def wipeE (env : Env) : List Nat → Env
  | [] => env
  | v :: vs => (wipeE env vs).set v none
/-- a comprehension's turns -/
def compL (t : T) (c e : Env → Hh → Rs PV) (env : Env) : List PV → Hh → Rs (List PV)
  | [], h => .ok [] h
  | x :: xs, h => match asgT t x env with
    | none => .bad
    | some env' => match c env' h with
      | .ok (.bl true) h => (match e env' h with
        | .ok v h => (match compL t c e env xs h with
          | .ok vs h => .ok (v :: vs) h
          | r => r)
        | _ => .bad)
      | .ok (.bl false) h => compL t c e env xs h
      | _ => .bad
/-- any, all: as far as the answer -/
def anyL (stop : Bool) (t : T) (c e : Env → Hh → Rs PV) (env : Env) : List PV → Hh → Rs PV
  | [], h => .ok (.bl (!stop)) h
  | x :: xs, h => match asgT t x env with
    | none => .bad
    | some env' => match c env' h with
      | .ok (.bl true) h => (match e env' h with
        | .ok (.bl k) h => if k = stop then .ok (.bl stop) h else anyL stop t c e env xs h
        | _ => .bad)
      | .ok (.bl false) h => anyL stop t c e env xs h
      | _ => .bad

/-- what surrounds: calls one level lower, the module's constants, the lambdas -/
structure Cl where
  call : Nat → List PV → Lk → Hh → Rs PV
  app : Nat → List PV → List PV → Lk → Hh → Rs PV
  con : Nat → Option PV
  isa : Nat → Nat → Bool

mutual
def evE (C : Cl) (L : Lk) : E → Env → Hh → Rs PV
  | .lit p, _, h => .ok p h
  | .var i, env, h => match env[i]? with
    | some (some p) => .ok p h
    | _ => .bad
  | .con i, _, h => match C.con i with
    | some p => .ok p h
    | none => .bad
  | .bin o a b, env, h => match evE C L a env h with
    | .ok x h => (match evE C L b env h with
      | .ok y h => binE o x y h
      | r => r)
    | r => r
  | .neg a, env, h => match evE C L a env h with
    | .ok x h => negE x h
    | r => r
  | .not_ a, env, h => match evE C L a env h with
    | .ok (.bl k) h => .ok (.bl (!k)) h
    | .ok _ _ => .bad
    | r => r
  | .and_ a b, env, h => match evE C L a env h with
    | .ok (.bl true) h => evE C L b env h
    | .ok (.bl false) h => .ok (.bl false) h
    | .ok _ _ => .bad
    | r => r
  | .or_ a b, env, h => match evE C L a env h with
    | .ok (.bl true) h => .ok (.bl true) h
    | .ok (.bl false) h => evE C L b env h
    | .ok _ _ => .bad
    | r => r
  | .ife c a b, env, h => match evE C L c env h with
    | .ok (.bl true) h => evE C L a env h
    | .ok (.bl false) h => evE C L b env h
    | .ok _ _ => .bad
    | r => r
  | .cmp o a b, env, h => match evE C L a env h with
    | .ok x h => (match evE C L b env h with
      | .ok y h => cmpE o x y h
      | r => r)
    | r => r
  | .cmp2 o o' a b c, env, h => match evE C L a env h with
    | .ok x h => (match evE C L b env h with
      | .ok y h => (match cmpE o x y h with
        | .ok (.bl true) h => (match evE C L c env h with
          | .ok z h => cmpE o' y z h
          | r => r)
        | .ok (.bl false) h => .ok (.bl false) h
        | .ok _ _ => .bad
        | r => r)
      | r => r)
    | r => r
  | .tup es, env, h => match evEs C L es env h with
    | .ok ps h => if ps.length ≤ lim then .ok (.tup ps) h else .bad
    | .exc c h => .exc c h
    | .bad => .bad
  | .lst m es, env, h => match evEs C L es env h with
    | .ok ps h => if ps.length ≤ lim then (if m then .ok (.ref h.length) (h ++ [.lst ps]) else .ok (.lst ps) h) else .bad
    | .exc c h => .exc c h
    | .bad => .bad
  | .idx a b, env, h => match evE C L a env h with
    | .ok x h => (match evE C L b env h with
      | .ok y h => idxE x y h
      | r => r)
    | r => r
  | .sli kl ku a l u, env, h => match evE C L a env h with
    | .ok x h => (match evE C L l env h with
      | .ok y h => if isPart kl y then (match evE C L u env h with
        | .ok z h => if isPart ku z then sliE x y z h else .bad
        | r => r) else .bad
      | r => r)
    | r => r
  | .call f es, env, h => match evEs C L es env h with
    | .ok ps h => C.call f ps L h
    | .exc c h => .exc c h
    | .bad => .bad
  | .prim f es, env, h => match evEs C L es env h with
    | .ok ps h => primE f ps L h
    | .exc c h => .exc c h
    | .bad => .bad
  | .meth f a es, env, h => match evE C L a env h with
    | .ok x h => if recv f x h then (match evEs C L es env h with
      | .ok ps h => primE f (x :: ps) L h
      | .exc c h => .exc c h
      | .bad => .bad) else .bad
    | r => r
  | .fstr es, env, h => match evEs C L es env h with
    | .ok ps h => (match fmts ps with
      | some s => if s.length ≤ lim then .ok (.str s) h else .bad
      | none => .bad)
    | _ => .bad
  | .told k ret e, env, h => match evE C L e env h with
    | .ok p h => .ok p h
    | .exc c h => if C.isa c k then .ok (.str ret) h else .bad
    | .bad => .bad
  | .comp m ws t s es c e, env, h => match evEs C L es env h with
    | .ok ps h => (match srcItems s ps h with
      | some xs => (match compL t (evE C { L with locked := refsOf ps ++ L.locked } c) (evE C { L with locked := refsOf ps ++ L.locked } e) (wipeE env ws) xs h with
        | .ok vs h => if vs.length ≤ lim then (if m then .ok (.ref h.length) (h ++ [.lst vs]) else .ok (.lst vs) h) else .bad
        | _ => .bad)
      | none => .bad)
    | .exc c h => .exc c h
    | .bad => .bad
  | .gen f ws t s es c e, env, h => match evEs C L es env h with
    | .ok ps h => (match srcItems s ps h with
      | some xs => (match f with
        | .any => anyL true t (evE C { L with locked := refsOf ps ++ L.locked } c) (evE C { L with locked := refsOf ps ++ L.locked } e) (wipeE env ws) xs h
        | .all => anyL false t (evE C { L with locked := refsOf ps ++ L.locked } c) (evE C { L with locked := refsOf ps ++ L.locked } e) (wipeE env ws) xs h
        | f => (match compL t (evE C { L with locked := refsOf ps ++ L.locked } c) (evE C { L with locked := refsOf ps ++ L.locked } e) (wipeE env ws) xs h with
          | .ok vs h => if vs.length ≤ lim then primE f [.lst vs] L h else .bad
          | _ => .bad))
      | none => .bad)
    | .exc c h => .exc c h
    | .bad => .bad
  | .lam i caps, env, h => match caps.mapM (fun j => (env[j]?).join) with
    | some ps => .ok (.clo i ps) h
    | none => .bad
  | .app i es, env, h => match env[i]? with
    | some (some (.clo j caps)) => (match evEs C L es env h with
      | .ok ps h => C.app j caps ps L h
      | .exc c h => .exc c h
      | .bad => .bad)
    | _ => .bad
def evEs (C : Cl) (L : Lk) : Es → Env → Hh → Rs (List PV)
  | .nil, _, h => .ok [] h
  | .cons e es, env, h => match evE C L e env h with
    | .ok p h => (match evEs C L es env h with
      | .ok ps h => .ok (p :: ps) h
      | r => r)
    | .exc c h => .exc c h
    | .bad => .bad
end

/-- a while's turns -/
def whileL (c : Env → Hh → Rs PV) (b : Env → Hh → O) : Nat → Env → Hh → O
  | 0, _, _ => .bad
  | k + 1, env, h => match c env h with
    | .ok (.bl true) h => (match b env h with
      | .nx env h => whileL c b k env h
      | .ct env h => whileL c b k env h
      | .bk env h => .nx env h
      | r => r)
    | .ok (.bl false) h => .nx env h
    | .ok _ _ => .bad
    | .exc c h => .ex c h
    | .bad => .bad
/-- a for's turns -/
def forL (t : T) (b : Env → Hh → O) : List PV → Env → Hh → O
  | [], env, h => .nx env h
  | x :: xs, env, h => match asgT t x env with
    | none => .bad
    | some env => match b env h with
      | .nx env h => forL t b xs env h
      | .ct env h => forL t b xs env h
      | .bk env h => .nx env h
      | r => r
def turns : Nat := 1000000
def setE (o i v : PV) (L : Lk) (h : Hh) : Option Hh := match o, i with
  | .ref r, .int k => match h[r]? with
    | some (.lst xs) => if L.ok r then (match ixOf xs.length k with | some j => some (h.set r (.lst (xs.set j v))) | none => none) else none
    | _ => none
  | _, _ => none
/-- x op= y -/
def augE (o : Bop) (a b : PV) (L : Lk) (h : Hh) : Rs PV := match o, a, b with
  | .add, .ref r, b => (match h[r]?, view h b with
    | some (.lst xs), .lst ys => if L.ok r && decide (xs.length + ys.length ≤ lim) then .ok (.ref r) (h.set r (.lst (xs ++ ys))) else .bad
    | _, _ => .bad)
  | .add, .int i, .int j => .ok (.int (i + j)) h
  | .sub, .int i, .int j => .ok (.int (i - j)) h
  | .mul, .int i, .int j => if mulOk i j then .ok (.int (i * j)) h else .bad
  | _, _, _ => .bad

mutual
def evS (C : Cl) (L : Lk) : S → Env → Hh → O
  | .asg t e, env, h => match evE C L e env h with
    | .ok p h => (match asgT t p env with
      | some env => .nx env h
      | none => .bad)
    | .exc c h => .ex c h
    | .bad => .bad
  | .par i j a b, env, h => match evE C L a env h with
    | .ok p h => (match evE C L b env h with
      | .ok q h => .nx ((env.set i (some p)).set j (some q)) h
      | .exc c h => .ex c h
      | .bad => .bad)
    | .exc c h => .ex c h
    | .bad => .bad
  | .set o i v, env, h => match evE C L v env h with
    | .ok v h => (match evE C L o env h with
      | .ok o h => (match evE C L i env h with
        | .ok i h => (match setE o i v L h with
          | some h => .nx env h
          | none => .bad)
        | .exc c h => .ex c h
        | .bad => .bad)
      | .exc c h => .ex c h
      | .bad => .bad)
    | .exc c h => .ex c h
    | .bad => .bad
  | .aug i o e, env, h => match env[i]? with
    | some (some a) => (match evE C L e env h with
      | .ok b h => (match augE o a b L h with
        | .ok p h => .nx (env.set i (some p)) h
        | .exc c h => .ex c h
        | .bad => .bad)
      | .exc c h => .ex c h
      | .bad => .bad)
    | _ => .bad
  | .augx a i o e, env, h => match evE C L a env h with
    | .ok x h => (match evE C L i env h with
      | .ok k h => (match idxR x k h with
        | .ok y h => (match evE C L e env h with
          | .ok b h => (match augE o y b L h with
            | .ok p h => (match setE x k p L h with
              | some h => .nx env h
              | none => .bad)
            | .exc c h => .ex c h
            | .bad => .bad)
          | .exc c h => .ex c h
          | .bad => .bad)
        | .exc c h => .ex c h
        | .bad => .bad)
      | .exc c h => .ex c h
      | .bad => .bad)
    | .exc c h => .ex c h
    | .bad => .bad
  | .expr e, env, h => match evE C L e env h with
    | .ok _ h => .nx env h
    | .exc c h => .ex c h
    | .bad => .bad
  | .ife c a b, env, h => match evE C L c env h with
    | .ok (.bl true) h => evSs C L a env h
    | .ok (.bl false) h => evSs C L b env h
    | .ok _ _ => .bad
    | .exc c h => .ex c h
    | .bad => .bad
  | .for_ t s es b, env, h => match evEs C L es env h with
    | .ok ps h => (match srcItems s ps h with
      | some xs => forL t (evSs C { L with locked := refsOf ps ++ L.locked } b) xs env h
      | none => .bad)
    | .exc c h => .ex c h
    | .bad => .bad
  | .whl c b, env, h => whileL (evE C L c) (evSs C L b) turns env h
  | .ret e, env, h => match evE C L e env h with
    | .ok p h => .rt p h
    | .exc c h => .ex c h
    | .bad => .bad
  | .raise c, _, h => .ex c h
  | .brk, env, h => .bk env h
  | .cnt, env, h => .ct env h
  | .pass, env, h => .nx env h
  | .del i, env, h => .nx (env.set i none) h
  | .try1 s c hb, env, h => match evS C L s env h with
    | .ex c' h => if C.isa c' c then (match evSs C L hb [] h with
      | .rt p h => .rt p h
      | _ => .bad) else .ex c' h
    | r => r
def evSs (C : Cl) (L : Lk) : Ss → Env → Hh → O
  | .nil, env, h => .nx env h
  | .cons s ss, env, h => match evS C L s env h with
    | .nx env h => evSs C L ss env h
    | r => r
end

mutual
/-- a value with its new changeable parts as data: rd tells what a ref stands for -/
def frz (rd : Nat → Option PV) : PV → Option PV
  | .tup xs => (frzs rd xs).map .tup
  | .lst xs => (frzs rd xs).map .lst
  | .dic kvs => (frzd rd kvs).map .dic
  | .ref r => rd r
  | .clo _ _ => none
  | p => some p
def frzs (rd : Nat → Option PV) : List PV → Option (List PV)
  | [] => some []
  | x :: xs => match frz rd x, frzs rd xs with
    | some y, some ys => some (y :: ys)
    | _, _ => none
def frzd (rd : Nat → Option PV) : List (PV × PV) → Option (List (PV × PV))
  | [] => some []
  | (k, x) :: xs => match frz rd k, frz rd x, frzd rd xs with
    | some j, some y, some ys => some ((j, y) :: ys)
    | _, _, _ => none
end
def deref (n : Nat) (h : Hh) : Nat → Nat → Option PV
  | 0, r => if r < n then some (.ref r) else none
  | k + 1, r => if r < n then some (.ref r) else match h[r]? with
    | some (.lst xs) => (frzs (deref n h k) xs).map .lst
    | some (.dic kvs) => (frzd (deref n h k) kvs).map .dic
    | _ => none

/-- a def -/
structure Fn where
  npar : Nat
  nslot : Nat
  body : Ss
  pure : Bool
structure Lam where
  npar : Nat
  nslot : Nat
  body : E
structure Prg where
  fns : List Fn
  lams : List Lam
  cons : List PV
  isa : Nat → Nat → Bool
def entry (n : Nat) (args : List PV) : Env := args.map some ++ List.replicate (n - args.length) none
def endPure (n : Nat) (h0 : Hh) : O → Rs PV
  | .rt p h => match frz (deref n h 8) p with
    | some q => .ok q h0
    | none => .bad
  | .nx _ _ => .ok .non h0
  | .ex c _ => .exc c h0
  | _ => .bad
def endRaw : O → Rs PV
  | .rt p h => .ok p h
  | .nx _ h => .ok .non h
  | .ex c h => .exc c h
  | _ => .bad
mutual
def callN (P : Prg) : Nat → Nat → List PV → Lk → Hh → Rs PV
  | 0, _, _, _, _ => .bad
  | d + 1, f, args, L, h => match P.fns[f]? with
    | some F => if args.length = F.npar then (if F.pure then endPure h.length h (evSs ⟨callN P d, appN P d, (P.cons[·]?), P.isa⟩ ⟨h.length, []⟩ F.body (entry F.nslot args) h)
        else endRaw (evSs ⟨callN P d, appN P d, (P.cons[·]?), P.isa⟩ L F.body (entry F.nslot args) h)) else .bad
    | none => .bad
def appN (P : Prg) : Nat → Nat → List PV → List PV → Lk → Hh → Rs PV
  | 0, _, _, _, _, _ => .bad
  | d + 1, i, caps, args, L, h => match P.lams[i]? with
    | some F => if args.length = F.npar then evE ⟨callN P d, appN P d, (P.cons[·]?), P.isa⟩ L F.body (entry F.nslot (args ++ caps)) h else .bad
    | none => .bad
end
end Mini

/-! Rel -/
set_option autoImplicit false
set_option Elab.async false
set_option linter.all false
set_option maxRecDepth 100000
namespace Mini
open PySem PySem.Spec PyProof.Rows L2

/-- a list that never changes -/
def Fz (K : PySem.W.Frag) (H : Hp) (a : Addr) (xs : List V) : Prop :=
  (∃ o, H a = some (.frz o (.lst xs))) ∨
    ∃ (o : Obj) (its : Array Value) (n : Nat), K.lookup a = some o ∧ o.cls = .type "list" ∧ o.dict = none ∧ o.data = .seq its n ∧ its.size ≤ sizeLine ∧ Vals xs its.toList
theorem Fz.sq {K : PySem.W.Frag} {H : Hp} {a : Addr} {xs : List V} (h : Fz K H a xs) : SqL K H a xs := by
  rcases h with ⟨o, h⟩ | h
  · exact .inl (.inr ⟨o, h⟩)
  · exact .inr h

mutual
inductive Rep (K : PySem.W.Frag) (ρ : List Addr) (H : Hp) : PV → V → Prop
  | non : Rep K ρ H .non .non
  | bl (b : Bool) : Rep K ρ H (.bl b) (.bl b)
  | int (i : Int) : Rep K ρ H (.int i) (.int i)
  | str (s : List Nat) : Rep K ρ H (.str s) (.str ⟨s.toArray⟩)
  | tup {ps : List PV} {vs : List V} {a : Addr} : SqT K H a vs → Reps K ρ H ps vs → Rep K ρ H (.tup ps) (.ref a)
  | lst {ps : List PV} {vs : List V} {a : Addr} : Fz K H a vs → Reps K ρ H ps vs → Rep K ρ H (.lst ps) (.ref a)
  | ref {n : Nat} {a : Addr} : ρ[n]? = some a → Rep K ρ H (.ref n) (.ref a)
inductive Reps (K : PySem.W.Frag) (ρ : List Addr) (H : Hp) : List PV → List V → Prop
  | nil : Reps K ρ H [] []
  | cons {p : PV} {v : V} {ps : List PV} {vs : List V} : Rep K ρ H p v → Reps K ρ H ps vs → Reps K ρ H (p :: ps) (v :: vs)
end

/-- what stays for ever -/
def Stab : HO → Prop
  | .tup _ => True
  | .frz _ _ => True
  | .ext _ => True
  | _ => False
def IsTbl : HO → Prop
  | .tbl _ => True
  | _ => False
/-- what a value's tree may lie in -/
def Imm : HO → Prop
  | .tup _ => True
  | .frz _ _ => True
  | _ => False
theorem Imm.stab {o : HO} (h : Imm o) : Stab o := by cases o <;> first | exact h.elim | exact trivial
def Grow (H H' : Hp) : Prop := ∀ a o, H a = some o → Imm o → H' a = some o
/-- .. and the tables stand -/
def Keep (H H' : Hp) : Prop := ∀ a o, H a = some o → (Stab o ∨ IsTbl o) → H' a = some o
theorem Keep.grow {H H' : Hp} (k : Keep H H') : Grow H H' := fun a o h s => k a o h (.inl s.stab)
theorem Keep.refl (H : Hp) : Keep H H := fun _ _ h _ => h
theorem Grow.refl (H : Hp) : Grow H H := fun _ _ h _ => h
theorem Grow.trans {H H1 H2 : Hp} (a : Grow H H1) (b : Grow H1 H2) : Grow H H2 := fun c o h s => b c o (a c o h s) s
theorem Keep.trans {H H1 H2 : Hp} (a : Keep H H1) (b : Keep H1 H2) : Keep H H2 := fun c o h s => b c o (a c o h s) s
/-- an address that holds nothing that must stand -/
theorem keep_upd {H : Hp} {a : Addr} {o : HO} (h : ∀ u, H a = some u → ¬ Stab u ∧ ¬ IsTbl u) : Keep H (upd H a o) := fun b u e s => by
  by_cases z : b = a
  · subst z
    rcases s with q | q
    · exact absurd q (h u e).1
    · exact absurd q (h u e).2
  · rw [upd_ne z]; exact e
theorem keep_new {H : Hp} {a : Addr} {o : HO} (h : H a = none) : Keep H (upd H a o) := keep_upd fun u e => by rw [h] at e; cases e
theorem keep_lst {H : Hp} {a : Addr} {o : HO} {xs : List V} (h : H a = some (.lst xs)) : Keep H (upd H a o) := keep_upd fun u e => by rw [h] at e; cases e; exact ⟨id, id⟩

section
variable {K : PySem.W.Frag} {ρ ρ' : List Addr} {H H' : Hp}
theorem SqT.grow {a : Addr} {vs : List V} (g : Grow H H') (h : SqT K H a vs) : SqT K H' a vs := by
  rcases h with (h | ⟨o, h⟩) | h
  · exact .inl (.inl (g _ _ h trivial))
  · exact .inl (.inr ⟨o, g _ _ h trivial⟩)
  · exact .inr h
theorem Fz.grow {a : Addr} {vs : List V} (g : Grow H H') (h : Fz K H a vs) : Fz K H' a vs := by
  rcases h with ⟨o, h⟩ | h
  · exact .inl ⟨o, g _ _ h trivial⟩
  · exact .inr h
theorem pre_get {n : Nat} {a : Addr} (h : ρ <+: ρ') (e : ρ[n]? = some a) : ρ'[n]? = some a := by
  obtain ⟨t, rfl⟩ := h
  rw [List.getElem?_append_left (List.getElem?_eq_some_iff.mp e).1]; exact e
mutual
theorem Rep.mono (g : Grow H H') (h : ρ <+: ρ') : ∀ {p : PV} {v : V}, Rep K ρ H p v → Rep K ρ' H' p v
  | _, _, .non => .non
  | _, _, .bl b => .bl b
  | _, _, .int i => .int i
  | _, _, .str s => .str s
  | _, _, .tup q r => .tup (SqT.grow g q) (Reps.mono g h r)
  | _, _, .lst q r => .lst (Fz.grow g q) (Reps.mono g h r)
  | _, _, .ref e => .ref (pre_get h e)
theorem Reps.mono (g : Grow H H') (h : ρ <+: ρ') : ∀ {ps : List PV} {vs : List V}, Reps K ρ H ps vs → Reps K ρ' H' ps vs
  | _, _, .nil => .nil
  | _, _, .cons a b => .cons (Rep.mono g h a) (Reps.mono g h b)
end
theorem Reps.length {ps : List PV} {vs : List V} : Reps K ρ H ps vs → ps.length = vs.length
  | .nil => rfl
  | .cons _ b => congrArg (· + 1) b.length
theorem Reps.get : ∀ {ps : List PV} {vs : List V} {i : Nat} {p : PV}, Reps K ρ H ps vs → ps[i]? = some p → ∃ v, vs[i]? = some v ∧ Rep K ρ H p v
  | _, _, _, _, .nil, e => by simp at e
  | _, _, 0, _, .cons a _, e => by simp at e; subst e; exact ⟨_, rfl, a⟩
  | _, _, i + 1, p, .cons _ b, e => by
    obtain ⟨v, h1, h2⟩ := Reps.get (i := i) (p := p) b (by simpa using e)
    exact ⟨v, by simpa using h1, h2⟩
theorem Reps.append : ∀ {ps qs : List PV} {vs ws : List V}, Reps K ρ H ps vs → Reps K ρ H qs ws → Reps K ρ H (ps ++ qs) (vs ++ ws)
  | _, _, _, _, .nil, s => s
  | _, _, _, _, .cons r t, s => .cons r (Reps.append t s)
theorem Reps.drop : ∀ {ps : List PV} {vs : List V} (n : Nat), Reps K ρ H ps vs → Reps K ρ H (ps.drop n) (vs.drop n)
  | _, _, 0, r => r
  | _, _, _ + 1, .nil => .nil
  | _, _, n + 1, .cons _ t => Reps.drop n t
theorem Reps.take : ∀ {ps : List PV} {vs : List V} (n : Nat), Reps K ρ H ps vs → Reps K ρ H (ps.take n) (vs.take n)
  | _, _, 0, _ => .nil
  | _, _, _ + 1, .nil => .nil
  | _, _, n + 1, .cons r t => .cons r (Reps.take n t)
theorem Reps.set {p : PV} {v : V} (r : Rep K ρ H p v) : ∀ {ps : List PV} {vs : List V} (i : Nat), Reps K ρ H ps vs → Reps K ρ H (ps.set i p) (vs.set i v)
  | _, _, _, .nil => .nil
  | _, _, 0, .cons _ t => .cons r t
  | _, _, i + 1, .cons q t => .cons q (Reps.set r i t)
end

/-- what a changeable object holds -/
def ObR (K : PySem.W.Frag) (ρ : List Addr) (H : Hp) (a : Addr) : Ob → Prop
  | .lst ps => ∃ vs, H a = some (.lst vs) ∧ Reps K ρ H ps vs
  | _ => False
structure HRep (K : PySem.W.Frag) (ρ : List Addr) (h : Hh) (H : Hp) : Prop where
  len : ρ.length = h.length
  nd : ρ.Nodup
  at_ : ∀ (n : Nat) (o : Ob), h[n]? = some o → ∃ a, ρ[n]? = some a ∧ ObR K ρ H a o

/-- what is known beside: tables of code objects -/
structure Side where
  T : Hp → Prop
  keep : ∀ {H H' : Hp}, T H → Keep H H' → T H'

structure Nxt (D : Side) (K : PySem.W.Frag) (ρ : List Addr) (H : Hp) (ρ' : List Addr) (h' : Hh) (H' : Hp) : Prop where
  grow : Grow H H'
  pre : ρ <+: ρ'
  rep : HRep K ρ' h' H'
  side : D.T H'
  off : ∀ a o, H a = some o → a ∉ ρ → ¬ IsTbl o → H' a = some o
  dom : ∀ a o, H a = some o → ¬ IsTbl o → ∃ o', H' a = some o' ∧ ¬ IsTbl o'
  fresh : ∀ a ∈ ρ', a ∈ ρ ∨ ∀ o, H a = some o → IsTbl o
theorem Nxt.trans {D : Side} {K : PySem.W.Frag} {ρ ρ1 ρ2 : List Addr} {H H1 H2 : Hp} {h1 h2 : Hh} (a : Nxt D K ρ H ρ1 h1 H1) (b : Nxt D K ρ1 H1 ρ2 h2 H2) : Nxt D K ρ H ρ2 h2 H2 where
  grow := a.grow.trans b.grow
  pre := a.pre.trans b.pre
  rep := b.rep
  side := b.side
  off := fun x o e n t => b.off x o (a.off x o e n t) (fun m => (a.fresh x m).elim n fun z => t (z o e)) t
  dom := fun x o e t => let ⟨o', e', t'⟩ := a.dom x o e t; b.dom x o' e' t'
  fresh := fun x m => by
    rcases b.fresh x m with z | z
    · exact a.fresh x z
    · refine .inr fun o e => Classical.byContradiction fun t => ?_
      obtain ⟨o', e', t'⟩ := a.dom x o e t
      exact t' (z o' e')
/-- where one stands -/
structure Now (D : Side) (K : PySem.W.Frag) (ρ : List Addr) (h : Hh) (H : Hp) : Prop where
  rep : HRep K ρ h H
  side : D.T H
theorem Now.nxt {D : Side} {K : PySem.W.Frag} {ρ : List Addr} {h : Hh} {H : Hp} (n : Now D K ρ h H) : Nxt D K ρ H ρ h H := ⟨Grow.refl H, List.prefix_refl ρ, n.rep, n.side, fun _ _ e _ _ => e, fun _ o e t => ⟨o, e, t⟩, fun _ m => .inl m⟩
theorem Nxt.now {D : Side} {K : PySem.W.Frag} {ρ ρ' : List Addr} {h' : Hh} {H H' : Hp} (n : Nxt D K ρ H ρ' h' H') : Now D K ρ' h' H' := ⟨n.rep, n.side⟩

def EnvR (K : PySem.W.Frag) (ρ : List Addr) (H : Hp) (env : Env) (σ : L2.St) : Prop :=
  env.length ≤ σ.length ∧ ∀ (i : Nat) (p : PV), env[i]? = some (some p) → ∃ v : V, σ[i]? = some (some v) ∧ Rep K ρ H p v
theorem EnvR.mono {K : PySem.W.Frag} {ρ ρ' : List Addr} {H H' : Hp} {env : Env} {σ : L2.St} (g : Grow H H') (h : ρ <+: ρ') (e : EnvR K ρ H env σ) : EnvR K ρ' H' env σ :=
  ⟨e.1, fun i p q => let ⟨v, h1, h2⟩ := e.2 i p q; ⟨v, h1, h2.mono g h⟩⟩
theorem EnvR.set {K : PySem.W.Frag} {ρ : List Addr} {H : Hp} {env : Env} {σ : L2.St} (e : EnvR K ρ H env σ) {p : PV} {v : V} (r : Rep K ρ H p v) (i : Nat) : EnvR K ρ H (env.set i (some p)) (σ.set i (some v)) := by
  refine ⟨by simpa using e.1, fun j q h => ?_⟩
  by_cases z : i = j
  · subst z
    by_cases l : i < env.length
    · rw [List.getElem?_set_self l] at h
      cases h
      exact ⟨v, by rw [List.getElem?_set_self (Nat.lt_of_lt_of_le l e.1)], r⟩
    · rw [List.getElem?_eq_none (by simpa using l)] at h; cases h
  · rw [List.getElem?_set_ne z] at h
    obtain ⟨v', h1, h2⟩ := e.2 j q h
    exact ⟨v', by rw [List.getElem?_set_ne z]; exact h1, h2⟩

/-- what is wanted of an outcome -/
def WantE (D : Side) (K : PySem.W.Frag) (ρ : List Addr) (H : Hp) (X : Nat → Hp → Prop) (Q : VK) : Rs PV → Prop
  | .ok p h' => ∀ v H' ρ', Nxt D K ρ H ρ' h' H' → Rep K ρ' H' p v → Q v H'
  | .exc c h' => ∀ H' ρ', Nxt D K ρ H ρ' h' H' → X c H'
  | .bad => False
def WantL (D : Side) (K : PySem.W.Frag) (ρ : List Addr) (H : Hp) (X : Nat → Hp → Prop) (Q : List V → Hp → Prop) : Rs (List PV) → Prop
  | .ok p h' => ∀ v H' ρ', Nxt D K ρ H ρ' h' H' → Reps K ρ' H' p v → Q v H'
  | .exc c h' => ∀ H' ρ', Nxt D K ρ H ρ' h' H' → X c H'
  | .bad => False
theorem WantE.at {D : Side} {K : PySem.W.Frag} {ρ ρ1 : List Addr} {H H1 : Hp} {h1 : Hh} {X : Nat → Hp → Prop} {Q : VK} {r : Rs PV} (w : WantE D K ρ H X Q r) (n : Nxt D K ρ H ρ1 h1 H1) : WantE D K ρ1 H1 X Q r := by
  cases r with
  | ok p h' => exact fun v H' ρ' m q => w v H' ρ' (n.trans m) q
  | exc c h' => exact fun H' ρ' m => w H' ρ' (n.trans m)
  | bad => exact w
theorem WantE.imp {D : Side} {K : PySem.W.Frag} {ρ : List Addr} {H : Hp} {X : Nat → Hp → Prop} {Q Q' : VK} {r : Rs PV} (w : WantE D K ρ H X Q r) (f : ∀ v H', Q v H' → Q' v H') : WantE D K ρ H X Q' r := by
  cases r with
  | ok p h' => exact fun v H' ρ' m q => f _ _ (w v H' ρ' m q)
  | exc c h' => exact w
  | bad => exact w
end Mini

/-! Snd1 -/
set_option autoImplicit false
set_option Elab.async false
set_option linter.all false
set_option maxRecDepth 100000
namespace Mini
open PySem PySem.Spec PyProof.Rows L2

abbrev WW := Nat → L2.St → Hp → Prop
/-- the contexts in which a piece of code may run: one, or all blocks of a comprehension -/
structure Fam where
  K : PySem.W.Frag
  P : Cx → Prop
  hK : ∀ X, P X → X.K = K
/-- an expression and what the evaluator makes of it -/
def SE (D : Side) (C : Cl) (F : Fam) (W : WW) (e : Expr) (ir : E) : Prop :=
  ∃ t : TE, (∀ X, F.P X → PE X e t) ∧ ∀ (L : Lk) (σ : L2.St) (H : Hp) (env : Env) (h : Hh) (ρ : List Addr) (Q : VK), Now D F.K ρ h H → EnvR F.K ρ H env σ → WantE D F.K ρ H (fun c H' => W c σ H') Q (evE C L ir env h) → t σ H Q
def ST (D : Side) (C : Cl) (F : Fam) (W : WW) (e : Expr) (ir : E) : Prop :=
  ∃ t : TT, (∀ X, F.P X → PT X e t) ∧ ∀ (L : Lk) (σ : L2.St) (H : Hp) (env : Env) (h : Hh) (ρ : List Addr) (Q : Bool → Hp → Prop), Now D F.K ρ h H → EnvR F.K ρ H env σ →
    WantE D F.K ρ H (fun c H' => W c σ H') (fun v H' => ∃ k, v = .bl k ∧ Q k H') (evE C L ir env h) → t σ H Q
/-- a chain of and, or as a test -/
def SW (D : Side) (C : Cl) (F : Fam) (W : WW) (e : Expr) (ir : E) : Prop :=
  ∃ t : TT, (∀ X, F.P X → PW X e t) ∧ ∀ (L : Lk) (σ : L2.St) (H : Hp) (env : Env) (h : Hh) (ρ : List Addr) (Q : Bool → Hp → Prop), Now D F.K ρ h H → EnvR F.K ρ H env σ →
    WantE D F.K ρ H (fun c H' => W c σ H') (fun v H' => ∃ k, v = .bl k ∧ Q k H') (evE C L ir env h) → t σ H Q
def SA (D : Side) (C : Cl) (F : Fam) (W : WW) (es : List Expr) (irs : Es) : Prop :=
  ∃ t : TA, (∀ X, F.P X → PA X es t) ∧ ∀ (L : Lk) (σ : L2.St) (H : Hp) (env : Env) (h : Hh) (ρ : List Addr) (Q : List V → Hp → Prop), Now D F.K ρ h H → EnvR F.K ρ H env σ → WantL D F.K ρ H (fun c H' => W c σ H') Q (evEs C L irs env h) → t σ H Q

section
variable {D : Side} {C : Cl} {F : Fam} {W : WW}

theorem snd_var {i : Nat} {x : Str} {pos : Pos} (hN : ∀ X, F.P X → X.N[i]? = some x) (hv : ∀ X, F.P X → Vis X.env.scope x) (hd : (x == ("__debug__" : Str)) = false) (hcd : (x == ("__classdict__" : Str)) = false) : SE D C F W (.Name x pos) (.var i) := by
  refine ⟨_, fun X hX => pe_var (hN X hX) (hv X hX) hd hcd, fun L σ H env h ρ Q n er w => ?_⟩
  unfold evE at w
  cases e : env[i]? with
  | none => rw [e] at w; exact w.elim
  | some o =>
    cases o with
    | none => rw [e] at w; exact w.elim
    | some p =>
      rw [e] at w
      obtain ⟨v, h1, h2⟩ := er.2 i p e
      exact ⟨v, h1, w v H ρ n.nxt h2⟩
theorem snd_lit {p : PV} {v : V} {e : Expr} (he : ∀ X, F.P X → PE X e (tC v)) (r : ∀ ρ H, Rep F.K ρ H p v) : SE D C F W e (.lit p) :=
  ⟨_, he, fun L σ H env h ρ Q n er w => by unfold evE at w; exact w v H ρ n.nxt (r ρ H)⟩
theorem snd_int {i : Int} {j : Nat} {pos : Pos} : SE D C F W (.Constant (.int i) j pos) (.lit (.int i)) := snd_lit (fun _ _ => pe_int) fun _ _ => .int i
theorem snd_bl {b : Bool} {j : Nat} {pos : Pos} : SE D C F W (.Constant (.bool b) j pos) (.lit (.bl b)) := snd_lit (fun _ _ => pe_bl) fun _ _ => .bl b
theorem snd_non {j : Nat} {pos : Pos} : SE D C F W (.Constant .none j pos) (.lit .non) := snd_lit (fun _ _ => pe_non) fun _ _ => .non
theorem rep_str {K : PySem.W.Frag} {ρ : List Addr} {H : Hp} (x : Str) : Rep K ρ H (.str x.cps.toList) (.str x) := by
  have := Rep.str (K := K) (ρ := ρ) (H := H) x.cps.toList
  simpa using this
theorem snd_str {x : Str} {j : Nat} {pos : Pos} : SE D C F W (.Constant (.str x) j pos) (.lit (.str x.cps.toList)) := snd_lit (fun _ _ => pe_str) fun _ _ => rep_str x

/-- what is asked of a value-level rule for two values -/
def R2E (D : Side) (K : PySem.W.Frag) (f : PV → PV → Hh → Rs PV) : R2 := fun x y H Q => ∃ (ρ : List Addr) (h : Hh) (p q : PV), Now D K ρ h H ∧ Rep K ρ H p x ∧ Rep K ρ H q y ∧ WantE D K ρ H (fun _ _ => False) Q (f p q h)
/-- no exception comes out of f -/
def NoX2 (f : PV → PV → Hh → Rs PV) : Prop := ∀ p q h c h', f p q h ≠ .exc c h'
theorem want_no {D : Side} {K : PySem.W.Frag} {ρ : List Addr} {H : Hp} {Xx Xy : Nat → Hp → Prop} {Q : VK} {r : Rs PV} (hn : ∀ c h', r ≠ .exc c h') (w : WantE D K ρ H Xx Q r) : WantE D K ρ H Xy Q r := by
  cases r with
  | ok p h' => exact w
  | exc c h' => exact absurd rfl (hn c h')
  | bad => exact w

/-- two parts, then a rule by values -/
theorem two_parts {ia ib : E} {ta tb : TE} {r : R2} {f : PV → PV → Hh → Rs PV} (hr : ∀ x y H Q, R2E D F.K f x y H Q → r x y H Q) (hn : NoX2 f)
    (ha : ∀ (L : Lk) (σ : L2.St) (H : Hp) (env : Env) (h : Hh) (ρ : List Addr) (Q : VK), Now D F.K ρ h H → EnvR F.K ρ H env σ → WantE D F.K ρ H (fun c H' => W c σ H') Q (evE C L ia env h) → ta σ H Q)
    (hb : ∀ (L : Lk) (σ : L2.St) (H : Hp) (env : Env) (h : Hh) (ρ : List Addr) (Q : VK), Now D F.K ρ h H → EnvR F.K ρ H env σ → WantE D F.K ρ H (fun c H' => W c σ H') Q (evE C L ib env h) → tb σ H Q)
    (L : Lk) (σ : L2.St) (H : Hp) (env : Env) (h : Hh) (ρ : List Addr) (Q : VK) (n : Now D F.K ρ h H) (er : EnvR F.K ρ H env σ)
    (w : WantE D F.K ρ H (fun c H' => W c σ H') Q (match evE C L ia env h with
      | .ok x h => (match evE C L ib env h with
        | .ok y h => f x y h
        | r => r)
      | r => r)) : ta σ H fun x H1 => tb σ H1 fun y H2 => r x y H2 Q := by
  refine ha L σ H env h ρ _ n er ?_
  cases ea : evE C L ia env h with
  | bad => rw [ea] at w; exact w
  | exc c h1 => rw [ea] at w; exact w
  | ok p h1 =>
    rw [ea] at w
    intro v H1 ρ1 n1 rp
    refine hb L σ H1 env h1 ρ1 _ n1.now (er.mono n1.grow n1.pre) ?_
    have w1 := w.at n1
    cases eb : evE C L ib env h1 with
    | bad => simp only [eb] at w1; exact w1
    | exc c h2 => simp only [eb] at w1; exact w1
    | ok q h2 =>
      simp only [eb] at w1
      intro u H2 ρ2 n2 rq
      exact hr v u H2 Q ⟨ρ2, h2, p, q, n2.now, rp.mono n2.grow n2.pre, rq, want_no (hn p q h2) (w1.at n2)⟩
theorem snd_op {o : Bop} {op : Operator} {r : R2} {a b : Expr} {ia ib : E} {pos : Pos} (ho : ∀ X, F.P X → OpR X (binaryOp op) r) (hr : ∀ x y H Q, R2E D F.K (binE o) x y H Q → r x y H Q) (hn : NoX2 (binE o)) (ha : SE D C F W a ia) (hb : SE D C F W b ib) : SE D C F W (.BinOp a op b pos) (.bin o ia ib) := by
  obtain ⟨ta, pa, sa⟩ := ha
  obtain ⟨tb, pb, sb⟩ := hb
  refine ⟨_, fun X hX => pe_op (ho X hX) (pa X hX) (pb X hX), fun L σ H env h ρ Q n er w => ?_⟩
  unfold evE at w
  exact two_parts hr hn sa sb L σ H env h ρ Q n er w
theorem snd_cmp {o : Cop} {op : CmpOp} {r : R2} {a b : Expr} {ia ib : E} {pos : Pos} (ho : ∀ X, F.P X → OpR X (compareOp op) r) (hr : ∀ x y H Q, R2E D F.K (cmpE o) x y H Q → r x y H Q) (hn : NoX2 (cmpE o)) (ha : SE D C F W a ia) (hb : SE D C F W b ib) (hm : behindInMarks op b = false) :
    SE D C F W (.Compare a [op] [b] pos) (.cmp o ia ib) := by
  obtain ⟨ta, pa, sa⟩ := ha
  obtain ⟨tb, pb, sb⟩ := hb
  refine ⟨_, fun X hX => pe_cmpR (ho X hX) (pa X hX) (pb X hX) hm, fun L σ H env h ρ Q n er w => ?_⟩
  unfold evE at w
  exact two_parts hr hn sa sb L σ H env h ρ Q n er w
theorem snd_cmpT {o : Cop} {op : CmpOp} {r : R2} {a b : Expr} {ia ib : E} {pos : Pos} (ho : ∀ X, F.P X → OpR X (compareOp op) r) (hr : ∀ x y H Q, R2E D F.K (cmpE o) x y H Q → r x y H Q) (hn : NoX2 (cmpE o)) (ha : SE D C F W a ia) (hb : SE D C F W b ib) (hm : behindInMarks op b = false) :
    ST D C F W (.Compare a [op] [b] pos) (.cmp o ia ib) := by
  obtain ⟨ta, pa, sa⟩ := ha
  obtain ⟨tb, pb, sb⟩ := hb
  refine ⟨_, fun X hX => pt_cmpR (ho X hX) (pa X hX) (pb X hX) hm, fun L σ H env h ρ Q n er w => ?_⟩
  unfold evE at w
  exact two_parts hr hn sa sb L σ H env h ρ _ n er w
theorem snd_idx {r : R2} {a b : Expr} {ia ib : E} {pos : Pos} (ho : ∀ X, F.P X → IxR X r) (hr : ∀ x y H Q, R2E D F.K idxE x y H Q → r x y H Q) (hn : NoX2 idxE) (ha : SE D C F W a ia) (hb : SE D C F W b ib) (hs : PlainIx b) : SE D C F W (.Subscript a b pos) (.idx ia ib) := by
  obtain ⟨ta, pa, sa⟩ := ha
  obtain ⟨tb, pb, sb⟩ := hb
  refine ⟨_, fun X hX => pe_ix (ho X hX) (pa X hX) (pb X hX) hs, fun L σ H env h ρ Q n er w => ?_⟩
  unfold evE at w
  exact two_parts hr hn sa sb L σ H env h ρ Q n er w
/-- a value that is a bool, as a test -/
theorem ST.of {e : Expr} {ir : E} (s : SE D C F W e ir) (he : ∀ X, F.P X → ∀ whole, isTrue e X.env whole = (do let v ← whole; standAt e.pos; holding [v] (truthy v))) : ST D C F W e ir := by
  obtain ⟨t, p, s⟩ := s
  exact ⟨_, fun X hX => pt_val (p X hX) (he X hX), fun L σ H env h ρ Q n er w => s L σ H env h ρ _ n er w⟩
theorem SW.st {e : Expr} {ir : E} (s : SW D C F W e ir) : ST D C F W e ir := by
  obtain ⟨t, p, s⟩ := s
  exact ⟨t, fun X hX => (p X hX).pt, s⟩
theorem snd_not {a : Expr} {ia : E} {pos : Pos} (ha : ST D C F W a ia) : ST D C F W (.UnaryOp .Not a pos) (.not_ ia) := by
  obtain ⟨t, p, s⟩ := ha
  refine ⟨_, fun X hX => pt_not (p X hX), fun L σ H env h ρ Q n er w => ?_⟩
  unfold evE at w
  refine s L σ H env h ρ _ n er ?_
  cases e : evE C L ia env h with
  | bad => rw [e] at w; exact w
  | exc c h1 => rw [e] at w; exact w
  | ok q h1 =>
    rw [e] at w
    cases q <;> first
      | exact False.elim w
      | (rename_i k
         intro v H' ρ' m rp
         cases rp
         obtain ⟨k', e', q⟩ := w (.bl (!k)) H' ρ' m (.bl _)
         cases e'
         exact ⟨k, rfl, q⟩)
theorem snd_and1 {a : Expr} {ia : E} {pos : Pos} (ha : ST D C F W a ia) : SW D C F W (.BoolOp .And [a] pos) ia := by
  obtain ⟨t, p, s⟩ := ha
  exact ⟨t, fun X hX => pw_and1 (p X hX), s⟩
theorem snd_or1 {a : Expr} {ia : E} {pos : Pos} (ha : ST D C F W a ia) : SW D C F W (.BoolOp .Or [a] pos) ia := by
  obtain ⟨t, p, s⟩ := ha
  exact ⟨t, fun X hX => pw_or1 (p X hX), s⟩
theorem snd_and {a b : Expr} {rest : List Expr} {ia ib : E} {pos : Pos} (ha : ST D C F W a ia) (hb : SW D C F W (.BoolOp .And (b :: rest) pos) ib) : SW D C F W (.BoolOp .And (a :: b :: rest) pos) (.and_ ia ib) := by
  obtain ⟨ta, pa, sa⟩ := ha
  obtain ⟨tb, pb, sb⟩ := hb
  refine ⟨_, fun X hX => pw_and (pa X hX) (pb X hX), fun L σ H env h ρ Q n er w => ?_⟩
  unfold evE at w
  refine sa L σ H env h ρ _ n er ?_
  cases e : evE C L ia env h with
  | bad => rw [e] at w; exact w
  | exc c h1 => rw [e] at w; exact w
  | ok q h1 =>
    rw [e] at w
    cases q <;> first
      | exact False.elim w
      | (rename_i k
         intro v H' ρ' m rp
         cases rp
         refine ⟨k, rfl, ?_⟩
         cases k with
         | true => rw [if_pos rfl]; exact sb L σ H' env h1 ρ' _ m.now (er.mono m.grow m.pre) (WantE.at w m)
         | false =>
           rw [if_neg Bool.false_ne_true]
           obtain ⟨k', e', q⟩ := w (.bl false) H' ρ' m (.bl _)
           cases e'
           exact q)
theorem snd_or {a b : Expr} {rest : List Expr} {ia ib : E} {pos : Pos} (ha : ST D C F W a ia) (hb : SW D C F W (.BoolOp .Or (b :: rest) pos) ib) : SW D C F W (.BoolOp .Or (a :: b :: rest) pos) (.or_ ia ib) := by
  obtain ⟨ta, pa, sa⟩ := ha
  obtain ⟨tb, pb, sb⟩ := hb
  refine ⟨_, fun X hX => pw_or (pa X hX) (pb X hX), fun L σ H env h ρ Q n er w => ?_⟩
  unfold evE at w
  refine sa L σ H env h ρ _ n er ?_
  cases e : evE C L ia env h with
  | bad => rw [e] at w; exact w
  | exc c h1 => rw [e] at w; exact w
  | ok q h1 =>
    rw [e] at w
    cases q <;> first
      | exact False.elim w
      | (rename_i k
         intro v H' ρ' m rp
         cases rp
         refine ⟨k, rfl, ?_⟩
         cases k with
         | false => rw [if_neg Bool.false_ne_true]; exact sb L σ H' env h1 ρ' _ m.now (er.mono m.grow m.pre) (WantE.at w m)
         | true =>
           rw [if_pos rfl]
           obtain ⟨k', e', q⟩ := w (.bl true) H' ρ' m (.bl _)
           cases e'
           exact q)
theorem snd_ife {c a b : Expr} {ic ia ib : E} {pos : Pos} (hc : ST D C F W c ic) (ha : SE D C F W a ia) (hb : SE D C F W b ib) : SE D C F W (.IfExp c a b pos) (.ife ic ia ib) := by
  obtain ⟨tc, pc, sc⟩ := hc
  obtain ⟨ta, pa, sa⟩ := ha
  obtain ⟨tb, pb, sb⟩ := hb
  refine ⟨_, fun X hX => pe_ifExp (pc X hX) (pa X hX) (pb X hX), fun L σ H env h ρ Q n er w => ?_⟩
  unfold evE at w
  refine sc L σ H env h ρ _ n er ?_
  cases e : evE C L ic env h with
  | bad => rw [e] at w; exact w
  | exc c h1 => rw [e] at w; exact w
  | ok q h1 =>
    rw [e] at w
    cases q <;> first
      | exact False.elim w
      | (rename_i k
         intro v H' ρ' m rp
         cases rp
         refine ⟨k, rfl, ?_⟩
         cases k with
         | true => rw [if_pos rfl]; exact sa L σ H' env h1 ρ' _ m.now (er.mono m.grow m.pre) (WantE.at w m)
         | false => rw [if_neg Bool.false_ne_true]; exact sb L σ H' env h1 ρ' _ m.now (er.mono m.grow m.pre) (WantE.at w m))
theorem snd_nil : SA D C F W [] .nil := ⟨_, fun X hX => pa_nil, fun L σ H env h ρ Q n er w => by unfold evEs at w; exact w [] H ρ n.nxt .nil⟩
theorem snd_cons {e : Expr} {es : List Expr} {i : E} {is : Es} (he : SE D C F W e i) (hes : SA D C F W es is) (hs : ∀ X : Cx, starEach (e :: es) X.env = (false, eval e X.env) :: starEach es X.env) : SA D C F W (e :: es) (.cons i is) := by
  obtain ⟨ta, pa, sa⟩ := he
  obtain ⟨tb, pb, sb⟩ := hes
  refine ⟨_, fun X hX => pa_cons (pa X hX) (pb X hX) (hs X), fun L σ H env h ρ Q n er w => ?_⟩
  unfold evEs at w
  refine sa L σ H env h ρ _ n er ?_
  cases ea : evE C L i env h with
  | bad => rw [ea] at w; exact w
  | exc c h1 => rw [ea] at w; exact w
  | ok p h1 =>
    rw [ea] at w
    intro v H1 ρ1 n1 rp
    refine sb L σ H1 env h1 ρ1 _ n1.now (er.mono n1.grow n1.pre) ?_
    cases eb : evEs C L is env h1 with
    | bad => simp only [eb] at w; exact w
    | exc c h2 => simp only [eb] at w; exact fun H2 ρ2 n2 => w H2 ρ2 (n1.trans n2)
    | ok q h2 =>
      simp only [eb] at w
      intro u H2 ρ2 n2 rq
      exact w (v :: u) H2 ρ2 (n1.trans n2) (.cons (rp.mono n2.grow n2.pre) rq)
end
end Mini

/-! Snd2 -/
set_option autoImplicit false
set_option Elab.async false
set_option linter.all false
set_option maxRecDepth 100000
namespace Mini
open PySem PySem.Spec PyProof.Rows L2

theorem lim_size : lim ≤ sizeLine := by decide
section
variable {D : Side} {K : PySem.W.Frag} {ρ : List Addr} {h : Hh} {H : Hp}
theorem ObR.mono {ρ' : List Addr} {H' : Hp} {a : Addr} (g : Grow H H') (hp : ρ <+: ρ') (e : H' a = H a) : ∀ {o : Ob}, ObR K ρ H a o → ObR K ρ' H' a o
  | .lst ps, ⟨vs, h1, h2⟩ => ⟨vs, by rw [e]; exact h1, h2.mono g hp⟩
theorem ObR.ne {a b : Addr} {o : Ob} (r : ObR K ρ H a o) (n : H b = none) : a ≠ b := by
  rintro rfl
  cases o with
  | lst ps => obtain ⟨vs, h1, _⟩ := r; rw [n] at h1; cases h1
  | dic _ => exact r
  | ins _ _ => exact r
theorem HRep.new (r : HRep K ρ h H) {a : Addr} {o : HO} (n : H a = none) : HRep K ρ h (upd H a o) :=
  ⟨r.len, r.nd, fun i o' e => let ⟨b, h1, h2⟩ := r.at_ i o' e; ⟨b, h1, h2.mono (keep_new n).grow (List.prefix_refl _) (upd_ne (h2.ne n))⟩⟩
theorem Now.new (n : Now D K ρ h H) {a : Addr} {o : HO} (e : H a = none) : Nxt D K ρ H ρ h (upd H a o) :=
  ⟨(keep_new e).grow, List.prefix_refl _, n.rep.new e, D.keep n.side (keep_new e), fun b u q _ _ => by rw [upd_ne (ne_of_none q e)]; exact q, fun b u q t => ⟨u, by rw [upd_ne (ne_of_none q e)]; exact q, t⟩, fun _ m => .inl m⟩
/-- a new changeable list -/
theorem Now.push (n : Now D K ρ h H) {a : Addr} {ps : List PV} {vs : List V} (e : H a = none) (r : Reps K ρ H ps vs) : Nxt D K ρ H (ρ ++ [a]) (h ++ [.lst ps]) (upd H a (.lst vs)) := by
  have g := (keep_new (o := .lst vs) e).grow
  have pr : ρ <+: ρ ++ [a] := List.prefix_append _ _
  refine ⟨g, pr, ⟨by simp [n.rep.len], ?_, fun i o' ei => ?_⟩, D.keep n.side (keep_new e), fun b u q _ _ => by rw [upd_ne (ne_of_none q e)]; exact q, fun b u q t => ⟨u, by rw [upd_ne (ne_of_none q e)]; exact q, t⟩, fun b m => ?_⟩
  rotate_left 2
  · rcases List.mem_append.mp m with z | z
    · exact .inl z
    · rw [List.mem_singleton.mp z]; exact .inr fun o q => by rw [e] at q; cases q
  · rw [List.nodup_append]
    refine ⟨n.rep.nd, by simp, fun b hb c hc => ?_⟩
    rw [List.mem_singleton.mp hc]
    obtain ⟨i, hi, eb⟩ := List.getElem_of_mem hb
    have hl : i < h.length := by rw [← n.rep.len]; exact hi
    obtain ⟨b', h1, h2⟩ := n.rep.at_ i _ (List.getElem?_eq_getElem hl)
    rw [List.getElem?_eq_getElem hi, eb] at h1
    cases h1
    exact h2.ne e
  · by_cases hi : i < h.length
    · rw [List.getElem?_append_left hi] at ei
      obtain ⟨b, h1, h2⟩ := n.rep.at_ i o' ei
      exact ⟨b, pre_get pr h1, h2.mono g pr (upd_ne (h2.ne e))⟩
    · rw [List.getElem?_append_right (by omega)] at ei
      have i0 : i - h.length = 0 := by
        have := (List.getElem?_eq_some_iff.mp ei).1
        simp at this
        omega
      rw [i0] at ei
      simp at ei
      subst ei
      refine ⟨a, ?_, vs, upd_same, r.mono g pr⟩
      rw [List.getElem?_append_right (by rw [n.rep.len]; omega), n.rep.len, i0]
      rfl
/-- a changeable list is written -/
theorem Now.write (n : Now D K ρ h H) {i : Nat} {a : Addr} {ps qs : List PV} {vs ws : List V} (ei : h[i]? = some (.lst ps)) (ea : ρ[i]? = some a) (r : Reps K ρ H qs ws) : Nxt D K ρ H ρ (h.set i (.lst qs)) (upd H a (.lst ws)) := by
  obtain ⟨a', h1, vs', h2, _⟩ := n.rep.at_ i _ ei
  rw [ea] at h1
  cases h1
  have k := keep_lst (o := .lst ws) h2
  have ma : a ∈ ρ := List.mem_of_getElem? ea
  refine ⟨k.grow, List.prefix_refl _, ⟨by simp [n.rep.len], n.rep.nd, fun j o' ej => ?_⟩, D.keep n.side k, fun b u q nb _ => by rw [upd_ne (show b ≠ a from fun z => nb (by rw [z]; exact ma))]; exact q, fun b u q t => ?_, fun _ m => .inl m⟩
  rotate_left
  · by_cases z : b = a
    · subst z; exact ⟨_, upd_same, id⟩
    · exact ⟨u, by rw [upd_ne z]; exact q, t⟩
  by_cases z : i = j
  · subst z
    rw [List.getElem?_set_self (List.getElem?_eq_some_iff.mp ei).1] at ej
    cases ej
    exact ⟨a, ea, ws, upd_same, r.mono k.grow (List.prefix_refl _)⟩
  · rw [List.getElem?_set_ne z] at ej
    obtain ⟨b, q1, q2⟩ := n.rep.at_ j o' ej
    refine ⟨b, q1, q2.mono k.grow (List.prefix_refl _) (upd_ne fun w => z ?_)⟩
    subst w
    obtain ⟨l1, e1⟩ := List.getElem?_eq_some_iff.mp ea
    obtain ⟨l2, e2⟩ := List.getElem?_eq_some_iff.mp q1
    exact (List.getElem_inj n.rep.nd).mp (e1.trans e2.symm)

/-- a list, changeable or not -/
theorem view_lst (n : Now D K ρ h H) {p : PV} {v : V} {xs : List PV} (r : Rep K ρ H p v) (e : view h p = .lst xs) : ∃ a vs, v = .ref a ∧ SqL K H a vs ∧ Reps K ρ H xs vs := by
  cases r with
  | lst q rs => cases e; exact ⟨_, _, rfl, q.sq, rs⟩
  | ref ea =>
    rename_i i a
    unfold view at e
    dsimp only at e
    cases eo : h[i]? with
    | none => rw [eo] at e; cases e
    | some o =>
      rw [eo] at e
      cases o with
      | lst ys =>
        cases e
        obtain ⟨a', h1, vs, h2, h3⟩ := n.rep.at_ _ _ eo
        rw [ea] at h1
        cases h1
        exact ⟨_, vs, rfl, SqL.of h2, h3⟩
      | dic _ => cases e
      | ins _ _ => cases e
  | _ => cases e
theorem seq_of (n : Now D K ρ h H) {p : PV} {v : V} {xs : List PV} (r : Rep K ρ H p v) (e : seqOf h p = some xs) : ∃ a vs, v = .ref a ∧ (SqL K H a vs ∨ SqT K H a vs) ∧ Reps K ρ H xs vs := by
  cases r with
  | lst q rs => cases e; exact ⟨_, _, rfl, .inl q.sq, rs⟩
  | tup q rs => cases e; exact ⟨_, _, rfl, .inr q, rs⟩
  | ref ea =>
    rename_i i a
    unfold seqOf at e
    dsimp only at e
    cases eo : h[i]? with
    | none => rw [eo] at e; cases e
    | some o =>
      rw [eo] at e
      cases o with
      | lst ys =>
        cases e
        obtain ⟨a', h1, vs, h2, h3⟩ := n.rep.at_ _ _ eo
        rw [ea] at h1
        cases h1
        exact ⟨_, vs, rfl, .inl (SqL.of h2), h3⟩
      | dic _ => cases e
      | ins _ _ => cases e
  | _ => cases e

theorem want_ok {Xx : Nat → Hp → Prop} {Q : VK} {p : PV} {v : V} (n : Now D K ρ h H) (w : WantE D K ρ H Xx Q (.ok p h)) (r : Rep K ρ H p v) : Q v H := w v H ρ n.nxt r
end

section
variable {D : Side} {X : Cx} {pins : List (Addr × Obj)} {σ : L2.St} {H : Hp} {s : Shared} {ρ : List Addr} {h : Hh}
/-- a new list has come: it stays as it is -/
theorem fin_lst {Q : VK} {a : Addr} {ps : List PV} {vs : List V} {Xx : Nat → Hp → Prop} (n : Now D X.K ρ h H) (e : H a = none) (r : Reps X.K ρ H ps vs) (I : Inv X pins σ (upd H a (.lst vs)) s) (w : WantE D X.K ρ H Xx Q (.ok (.lst ps) h)) : EP X pins σ Q (.ref a) s := by
  obtain ⟨od, I2⟩ := I.lock upd_same trivial
  rw [upd_upd] at I2
  have m : Nxt D X.K ρ H ρ h (upd H a (.frz od (.lst vs))) := n.new e
  exact ⟨.ref a, _, I2, rfl, w (.ref a) _ ρ m (.lst (.inl ⟨od, upd_same⟩) (r.mono m.grow m.pre))⟩
theorem fin_tup {Q : VK} {a : Addr} {ps : List PV} {vs : List V} {Xx : Nat → Hp → Prop} (n : Now D X.K ρ h H) (e : H a = none) (r : Reps X.K ρ H ps vs) (I : Inv X pins σ (upd H a (.tup vs)) s) (w : WantE D X.K ρ H Xx Q (.ok (.tup ps) h)) : EP X pins σ Q (.ref a) s := by
  have m : Nxt D X.K ρ H ρ h (upd H a (.tup vs)) := n.new e
  exact ⟨.ref a, _, I, rfl, w (.ref a) _ ρ m (.tup (.inl (.inl upd_same)) (r.mono m.grow m.pre))⟩
end

section
variable {D : Side} {X : Cx}
theorem mulOk_ok {i j : Int} (h : mulOk i j = true) : IntMulOk i j := by
  unfold mulOk at h
  simp only [Bool.or_eq_true, decide_eq_true_eq] at h
  rcases h with (h | h) | h
  · exact CMul.ok (.inl (by omega))
  · exact CMul.ok (.inr (by omega))
  · exact CMulW.ok h
theorem str_toks {x y : List Nat} : (⟨x.toArray⟩ : Str) ++ (⟨y.toArray⟩ : Str) = ⟨(x ++ y).toArray⟩ := by
  show Str.mk (x.toArray ++ y.toArray) = _
  simp
theorem Reps.nil_iff {K : PySem.W.Frag} {ρ : List Addr} {H : Hp} {ps : List PV} {vs : List V} (r : Reps K ρ H ps vs) : vs = [] ↔ ps = [] := by
  cases r <;> simp
/-- lists added -/
theorem cat_lists {pins : List (Addr × Obj)} {σ : L2.St} {H : Hp} {s : Shared} {ρ : List Addr} {h : Hh} {Q : VK} {a b : Addr} {ps qs : List PV} {vs ws : List V} (I : Inv X pins σ H s) (n : Now D X.K ρ h H)
    (ha : SqL X.K H a vs) (hb : SqL X.K H b ws) (ra : Reps X.K ρ H ps vs) (rb : Reps X.K ρ H qs ws) (hz : ps.length + qs.length ≤ lim) (w : WantE D X.K ρ H (fun _ _ => False) Q (.ok (.lst (ps ++ qs)) h)) :
    wpAny (model X.prog X.w) X.A (binaryOp .Add (.ref a) (.ref b)) (EP X pins σ Q) X.xe s := by
  obtain ⟨its, r, hl, z⟩ := I.list ha
  obtain ⟨its2, r2, hl2, z2⟩ := I.list hb
  obtain ⟨⟨cls, dd, data, sl⟩, ho, hc, n1, hd⟩ := hl.isList
  obtain ⟨⟨cls2, dd2, data2, sl2⟩, ho2, hc2, n2, hd2⟩ := hl2.isList
  simp only at hc hd hc2 hd2
  subst hc hd hc2 hd2
  have ea : its.toArray ++ its2.toArray = (its ++ its2).toArray := by simp
  have l1 := ra.length
  have l2 := rb.length
  have l3 := r.length
  have l4 := r2.length
  have lm := lim_size
  refine concat_meets ⟨_, ho, rfl⟩ ⟨_, ho2, rfl⟩ noFill_list_add seq_list_add PySem.F.slot_list_add PySem.F.entry_list_add (PySem.F.args_list_add_2 _ _) (list_addW a b its.toArray its2.toArray n1 n2 dd dd2 sl sl2 (by rw [List.size_toArray, List.size_toArray]; omega)) ⟨ho, ho2, ?_⟩
  rw [ea]
  exact fin_lst n I.fresh (ra.append rb) (I.lnew (t' := s.toks) (r.append r2) (by rw [List.length_append]; omega)) w

theorem opr_add : OpR X (binaryOp .Add) (R2E D X.K (binE .add)) := by
  intro pins s σ H x y v u Q I rx ry hh
  obtain ⟨ρ, h, p, q, n, rp, rq, w⟩ := hh
  have key : ∀ xs ys, view h p = .lst xs → view h q = .lst ys → (if xs.length + ys.length ≤ lim then Rs.ok (.lst (xs ++ ys)) h else .bad) = binE .add p q h → wpAny (model X.prog X.w) X.A (binaryOp .Add v u) (EP X pins σ Q) X.xe s := by
    intro xs ys e1 e2 e3
    rw [← e3] at w
    obtain ⟨a, vs, rfl, ha, ra⟩ := view_lst n rp e1
    obtain ⟨b, ws, rfl, hb, rb⟩ := view_lst n rq e2
    cases rx
    cases ry
    by_cases z : xs.length + ys.length ≤ lim
    · rw [if_pos z] at w
      exact cat_lists I n ha hb ra rb z w
    · rw [if_neg z] at w
      exact w.elim
  have gen : binE .add p q h = (match view h p, view h q with
      | .lst x, .lst y => if x.length + y.length ≤ lim then .ok (.lst (x ++ y)) h else .bad
      | _, _ => .bad) → wpAny (model X.prog X.w) X.A (binaryOp .Add v u) (EP X pins σ Q) X.xe s := by
    intro e
    cases e1 : view h p <;> cases e2 : view h q <;> simp only [e1, e2] at e <;> first
      | exact key _ _ e1 e2 e.symm
      | (rw [e] at w; exact w.elim)
  cases rp with
  | int i =>
    cases rq with
    | int j =>
      obtain ⟨t, rfl⟩ := rx
      obtain ⟨t', rfl⟩ := ry
      exact add_int ⟨.int _, H, I.tok _, ⟨_, rfl⟩, want_ok n w (.int _)⟩
    | ref e => exact gen rfl
    | _ => exact w.elim
  | str a =>
    cases rq with
    | str b =>
      obtain ⟨t, rfl⟩ := rx
      obtain ⟨t', rfl⟩ := ry
      by_cases z : a.length + b.length ≤ lim
      · have w' : WantE D X.K ρ H (fun _ _ => False) Q (.ok (.str (a ++ b)) h) := by
          simp only [binE, if_pos z] at w; exact w
        have lm := lim_size
        refine add_str (fun t5 k5 => ⟨.str (⟨a.toArray⟩ ++ ⟨b.toArray⟩), H, I.tok _, ⟨t5, rfl⟩, ?_⟩) (by show (a.toArray).size + (b.toArray).size ≤ sizeLine; rw [List.size_toArray, List.size_toArray]; omega)
        rw [str_toks]
        exact want_ok n w' (.str _)
      · simp only [binE, if_neg z] at w; exact w.elim
    | ref e => exact gen rfl
    | _ => exact w.elim
  | tup qa ra =>
    rename_i xs vs a
    cases rq with
    | tup qb rb =>
      rename_i ys ws b
      cases rx
      cases ry
      by_cases z : xs.length + ys.length ≤ lim ∧ xs ≠ []
      · have w' : WantE D X.K ρ H (fun _ _ => False) Q (.ok (.tup (xs ++ ys)) h) := by
          simp only [binE, if_pos z] at w; exact w
        have l1 := ra.length
        have l2 := rb.length
        have lm := lim_size
        refine thn (op_catT pins s σ H (.ref a) (.ref b) _ _ (fun v H' => ∃ o, v = .ref o ∧ ((H' = H ∧ o = a ∧ ys = []) ∨ (H o = none ∧ H' = upd H o (.tup (vs ++ ws))))) I rfl rfl ⟨a, b, vs, ws, rfl, rfl, qa, qb, fun e => z.2 (ra.nil_iff.mp e), by omega, fun e => ⟨a, rfl, .inl ⟨rfl, rfl, rb.nil_iff.mp e⟩⟩, fun _ o no => ⟨o, rfl, .inr ⟨no, rfl⟩⟩⟩) fun u s1 hq => ?_
        obtain ⟨x, H1, I1, r1, o, rfl, hq⟩ := hq
        obtain rfl : u = Value.ref o := r1
        rcases hq with ⟨rfl, rfl, rfl⟩ | ⟨no, rfl⟩
        · rw [List.append_nil] at w'
          exact ⟨.ref _, _, I1, rfl, want_ok n w' (.tup qa ra)⟩
        · exact fin_tup n no (ra.append rb) I1 w'
      · simp only [binE, if_neg z] at w; exact w.elim
    | ref e => exact gen rfl
    | _ => exact w.elim
  | lst qa ra =>
    refine gen ?_
    cases rq <;> rfl
  | ref e =>
    refine gen ?_
    cases rq <;> rfl
  | non => exact gen (by cases rq <;> rfl)
  | bl b => exact gen (by cases rq <;> rfl)
end
end Mini

/-! Snd3 -/
set_option autoImplicit false
set_option Elab.async false
set_option linter.all false
set_option maxRecDepth 100000
namespace Mini
open PySem PySem.Spec PyProof.Rows L2

mutual
def toD : PV → PyData
  | .non => .none
  | .bl b => .bool b
  | .int i => .int i
  | .str s => .str ⟨s.toArray⟩
  | .tup xs => .tuple (toDs xs)
  | .lst xs => .list (toDs xs)
  | _ => .none
def toDs : List PV → List PyData
  | [] => []
  | x :: xs => toD x :: toDs xs
end
theorem flatN_dic (k : Nat) (x : List (PV × PV)) : flatN k (.dic x) = false := by cases k <;> rfl
theorem flatN_ref (k : Nat) (x : Nat) : flatN k (.ref x) = false := by cases k <;> rfl
theorem flatN_clo (k : Nat) (x : Nat) (y : List PV) : flatN k (.clo x y) = false := by cases k <;> rfl
theorem toDs_map : ∀ xs : List PV, toDs xs = xs.map toD
  | [] => rfl
  | x :: xs => by rw [toDs, toDs_map xs]; rfl
theorem flat_depth : ∀ (k : Nat) (p : PV), flatN k p = true → (toD p).plain = true ∧ (toD p).depth ≤ k := by
  intro k
  induction k with
  | zero =>
    intro p h
    cases p <;> first | exact ⟨rfl, Nat.le_refl _⟩ | (simp [flatN] at h)
  | succ k ih =>
    have all : ∀ xs : List PV, xs.all (flatN k) = true → PyData.plainAll (toDs xs) = true ∧ PyData.depthAll (toDs xs) ≤ k := by
      intro xs
      induction xs with
      | nil => intro _; exact ⟨rfl, Nat.zero_le _⟩
      | cons x xs ihx =>
        intro h
        rw [List.all_cons, Bool.and_eq_true] at h
        obtain ⟨h1, h2⟩ := ih x h.1
        obtain ⟨h3, h4⟩ := ihx h.2
        rw [toDs]
        exact ⟨by simp only [PyData.plainAll, h1, h3, Bool.and_self], by simp only [PyData.depthAll]; omega⟩
    intro p h
    cases p with
    | tup xs =>
      obtain ⟨h1, h2⟩ := all xs (by simpa [flatN] using h)
      simp only [toD, PyData.plain, PyData.depth]
      exact ⟨h1, by omega⟩
    | lst xs =>
      obtain ⟨h1, h2⟩ := all xs (by simpa [flatN] using h)
      simp only [toD, PyData.plain, PyData.depth]
      exact ⟨h1, by omega⟩
    | dic _ => simp [flatN] at h
    | ref _ => simp [flatN] at h
    | clo _ _ => simp [flatN] at h
    | _ => exact ⟨rfl, by simp [toD, PyData.depth]⟩
theorem flat_plain {p : PV} (h : flat p = true) : (toD p).plain = true := (flat_depth _ p h).1
theorem flat_deep {p : PV} (h : flat p = true) : (toD p).depth ≤ 24 := (flat_depth _ p h).2
theorem flats_plain : ∀ {ps : List PV}, flats ps = true → PyData.plainAll (toDs ps) = true ∧ PyData.depthAll (toDs ps) ≤ 24
  | [], _ => ⟨rfl, Nat.zero_le _⟩
  | x :: xs, h => by
    rw [flats, List.all_cons, Bool.and_eq_true] at h
    obtain ⟨h3, h4⟩ := flats_plain (ps := xs) h.2
    have h1 := flat_plain h.1
    have h2 := flat_deep h.1
    rw [toDs]
    exact ⟨by simp only [PyData.plainAll, h1, h3, Bool.and_self], by simp only [PyData.depthAll]; omega⟩
theorem str_beq (x y : List Nat) : ((⟨x.toArray⟩ : Str) == ⟨y.toArray⟩) = (x == y) := by
  rw [Bool.eq_iff_iff, beq_iff_eq, beq_iff_eq]
  exact ⟨fun e => by injection e with e; simpa using congrArg Array.toList e, fun e => by rw [e]⟩
mutual
theorem eqv_toD : ∀ (k : Nat) (x y : PV), flatN k x = true → flatN k y = true → PyData.eqv (toD x) (toD y) = eqv x y
  | k, .tup xs, .tup ys, h1, h2 => by
    cases k with
    | zero => simp [flatN] at h1
    | succ k => simp only [toD, PyData.eqv, eqv]; exact eqvs_toD k xs ys (by simpa [flatN] using h1) (by simpa [flatN] using h2)
  | k, .lst xs, .lst ys, h1, h2 => by
    cases k with
    | zero => simp [flatN] at h1
    | succ k => simp only [toD, PyData.eqv, eqv]; exact eqvs_toD k xs ys (by simpa [flatN] using h1) (by simpa [flatN] using h2)
  | _, .str x, .str y, _, _ => by simp only [toD, PyData.eqv, eqv, str_beq]
  | _, .non, y, _, h2 => by cases y <;> first | (simp [toD, PyData.eqv, eqv]; done) | (simp [flatN_dic, flatN_ref, flatN_clo] at h2)
  | _, .bl _, y, _, h2 => by cases y <;> first | simp [toD, PyData.eqv, eqv] | (simp [flatN_dic, flatN_ref, flatN_clo] at h2)
  | _, .int _, y, _, h2 => by cases y <;> first | simp [toD, PyData.eqv, eqv] | (simp [flatN_dic, flatN_ref, flatN_clo] at h2)
  | k, .str _, .non, _, _ | k, .str _, .bl _, _, _ | k, .str _, .int _, _, _ | k, .str _, .tup _, _, _ | k, .str _, .lst _, _, _ => by simp [toD, PyData.eqv, eqv]
  | k, .tup _, .non, _, _ | k, .tup _, .bl _, _, _ | k, .tup _, .int _, _, _ | k, .tup _, .str _, _, _ | k, .tup _, .lst _, _, _ => by simp [toD, PyData.eqv, eqv]
  | k, .lst _, .non, _, _ | k, .lst _, .bl _, _, _ | k, .lst _, .int _, _, _ | k, .lst _, .str _, _, _ | k, .lst _, .tup _, _, _ => by simp [toD, PyData.eqv, eqv]
  | k, .dic _, _, h1, _ => by simp [flatN_dic, flatN_ref, flatN_clo] at h1
  | k, .ref _, _, h1, _ => by simp [flatN_dic, flatN_ref, flatN_clo] at h1
  | k, .clo _ _, _, h1, _ => by simp [flatN_dic, flatN_ref, flatN_clo] at h1
  | k, .str _, .dic _, _, h2 | k, .str _, .ref _, _, h2 | k, .str _, .clo _ _, _, h2 | k, .tup _, .dic _, _, h2 | k, .tup _, .ref _, _, h2 | k, .tup _, .clo _ _, _, h2
  | k, .lst _, .dic _, _, h2 | k, .lst _, .ref _, _, h2 | k, .lst _, .clo _ _, _, h2 => by simp [flatN_dic, flatN_ref, flatN_clo] at h2
theorem eqvs_toD : ∀ (k : Nat) (xs ys : List PV), xs.all (flatN k) = true → ys.all (flatN k) = true → PyData.eqvAll (toDs xs) (toDs ys) = eqvs xs ys
  | k, [], [], _, _ => by simp [toDs, PyData.eqvAll, eqvs]
  | k, [], _ :: _, _, _ => by simp [toDs, PyData.eqvAll, eqvs]
  | k, _ :: _, [], _, _ => by simp [toDs, PyData.eqvAll, eqvs]
  | k, x :: xs, y :: ys, h1, h2 => by
    rw [List.all_cons, Bool.and_eq_true] at h1 h2
    simp only [toDs, PyData.eqvAll, eqvs]
    rw [eqv_toD k x y h1.1 h2.1, eqvs_toD k xs ys h1.2 h2.2]
end
theorem eqv_flat {x y : PV} (h1 : flat x = true) (h2 : flat y = true) : PyData.eqv (toD x) (toD y) = eqv x y := eqv_toD 24 x y h1 h2

section
variable {D : Side} {K : PySem.W.Frag} {ρ : List Addr} {h : Hh} {H : Hp}
mutual
theorem rep_dp : ∀ (k : Nat) (p : PV) (v : V), flatN k p = true → Rep K ρ H p v → Dp K H v (toD p)
  | _, _, _, _, .non => .non
  | _, _, _, _, .bl b => .bl b
  | _, _, _, _, .int i => .int i
  | _, _, _, _, .str s => .str _
  | 0, _, _, h, .tup _ _ => by simp [flatN] at h
  | 0, _, _, h, .lst _ _ => by simp [flatN] at h
  | k + 1, .tup ps, .ref a, h, .tup q r => by rw [toD]; exact .tup q (reps_dp k ps _ (by simpa [flatN] using h) r)
  | k + 1, .lst ps, .ref a, h, .lst q r => by rw [toD]; exact .lst q.sq (reps_dp k ps _ (by simpa [flatN] using h) r)
  | 0, _, _, h, .ref _ => by simp [flatN] at h
  | k + 1, _, _, h, .ref _ => by simp [flatN] at h
theorem reps_dp : ∀ (k : Nat) (ps : List PV) (vs : List V), ps.all (flatN k) = true → Reps K ρ H ps vs → DpAll K H vs (toDs ps)
  | _, _, _, _, .nil => .nil
  | k, p :: ps, v :: vs, h, .cons a b => by
    rw [List.all_cons, Bool.and_eq_true] at h
    rw [toDs]
    exact .cons (rep_dp k p v h.1 a) (reps_dp k ps vs h.2 b)
end
/-- flat data, through a ref too -/
theorem view_dp (n : Now D K ρ h H) {p : PV} {v : V} (r : Rep K ρ H p v) (f : flat (view h p) = true) : Dp K H v (toD (view h p)) := by
  cases r with
  | ref e =>
    rename_i i a
    cases e2 : view h (.ref i) with
    | lst xs =>
      obtain ⟨a', vs, h1, h2, h3⟩ := view_lst n (.ref e) e2
      cases h1
      rw [e2] at f
      rw [toD]
      exact .lst h2 (reps_dp 23 xs vs (by simpa [flat, flatN] using f) h3)
    | dic _ => rw [e2] at f; simp [flat, flatN] at f
    | ref _ => rw [e2] at f; simp [flat, flatN] at f
    | clo _ _ => rw [e2] at f; simp [flat, flatN] at f
    | _ =>
      exfalso
      unfold view at e2
      dsimp only at e2
      split at e2 <;> cases e2
  | lst q rs => exact rep_dp 24 _ _ f (.lst q rs)
  | tup q rs => exact rep_dp 24 _ _ f (.tup q rs)
  | non => exact .non
  | bl b => exact .bl b
  | int i => exact .int i
  | str s => exact .str _
end
theorem memE_any (x : PV) : ∀ (xs : List PV), flat x = true → flats xs = true → ((toDs xs).any fun y => PyData.eqv y (toD x)) = memE x xs
  | [], _, _ => rfl
  | y :: ys, h1, h2 => by
    rw [flats, List.all_cons, Bool.and_eq_true] at h2
    rw [toDs, List.any_cons, memE, memE_any x ys h1 h2.2, eqv_flat h2.1 h1]

section
variable {D : Side} {X : Cx}
theorem opr_eq (hu : X.A.units + 64 < cLine) : OpR X (compareOp .Eq) (R2E D X.K (cmpE .eq)) := by
  intro pins s σ H x y v u Q I rx ry hh
  obtain ⟨ρ, h, p, q, n, rp, rq, w⟩ := hh
  unfold cmpE at w
  dsimp only at w
  cases z : (flat (view h p) && flat (view h q)) with
  | false => rw [z] at w; exact w.elim
  | true =>
    rw [z, if_pos rfl] at w
    rw [Bool.and_eq_true] at z
    obtain ⟨as, r1⟩ := Dp.reads I _ x v (view_dp n rp z.1) rx
    obtain ⟨bs, r2⟩ := Dp.reads I _ y u (view_dp n rq z.2) ry
    have d1 := flat_deep z.1
    refine SeqAt.eq_plain r1 r2 (flat_plain z.1) (flat_plain z.2) (by omega) ⟨.bl _, H, I, rfl, ?_⟩
    rw [eqv_flat z.1 z.2]
    exact want_ok n w (.bl _)
theorem opr_ne (hu : X.A.units + 64 < cLine) : OpR X (compareOp .NotEq) (R2E D X.K (cmpE .ne)) := by
  intro pins s σ H x y v u Q I rx ry hh
  obtain ⟨ρ, h, p, q, n, rp, rq, w⟩ := hh
  unfold cmpE at w
  dsimp only at w
  cases z : (flat (view h p) && flat (view h q)) with
  | false => rw [z] at w; exact w.elim
  | true =>
    rw [z, if_pos rfl] at w
    rw [Bool.and_eq_true] at z
    obtain ⟨as, r1⟩ := Dp.reads I _ x v (view_dp n rp z.1) rx
    obtain ⟨bs, r2⟩ := Dp.reads I _ y u (view_dp n rq z.2) ry
    have d1 := flat_deep z.1
    refine SeqAt.ne_plain r1 r2 (flat_plain z.1) (flat_plain z.2) (by omega) ⟨.bl _, H, I, rfl, ?_⟩
    rw [eqv_flat z.1 z.2]
    exact want_ok n w (.bl _)
/-- two ints compared -/
theorem opr_ints {o : Cop} {op : CmpOp} {g : Int → Int → Bool} (L : OpR X (compareOp op) (rI0 fun i j => .bl (g i j))) (hg : ∀ i j h, cmpE o (.int i) (.int j) h = .ok (.bl (g i j)) h)
    (hb : ∀ p q h, (∀ i j, ¬ (p = .int i ∧ q = .int j)) → cmpE o p q h = .bad) : OpR X (compareOp op) (R2E D X.K (cmpE o)) := by
  intro pins s σ H x y v u Q I rx ry hh
  obtain ⟨ρ, h, p, q, n, rp, rq, w⟩ := hh
  cases rp with
  | int i =>
    cases rq with
    | int j => rw [hg] at w; exact L pins s σ H _ _ v u Q I rx ry ⟨i, j, rfl, rfl, want_ok n w (.bl _)⟩
    | _ => rw [hb _ _ _ (fun _ _ z => by cases z.1 <;> cases z.2)] at w; exact w.elim
  | _ => rw [hb _ _ _ (fun _ _ z => by cases z.1 <;> cases z.2)] at w; exact w.elim
theorem cmp_bad_lt : ∀ p q h, (∀ i j, ¬ (p = .int i ∧ q = .int j)) → cmpE .lt p q h = .bad := fun p q h z => by
  cases p <;> cases q <;> first | rfl | exact absurd ⟨rfl, rfl⟩ (z _ _)
theorem cmp_bad_le : ∀ p q h, (∀ i j, ¬ (p = .int i ∧ q = .int j)) → cmpE .le p q h = .bad := fun p q h z => by
  cases p <;> cases q <;> first | rfl | exact absurd ⟨rfl, rfl⟩ (z _ _)
theorem cmp_bad_gt : ∀ p q h, (∀ i j, ¬ (p = .int i ∧ q = .int j)) → cmpE .gt p q h = .bad := fun p q h z => by
  cases p <;> cases q <;> first | rfl | exact absurd ⟨rfl, rfl⟩ (z _ _)
theorem cmp_bad_ge : ∀ p q h, (∀ i j, ¬ (p = .int i ∧ q = .int j)) → cmpE .ge p q h = .bad := fun p q h z => by
  cases p <;> cases q <;> first | rfl | exact absurd ⟨rfl, rfl⟩ (z _ _)
theorem opr_lt : OpR X (compareOp .Lt) (R2E D X.K (cmpE .lt)) := opr_ints op_lt (fun _ _ _ => rfl) cmp_bad_lt
theorem opr_le : OpR X (compareOp .LtE) (R2E D X.K (cmpE .le)) := opr_ints op_le (fun _ _ _ => rfl) cmp_bad_le
theorem opr_gt : OpR X (compareOp .Gt) (R2E D X.K (cmpE .gt)) := opr_ints op_gt (fun _ _ _ => rfl) cmp_bad_gt
theorem opr_ge : OpR X (compareOp .GtE) (R2E D X.K (cmpE .ge)) := opr_ints op_ge (fun _ _ _ => rfl) cmp_bad_ge
theorem opr_is : OpR X (compareOp .Is) (R2E D X.K (cmpE .is_)) := by
  intro pins s σ H x y v u Q I rx ry hh
  obtain ⟨ρ, h, p, q, n, rp, rq, w⟩ := hh
  cases rq with
  | non =>
    refine op_isN pins s σ H x .non v u Q I rx ry ⟨rfl, ?_⟩
    cases rp <;> exact want_ok n w (.bl _)
  | _ => cases rp <;> exact w.elim
theorem opr_isnot : OpR X (compareOp .IsNot) (R2E D X.K (cmpE .isnot)) := by
  intro pins s σ H x y v u Q I rx ry hh
  obtain ⟨ρ, h, p, q, n, rp, rq, w⟩ := hh
  cases rq with
  | non =>
    refine op_notN pins s σ H x .non v u Q I rx ry ⟨rfl, ?_⟩
    cases rp <;> exact want_ok n w (.bl _)
  | _ => cases rp <;> exact w.elim
/-- x in y: by what y is -/
theorem in_cases {ρ : List Addr} {h : Hh} {H : Hp} {p q : PV} {x y : V} {k : Bool} (n : Now D X.K ρ h H) (rp : Rep X.K ρ H p x) (rq : Rep X.K ρ H q y) (e : inE p (view h q) = some k) :
    (∃ xs, flat p = true ∧ flats xs = true ∧ (Dp X.K H y (.list (toDs xs)) ∨ Dp X.K H y (.tuple (toDs xs))) ∧ k = memE p xs) ∨ ∃ (c : Nat) (z : Str), x = .str ⟨#[c]⟩ ∧ y = .str z ∧ k = decide (c ∈ z.cps.toList) := by
  cases rq with
  | str t =>
    have e : inE p (.str t) = some k := e
    cases rp with
    | str u =>
      right
      cases u with
      | nil => simp [inE] at e
      | cons c r =>
        cases r with
        | nil => exact ⟨c, ⟨t.toArray⟩, rfl, rfl, by simp [inE] at e; rw [← e]⟩
        | cons _ _ => simp [inE] at e
    | _ => simp [inE] at e
  | tup a r =>
    rename_i xs vs a'
    have e : inE p (.tup xs) = some k := e
    left
    simp only [inE] at e
    split at e
    · rename_i z
      rw [Bool.and_eq_true] at z
      cases e
      exact ⟨xs, z.1, z.2, .inr (.tup a (reps_dp 24 xs vs z.2 r)), rfl⟩
    · cases e
  | lst a r =>
    rename_i xs vs a'
    have e : inE p (.lst xs) = some k := e
    left
    simp only [inE] at e
    split at e
    · rename_i z
      rw [Bool.and_eq_true] at z
      cases e
      exact ⟨xs, z.1, z.2, .inl (.lst a.sq (reps_dp 24 xs vs z.2 r)), rfl⟩
    · cases e
  | ref ea =>
    rename_i i a
    cases e2 : view h (.ref i) with
    | lst xs =>
      rw [e2] at e
      obtain ⟨a', vs, h1, h2, h3⟩ := view_lst n (.ref ea) e2
      left
      simp only [inE] at e
      split at e
      · rename_i z
        rw [Bool.and_eq_true] at z
        cases e
        cases h1
        exact ⟨xs, z.1, z.2, .inl (.lst h2 (reps_dp 24 xs vs z.2 h3)), rfl⟩
      · cases e
    | tup _ => unfold view at e2; dsimp only at e2; split at e2 <;> cases e2
    | str _ => unfold view at e2; dsimp only at e2; split at e2 <;> cases e2
    | _ => rw [e2] at e; simp [inE] at e
  | _ => simp [inE, view] at e
theorem opr_in (hu : X.A.units + 64 < cLine) : OpR X (compareOp .In) (R2E D X.K (cmpE .isin)) := by
  intro pins s σ H x y v u Q I rx ry hh
  obtain ⟨ρ, h, p, q, n, rp, rq, w⟩ := hh
  unfold cmpE at w
  dsimp only at w
  cases e : inE p (view h q) with
  | none => rw [e] at w; exact w.elim
  | some k =>
    rw [e] at w
    rcases in_cases n rp rq e with ⟨xs, f1, f2, hd, rfl⟩ | ⟨c, z, rfl, rfl, rfl⟩
    · obtain ⟨as, r1⟩ := Dp.reads I _ x v (rep_dp 24 p x f1 rp) rx
      have d1 := flat_deep f1
      have em := memE_any p xs f1 f2
      rcases hd with hd | hd
      · obtain ⟨bs, r2⟩ := Dp.reads I _ y u hd ry
        exact SeqAt.in_list_data r2 r1 (flats_plain f2).1 (flat_plain f1) (by omega) ⟨.bl _, H, I, by rw [em]; rfl, want_ok n w (.bl _)⟩
      · obtain ⟨bs, r2⟩ := Dp.reads I _ y u hd ry
        exact SeqAt.in_tuple_data r2 r1 (flats_plain f2).1 (flat_plain f1) (by omega) ⟨.bl _, H, I, by rw [em]; rfl, want_ok n w (.bl _)⟩
    · exact op_in_sign pins s σ H _ _ v u Q I rx ry ⟨c, z, rfl, rfl, want_ok n w (.bl _)⟩
theorem opr_notin (hu : X.A.units + 64 < cLine) : OpR X (compareOp .NotIn) (R2E D X.K (cmpE .notin)) := by
  intro pins s σ H x y v u Q I rx ry hh
  obtain ⟨ρ, h, p, q, n, rp, rq, w⟩ := hh
  unfold cmpE at w
  dsimp only at w
  cases e : inE p (view h q) with
  | none => rw [e] at w; exact w.elim
  | some k =>
    rw [e] at w
    rcases in_cases n rp rq e with ⟨xs, f1, f2, hd, rfl⟩ | ⟨c, z, rfl, rfl, rfl⟩
    · obtain ⟨as, r1⟩ := Dp.reads I _ x v (rep_dp 24 p x f1 rp) rx
      have d1 := flat_deep f1
      have em := memE_any p xs f1 f2
      rcases hd with hd | hd
      · obtain ⟨bs, r2⟩ := Dp.reads I _ y u hd ry
        exact SeqAt.notIn_list_data r2 r1 (flats_plain f2).1 (flat_plain f1) (by omega) ⟨.bl _, H, I, by rw [em]; rfl, want_ok n w (.bl _)⟩
      · obtain ⟨bs, r2⟩ := Dp.reads I _ y u hd ry
        exact SeqAt.notIn_tuple_data r2 r1 (flats_plain f2).1 (flat_plain f1) (by omega) ⟨.bl _, H, I, by rw [em]; rfl, want_ok n w (.bl _)⟩
    · exact op_notIn_sign pins s σ H _ _ v u Q I rx ry ⟨c, z, rfl, rfl, want_ok n w (.bl _)⟩
end
end Mini

/-! Snd4 -/
set_option autoImplicit false
set_option Elab.async false
set_option linter.all false
set_option maxRecDepth 100000
namespace Mini
open PySem PySem.Spec PyProof.Rows L2

theorem nox_bin (o : Bop) : NoX2 (binE o) := by
  intro p q h c h' e
  unfold binE at e
  repeat' split at e
  all_goals cases e
theorem nox_cmp (o : Cop) : NoX2 (cmpE o) := by
  intro p q h c h' e
  unfold cmpE at e
  dsimp only at e
  repeat' split at e
  all_goals cases e
theorem nox_idx : NoX2 idxE := by
  intro p q h c h' e
  unfold idxE at e
  repeat' split at e
  all_goals cases e
theorem ixOf_eq (n : Nat) (i : Int) : ixOf n i = ixN n i := rfl

section
variable {D : Side} {X : Cx}
/-- two ints, an int -/
theorem opr_arith {o : Bop} {f : Value → Value → Sem Value} {g : Int → Int → Int} {c : Int → Int → Prop} (L : ∀ i j t t' (Q : Value → Shared → Prop) s, c i j → (∀ t k, Q (.int (g i j) t) { s with toks := k }) → wpAny (model X.prog X.w) X.A (f (.int i t) (.int j t')) Q X.xe s)
    (hg : ∀ i j h r, binE o (.int i) (.int j) h = r → (c i j ∧ r = .ok (.int (g i j)) h) ∨ r = .bad)
    (hb : ∀ p q h, (∀ i j, ¬ (p = .int i ∧ q = .int j)) → binE o p q h = .bad) : OpR X f (R2E D X.K (binE o)) := by
  intro pins s σ H x y v u Q I rx ry hh
  obtain ⟨ρ, h, p, q, n, rp, rq, w⟩ := hh
  cases rp with
  | int i =>
    cases rq with
    | int j =>
      obtain ⟨t, rfl⟩ := rx
      obtain ⟨t', rfl⟩ := ry
      rcases hg i j h _ rfl with ⟨hc, e⟩ | e
      · rw [e] at w
        exact L i j t t' _ s hc fun t5 k5 => ⟨.int _, H, I.tok _, ⟨t5, rfl⟩, want_ok n w (.int _)⟩
      · rw [e] at w; exact w.elim
    | _ => rw [hb _ _ _ (fun _ _ z => by cases z.1 <;> cases z.2)] at w; exact w.elim
  | _ => rw [hb _ _ _ (fun _ _ z => by cases z.1 <;> cases z.2)] at w; exact w.elim
theorem bin_bad_sub : ∀ p q h, (∀ i j, ¬ (p = .int i ∧ q = .int j)) → binE .sub p q h = .bad := fun p q h z => by
  cases p <;> cases q <;> first | rfl | exact absurd ⟨rfl, rfl⟩ (z _ _)
theorem bin_bad_mul : ∀ p q h, (∀ i j, ¬ (p = .int i ∧ q = .int j)) → binE .mul p q h = .bad := fun p q h z => by
  cases p <;> cases q <;> first | rfl | exact absurd ⟨rfl, rfl⟩ (z _ _)
theorem bin_bad_fdiv : ∀ p q h, (∀ i j, ¬ (p = .int i ∧ q = .int j)) → binE .fdiv p q h = .bad := fun p q h z => by
  cases p <;> cases q <;> first | rfl | exact absurd ⟨rfl, rfl⟩ (z _ _)
theorem bin_bad_mod : ∀ p q h, (∀ i j, ¬ (p = .int i ∧ q = .int j)) → binE .mod p q h = .bad := fun p q h z => by
  cases p <;> cases q <;> first | rfl | exact absurd ⟨rfl, rfl⟩ (z _ _)
theorem bin_bad_pow : ∀ p q h, (∀ i j, ¬ (p = .int i ∧ q = .int j)) → binE .pow p q h = .bad := fun p q h z => by
  cases p <;> cases q <;> first | rfl | exact absurd ⟨rfl, rfl⟩ (z _ _)
theorem opr_sub : OpR X (binaryOp .Sub) (R2E D X.K (binE .sub)) :=
  opr_arith (g := fun i j => i - j) (c := fun _ _ => True) (fun i j t t' Q s _ k => sub_int (k _ _)) (fun i j h r e => .inl ⟨trivial, e.symm⟩) bin_bad_sub
theorem opr_mul : OpR X (binaryOp .Mult) (R2E D X.K (binE .mul)) :=
  opr_arith (g := fun i j => i * j) (c := fun i j => mulOk i j = true) (fun i j t t' Q s c k => mul_int (k _ _) (mulOk_ok c)) (fun i j h r e => by
    simp only [binE] at e
    split at e
    · rename_i z; exact .inl ⟨z, e.symm⟩
    · exact .inr e.symm) bin_bad_mul
theorem opr_fdiv : OpR X (binaryOp .FloorDiv) (R2E D X.K (binE .fdiv)) :=
  opr_arith (g := fun i j => i.fdiv j) (c := fun i j => j ≠ 0 ∧ j.natAbs.log2 < 9000) (fun i j t t' Q s c k => floordiv_int c.1 (k _ _) (.inl (PyProof.noPylong_of_log2 c.2))) (fun i j h r e => by
    simp only [binE] at e
    split at e
    · rename_i z; exact .inl ⟨z, e.symm⟩
    · exact .inr e.symm) bin_bad_fdiv
theorem opr_mod : OpR X (binaryOp .Mod) (R2E D X.K (binE .mod)) :=
  opr_arith (g := fun i j => i.fmod j) (c := fun i j => j ≠ 0) (fun i j t t' Q s c k => mod_int' c (k _ _)) (fun i j h r e => by
    simp only [binE] at e
    split at e
    · rename_i z; exact .inl ⟨z, e.symm⟩
    · exact .inr e.symm) bin_bad_mod
theorem opr_pow : OpR X (binaryOp .Pow) (R2E D X.K (binE .pow)) :=
  opr_arith (g := fun i j => i ^ j.toNat) (c := fun i j => 0 ≤ j ∧ j ≤ 1000 ∧ i.natAbs < 2 ^ 64) (fun i j t t' Q s c k => pow_int_small c.1 (by omega) c.2.2 (k _ _)) (fun i j h r e => by
    simp only [binE] at e
    split at e
    · rename_i z; exact .inl ⟨z, e.symm⟩
    · exact .inr e.symm) bin_bad_pow

/-- x[i] -/
theorem ixr_idx : IxR X (R2E D X.K idxE) := by
  intro ve sl pins s σ H x y v u Q I rx ry hh hsub
  obtain ⟨ρ, h, p, q, n, rp, rq, w⟩ := hh
  have gen : ∀ i, q = .int i → (∀ s, p ≠ .str s) → ∃ xs v, seqOf h p = some xs ∧ atI xs i = some v ∧ WantE D X.K ρ H (fun _ _ => False) Q (.ok v h) := by
    intro i eq ns
    subst eq
    cases e : seqOf h p with
    | none => cases p <;> simp only [idxE, e] at w <;> first | exact w.elim | exact absurd rfl (ns _)
    | some xs =>
      cases e2 : (ixOf xs.length i).bind (xs[·]?) with
      | none => cases p <;> simp only [idxE, e, e2] at w <;> first | exact w.elim | exact absurd rfl (ns _)
      | some v => refine ⟨xs, v, rfl, e2, ?_⟩; cases p <;> simp only [idxE, e, e2] at w <;> first | exact w | exact absurd rfl (ns _)
  have go : ∀ i, q = .int i → (∀ s, p ≠ .str s) → ∃ a vs z, x = .ref a ∧ (SqL X.K H a vs ∨ SqT X.K H a vs) ∧ atI vs i = some z ∧ Q z H := by
    intro i eq ns
    obtain ⟨xs, z, e1, e2, w2⟩ := gen i eq ns
    obtain ⟨a, vs, e3, hs, rs⟩ := seq_of n rp e1
    unfold atI at e2
    rw [rs.length] at e2
    obtain ⟨j, e4, e5⟩ := Option.bind_eq_some_iff.mp e2
    obtain ⟨z', e6, r6⟩ := rs.get e5
    exact ⟨a, vs, z', e3, hs, by unfold atI; rw [e4]; exact e6, want_ok n w2 r6⟩
  have use : ∀ i, q = .int i → y = .int i → (∀ s, p ≠ .str s) → rIx X.K x y H Q := by
    intro i eq ey ns
    obtain ⟨a, vs, z, rfl, hs, e, qz⟩ := go i eq ns
    subst ey
    rcases hs with hs | hs
    · exact .inl ⟨a, vs, i, z, rfl, rfl, hs, e, qz⟩
    · exact .inr (.inl ⟨a, vs, i, z, rfl, rfl, hs, e, qz⟩)
  cases rq with
  | int i =>
    cases rp with
    | str t =>
      refine ix_seq ve sl pins s σ H _ _ v u Q I rx ry (.inr (.inr ?_)) hsub
      simp only [idxE] at w
      cases e2 : (ixOf t.length i).bind (t[·]?) with
      | none => rw [e2] at w; exact w.elim
      | some c =>
        rw [e2] at w
        by_cases hz : t.length ≤ lim
        · have lm := lim_size
          dsimp only at w
          rw [if_pos hz] at w
          refine ⟨⟨t.toArray⟩, i, c, rfl, rfl, (by show t.toArray.size ≤ sizeLine; rw [List.size_toArray]; omega), by simpa [atI, ixOf_eq] using e2, ?_⟩
          exact want_ok n w (.str [c])
        · dsimp only at w; rw [if_neg hz] at w; exact w.elim
    | non => exact ix_seq ve sl pins s σ H _ _ v u Q I rx ry (use i rfl rfl (fun _ => nofun)) hsub
    | bl b => exact ix_seq ve sl pins s σ H _ _ v u Q I rx ry (use i rfl rfl (fun _ => nofun)) hsub
    | int b => exact ix_seq ve sl pins s σ H _ _ v u Q I rx ry (use i rfl rfl (fun _ => nofun)) hsub
    | tup a b => exact ix_seq ve sl pins s σ H _ _ v u Q I rx ry (use i rfl rfl (fun _ => nofun)) hsub
    | lst a b => exact ix_seq ve sl pins s σ H _ _ v u Q I rx ry (use i rfl rfl (fun _ => nofun)) hsub
    | ref a => exact ix_seq ve sl pins s σ H _ _ v u Q I rx ry (use i rfl rfl (fun _ => nofun)) hsub
  | _ => cases rp <;> exact w.elim

/-! ### slices -/
def oV : Option Int → V
  | none => .non
  | some i => .int i
theorem bnd_of {K : PySem.W.Frag} {ρ : List Addr} {H : Hp} {p : PV} {o : Option Int} (r : Rep K ρ H p (oV o)) (n d : Nat) : bnd n d p = some (HT.sIx n d o) := by
  cases o with
  | none => cases r; rfl
  | some i => cases r; rfl
def SlE (D : Side) (K : PySem.W.Frag) : V → Option Int → Option Int → Hp → VK → Prop := fun x lo hi H Q => ∃ (ρ : List Addr) (h : Hh) (p l u : PV), Now D K ρ h H ∧ Rep K ρ H p x ∧ Rep K ρ H l (oV lo) ∧ Rep K ρ H u (oV hi) ∧ WantE D K ρ H (fun _ _ => False) Q (sliE p l u h)
theorem slr_sli : SlR X (SlE D X.K) := by
  intro pins s σ H x v vl vu lo hi sl Q I rx hs pl pu hh
  obtain ⟨ρ, h, p, l, u, n, rp, rl, ru, w⟩ := hh
  have b := fun n d => bnd_of rl n d
  have b' := fun n d => bnd_of ru n d
  have lsts : ∀ xs, view h p = .lst xs → sliE p l u h = .ok (.lst (cut xs (HT.sIx xs.length 0 lo) (HT.sIx xs.length xs.length hi))) h → ∃ T id, typeLookup (.type T) "__getitem__" = pure (some (.builtin id)) ∧ s.TypeIs v T ∧ wpAny (model X.prog X.w) X.A (getItem v (.ref sl)) (EP X pins σ Q) X.xe s := by
    intro xs e1 e2
    rw [e2] at w
    obtain ⟨a, vs, rfl, hv, rs⟩ := view_lst n rp e1
    obtain ⟨T, id, h1, h2, h3⟩ := sl_list pins s σ H (.ref a) v vl vu lo hi sl (fun v H' => ∃ p, v = .ref p ∧ H p = none ∧ H' = upd H p (.lst (cutV vs lo hi))) I rx hs pl pu ⟨a, vs, rfl, hv, fun p np => ⟨p, rfl, np, rfl⟩⟩
    refine ⟨T, id, h1, h2, thn h3 fun u s1 hq => ?_⟩
    obtain ⟨x, H1, I1, r1, p, rfl, np, rfl⟩ := hq
    obtain rfl : u = Value.ref p := r1
    refine fin_lst n np ?_ I1 w
    unfold cut cutV
    rw [rs.length]
    exact (rs.drop _).take _
  cases rp with
  | str t =>
    simp only [sliE, b, b'] at w
    by_cases z : t.length ≤ lim
    · rw [if_pos z] at w
      have lm := lim_size
      refine sl_str pins s σ H _ v vl vu lo hi sl Q I rx hs pl pu ⟨⟨t.toArray⟩, rfl, (by show t.toArray.size ≤ sizeLine; rw [List.size_toArray]; omega), ?_⟩
      have e : cutS ⟨t.toArray⟩ lo hi = ⟨(cut t (HT.sIx t.length 0 lo) (HT.sIx t.length t.length hi)).toArray⟩ := by
        unfold cutS cut
        show Str.mk ((t.toArray.toList.drop (HT.sIx t.toArray.size 0 lo)).take (HT.sIx t.toArray.size t.toArray.size hi - HT.sIx t.toArray.size 0 lo)).toArray = _
        rw [List.size_toArray]
      rw [e]
      exact want_ok n w (.str _)
    · rw [if_neg z] at w; exact w.elim
  | tup q rs =>
    rename_i xs vs a
    simp only [sliE, b, b'] at w
    by_cases z : HT.sIx xs.length 0 lo = 0 ∧ HT.sIx xs.length xs.length hi = xs.length
    · rw [if_pos z] at w; exact w.elim
    · rw [if_neg z] at w
      obtain ⟨T, id, h1, h2, h3⟩ := sl_tup pins s σ H (.ref a) v vl vu lo hi sl (fun v H' => ∃ p, v = .ref p ∧ H p = none ∧ H' = upd H p (.tup (cutV vs lo hi))) I rx hs pl pu ⟨a, vs, rfl, q, by rw [← rs.length]; exact z, fun p np => ⟨p, rfl, np, rfl⟩⟩
      refine ⟨T, id, h1, h2, thn h3 fun u s1 hq => ?_⟩
      obtain ⟨x, H1, I1, r1, p, rfl, np, rfl⟩ := hq
      obtain rfl : u = Value.ref p := r1
      refine fin_tup n np ?_ I1 w
      unfold cut cutV
      rw [rs.length]
      exact (rs.drop _).take _
  | lst q rs => exact lsts _ rfl (by simp only [sliE, view, b, b'])
  | ref e =>
    rename_i i a
    cases e2 : view h (.ref i) with
    | lst xs => exact lsts _ e2 (by simp only [sliE, e2, b, b'])
    | _ => simp only [sliE, e2] at w; exact w.elim
  | _ => exact w.elim
/-- an optional part -/
def SO (D : Side) (C : Cl) (F : Fam) (W : WW) (k : Bool) (e : Option Expr) (ir : E) : Prop :=
  ∃ t : TO, (∀ X, F.P X → PO X e t) ∧ ∀ (L : Lk) (σ : L2.St) (H : Hp) (env : Env) (h : Hh) (ρ : List Addr) (Q : Option Int → Hp → Prop), Now D F.K ρ h H → EnvR F.K ρ H env σ →
    (∀ p h', evE C L ir env h = .ok p h' → isPart k p = true) → WantE D F.K ρ H (fun c H' => W c σ H') (fun v H' => ∀ o, v = oV o → Q o H') (evE C L ir env h) → t σ H Q
end
section
variable {D : Side} {C : Cl} {F : Fam} {W : WW}
theorem so_none : SO D C F W false none (.lit .non) := ⟨_, fun _ _ => po_none, fun L σ H env h ρ Q n er _ w => by
  unfold evE at w
  exact w .non H ρ n.nxt .non none rfl⟩
theorem so_some {e : Expr} {ir : E} (s : SE D C F W e ir) : SO D C F W true (some e) ir := by
  obtain ⟨t, p, s⟩ := s
  refine ⟨_, fun X hX => po_some (p X hX), fun L σ H env h ρ Q n er hp w => s L σ H env h ρ _ n er ?_⟩
  cases e : evE C L ir env h with
  | bad => rw [e] at w; exact w
  | exc c h' => rw [e] at w; exact w
  | ok q h' =>
    rw [e] at w
    intro v H' ρ' m r
    have z := hp q h' e
    cases r with
    | int i => exact ⟨i, rfl, w _ H' ρ' m (.int i) (some i) rfl⟩
    | _ => simp [isPart] at z
theorem snd_sli {kl ku : Bool} {a : Expr} {lo hi : Option Expr} {ia il iu : E} {p2 pos : Pos} (ha : SE D C F W a ia) (hl : SO D C F W kl lo il) (hu : SO D C F W ku hi iu) : SE D C F W (.Subscript a (.Slice lo hi none p2) pos) (.sli kl ku ia il iu) := by
  obtain ⟨ta, pa, sa⟩ := ha
  obtain ⟨tl, pl, sl⟩ := hl
  obtain ⟨tu, pu, su⟩ := hu
  refine ⟨_, fun X hX => pe_slice (r := SlE D F.K) (F.hK X hX ▸ slr_sli (D := D)) (pa X hX) (pl X hX) (pu X hX), fun L σ H env h ρ Q n er w => ?_⟩
  unfold evE at w
  refine sa L σ H env h ρ _ n er ?_
  cases ea : evE C L ia env h with
  | bad => rw [ea] at w; exact w
  | exc c h1 => rw [ea] at w; exact w
  | ok p h1 =>
    rw [ea] at w
    intro v H1 ρ1 n1 rp
    have w1 := w.at n1
    dsimp only at w1
    cases eb : evE C L il env h1 with
    | bad => rw [eb] at w1; exact w1.elim
    | exc c h2 =>
      rw [eb] at w1
      exact sl L σ H1 env h1 ρ1 _ n1.now (er.mono n1.grow n1.pre) (fun p h' e => by rw [eb] at e; cases e) (by rw [eb]; exact w1)
    | ok q h2 =>
      rw [eb] at w1
      dsimp only at w1
      cases zq : isPart kl q with
      | false => rw [zq] at w1; exact w1.elim
      | true =>
      rw [zq, if_pos rfl] at w1
      refine sl L σ H1 env h1 ρ1 _ n1.now (er.mono n1.grow n1.pre) (fun p h' e => by rw [eb] at e; cases e; exact zq) ?_
      rw [eb]
      intro vl H2 ρ2 n2 rq ol el
      have w2 := w1.at n2
      have n12 := n1.trans n2
      cases ec : evE C L iu env h2 with
      | bad => rw [ec] at w2; exact w2.elim
      | exc c h3 =>
        rw [ec] at w2
        exact su L σ H2 env h2 ρ2 _ n2.now (er.mono n12.grow n12.pre) (fun p h' e => by rw [ec] at e; cases e) (by rw [ec]; exact w2)
      | ok r h3 =>
        rw [ec] at w2
        dsimp only at w2
        cases zr : isPart ku r with
        | false => rw [zr] at w2; exact w2.elim
        | true =>
        rw [zr, if_pos rfl] at w2
        refine su L σ H2 env h2 ρ2 _ n2.now (er.mono n12.grow n12.pre) (fun p h' e => by rw [ec] at e; cases e; exact zr) ?_
        rw [ec]
        intro vu H3 ρ3 n3 rr ou eu
        subst el eu
        have n23 := n2.trans n3
        refine ⟨ρ3, h3, p, q, r, n3.now, rp.mono n23.grow n23.pre, rq.mono n3.grow n3.pre, rr, want_no (fun c h' e => ?_) (w2.at n3)⟩
        unfold sliE at e
        repeat' split at e
        all_goals cases e
theorem snd_neg {a : Expr} {ia : E} {pos : Pos} (ha : SE D C F W a ia) : SE D C F W (.UnaryOp .USub a pos) (.neg ia) := by
  obtain ⟨ta, pa, sa⟩ := ha
  refine ⟨_, fun X hX => pe_un un_neg (pa X hX), fun L σ H env h ρ Q n er w => ?_⟩
  unfold evE at w
  refine sa L σ H env h ρ _ n er ?_
  cases ea : evE C L ia env h with
  | bad => rw [ea] at w; exact w
  | exc c h1 => rw [ea] at w; exact w
  | ok p h1 =>
    rw [ea] at w
    intro v H1 ρ1 n1 rp
    cases rp with
    | int i => exact ⟨i, rfl, w _ H1 ρ1 n1 (.int _)⟩
    | _ => exact w.elim
/-- (a, b, ..) -/
theorem snd_tup {es : List Expr} {is : Es} {x1 : Nat} {pos : Pos} (ha : SA D C F W es is) : SE D C F W (.Tuple es x1 pos) (.tup is) := by
  obtain ⟨ta, pa, sa⟩ := ha
  refine ⟨_, fun X hX => pe_tup (pa X hX), fun L σ H env h ρ Q n er w => ?_⟩
  unfold evE at w
  refine sa L σ H env h ρ _ n er ?_
  cases ea : evEs C L is env h with
  | bad => rw [ea] at w; exact w
  | exc c h1 => rw [ea] at w; exact w
  | ok ps h1 =>
    rw [ea] at w
    intro vs H1 ρ1 n1 rs
    dsimp only at w
    by_cases z : ps.length ≤ lim
    · rw [if_pos z] at w
      have lm := lim_size
      refine ⟨by rw [← rs.length]; omega, fun p np => ?_⟩
      have m : Nxt D F.K ρ1 H1 ρ1 h1 (upd H1 p (.tup vs)) := n1.now.new np
      exact w _ _ ρ1 (n1.trans m) (.tup (.inl (.inl upd_same)) (rs.mono m.grow m.pre))
    · rw [if_neg z] at w; exact w.elim
/-- [a, b, ..]: as it stands for ever, or changeable -/
theorem snd_lst {m : Bool} {es : List Expr} {is : Es} {pos : Pos} (ha : SA D C F W es is) : SE D C F W (.List es pos) (.lst m is) := by
  obtain ⟨ta, pa, sa⟩ := ha
  cases m with
  | true =>
    refine ⟨_, fun X hX => pe_lst (pa X hX), fun L σ H env h ρ Q n er w => ?_⟩
    unfold evE at w
    refine sa L σ H env h ρ _ n er ?_
    cases ea : evEs C L is env h with
    | bad => rw [ea] at w; exact w
    | exc c h1 => rw [ea] at w; exact w
    | ok ps h1 =>
      rw [ea] at w
      intro vs H1 ρ1 n1 rs
      dsimp only at w
      by_cases z : ps.length ≤ lim
      · rw [if_pos z, if_pos rfl] at w
        have lm := lim_size
        refine ⟨by rw [← rs.length]; omega, fun p np => ?_⟩
        have m := n1.now.push np rs
        refine w _ _ _ (n1.trans m) (.ref ?_)
        rw [List.getElem?_append_right (by rw [n1.rep.len]; omega), n1.rep.len, Nat.sub_self]
        rfl
      · rw [if_neg z] at w; exact w.elim
  | false =>
    refine ⟨fun σ H Q => tLst ta σ H fun v H1 => ∃ p vs, v = .ref p ∧ H1 p = some (.lst vs) ∧ ∀ o, Q v (upd H1 p (.frz o (.lst vs))), fun X hX => ⟨fun pins s σ H Q I hw => thn ((pe_lst (pa X hX)).run pins s σ H _ I hw) fun u s1 hq => ?_⟩, fun L σ H env h ρ Q n er w => ?_⟩
    · obtain ⟨x, H1, I1, r1, p, vs, rfl, hp, q⟩ := hq
      obtain ⟨od, I2⟩ := I1.lock hp trivial
      exact ⟨.ref p, _, I2, r1, q od⟩
    · unfold evE at w
      refine sa L σ H env h ρ _ n er ?_
      cases ea : evEs C L is env h with
      | bad => rw [ea] at w; exact w
      | exc c h1 => rw [ea] at w; exact w
      | ok ps h1 =>
        rw [ea] at w
        intro vs H1 ρ1 n1 rs
        dsimp only at w
        by_cases z : ps.length ≤ lim
        · rw [if_pos z, if_neg Bool.false_ne_true] at w
          have lm := lim_size
          refine ⟨by rw [← rs.length]; omega, fun p np => ⟨p, vs, rfl, upd_same, fun o => ?_⟩⟩
          rw [upd_upd]
          have m : Nxt D F.K ρ1 H1 ρ1 h1 (upd H1 p (.frz o (.lst vs))) := n1.now.new np
          exact w _ _ ρ1 (n1.trans m) (.lst (.inl ⟨o, upd_same⟩) (rs.mono m.grow m.pre))
        · rw [if_neg z] at w; exact w.elim
end
end Mini

/-! Frm -/
set_option autoImplicit false
set_option Elab.async false
set_option linter.all false
set_option maxRecDepth 100000
namespace Mini
/-- what a run leaves of the old changeable objects -/
def Fr (L : Lk) (h h' : Hh) : Prop := h.length ≤ h'.length ∧ ∀ r, r < h.length → (r ∈ L.locked ∨ r < L.base) → h'[r]? = h[r]?
theorem Fr.refl (L : Lk) (h : Hh) : Fr L h h := ⟨Nat.le_refl _, fun _ _ _ => rfl⟩
theorem Fr.trans {L : Lk} {h h1 h2 : Hh} (a : Fr L h h1) (b : Fr L h1 h2) : Fr L h h2 := ⟨Nat.le_trans a.1 b.1, fun r l z => (b.2 r (Nat.lt_of_lt_of_le l a.1) z).trans (a.2 r l z)⟩
def FrO (L : Lk) (h : Hh) : O → Prop
  | .nx _ h' => Fr L h h'
  | .rt _ h' => Fr L h h'
  | .bk _ h' => Fr L h h'
  | .ct _ h' => Fr L h h'
  | .ex _ h' => Fr L h h'
  | .bad => True
def FrR {α : Type} (L : Lk) (h : Hh) : Rs α → Prop
  | .ok _ h' => Fr L h h'
  | .exc _ h' => Fr L h h'
  | .bad => True
theorem FrR.from {α : Type} {L : Lk} {h h1 : Hh} {r : Rs α} (a : Fr L h h1) (b : FrR L h1 r) : FrR L h r := by
  cases r with
  | ok x h' => exact a.trans b
  | exc c h' => exact a.trans b
  | bad => trivial
theorem FrO.from {L : Lk} {h h1 : Hh} {r : O} (a : Fr L h h1) (b : FrO L h1 r) : FrO L h r := by
  cases r <;> first | exact a.trans b | trivial
theorem Fr.weak {L : Lk} {ws : List Nat} {h h' : Hh} (a : Fr { L with locked := ws ++ L.locked } h h') : Fr L h h' := ⟨a.1, fun r l z => a.2 r l (z.imp (fun m => List.mem_append_right _ m) id)⟩
theorem Fr.push (L : Lk) (h : Hh) (o : Ob) : Fr L h (h ++ [o]) := ⟨by simp, fun r l _ => by rw [List.getElem?_append_left l]⟩
theorem Fr.set {L : Lk} {h : Hh} {r : Nat} (k : L.ok r = true) (o : Ob) : Fr L h (h.set r o) := by
  unfold Lk.ok at k
  rw [Bool.and_eq_true, decide_eq_true_eq] at k
  refine ⟨by simp, fun j l z => ?_⟩
  have : r ≠ j := by
    rintro rfl
    rcases z with z | z
    · have k2 := k.2
      rw [Bool.not_eq_true', ] at k2
      rw [List.contains_eq_mem, decide_eq_false_iff_not] at k2
      exact k2 z
    · omega
  rw [List.getElem?_set_ne this]
theorem fr_bin (L : Lk) (o : Bop) (a b : PV) (h : Hh) : FrR L h (binE o a b h) := by
  unfold binE
  repeat' split
  all_goals first | exact Fr.refl L h | trivial
theorem fr_cmp (L : Lk) (o : Cop) (a b : PV) (h : Hh) : FrR L h (cmpE o a b h) := by
  unfold cmpE
  dsimp only
  repeat' split
  all_goals first | exact Fr.refl L h | trivial
theorem fr_idx (L : Lk) (a b : PV) (h : Hh) : FrR L h (idxE a b h) := by
  unfold idxE
  repeat' split
  all_goals first | exact Fr.refl L h | trivial
theorem fr_idxR (L : Lk) (a b : PV) (h : Hh) : FrR L h (idxR a b h) := by
  unfold idxR
  split
  · exact fr_idx L _ b h
  · trivial
theorem fr_sli (L : Lk) (a b c : PV) (h : Hh) : FrR L h (sliE a b c h) := by
  unfold sliE
  repeat' split
  all_goals first | exact Fr.refl L h | trivial
theorem fr_neg (L : Lk) (a : PV) (h : Hh) : FrR L h (negE a h) := by
  unfold negE
  repeat' split
  all_goals first | exact Fr.refl L h | trivial
theorem fr_prim (L : Lk) (f : Prim) (args : List PV) (h : Hh) : FrR L h (primE f args L h) := by
  unfold primE
  repeat' split
  all_goals first
    | exact Fr.refl L h
    | trivial
    | (rename_i z; rw [Bool.and_eq_true] at z; exact Fr.set z.1 _)
theorem fr_compL {L : Lk} {t : T} {c e : Env → Hh → Rs PV} {env : Env} (hc : ∀ env h, FrR L h (c env h)) (he : ∀ env h, FrR L h (e env h)) : ∀ (xs : List PV) (h : Hh), FrR L h (compL t c e env xs h)
  | [], h => by unfold compL; exact Fr.refl L h
  | x :: xs, h => by
    unfold compL
    cases ea : asgT t x env with
    | none => trivial
    | some env' =>
      dsimp only
      have h1 := hc env' h
      cases ec : c env' h with
      | bad => trivial
      | exc k h' => trivial
      | ok q h' =>
        rw [ec] at h1
        cases q <;> first
          | trivial
          | (rename_i b
             cases b with
             | false => exact FrR.from h1 (fr_compL hc he xs h')
             | true =>
               dsimp only
               have h2 := he env' h'
               cases ed : e env' h' with
               | bad => trivial
               | exc k h' => trivial
               | ok v h'' =>
                 rw [ed] at h2
                 dsimp only
                 have h3 := fr_compL (t := t) (env := env) hc he xs h''
                 cases er : compL t c e env xs h'' with
                 | bad => trivial
                 | exc k h' => rw [er] at h3; exact (Fr.trans h1 h2).trans h3
                 | ok vs h3' => rw [er] at h3; exact (Fr.trans h1 h2).trans h3)
theorem fr_anyL {L : Lk} {stop : Bool} {t : T} {c e : Env → Hh → Rs PV} {env : Env} (hc : ∀ env h, FrR L h (c env h)) (he : ∀ env h, FrR L h (e env h)) : ∀ (xs : List PV) (h : Hh), FrR L h (anyL stop t c e env xs h)
  | [], h => by unfold anyL; exact Fr.refl L h
  | x :: xs, h => by
    unfold anyL
    cases ea : asgT t x env with
    | none => trivial
    | some env' =>
      dsimp only
      have h1 := hc env' h
      cases ec : c env' h with
      | bad => trivial
      | exc k h' => trivial
      | ok q h' =>
        rw [ec] at h1
        cases q <;> first
          | trivial
          | (rename_i b
             cases b with
             | false => exact FrR.from h1 (fr_anyL hc he xs h')
             | true =>
               dsimp only
               have h2 := he env' h'
               cases ed : e env' h' with
               | bad => trivial
               | exc k h' => trivial
               | ok v h'' =>
                 rw [ed] at h2
                 cases v <;> first
                   | trivial
                   | (rename_i b2
                      dsimp only
                      split
                      · exact Fr.trans h1 h2
                      · exact FrR.from (Fr.trans h1 h2) (fr_anyL hc he xs h'')))
/-- calls leave so too -/
structure Cl.Frm (C : Cl) : Prop where
  call : ∀ f ps L h, FrR L h (C.call f ps L h)
  app : ∀ i cs ps L h, FrR L h (C.app i cs ps L h)

mutual
theorem fr_E (C : Cl) (hC : C.Frm) : ∀ (e : E) (L : Lk) (env : Env) (h : Hh), FrR L h (evE C L e env h)
  | .lit p, L, env, h => by unfold evE; exact Fr.refl L h
  | .var i, L, env, h => by unfold evE; split <;> first | exact Fr.refl L h | trivial
  | .con i, L, env, h => by unfold evE; split <;> first | exact Fr.refl L h | trivial
  | .bin o a b, L, env, h => by
    unfold evE
    have h1 := fr_E C hC a L env h
    cases ea : evE C L a env h with
    | bad => trivial
    | exc k h' => rw [ea] at h1; exact h1
    | ok x h' =>
      rw [ea] at h1
      dsimp only
      have h2 := fr_E C hC b L env h'
      cases eb : evE C L b env h' with
      | bad => trivial
      | exc k h'' => rw [eb] at h2; exact Fr.trans h1 h2
      | ok y h'' => rw [eb] at h2; exact FrR.from (Fr.trans h1 h2) (fr_bin L o x y h'')
  | .neg a, L, env, h => by
    unfold evE
    have h1 := fr_E C hC a L env h
    cases ea : evE C L a env h with
    | bad => trivial
    | exc k h' => rw [ea] at h1; exact h1
    | ok x h' => rw [ea] at h1; exact FrR.from h1 (fr_neg L x h')
  | .not_ a, L, env, h => by
    unfold evE
    have h1 := fr_E C hC a L env h
    cases ea : evE C L a env h with
    | bad => trivial
    | exc k h' => rw [ea] at h1; exact h1
    | ok x h' => rw [ea] at h1; cases x <;> first | exact h1 | trivial
  | .and_ a b, L, env, h => by
    unfold evE
    have h1 := fr_E C hC a L env h
    cases ea : evE C L a env h with
    | bad => trivial
    | exc k h' => rw [ea] at h1; exact h1
    | ok x h' =>
      rw [ea] at h1
      cases x <;> first
        | trivial
        | (rename_i k; cases k <;> first | exact h1 | exact FrR.from h1 (fr_E C hC b L env h'))
  | .or_ a b, L, env, h => by
    unfold evE
    have h1 := fr_E C hC a L env h
    cases ea : evE C L a env h with
    | bad => trivial
    | exc k h' => rw [ea] at h1; exact h1
    | ok x h' =>
      rw [ea] at h1
      cases x <;> first
        | trivial
        | (rename_i k; cases k <;> first | exact h1 | exact FrR.from h1 (fr_E C hC b L env h'))
  | .ife c a b, L, env, h => by
    unfold evE
    have h1 := fr_E C hC c L env h
    cases ea : evE C L c env h with
    | bad => trivial
    | exc k h' => rw [ea] at h1; exact h1
    | ok x h' =>
      rw [ea] at h1
      cases x <;> first
        | trivial
        | (rename_i k; cases k <;> first | exact FrR.from h1 (fr_E C hC a L env h') | exact FrR.from h1 (fr_E C hC b L env h'))
  | .cmp o a b, L, env, h => by
    unfold evE
    have h1 := fr_E C hC a L env h
    cases ea : evE C L a env h with
    | bad => trivial
    | exc k h' => rw [ea] at h1; exact h1
    | ok x h' =>
      rw [ea] at h1
      dsimp only
      have h2 := fr_E C hC b L env h'
      cases eb : evE C L b env h' with
      | bad => trivial
      | exc k h'' => rw [eb] at h2; exact Fr.trans h1 h2
      | ok y h'' => rw [eb] at h2; exact FrR.from (Fr.trans h1 h2) (fr_cmp L o x y h'')
  | .idx a b, L, env, h => by
    unfold evE
    have h1 := fr_E C hC a L env h
    cases ea : evE C L a env h with
    | bad => trivial
    | exc k h' => rw [ea] at h1; exact h1
    | ok x h' =>
      rw [ea] at h1
      dsimp only
      have h2 := fr_E C hC b L env h'
      cases eb : evE C L b env h' with
      | bad => trivial
      | exc k h'' => rw [eb] at h2; exact Fr.trans h1 h2
      | ok y h'' => rw [eb] at h2; exact FrR.from (Fr.trans h1 h2) (fr_idx L x y h'')
  | .cmp2 o o' a b c, L, env, h => by
    unfold evE
    have h1 := fr_E C hC a L env h
    cases ea : evE C L a env h with
    | bad => trivial
    | exc k h' => rw [ea] at h1; exact h1
    | ok x h' =>
      rw [ea] at h1
      dsimp only
      have h2 := fr_E C hC b L env h'
      cases eb : evE C L b env h' with
      | bad => trivial
      | exc k h'' => rw [eb] at h2; exact Fr.trans h1 h2
      | ok y h'' =>
        rw [eb] at h2
        dsimp only
        have h3 := fr_cmp L o x y h''
        cases ec : cmpE o x y h'' with
        | bad => trivial
        | exc k h3' => rw [ec] at h3; exact (Fr.trans h1 h2).trans h3
        | ok q h3' =>
          rw [ec] at h3
          cases q <;> first
            | trivial
            | (rename_i k
               cases k with
               | false => exact (Fr.trans h1 h2).trans h3
               | true =>
                 dsimp only
                 have h4 := fr_E C hC c L env h3'
                 cases ed : evE C L c env h3' with
                 | bad => trivial
                 | exc k h4' => rw [ed] at h4; exact ((Fr.trans h1 h2).trans h3).trans h4
                 | ok z h4' => rw [ed] at h4; exact FrR.from (((Fr.trans h1 h2).trans h3).trans h4) (fr_cmp L o' y z h4'))
  | .tup es, L, env, h => by
    unfold evE
    have h1 := fr_Es C hC es L env h
    cases ea : evEs C L es env h with
    | bad => trivial
    | exc k h' => rw [ea] at h1; exact h1
    | ok ps h' =>
      rw [ea] at h1
      dsimp only
      split
      · exact h1
      · trivial
  | .lst m es, L, env, h => by
    unfold evE
    have h1 := fr_Es C hC es L env h
    cases ea : evEs C L es env h with
    | bad => trivial
    | exc k h' => rw [ea] at h1; exact h1
    | ok ps h' =>
      rw [ea] at h1
      dsimp only
      repeat' split
      · exact Fr.trans h1 (Fr.push L h' _)
      · exact h1
      · trivial
  | .sli kl ku a l u, L, env, h => by
    unfold evE
    have h1 := fr_E C hC a L env h
    cases ea : evE C L a env h with
    | bad => trivial
    | exc k h' => rw [ea] at h1; exact h1
    | ok x h' =>
      rw [ea] at h1
      dsimp only
      have h2 := fr_E C hC l L env h'
      cases eb : evE C L l env h' with
      | bad => trivial
      | exc k h'' => rw [eb] at h2; exact Fr.trans h1 h2
      | ok y h'' =>
        rw [eb] at h2
        dsimp only
        split
        · have h3 := fr_E C hC u L env h''
          cases ec : evE C L u env h'' with
          | bad => trivial
          | exc k h3' => rw [ec] at h3; exact (Fr.trans h1 h2).trans h3
          | ok z h3' =>
            rw [ec] at h3
            dsimp only
            split
            · exact FrR.from ((Fr.trans h1 h2).trans h3) (fr_sli L x y z h3')
            · trivial
        · trivial
  | .call f es, L, env, h => by
    unfold evE
    have h1 := fr_Es C hC es L env h
    cases ea : evEs C L es env h with
    | bad => trivial
    | exc k h' => rw [ea] at h1; exact h1
    | ok ps h' =>
      rw [ea] at h1
      dsimp only
      exact FrR.from h1 (hC.call f ps L h')
  | .prim f es, L, env, h => by
    unfold evE
    have h1 := fr_Es C hC es L env h
    cases ea : evEs C L es env h with
    | bad => trivial
    | exc k h' => rw [ea] at h1; exact h1
    | ok ps h' =>
      rw [ea] at h1
      dsimp only
      exact FrR.from h1 (fr_prim L f ps h')
  | .told k ret e, L, env, h => by
    unfold evE
    have h1 := fr_E C hC e L env h
    cases ea : evE C L e env h with
    | bad => trivial
    | ok p h' => rw [ea] at h1; exact h1
    | exc c h' =>
      rw [ea] at h1
      dsimp only
      split
      · exact h1
      · trivial
  | .fstr es, L, env, h => by
    unfold evE
    have h1 := fr_Es C hC es L env h
    cases ea : evEs C L es env h with
    | bad => trivial
    | exc k h' => trivial
    | ok ps h' =>
      rw [ea] at h1
      dsimp only
      cases fmts ps with
      | none => trivial
      | some s =>
        dsimp only
        split
        · exact h1
        · trivial
  | .meth f a es, L, env, h => by
    unfold evE
    have h1 := fr_E C hC a L env h
    cases ea : evE C L a env h with
    | bad => trivial
    | exc k h' => rw [ea] at h1; exact h1
    | ok x h' =>
      rw [ea] at h1
      dsimp only
      split
      · have h2 := fr_Es C hC es L env h'
        cases eb : evEs C L es env h' with
        | bad => trivial
        | exc k h'' => rw [eb] at h2; exact Fr.trans h1 h2
        | ok ps h'' => rw [eb] at h2; exact FrR.from (Fr.trans h1 h2) (fr_prim L f _ h'')
      · trivial
  | .comp m ws t s es c e, L, env, h => by
    unfold evE
    have h1 := fr_Es C hC es L env h
    cases ea : evEs C L es env h with
    | bad => trivial
    | exc k h' => rw [ea] at h1; exact h1
    | ok ps h' =>
      rw [ea] at h1
      dsimp only
      split
      · rename_i xs _
        have h2 := fr_compL (L := { L with locked := refsOf ps ++ L.locked }) (t := t) (env := wipeE env ws) (fun env h => fr_E C hC c _ env h) (fun env h => fr_E C hC e _ env h) xs h'
        split
        · rename_i vs h'' eq
          rw [eq] at h2
          have h2 := Fr.weak h2
          repeat' split
          · exact (Fr.trans h1 h2).trans (Fr.push L h'' _)
          · exact Fr.trans h1 h2
          · trivial
        · trivial
      · trivial
  | .gen f ws t s es c e, L, env, h => by
    unfold evE
    have h1 := fr_Es C hC es L env h
    cases ea : evEs C L es env h with
    | bad => trivial
    | exc k h' => rw [ea] at h1; exact h1
    | ok ps h' =>
      rw [ea] at h1
      dsimp only
      split
      · rename_i xs _
        have h2 := fr_compL (L := { L with locked := refsOf ps ++ L.locked }) (t := t) (env := wipeE env ws) (fun env h => fr_E C hC c _ env h) (fun env h => fr_E C hC e _ env h) xs h'
        have h3 := fun k => fr_anyL (stop := k) (L := { L with locked := refsOf ps ++ L.locked }) (t := t) (env := wipeE env ws) (fun env h => fr_E C hC c _ env h) (fun env h => fr_E C hC e _ env h) xs h'
        have weak : ∀ {r : Rs PV}, FrR { L with locked := refsOf ps ++ L.locked } h' r → FrR L h' r := fun {r} q => by
          cases r <;> first | exact Fr.weak q | trivial
        split
        · exact FrR.from h1 (weak (h3 true))
        · exact FrR.from h1 (weak (h3 false))
        · split
          · rename_i vs h'' eq
            rw [eq] at h2
            split
            · exact FrR.from (Fr.trans h1 (Fr.weak h2)) (fr_prim L _ _ h'')
            · trivial
          · trivial
      · trivial
  | .lam i caps, L, env, h => by
    unfold evE
    split
    · exact Fr.refl L h
    · trivial
  | .app i es, L, env, h => by
    unfold evE
    split
    · have h1 := fr_Es C hC es L env h
      cases ea : evEs C L es env h with
      | bad => trivial
      | exc k h' => rw [ea] at h1; exact h1
      | ok ps h' => rw [ea] at h1; exact FrR.from h1 (hC.app _ _ ps L h')
    · trivial
theorem fr_Es (C : Cl) (hC : C.Frm) : ∀ (es : Es) (L : Lk) (env : Env) (h : Hh), FrR L h (evEs C L es env h)
  | .nil, L, env, h => by unfold evEs; exact Fr.refl L h
  | .cons e es, L, env, h => by
    unfold evEs
    have h1 := fr_E C hC e L env h
    cases ea : evE C L e env h with
    | bad => trivial
    | exc k h' => rw [ea] at h1; exact h1
    | ok p h' =>
      rw [ea] at h1
      dsimp only
      have h2 := fr_Es C hC es L env h'
      cases eb : evEs C L es env h' with
      | bad => trivial
      | exc k h'' => rw [eb] at h2; exact Fr.trans h1 h2
      | ok ps h'' => rw [eb] at h2; exact Fr.trans h1 h2
end
theorem fr_whileL {L : Lk} {c : Env → Hh → Rs PV} {b : Env → Hh → O} (hc : ∀ env h, FrR L h (c env h)) (hb : ∀ env h, FrO L h (b env h)) : ∀ (k : Nat) (env : Env) (h : Hh), FrO L h (whileL c b k env h)
  | 0, env, h => by unfold whileL; trivial
  | k + 1, env, h => by
    unfold whileL
    have h1 := hc env h
    cases ea : c env h with
    | bad => trivial
    | exc k h' => rw [ea] at h1; exact h1
    | ok q h' =>
      rw [ea] at h1
      cases q <;> first
        | trivial
        | (rename_i j
           cases j with
           | false => exact h1
           | true =>
             dsimp only
             have h2 := hb env h'
             cases eb : b env h' with
             | nx env2 h2' => rw [eb] at h2; exact FrO.from (Fr.trans h1 h2) (fr_whileL hc hb k env2 h2')
             | ct env2 h2' => rw [eb] at h2; exact FrO.from (Fr.trans h1 h2) (fr_whileL hc hb k env2 h2')
             | bad => trivial
             | _ => rw [eb] at h2; exact Fr.trans h1 h2)
theorem fr_forL {L : Lk} {t : T} {b : Env → Hh → O} (hb : ∀ env h, FrO L h (b env h)) : ∀ (xs : List PV) (env : Env) (h : Hh), FrO L h (forL t b xs env h)
  | [], env, h => by unfold forL; exact Fr.refl L h
  | x :: xs, env, h => by
    unfold forL
    cases ea : asgT t x env with
    | none => trivial
    | some env1 =>
      dsimp only
      have h2 := hb env1 h
      cases eb : b env1 h with
      | nx env2 h2' => rw [eb] at h2; exact FrO.from h2 (fr_forL hb xs env2 h2')
      | ct env2 h2' => rw [eb] at h2; exact FrO.from h2 (fr_forL hb xs env2 h2')
      | bad => trivial
      | _ => rw [eb] at h2; exact h2
theorem FrO.weak {L : Lk} {ws : List Nat} {h : Hh} {r : O} (q : FrO { L with locked := ws ++ L.locked } h r) : FrO L h r := by
  cases r <;> first | exact Fr.weak q | trivial
theorem fr_setE {L : Lk} {o i v : PV} {h h' : Hh} (e : setE o i v L h = some h') : Fr L h h' := by
  unfold setE at e
  repeat' split at e
  all_goals first
    | (rename_i z _ _ _; cases e; exact Fr.set z _)
    | (rename_i z _ _; cases e; exact Fr.set z _)
    | (cases e; done)
    | cases e
theorem fr_aug (L : Lk) (o : Bop) (a b : PV) (h : Hh) : FrR L h (augE o a b L h) := by
  unfold augE
  repeat' split
  all_goals first
    | exact Fr.refl L h
    | trivial
    | (rename_i z; rw [Bool.and_eq_true] at z; exact Fr.set z.1 _)
mutual
theorem fr_S (C : Cl) (hC : C.Frm) : ∀ (s : S) (L : Lk) (env : Env) (h : Hh), FrO L h (evS C L s env h)
  | .asg t e, L, env, h => by
    unfold evS
    have h1 := fr_E C hC e L env h
    cases ea : evE C L e env h with
    | bad => trivial
    | exc k h' => rw [ea] at h1; exact h1
    | ok x h' =>
      rw [ea] at h1
      dsimp only
      split
      · exact h1
      · trivial
  | .par i j a b, L, env, h => by
    unfold evS
    have h1 := fr_E C hC a L env h
    cases ea : evE C L a env h with
    | bad => trivial
    | exc k h' => rw [ea] at h1; exact h1
    | ok x h' =>
      rw [ea] at h1
      dsimp only
      have h2 := fr_E C hC b L env h'
      cases eb : evE C L b env h' with
      | bad => trivial
      | exc k h'' => rw [eb] at h2; exact Fr.trans h1 h2
      | ok y h'' => rw [eb] at h2; exact Fr.trans h1 h2
  | .set o i v, L, env, h => by
    unfold evS
    have h1 := fr_E C hC v L env h
    cases ea : evE C L v env h with
    | bad => trivial
    | exc k h' => rw [ea] at h1; exact h1
    | ok x h' =>
      rw [ea] at h1
      dsimp only
      have h2 := fr_E C hC o L env h'
      cases eb : evE C L o env h' with
      | bad => trivial
      | exc k h'' => rw [eb] at h2; exact Fr.trans h1 h2
      | ok y h'' =>
        rw [eb] at h2
        dsimp only
        have h3 := fr_E C hC i L env h''
        cases ec : evE C L i env h'' with
        | bad => trivial
        | exc k h3' => rw [ec] at h3; exact (Fr.trans h1 h2).trans h3
        | ok z h3' =>
          rw [ec] at h3
          dsimp only
          split
          · rename_i h4 e4; exact ((Fr.trans h1 h2).trans h3).trans (fr_setE e4)
          · trivial
  | .aug i o e, L, env, h => by
    unfold evS
    split
    · rename_i a _
      have h1 := fr_E C hC e L env h
      cases ea : evE C L e env h with
      | bad => trivial
      | exc k h' => rw [ea] at h1; exact h1
      | ok x h' =>
        rw [ea] at h1
        dsimp only
        have h2 := fr_aug L o a x h'
        cases eb : augE o a x L h' with
        | bad => trivial
        | exc k h'' => rw [eb] at h2; exact Fr.trans h1 h2
        | ok y h'' => rw [eb] at h2; exact Fr.trans h1 h2
    · trivial
  | .augx a i o e, L, env, h => by
    unfold evS
    have h1 := fr_E C hC a L env h
    cases ea : evE C L a env h with
    | bad => trivial
    | exc k h' => rw [ea] at h1; exact h1
    | ok x h' =>
      rw [ea] at h1
      dsimp only
      have h2 := fr_E C hC i L env h'
      cases eb : evE C L i env h' with
      | bad => trivial
      | exc k h'' => rw [eb] at h2; exact Fr.trans h1 h2
      | ok y h'' =>
        rw [eb] at h2
        dsimp only
        have h3 := fr_idxR L x y h''
        cases ec : idxR x y h'' with
        | bad => trivial
        | exc k h3' => rw [ec] at h3; exact (Fr.trans h1 h2).trans h3
        | ok z h3' =>
          rw [ec] at h3
          dsimp only
          have h4 := fr_E C hC e L env h3'
          cases ed : evE C L e env h3' with
          | bad => trivial
          | exc k h4' => rw [ed] at h4; exact ((Fr.trans h1 h2).trans h3).trans h4
          | ok u h4' =>
            rw [ed] at h4
            dsimp only
            have h5 := fr_aug L o z u h4'
            cases ef : augE o z u L h4' with
            | bad => trivial
            | exc k h5' => rw [ef] at h5; exact (((Fr.trans h1 h2).trans h3).trans h4).trans h5
            | ok p h5' =>
              rw [ef] at h5
              dsimp only
              split
              · rename_i h6 e6; exact ((((Fr.trans h1 h2).trans h3).trans h4).trans h5).trans (fr_setE e6)
              · trivial
  | .expr e, L, env, h => by
    unfold evS
    have h1 := fr_E C hC e L env h
    cases ea : evE C L e env h with
    | bad => trivial
    | exc k h' => rw [ea] at h1; exact h1
    | ok x h' => rw [ea] at h1; exact h1
  | .ife c a b, L, env, h => by
    unfold evS
    have h1 := fr_E C hC c L env h
    cases ea : evE C L c env h with
    | bad => trivial
    | exc k h' => rw [ea] at h1; exact h1
    | ok x h' =>
      rw [ea] at h1
      cases x <;> first
        | trivial
        | (rename_i k; cases k <;> first | exact FrO.from h1 (fr_Ss C hC a L env h') | exact FrO.from h1 (fr_Ss C hC b L env h'))
  | .for_ t s es b, L, env, h => by
    unfold evS
    have h1 := fr_Es C hC es L env h
    cases ea : evEs C L es env h with
    | bad => trivial
    | exc k h' => rw [ea] at h1; exact h1
    | ok ps h' =>
      rw [ea] at h1
      dsimp only
      split
      · exact FrO.from h1 (FrO.weak (fr_forL (fun env h => fr_Ss C hC b _ env h) _ env h'))
      · trivial
  | .whl c b, L, env, h => by
    unfold evS
    exact fr_whileL (fun env h => fr_E C hC c L env h) (fun env h => fr_Ss C hC b L env h) turns env h
  | .ret e, L, env, h => by
    unfold evS
    have h1 := fr_E C hC e L env h
    cases ea : evE C L e env h with
    | bad => trivial
    | exc k h' => rw [ea] at h1; exact h1
    | ok x h' => rw [ea] at h1; exact h1
  | .raise c, L, env, h => by unfold evS; exact Fr.refl L h
  | .brk, L, env, h => by unfold evS; exact Fr.refl L h
  | .cnt, L, env, h => by unfold evS; exact Fr.refl L h
  | .pass, L, env, h => by unfold evS; exact Fr.refl L h
  | .del i, L, env, h => by unfold evS; exact Fr.refl L h
  | .try1 s c hb, L, env, h => by
    unfold evS
    have h1 := fr_S C hC s L env h
    cases ea : evS C L s env h with
    | ex k h' =>
      rw [ea] at h1
      dsimp only
      split
      · have h2 := FrO.from h1 (fr_Ss C hC hb L [] h')
        cases eb : evSs C L hb [] h' with
        | rt p h'' => rw [eb] at h2; exact h2
        | _ => trivial
      · exact h1
    | bad => trivial
    | _ => rw [ea] at h1; exact h1
theorem fr_Ss (C : Cl) (hC : C.Frm) : ∀ (s : Ss) (L : Lk) (env : Env) (h : Hh), FrO L h (evSs C L s env h)
  | .nil, L, env, h => by unfold evSs; exact Fr.refl L h
  | .cons s ss, L, env, h => by
    unfold evSs
    have h1 := fr_S C hC s L env h
    cases ea : evS C L s env h with
    | nx env2 h' => rw [ea] at h1; exact FrO.from h1 (fr_Ss C hC ss L env2 h')
    | bad => trivial
    | _ => rw [ea] at h1; exact h1
end
mutual
theorem fr_call (P : Prg) : ∀ (d f : Nat) (ps : List PV) (L : Lk) (h : Hh), FrR L h (callN P d f ps L h)
  | 0, f, ps, L, h => by unfold callN; trivial
  | d + 1, f, ps, L, h => by
    unfold callN
    split
    · rename_i Fd _
      split
      · split
        · unfold endPure
          repeat' split
          all_goals first | exact Fr.refl L h | trivial
        · have h1 := fr_Ss ⟨callN P d, appN P d, (P.cons[·]?), P.isa⟩ ⟨fr_call P d, fr_app P d⟩ Fd.body L (entry Fd.nslot ps) h
          unfold endRaw
          split <;> first | trivial | (rename_i eq; rw [eq] at h1; exact h1)
      · trivial
    · trivial
theorem fr_app (P : Prg) : ∀ (d i : Nat) (cs ps : List PV) (L : Lk) (h : Hh), FrR L h (appN P d i cs ps L h)
  | 0, i, cs, ps, L, h => by unfold appN; trivial
  | d + 1, i, cs, ps, L, h => by
    unfold appN
    split
    · split
      · exact fr_E ⟨callN P d, appN P d, (P.cons[·]?), P.isa⟩ ⟨fr_call P d, fr_app P d⟩ _ L _ h
      · trivial
    · trivial
end
def clN (P : Prg) (d : Nat) : Cl := ⟨callN P d, appN P d, (P.cons[·]?), P.isa⟩
theorem frm_N (P : Prg) (d : Nat) : (clN P d).Frm := ⟨fr_call P d, fr_app P d⟩
end Mini

/-! Snd5 -/
set_option autoImplicit false
set_option Elab.async false
set_option linter.all false
set_option maxRecDepth 100000
namespace Mini
open PySem PySem.Spec PyProof.Rows L2

/-- what is wanted behind a statement -/
def WantS (D : Side) (K : PySem.W.Frag) (ρ : List Addr) (H : Hp) (W : WW) (De : Ends) : O → Prop
  | .nx env h' => ∀ σ' H' ρ', Nxt D K ρ H ρ' h' H' → EnvR K ρ' H' env σ' → De.nx σ' H'
  | .rt p h' => ∀ v H' ρ', Nxt D K ρ H ρ' h' H' → Rep K ρ' H' p v → De.rt v H'
  | .bk env h' => ∀ σ' H' ρ', Nxt D K ρ H ρ' h' H' → EnvR K ρ' H' env σ' → De.bk σ' H'
  | .ct env h' => ∀ σ' H' ρ', Nxt D K ρ H ρ' h' H' → EnvR K ρ' H' env σ' → De.ct σ' H'
  | .ex c h' => ∀ σ' H' ρ', Nxt D K ρ H ρ' h' H' → W c σ' H'
  | .bad => False
theorem WantS.at {D : Side} {K : PySem.W.Frag} {ρ ρ1 : List Addr} {H H1 : Hp} {h1 : Hh} {W : WW} {De : Ends} {r : O} (w : WantS D K ρ H W De r) (n : Nxt D K ρ H ρ1 h1 H1) : WantS D K ρ1 H1 W De r := by
  cases r with
  | nx env h' => exact fun σ' H' ρ' m q => w σ' H' ρ' (n.trans m) q
  | rt p h' => exact fun v H' ρ' m q => w v H' ρ' (n.trans m) q
  | bk env h' => exact fun σ' H' ρ' m q => w σ' H' ρ' (n.trans m) q
  | ct env h' => exact fun σ' H' ρ' m q => w σ' H' ρ' (n.trans m) q
  | ex c h' => exact fun σ' H' ρ' m => w σ' H' ρ' (n.trans m)
  | bad => exact w
def SS (D : Side) (C : Cl) (F : Fam) (W : WW) (st : Stmt) (ir : S) : Prop :=
  ∃ t : TS, (∀ X, F.P X → PS X st t) ∧ ∀ (L : Lk) (σ : L2.St) (H : Hp) (env : Env) (h : Hh) (ρ : List Addr) (De : Ends), Now D F.K ρ h H → EnvR F.K ρ H env σ → WantS D F.K ρ H W De (evS C L ir env h) → t De σ H
def SSs (D : Side) (C : Cl) (F : Fam) (W : WW) (st : List Stmt) (ir : Ss) : Prop :=
  ∃ t : TS, (∀ X, F.P X → PSs X st t) ∧ ∀ (L : Lk) (σ : L2.St) (H : Hp) (env : Env) (h : Hh) (ρ : List Addr) (De : Ends), Now D F.K ρ h H → EnvR F.K ρ H env σ → WantS D F.K ρ H W De (evSs C L ir env h) → t De σ H
mutual
def T.slots : T → List Nat
  | .name i => [i]
  | .tup ts => ts.slots
def Ts.slots : Ts → List Nat
  | .nil => []
  | .cons t ts => t.slots ++ ts.slots
end
/-- only these slots are set -/
def Off (is : List Nat) (σ σ' : L2.St) : Prop := ∀ vs, (∀ i ∈ is, i ∈ vs) → wipe σ' vs = wipe σ vs
theorem Off.trans {is js : List Nat} {σ σ1 σ2 : L2.St} (a : Off is σ σ1) (b : Off js σ1 σ2) : Off (is ++ js) σ σ2 := fun vs h =>
  (b vs fun i hi => h i (List.mem_append_right _ hi)).trans (a vs fun i hi => h i (List.mem_append_left _ hi))
theorem wipe_set {σ : L2.St} {i : Nat} {o : Option V} : ∀ {vs : List Nat}, i ∈ vs → wipe (σ.set i o) vs = wipe σ vs
  | [], h => by cases h
  | v :: vs, h => by
    unfold wipe
    by_cases z : i ∈ vs
    · rw [wipe_set z]
    · rcases List.mem_cons.mp h with e | e
      · subst e
        have : ∀ ws : List Nat, i ∉ ws → wipe (σ.set i o) ws = (wipe σ ws).set i o := by
          intro ws
          induction ws with
          | nil => intro _; rfl
          | cons w ws ih =>
            intro hn
            simp only [List.mem_cons, not_or] at hn
            unfold wipe
            rw [ih hn.2, List.set_comm _ _ hn.1]
        rw [this vs z, List.set_set]
      · exact absurd e z
theorem wipe_twice {σ : L2.St} {vs : List Nat} : wipe (wipe σ vs) vs = wipe σ vs := by
  have : ∀ ws : List Nat, (∀ i ∈ ws, i ∈ vs) → wipe (wipe σ ws) vs = wipe σ vs := by
    intro ws
    induction ws with
    | nil => intro _; rfl
    | cons w ws ih =>
      intro h
      rw [show wipe σ (w :: ws) = (wipe σ ws).set w none from rfl, wipe_set (h w List.mem_cons_self)]
      exact ih fun i hi => h i (List.mem_cons_of_mem _ hi)
  exact this vs fun _ h => h
/-- a target -/
def SG (F : Fam) (tg : Expr) (t : T) : Prop :=
  ∃ g : TG, (∀ X, F.P X → PG X tg g) ∧ ∀ (p : PV) (v : V) (σ : L2.St) (H : Hp) (env env' : Env) (ρ : List Addr) (Q : L2.St → Hp → Prop), EnvR F.K ρ H env σ → Rep F.K ρ H p v → asgT t p env = some env' → (∀ σ', EnvR F.K ρ H env' σ' → Off t.slots σ σ' → Q σ' H) → g v σ H Q
def SGs (F : Fam) (tgs : List Expr) (ts : Ts) : Prop :=
  ∃ g : TGs, (∀ X, F.P X → PGs X tgs g) ∧ ∀ (ps : List PV) (vs : List V) (σ : L2.St) (H : Hp) (env env' : Env) (ρ : List Addr) (Q : L2.St → Hp → Prop), EnvR F.K ρ H env σ → Reps F.K ρ H ps vs → asgTs ts ps env = some env' → (∀ σ', EnvR F.K ρ H env' σ' → Off ts.slots σ σ' → Q σ' H) → g vs σ H Q

section
variable {D : Side} {C : Cl} {F : Fam} {W : WW}
theorem sgd_name {i : Nat} {x : Str} {pos : Pos} (hN : ∀ X, F.P X → X.N.Nodup) (hi : ∀ X, F.P X → X.N[i]? = some x) (hx : ∀ X, F.P X → Loc X.env.scope x) (hf : ∀ X, F.P X → X.fn x = true ∨ X.env.scope.names.lookup x = some .local) : SG F (.Name x pos) (.name i) := by
  refine ⟨_, fun X hX => pg_name (hN X hX) (hi X hX) (hx X hX) (hf X hX), fun p v σ H env env' ρ Q er r e q => ?_⟩
  simp only [asgT] at e
  cases e
  exact q _ (er.set r i) fun vs h => wipe_set (h i (by simp [T.slots]))
theorem sgd_nil : SGs F [] .nil := by
  refine ⟨_, fun _ _ => pgs_nil, fun ps vs σ H env env' ρ Q er r e q => ?_⟩
  cases r with
  | nil => simp only [asgTs] at e; cases e; exact ⟨rfl, q _ er fun _ _ => rfl⟩
  | cons _ _ => simp [asgTs] at e
theorem sgd_cons {e : Expr} {es : List Expr} {t : T} {ts : Ts} (h1 : SG F e t) (h2 : SGs F es ts) (hs : ∀ X : Cx, (assignEach (e :: es) X.env).map (·.2) = assign e X.env :: (assignEach es X.env).map (·.2)) : SGs F (e :: es) (.cons t ts) := by
  obtain ⟨g1, p1, s1⟩ := h1
  obtain ⟨g2, p2, s2⟩ := h2
  refine ⟨_, fun X hX => pgs_cons (p1 X hX) (p2 X hX) (hs X), fun ps vs σ H env env' ρ Q er r e q => ?_⟩
  cases r with
  | nil => simp [asgTs] at e
  | cons a b =>
    rename_i p v ps vs
    simp only [asgTs] at e
    cases ea : asgT t p env with
    | none => rw [ea] at e; cases e
    | some env1 =>
      rw [ea] at e
      exact ⟨v, vs, rfl, s1 p v σ H env env1 ρ _ er a ea fun σ1 er1 f1 => s2 ps vs σ1 H env1 env' ρ Q er1 b e fun σ2 er2 f2 => q σ2 er2 (by rw [Ts.slots]; exact f1.trans f2)⟩
def Ts.len : Ts → Nat
  | .nil => 0
  | .cons _ ts => ts.len + 1
theorem assigns_length : ∀ (ts : Ts) (ps : List PV) (env env' : Env), asgTs ts ps env = some env' → ps.length = ts.len
  | .nil, [], _, _, _ => rfl
  | .nil, _ :: _, _, _, e => by simp [asgTs] at e
  | .cons t ts, [], _, _, e => by simp [asgTs] at e
  | .cons t ts, p :: ps, env, env', e => by
    simp only [asgTs] at e
    cases ea : asgT t p env with
    | none => rw [ea] at e; cases e
    | some env1 =>
      rw [ea] at e
      rw [List.length_cons, assigns_length ts ps env1 env' e]
      rfl
theorem sgd_tup {es : List Expr} {k : Nat} {pos : Pos} {ts : Ts} (hc : ∀ X, F.P X → X.calm = true) (h : SGs F es ts) (hn : ∀ X : Cx, (assignEach es X.env).length = ts.len) (hst : ∀ X : Cx, (assignEach es X.env).findIdx? (·.1) = none) : SG F (.Tuple es k pos) (.tup ts) := by
  obtain ⟨g, p, s⟩ := h
  refine ⟨gTup F.K ts.len g, fun X hX => F.hK X hX ▸ pg_tup (hc X hX) (p X hX) (hn X) (hst X), fun p v σ H env env' ρ Q er r e q => ?_⟩
  cases r with
  | tup hq rs =>
    rename_i ps vs a
    simp only [asgT] at e
    exact ⟨a, vs, rfl, hq, by rw [← rs.length]; exact assigns_length ts ps env env' e, s ps vs σ H env env' ρ Q er rs e fun σ' er' f => q σ' er' (by rw [T.slots]; exact f)⟩
  | _ => simp [asgT] at e

/-! ### small statements -/
theorem snds_asg {tg e : Expr} {t : T} {ie : E} {pos : Pos} (he : SE D C F W e ie) (hg : SG F tg t) (hs : ∀ X, F.P X → swapsWithSole [tg] e pos.line X.env = pure false) (hw : ∀ X, F.P X → swappedStores [tg] e X.env = pure none)
    (h1 : ∀ X : Cx, (assignEach [tg] X.env).map (·.2) = [assign tg X.env]) : SS D C F W (.Assign [tg] e pos) (.asg t ie) := by
  obtain ⟨te, pe, se⟩ := he
  obtain ⟨g, pg, sg⟩ := hg
  refine ⟨_, fun X hX => ps_asg (pe X hX) (pg X hX) (hs X hX) (hw X hX) (h1 X), fun L σ H env h ρ De n er w => ?_⟩
  unfold evS at w
  refine se L σ H env h ρ _ n er ?_
  cases ea : evE C L ie env h with
  | bad => rw [ea] at w; exact w
  | exc c h1 => rw [ea] at w; exact fun H' ρ' m => w σ H' ρ' m
  | ok p h1 =>
    rw [ea] at w
    intro v H1 ρ1 n1 rp
    dsimp only at w
    cases eb : asgT t p env with
    | none => rw [eb] at w; exact w.elim
    | some env1 =>
      rw [eb] at w
      exact sg p v σ H1 env env1 ρ1 De.nx (er.mono n1.grow n1.pre) rp eb fun σ' er' _ => w σ' H1 ρ1 n1 er'
/-- a, b = x, y of two local names -/
theorem snds_par {i j : Nat} {x y : Str} {a b : Expr} {ia ib : E} {px py pt pos pt2 : Pos} {kt k2 : Nat} (hc : ∀ X, F.P X → X.calm = true) (hN : ∀ X, F.P X → X.N.Nodup) (hi : ∀ X, F.P X → X.N[i]? = some x) (hj : ∀ X, F.P X → X.N[j]? = some y) (hij : i ≠ j)
    (hx : ∀ X, F.P X → X.env.scope.names.lookup x = some .local) (hy : ∀ X, F.P X → X.env.scope.names.lookup y = some .local) (ha : SA D C F W [a, b] (.cons ia (.cons ib .nil)))
    (hw : ∀ X, F.P X → swappedStores [.Tuple [.Name x px, .Name y py] kt pt] (.Tuple [a, b] k2 pt2) X.env = pure (some [x, y])) (hs : ∀ X, F.P X → swapsWithSole [.Tuple [.Name x px, .Name y py] kt pt] (.Tuple [a, b] k2 pt2) pos.line X.env = pure false) :
    SS D C F W (.Assign [.Tuple [.Name x px, .Name y py] kt pt] (.Tuple [a, b] k2 pt2) pos) (.asg (.tup (.cons (.name i) (.cons (.name j) .nil))) (.tup (.cons ia (.cons ib .nil)))) := by
  obtain ⟨ta, pa, sa⟩ := ha
  refine ⟨_, fun X hX => ps_par (hc X hX) (hN X hX) (hi X hX) (hj X hX) hij (hx X hX) (hy X hX) (pa X hX) (hw X hX) (hs X hX), fun L σ H env h ρ De n er w => ?_⟩
  unfold evS evE at w
  refine sa L σ H env h ρ _ n er ?_
  cases ea : evEs C L (.cons ia (.cons ib .nil)) env h with
  | bad => rw [ea] at w; exact w
  | exc c h1 => rw [ea] at w; exact fun H' ρ' m => w σ H' ρ' m
  | ok ps h1 =>
    rw [ea] at w
    intro vs H1 ρ1 n1 rs
    dsimp only at w
    by_cases z : ps.length ≤ lim
    · rw [if_pos z] at w
      dsimp only at w
      cases rs with
      | nil => simp [asgT, asgTs] at w; exact w.elim
      | cons r1 rs =>
        cases rs with
        | nil => simp [asgT, asgTs] at w; exact w.elim
        | cons r2 rs =>
          cases rs with
          | cons _ _ => simp [asgT, asgTs] at w; exact w.elim
          | nil =>
            simp only [asgT, asgTs] at w
            exact ⟨_, _, rfl, w _ H1 ρ1 n1 (((er.mono n1.grow n1.pre).set r1 i).set r2 j)⟩
    · rw [if_neg z] at w; exact w.elim
theorem snds_expr {e : Expr} {ie : E} {pos : Pos} (he : SE D C F W e ie) (hs : ∀ X, F.P X → swapsWith e none pos.line X.env = pure false) : SS D C F W (.Expr e pos) (.expr ie) := by
  obtain ⟨te, pe, se⟩ := he
  refine ⟨_, fun X hX => ps_expr (pe X hX) (hs X hX), fun L σ H env h ρ De n er w => ?_⟩
  unfold evS at w
  refine se L σ H env h ρ _ n er ?_
  cases ea : evE C L ie env h with
  | bad => rw [ea] at w; exact w
  | exc c h1 => rw [ea] at w; exact fun H' ρ' m => w σ H' ρ' m
  | ok p h1 =>
    rw [ea] at w
    exact fun v H1 ρ1 n1 rp => w σ H1 ρ1 n1 (er.mono n1.grow n1.pre)
theorem snds_ret {e : Expr} {ie : E} {pos : Pos} (he : SE D C F W e ie) : SS D C F W (.Return (some e) pos) (.ret ie) := by
  obtain ⟨te, pe, se⟩ := he
  refine ⟨_, fun X hX => ps_ret (pe X hX), fun L σ H env h ρ De n er w => ?_⟩
  unfold evS at w
  refine se L σ H env h ρ _ n er ?_
  cases ea : evE C L ie env h with
  | bad => rw [ea] at w; exact w
  | exc c h1 => rw [ea] at w; exact fun H' ρ' m => w σ H' ρ' m
  | ok p h1 =>
    rw [ea] at w
    exact fun v H1 ρ1 n1 rp => w v H1 ρ1 n1 rp
theorem snds_retN {pos : Pos} : SS D C F W (.Return none pos) (.ret (.lit .non)) :=
  ⟨_, fun _ _ => ps_retN, fun L σ H env h ρ De n er w => by unfold evS evE at w; exact w .non H ρ n.nxt .non⟩
theorem snds_pass {pos : Pos} : SS D C F W (.Pass pos) .pass := ⟨_, fun _ _ => ps_pass, fun L σ H env h ρ De n er w => by unfold evS at w; exact w σ H ρ n.nxt er⟩
theorem snds_brk {pos : Pos} : SS D C F W (.Break pos) .brk := ⟨_, fun _ _ => ps_break, fun L σ H env h ρ De n er w => by unfold evS at w; exact w σ H ρ n.nxt er⟩
theorem snds_cnt {pos : Pos} : SS D C F W (.Continue pos) .cnt := ⟨_, fun _ _ => ps_continue, fun L σ H env h ρ De n er w => by unfold evS at w; exact w σ H ρ n.nxt er⟩
theorem snds_ife {c : Expr} {a b : List Stmt} {ic : E} {ia ib : Ss} {pos : Pos} (hc : ST D C F W c ic) (ha : SSs D C F W a ia) (hb : SSs D C F W b ib) : SS D C F W (.If c a b pos) (.ife ic ia ib) := by
  obtain ⟨tc, pc, sc⟩ := hc
  obtain ⟨ta, pa, sa⟩ := ha
  obtain ⟨tb, pb, sb⟩ := hb
  refine ⟨_, fun X hX => ps_if (pc X hX) (pa X hX) (pb X hX), fun L σ H env h ρ De n er w => ?_⟩
  unfold evS at w
  refine sc L σ H env h ρ _ n er ?_
  cases e : evE C L ic env h with
  | bad => rw [e] at w; exact w
  | exc c h1 => rw [e] at w; exact fun H' ρ' m => w σ H' ρ' m
  | ok q h1 =>
    rw [e] at w
    cases q <;> first
      | exact False.elim w
      | (rename_i k
         intro v H' ρ' m rp
         cases rp
         refine ⟨k, rfl, ?_⟩
         cases k with
         | true => rw [if_pos rfl]; exact sa L σ H' env h1 ρ' De m.now (er.mono m.grow m.pre) (WantS.at w m)
         | false => rw [if_neg Bool.false_ne_true]; exact sb L σ H' env h1 ρ' De m.now (er.mono m.grow m.pre) (WantS.at w m))
theorem sndss_nil : SSs D C F W [] .nil := ⟨_, fun _ _ => pss_nil, fun L σ H env h ρ De n er w => by unfold evSs at w; exact w σ H ρ n.nxt er⟩
theorem sndss_cons {st : Stmt} {ss : List Stmt} {i : S} {is : Ss} (h1 : SS D C F W st i) (h2 : SSs D C F W ss is) : SSs D C F W (st :: ss) (.cons i is) := by
  obtain ⟨t1, p1, s1⟩ := h1
  obtain ⟨t2, p2, s2⟩ := h2
  refine ⟨_, fun X hX => pss_cons (p1 X hX) (p2 X hX), fun L σ H env h ρ De n er w => ?_⟩
  unfold evSs at w
  refine s1 L σ H env h ρ _ n er ?_
  cases ea : evS C L i env h with
  | nx env1 h1 =>
    rw [ea] at w
    exact fun σ1 H1 ρ1 n1 er1 => s2 L σ1 H1 env1 h1 ρ1 De n1.now er1 (WantS.at w n1)
  | _ => rw [ea] at w; exact w

/-! ### while -/
theorem snds_whl {c : Expr} {body : List Stmt} {ic : E} {ib : Ss} {pos : Pos} (hp : ∀ X, F.P X → PassesOwn (model X.prog X.w) X.A X.env X.xe) (hc : ST D C F W c ic) (hb : SSs D C F W body ib) : SS D C F W (.While c body [] pos) (.whl ic ib) := by
  obtain ⟨tc, pc, sc⟩ := hc
  obtain ⟨tb, pb, sb⟩ := hb
  refine ⟨_, fun X hX => ps_while (hp X hX) (pc X hX) (pb X hX), fun L σ H env h ρ De n er w => ?_⟩
  unfold evS at w
  refine ⟨fun m σ H => ∃ env h ρ, Now D F.K ρ h H ∧ EnvR F.K ρ H env σ ∧ WantS D F.K ρ H W De (whileL (evE C L ic) (evSs C L ib) m env h), ⟨turns, env, h, ρ, n, er, w⟩, ?_⟩
  rintro m σ H ⟨env, h, ρ, n, er, w⟩
  cases m with
  | zero => unfold whileL at w; exact w.elim
  | succ m =>
    unfold whileL at w
    refine sc L σ H env h ρ _ n er ?_
    cases e : evE C L ic env h with
    | bad => rw [e] at w; exact w
    | exc c h1 => rw [e] at w; exact fun H' ρ' m => w σ H' ρ' m
    | ok q h1 =>
      rw [e] at w
      cases q <;> first
        | exact False.elim w
        | (rename_i k
           intro v H' ρ' m1 rp
           cases rp
           refine ⟨k, rfl, ?_⟩
           cases k with
           | false => rw [if_neg Bool.false_ne_true]; exact w σ H' ρ' m1 (er.mono m1.grow m1.pre)
           | true =>
             rw [if_pos rfl]
             refine ⟨_, fun σ' H' q => ⟨m, Nat.lt_succ_self m, q⟩, ?_⟩
             refine sb L σ H' env h1 ρ' _ m1.now (er.mono m1.grow m1.pre) ?_
             have w1 := WantS.at w m1
             dsimp only at w1
             cases eb : evSs C L ib env h1 with
             | nx env2 h2 => rw [eb] at w1; exact fun σ2 H2 ρ2 n2 er2 => ⟨env2, h2, ρ2, n2.now, er2, WantS.at w1 n2⟩
             | ct env2 h2 => rw [eb] at w1; exact fun σ2 H2 ρ2 n2 er2 => ⟨env2, h2, ρ2, n2.now, er2, WantS.at w1 n2⟩
             | bk env2 h2 => rw [eb] at w1; exact w1
             | rt p h2 => rw [eb] at w1; exact w1
             | ex c h2 => rw [eb] at w1; exact w1
             | bad => rw [eb] at w1; exact w1)

/-! ### for -/
/-- the iterator J yields xs, as long as the refs that it reads stand -/
def ItOk (D : Side) (K : PySem.W.Frag) (J : It) (xs : List PV) (locks : List Nat) (ρ0 : List Addr) (h0 : Hh) (H0 : Hp) : Prop :=
  ∀ (ρ : List Addr) (h : Hh) (H : Hp), Nxt D K ρ0 H0 ρ h H → (∀ r ∈ locks, h[r]? = h0[r]?) → ∀ i, (i < xs.length → J.go i H ∧ ∀ x H', J.yld i H x H' → ∃ p, xs[i]? = some p ∧ Nxt D K ρ H ρ h H' ∧ Rep K ρ H' p x) ∧ (i = xs.length → J.stop i H)
def WantI (D : Side) (K : PySem.W.Frag) (ρ : List Addr) (H : Hp) (X : Nat → Hp → Prop) (s : Src) (R : It → Hp → Prop) : Rs (List PV) → Prop
  | .ok ps h' => ∀ xs, srcItems s ps h' = some xs → ∀ H' ρ' J, Nxt D K ρ H ρ' h' H' → ItOk D K J xs (refsOf ps) ρ' h' H' → (∀ r ∈ refsOf ps, r < h'.length) → R J H'
  | .exc c h' => ∀ H' ρ', Nxt D K ρ H ρ' h' H' → X c H'
  | .bad => False
def SI (D : Side) (C : Cl) (F : Fam) (W : WW) (tg it : Expr) (s : Src) (is : Es) : Prop :=
  ∃ wi : TI, (∀ X, F.P X → PI X tg it wi) ∧ ∀ (L : Lk) (σ : L2.St) (H : Hp) (env : Env) (h : Hh) (ρ : List Addr) (R : It → Hp → Prop), Now D F.K ρ h H → EnvR F.K ρ H env σ →
    (∀ ps h', evEs C L is env h = .ok ps h' → srcItems s ps h' ≠ none) → WantI D F.K ρ H (fun c H' => W c σ H') s R (evEs C L is env h) → wi σ H R
theorem snds_for {tg it : Expr} {body : List Stmt} {t : T} {s : Src} {is : Es} {ib : Ss} {pos : Pos} (hp : ∀ X, F.P X → PassesOwn (model X.prog X.w) X.A X.env X.xe) (hc : ∀ X, F.P X → X.calm = true) (hi : SI D C F W tg it s is) (hg : SG F tg t) (hb : SSs D C F W body ib)
    (hs : ∀ X : Cx, ∀ x, foldedSetIterable it X.env x = pure x) (hfr : ∀ (L : Lk) (env : Env) (h : Hh), FrO L h (evSs C L ib env h)) : SS D C F W (.For tg it body [] pos) (.for_ t s is ib) := by
  obtain ⟨wi, pi, si⟩ := hi
  obtain ⟨g, pg, sg⟩ := hg
  obtain ⟨tb, pb, sb⟩ := hb
  refine ⟨_, fun X hX => ps_for (hp X hX) (hc X hX) (pi X hX) (pg X hX) (pb X hX) (hs X), fun L σ H env h ρ De n er w => ?_⟩
  unfold evS at w
  cases ea : evEs C L is env h with
  | bad => rw [ea] at w; exact w.elim
  | exc c h1 =>
    rw [ea] at w
    exact si L σ H env h ρ _ n er (fun ps h' e => by rw [ea] at e; cases e) (by rw [ea]; exact fun H' ρ' m => w σ H' ρ' m)
  | ok ps h1 =>
    rw [ea] at w
    dsimp only at w
    cases ex : srcItems s ps h1 with
    | none => rw [ex] at w; exact w.elim
    | some xs =>
    rw [ex] at w
    dsimp only at w
    refine si L σ H env h ρ _ n er (fun ps' h' e => by rw [ea] at e; cases e; rw [ex]; nofun) ?_
    rw [ea]
    intro xs' e' H1 ρ1 J n1 itk hlt
    rw [ex] at e'
    cases e'
    generalize hL : ({ L with locked := refsOf ps ++ L.locked } : Lk) = L' at w
    have lk : ∀ r ∈ refsOf ps, r ∈ L'.locked := fun r hr => by rw [← hL]; exact List.mem_append_left _ hr
    refine ⟨fun i m σ H => i + m = xs.length ∧ ∃ env h ρ, Nxt D F.K ρ1 H1 ρ h H ∧ EnvR F.K ρ H env σ ∧ (∀ r ∈ refsOf ps, h[r]? = h1[r]?) ∧ h1.length ≤ h.length ∧ WantS D F.K ρ H W De (forL t (evSs C L' ib) (xs.drop i) env h),
      ⟨xs.length, by omega, env, h1, ρ1, n1.now.nxt, er.mono n1.grow n1.pre, fun _ _ => rfl, Nat.le_refl _, by rw [List.drop_zero]; exact WantS.at w n1⟩, ?_⟩
    rintro i m σ H ⟨him, env, h, ρ, n2, er2, hl, hlen, w2⟩
    obtain ⟨k1, k2⟩ := itk ρ h H n2 hl i
    by_cases hi : i < xs.length
    · obtain ⟨go, yl⟩ := k1 hi
      refine .inr ⟨go, fun σ' H' => ∃ m', m' < m ∧ (i + 1 + m' = xs.length ∧ ∃ env h ρ, Nxt D F.K ρ1 H1 ρ h H' ∧ EnvR F.K ρ H' env σ' ∧ (∀ r ∈ refsOf ps, h[r]? = h1[r]?) ∧ h1.length ≤ h.length ∧ WantS D F.K ρ H' W De (forL t (evSs C L' ib) (xs.drop (i + 1)) env h)), fun σ' H' q => q, fun x H' hy => ?_⟩
      obtain ⟨p, hp, n3, rp⟩ := yl x H' hy
      rw [List.drop_eq_getElem_cons hi] at w2
      have ep : xs[i] = p := by rw [List.getElem?_eq_getElem hi] at hp; exact Option.some.inj hp
      rw [ep] at w2
      unfold forL at w2
      cases eb : asgT t p env with
      | none => rw [eb] at w2; exact w2.elim
      | some env3 =>
        rw [eb] at w2
        dsimp only at w2
        refine sg p x σ H' env env3 ρ _ (er2.mono n3.grow n3.pre) rp eb fun σ3 er3 _ => ?_
        refine sb L' σ3 H' env3 h ρ _ n3.now er3 ?_
        have fr := hfr L' env3 h
        have w3 := WantS.at w2 n3
        have step : ∀ env4 h4, FrO L' h (.nx env4 h4) → WantS D F.K ρ H' W De (forL t (evSs C L' ib) (xs.drop (i + 1)) env4 h4) → ∀ σ4 H4 ρ4, Nxt D F.K ρ H' ρ4 h4 H4 → EnvR F.K ρ4 H4 env4 σ4 →
            ∃ m', m' < m ∧ (i + 1 + m' = xs.length ∧ ∃ env h ρ, Nxt D F.K ρ1 H1 ρ h H4 ∧ EnvR F.K ρ H4 env σ4 ∧ (∀ r ∈ refsOf ps, h[r]? = h1[r]?) ∧ h1.length ≤ h.length ∧ WantS D F.K ρ H4 W De (forL t (evSs C L' ib) (xs.drop (i + 1)) env h)) := by
          intro env4 h4 fr w4 σ4 H4 ρ4 n4 er4
          refine ⟨m - 1, by omega, by omega, env4, h4, ρ4, (n2.trans n3).trans n4, er4, fun r hr => ?_, Nat.le_trans hlen fr.1, WantS.at w4 n4⟩
          rw [fr.2 r (Nat.lt_of_lt_of_le (hlt r hr) hlen) (.inl (lk r hr)), hl r hr]
        cases ec : evSs C L' ib env3 h with
        | nx env4 h4 => rw [ec] at w3 fr; exact step env4 h4 fr w3
        | ct env4 h4 => rw [ec] at w3 fr; exact step env4 h4 fr w3
        | bk env4 h4 => rw [ec] at w3; exact w3
        | rt p h2 => rw [ec] at w3; exact w3
        | ex c h2 => rw [ec] at w3; exact w3
        | bad => rw [ec] at w3; exact w3
    · have hi' : i = xs.length := by omega
      subst hi'
      refine .inl ⟨k2 rfl, ?_⟩
      rw [List.drop_length] at w2
      unfold forL at w2
      exact w2 σ H ρ n2.now.nxt er2
end
end Mini

/-! Snd6 -/
set_option autoImplicit false
set_option Elab.async false
set_option linter.all false
set_option maxRecDepth 100000
namespace Mini
open PySem PySem.Spec PyProof.Rows L2

section
variable {X : Cx} {tg : Expr}
/-- a list, a tuple or a text is walked -/
def iAny (K : PySem.W.Frag) (tl : TE) : TI := fun σ H R => tl σ H fun x H1 => (∃ a, x = .ref a ∧ (∃ xs, SqL K H1 a xs) ∧ R (Itl K a) H1) ∨ (∃ a, x = .ref a ∧ (∃ xs, SqT K H1 a xs) ∧ R (Itt K a) H1) ∨ ∃ z, x = .str z ∧ R (Its z) H1
theorem pi_any {l : Expr} {tl : TE} (hl : PE X l tl) : PI X tg l (iAny X.K tl) := by
  refine ⟨fun pins s σ H R I h => ?_⟩
  refine thn (hl.run pins s σ H _ I h) fun v s1 ⟨x, H1, I1, r1, q1⟩ => ?_
  rcases q1 with ⟨a, e, ⟨xs, hq⟩, q⟩ | ⟨a, e, ⟨xs, hq⟩, q⟩ | ⟨z, e, q⟩
  · subst e
    cases r1
    obtain ⟨its, rv, p, hz⟩ := I1.list hq
    refine wpAny_pyIter_list p.isList ?_
    refine ⟨s1.heap.objs.size, [s1.heap.objs.size], _, _, H1, rfl, I1.kept (t' := s1.toks) fun b o e => Heap.get?_push_of_some _ e, turn_list a _, ⟨_, Heap.get?_push_size _ rfl, rfl, rfl⟩, fun b hb => ?_, q⟩
    have e : b = s1.heap.objs.size := by simpa using hb
    subst e
    exact I1.fpOk (Nat.le_refl _) (I1.hok.fresh (Nat.le_refl _))
  · subst e
    cases r1
    obtain ⟨its, rv, p, hz⟩ := I1.tuple hq
    refine wpAny_pyIter_tuple (show s1.heap.IsTuple a its.toArray from p) ?_
    refine ⟨s1.heap.objs.size, [s1.heap.objs.size], _, _, H1, rfl, I1.kept (t' := s1.toks) fun b o e => Heap.get?_push_of_some _ e, turn_tuple a _, ⟨_, Heap.get?_push_size _ rfl, rfl, rfl⟩, fun b hb => ?_, q⟩
    have e : b = s1.heap.objs.size := by simpa using hb
    subst e
    exact I1.fpOk (Nat.le_refl _) (I1.hok.fresh (Nat.le_refl _))
  · subst e
    obtain ⟨t, rfl⟩ := r1
    cases ha : z.cps.all (· < 128)
    · exact wpAny_pyIter_wide ha (pi_one (tk := s1.toks) I1 _ (turn_str _ z t "str_iterator" (.inr rfl)) ⟨_, Heap.get?_push_size _ rfl, rfl, rfl⟩ q)
    · exact wpAny_pyIter_ascii ha (pi_one (tk := s1.toks) I1 _ (turn_str _ z t "str_ascii_iterator" (.inl rfl)) ⟨_, Heap.get?_push_size _ rfl, rfl, rfl⟩ q)
end

section
variable {D : Side} {C : Cl} {F : Fam} {W : WW} {K : PySem.W.Frag} {ρ0 : List Addr} {h0 : Hh} {H0 : Hp}
/-- what a ref, a list or tuple shows stays, as long as its place does -/
theorem seq_stays {p : PV} {v : V} {xs : List PV} (r : Rep K ρ0 H0 p v) (e : seqOf h0 p = some xs) {ρ : List Addr} {h : Hh} {H : Hp} (n : Nxt D K ρ0 H0 ρ h H) (hl : ∀ r ∈ refsOf [p], h[r]? = h0[r]?) : Rep K ρ H p v ∧ seqOf h p = some xs := by
  refine ⟨r.mono n.grow n.pre, ?_⟩
  cases p with
  | ref i =>
    unfold seqOf at e ⊢
    dsimp only at e ⊢
    rw [hl i (by simp [refsOf])]
    exact e
  | _ => exact e
theorem refs_mem {p : PV} {ps : List PV} (hp : p ∈ ps) : ∀ r ∈ refsOf [p], r ∈ refsOf ps := by
  intro r hr
  cases p with
  | ref i =>
    have : r = i := by simpa [refsOf] using hr
    subst this
    clear hr
    induction ps with
    | nil => cases hp
    | cons q qs ih =>
      rcases List.mem_cons.mp hp with e | hp
      · subst e; simp [refsOf]
      · have := ih hp
        cases q <;> simp [refsOf, this]
  | _ => simp [refsOf] at hr
theorem refs_lt {p : PV} {v : V} {h : Hh} {ρ : List Addr} {H : Hp} (n : Now D K ρ h H) (r : Rep K ρ H p v) : ∀ i ∈ refsOf [p], i < h.length := by
  intro i hi
  cases r with
  | ref e =>
    have z := (List.getElem?_eq_some_iff.mp e).1
    rw [n.rep.len] at z
    simp [refsOf] at hi
    subst hi
    exact z
  | _ => simp [refsOf] at hi
/-- a list that is read while things go on -/
def Reads1 (D : Side) (K : PySem.W.Frag) (S : Hp → List V → Prop) (xs : List PV) (locks : List Nat) (ρ0 : List Addr) (h0 : Hh) (H0 : Hp) : Prop :=
  ∀ (ρ : List Addr) (h : Hh) (H : Hp), Nxt D K ρ0 H0 ρ h H → (∀ r ∈ locks, h[r]? = h0[r]?) → ∃ vs, S H vs ∧ Reps K ρ H xs vs
theorem reads_of (n0 : Now D K ρ0 h0 H0) {p : PV} {v : V} {xs : List PV} (r : Rep K ρ0 H0 p v) (e : seqOf h0 p = some xs) : ∃ a, v = .ref a ∧
    ((Reads1 D K (fun H vs => SqL K H a vs) xs (refsOf [p]) ρ0 h0 H0 ∧ ∃ vs, SqL K H0 a vs ∧ Reps K ρ0 H0 xs vs) ∨ (Reads1 D K (fun H vs => SqT K H a vs) xs (refsOf [p]) ρ0 h0 H0 ∧ p = .tup xs ∧ ∃ vs, SqT K H0 a vs ∧ Reps K ρ0 H0 xs vs)) := by
  cases r with
  | tup q rs =>
    rename_i ps vs a
    cases e
    exact ⟨a, rfl, .inr ⟨fun ρ h H n _ => ⟨vs, SqT.grow n.grow q, rs.mono n.grow n.pre⟩, rfl, vs, q, rs⟩⟩
  | lst q rs =>
    rename_i ps vs a
    cases e
    exact ⟨a, rfl, .inl ⟨fun ρ h H n _ => ⟨vs, (Fz.grow n.grow q).sq, rs.mono n.grow n.pre⟩, vs, q.sq, rs⟩⟩
  | ref ea =>
    rename_i i a
    have key : ∀ (ρ : List Addr) (h : Hh) (H : Hp), Now D K ρ h H → ρ[i]? = some a → h[i]? = h0[i]? → ∃ vs, SqL K H a vs ∧ Reps K ρ H xs vs := by
      intro ρ h H n ea ei
      unfold seqOf at e
      dsimp only at e
      rw [← ei] at e
      cases eo : h[i]? with
      | none => rw [eo] at e; cases e
      | some o =>
        rw [eo] at e
        cases o with
        | lst ys =>
          cases e
          obtain ⟨a', h1, vs, h2, h3⟩ := n.rep.at_ _ _ eo
          rw [ea] at h1
          cases h1
          exact ⟨vs, SqL.of h2, h3⟩
        | dic _ => cases e
        | ins _ _ => cases e
    exact ⟨a, rfl, .inl ⟨fun ρ h H n hl => key ρ h H n.now (pre_get n.pre ea) (hl i (by simp [refsOf])), key _ _ _ n0 ea rfl⟩⟩
  | _ => cases e
theorem it_lst {a : Addr} {xs : List PV} {locks : List Nat} (hk : Reads1 D K (fun H vs => SqL K H a vs) xs locks ρ0 h0 H0) : ItOk D K (Itl K a) xs locks ρ0 h0 H0 := by
  intro ρ h H n hl i
  obtain ⟨vs, hv, rs⟩ := hk ρ h H n hl
  refine ⟨fun hi => ?_, fun e => ⟨vs, hv, by rw [← rs.length]; omega⟩⟩
  obtain ⟨x, ex, rx⟩ := rs.get (List.getElem?_eq_getElem hi)
  refine ⟨⟨vs, x, hv, ex⟩, fun y H' hy => ?_⟩
  obtain ⟨rfl, f⟩ := hy
  have := f vs hv
  rw [ex] at this
  cases this
  exact ⟨xs[i], List.getElem?_eq_getElem hi, n.now.nxt, rx⟩
theorem it_tup {a : Addr} {xs : List PV} {locks : List Nat} (hk : Reads1 D K (fun H vs => SqT K H a vs) xs locks ρ0 h0 H0) : ItOk D K (Itt K a) xs locks ρ0 h0 H0 := by
  intro ρ h H n hl i
  obtain ⟨vs, hv, rs⟩ := hk ρ h H n hl
  refine ⟨fun hi => ?_, fun e => ⟨vs, hv, by rw [← rs.length]; omega⟩⟩
  obtain ⟨x, ex, rx⟩ := rs.get (List.getElem?_eq_getElem hi)
  refine ⟨⟨vs, x, hv, ex⟩, fun y H' hy => ?_⟩
  obtain ⟨rfl, f⟩ := hy
  have := f vs hv
  rw [ex] at this
  cases this
  exact ⟨xs[i], List.getElem?_eq_getElem hi, n.now.nxt, rx⟩
theorem it_str {s : List Nat} : ItOk D K (Its ⟨s.toArray⟩) (chars s) [] ρ0 h0 H0 := by
  intro ρ h H n hl i
  have hz : (chars s).length = s.length := by unfold chars; rw [List.length_map]
  have h1 : s.toArray.size = s.length := List.size_toArray
  refine ⟨fun hi => ⟨(by show i < s.toArray.size; omega), fun y H' hy => ?_⟩, fun e => (by show s.toArray.size ≤ i; omega)⟩
  obtain ⟨rfl, c, hc, rfl⟩ := hy
  have hc : s.toArray[i]? = some c := hc
  rw [List.getElem?_toArray] at hc
  refine ⟨.str [c], ?_, n.now.nxt, .str [c]⟩
  unfold chars
  rw [List.getElem?_map, hc]
  rfl
theorem range_get (lo : Int) : ∀ (n i : Nat), i < n → (rangeP lo n)[i]? = some (.int (lo + i))
  | 0, _, h => by omega
  | n + 1, 0, _ => by simp [rangeP]
  | n + 1, i + 1, h => by
    rw [rangeP, List.getElem?_cons_succ, range_get (lo + 1) n i (by omega)]
    congr 2
    omega
theorem range_len (lo : Int) : ∀ n : Nat, (rangeP lo n).length = n
  | 0 => rfl
  | n + 1 => by rw [rangeP, List.length_cons, range_len (lo + 1) n]
theorem it_range {lo : Int} {n : Nat} {locks : List Nat} : ItOk D K (Itr lo n) (rangeP lo n) locks ρ0 h0 H0 := by
  intro ρ h H nx hl i
  rw [range_len]
  refine ⟨fun hi => ⟨hi, fun y H' hy => ?_⟩, fun e => (by show n ≤ i; omega)⟩
  obtain ⟨rfl, rfl⟩ := hy
  exact ⟨_, range_get lo n i hi, nx.now.nxt, .int _⟩
theorem zip_get : ∀ (xs ys : List PV) (i : Nat) (x y : PV), xs[i]? = some x → ys[i]? = some y → (zipP xs ys)[i]? = some (.tup [x, y])
  | [], _, _, _, _, h, _ => by simp at h
  | _ :: _, [], _, _, _, _, h => by simp at h
  | a :: xs, b :: ys, 0, x, y, h1, h2 => by simp at h1 h2; subst h1 h2; rfl
  | a :: xs, b :: ys, i + 1, x, y, h1, h2 => by rw [zipP, List.getElem?_cons_succ]; exact zip_get xs ys i x y (by simpa using h1) (by simpa using h2)
theorem zip_len : ∀ (xs ys : List PV), (zipP xs ys).length = min xs.length ys.length
  | [], _ => by simp [zipP]
  | _ :: _, [] => by simp [zipP]
  | a :: xs, b :: ys => by rw [zipP, List.length_cons, zip_len xs ys, List.length_cons, List.length_cons]; omega
theorem pair_new {ρ : List Addr} {h : Hh} {H : Hp} {T : Addr} {p q : PV} {x y : V} (n : Now D K ρ h H) (nT : H T = none) (rp : Rep K ρ H p x) (rq : Rep K ρ H q y) : Nxt D K ρ H ρ h (upd H T (.tup [x, y])) ∧ Rep K ρ (upd H T (.tup [x, y])) (.tup [p, q]) (.ref T) := by
  have m : Nxt D K ρ H ρ h (upd H T (.tup [x, y])) := n.new nT
  exact ⟨m, .tup (.inl (.inl upd_same)) (.cons (rp.mono m.grow m.pre) (.cons (rq.mono m.grow m.pre) .nil))⟩
theorem it_zipL {a b : Addr} {xs ys : List PV} {locks : List Nat} (h1 : Reads1 D K (fun H vs => SqL K H a vs) xs locks ρ0 h0 H0) (h2 : Reads1 D K (fun H vs => SqL K H b vs) ys locks ρ0 h0 H0) : ItOk D K (Itz K a b) (zipP xs ys) locks ρ0 h0 H0 := by
  intro ρ h H n hl i
  obtain ⟨vs, hv, rs⟩ := h1 ρ h H n hl
  obtain ⟨ws, hw, ss⟩ := h2 ρ h H n hl
  rw [zip_len]
  refine ⟨fun hi => ?_, fun e => ⟨vs, ws, hv, hw, by rw [← rs.length, ← ss.length]; omega⟩⟩
  obtain ⟨x, ex, rx⟩ := rs.get (List.getElem?_eq_getElem (show i < xs.length by omega))
  obtain ⟨y, ey, ry⟩ := ss.get (List.getElem?_eq_getElem (show i < ys.length by omega))
  refine ⟨⟨vs, ws, x, y, hv, hw, ex, ey⟩, fun z H' hy => ?_⟩
  obtain ⟨T, x', y', rfl, nT, rfl, f1, f2⟩ := hy
  have e1 := f1 vs hv
  have e2 := f2 ws hw
  rw [ex] at e1
  rw [ey] at e2
  cases e1
  cases e2
  obtain ⟨m1, m2⟩ := pair_new n.now nT rx ry
  exact ⟨_, zip_get xs ys i _ _ (List.getElem?_eq_getElem (by omega)) (List.getElem?_eq_getElem (by omega)), m1, m2⟩
theorem it_zipT {a b : Addr} {xs ys : List PV} {locks : List Nat} (h1 : Reads1 D K (fun H vs => SqT K H a vs) xs locks ρ0 h0 H0) (h2 : Reads1 D K (fun H vs => SqT K H b vs) ys locks ρ0 h0 H0) : ItOk D K (RZ.ItzT K a b) (zipP xs ys) locks ρ0 h0 H0 := by
  intro ρ h H n hl i
  obtain ⟨vs, hv, rs⟩ := h1 ρ h H n hl
  obtain ⟨ws, hw, ss⟩ := h2 ρ h H n hl
  rw [zip_len]
  refine ⟨fun hi => ?_, fun e => ⟨vs, ws, hv, hw, by rw [← rs.length, ← ss.length]; omega⟩⟩
  obtain ⟨x, ex, rx⟩ := rs.get (List.getElem?_eq_getElem (show i < xs.length by omega))
  obtain ⟨y, ey, ry⟩ := ss.get (List.getElem?_eq_getElem (show i < ys.length by omega))
  refine ⟨⟨vs, ws, x, y, hv, hw, ex, ey⟩, fun z H' hy => ?_⟩
  obtain ⟨T, x', y', rfl, nT, rfl, f1, f2⟩ := hy
  have e1 := f1 vs hv
  have e2 := f2 ws hw
  rw [ex] at e1
  rw [ey] at e2
  cases e1
  cases e2
  obtain ⟨m1, m2⟩ := pair_new n.now nT rx ry
  exact ⟨_, zip_get xs ys i _ _ (List.getElem?_eq_getElem (by omega)) (List.getElem?_eq_getElem (by omega)), m1, m2⟩
theorem enum_get (k : Int) : ∀ (xs : List PV) (i : Nat) (x : PV), xs[i]? = some x → (enumP k xs)[i]? = some (.tup [.int (k + i), x])
  | [], _, _, h => by simp at h
  | a :: xs, 0, x, h => by simp at h; subst h; simp [enumP]
  | a :: xs, i + 1, x, h => by
    rw [enumP, List.getElem?_cons_succ, enum_get (k + 1) xs i x (by simpa using h)]
    congr 4
    omega
theorem enum_len (k : Int) : ∀ xs : List PV, (enumP k xs).length = xs.length
  | [] => rfl
  | a :: xs => by rw [enumP, List.length_cons, enum_len (k + 1) xs, List.length_cons]
theorem it_enumL {a : Addr} {xs : List PV} {locks : List Nat} (h1 : Reads1 D K (fun H vs => SqL K H a vs) xs locks ρ0 h0 H0) : ItOk D K (Ite K a) (enumP 0 xs) locks ρ0 h0 H0 := by
  intro ρ h H n hl i
  obtain ⟨vs, hv, rs⟩ := h1 ρ h H n hl
  rw [enum_len]
  refine ⟨fun hi => ?_, fun e => ⟨vs, hv, by rw [← rs.length]; omega⟩⟩
  obtain ⟨x, ex, rx⟩ := rs.get (List.getElem?_eq_getElem hi)
  refine ⟨⟨vs, x, hv, ex⟩, fun z H' hy => ?_⟩
  obtain ⟨T, x', rfl, nT, rfl, f1⟩ := hy
  have e1 := f1 vs hv
  rw [ex] at e1
  cases e1
  obtain ⟨m1, m2⟩ := pair_new n.now nT (.int (i : Int)) rx
  refine ⟨_, enum_get 0 xs i _ (List.getElem?_eq_getElem hi), m1, ?_⟩
  rw [Int.zero_add]
  exact m2

/-! ### the sources -/
variable {tg : Expr}
theorem si_seq {l : Expr} {il : E} (hl : SE D C F W l il) : SI D C F W tg l .seq (.cons il .nil) := by
  obtain ⟨tl, pl, sl⟩ := hl
  refine ⟨iAny F.K tl, fun X hX => F.hK X hX ▸ pi_any (pl X hX), fun L σ H env h ρ R n er hne w => ?_⟩
  have ee : evEs C L (.cons il .nil) env h = match evE C L il env h with
    | .ok p h => .ok [p] h
    | .exc c h => .exc c h
    | .bad => .bad := by
      unfold evEs
      cases evE C L il env h <;> simp [evEs]
  refine sl L σ H env h ρ _ n er ?_
  cases ea : evE C L il env h with
  | bad => rw [ee, ea] at w; exact w
  | exc c h1 => rw [ee, ea] at w; exact w
  | ok p h1 =>
    rw [ee, ea] at w hne
    intro v H1 ρ1 n1 rp
    have hne := hne [p] h1 rfl
    have seqs : ∀ xs, srcItems .seq [p] h1 = some xs → seqOf h1 p = some xs → (∃ a, v = .ref a ∧ (∃ xs, SqL F.K H1 a xs) ∧ R (Itl F.K a) H1) ∨ (∃ a, v = .ref a ∧ (∃ xs, SqT F.K H1 a xs) ∧ R (Itt F.K a) H1) ∨ ∃ z, v = .str z ∧ R (Its z) H1 := by
      intro xs e1 e2
      obtain ⟨a, rfl, hh⟩ := reads_of n1.now rp e2
      rcases hh with ⟨hk, vs, hv, _⟩ | ⟨hk, ep, vs, hv, _⟩
      · exact .inl ⟨a, rfl, ⟨vs, hv⟩, w xs e1 H1 ρ1 _ n1 (it_lst hk) (refs_lt n1.now rp)⟩
      · exact .inr (.inl ⟨a, rfl, ⟨vs, hv⟩, w xs e1 H1 ρ1 _ n1 (it_tup hk) (refs_lt n1.now rp)⟩)
    cases rp with
    | str s => exact .inr (.inr ⟨_, rfl, w (chars s) rfl H1 ρ1 _ n1 it_str (fun r hr => by simp [refsOf] at hr)⟩)
    | ref e =>
      cases e2 : seqOf h1 (.ref _) with
      | none => exact absurd e2 hne
      | some xs => exact seqs xs e2 e2
    | lst q rs => exact seqs _ rfl rfl
    | tup q rs => exact seqs _ rfl rfl
    | _ => exact absurd rfl hne
def Es.len : Es → Nat
  | .nil => 0
  | .cons _ es => es.len + 1
theorem evEs_len : ∀ (is : Es) (L : Lk) (env : Env) (h h' : Hh) (ps : List PV), evEs C L is env h = .ok ps h' → ps.length = is.len
  | .nil, L, env, h, h', ps, e => by unfold evEs at e; cases e; rfl
  | .cons i is, L, env, h, h', ps, e => by
    unfold evEs at e
    cases ea : evE C L i env h with
    | bad => rw [ea] at e; cases e
    | exc c h1 => rw [ea] at e; cases e
    | ok p h1 =>
      rw [ea] at e
      dsimp only at e
      cases eb : evEs C L is env h1 with
      | bad => rw [eb] at e; cases e
      | exc c h1 => rw [eb] at e; cases e
      | ok qs h2 =>
        rw [eb] at e
        cases e
        rw [List.length_cons, evEs_len is L env h1 _ qs eb]
        rfl
theorem si_range1 {a : Expr} {ia : E} {p pos : Pos} (hg : ∀ X, F.P X → Gl X "range") (hm : ∀ X, F.P X → X.mg "range" = none) (ha : SA D C F W [a] (.cons ia .nil)) (hs : ∀ X : Cx, starEach [a] X.env = [(false, eval a X.env)]) : SI D C F W tg (.Call (.Name "range" p) [a] [] pos) .range (.cons ia .nil) := by
  obtain ⟨ta, pa, sa⟩ := ha
  refine ⟨_, fun X hX => pi_range1 (hg X hX) (hm X hX) (pa X hX) (hs X), fun L σ H env h ρ R n er hne w => sa L σ H env h ρ _ n er ?_⟩
  cases ea : evEs C L (.cons ia .nil) env h with
  | bad => rw [ea] at w; exact w
  | exc c h1 => rw [ea] at w; exact w
  | ok ps h1 =>
    rw [ea] at w
    have hne := hne ps h1 ea
    have hl := evEs_len _ _ _ _ _ _ ea
    intro vs H1 ρ1 n1 rs
    cases rs with
    | nil => cases hl
    | cons r1 rs =>
      cases rs with
      | cons r2 rs => cases hl
      | nil =>
        cases r1 with
        | int j =>
          by_cases z : small j = true
          · have z' := z
            unfold small at z'
            rw [Bool.and_eq_true, decide_eq_true_eq, decide_eq_true_eq] at z'
            exact ⟨j, rfl, z'.1, z'.2, w (rangeP 0 j.toNat) (by simp [srcItems, z]) H1 ρ1 _ n1 it_range (fun r hr => by simp [refsOf] at hr)⟩
          · exact absurd (by simp [srcItems, z]) hne
        | _ => exact absurd rfl hne
theorem si_range2 {a b : Expr} {ia ib : E} {p pos : Pos} (hg : ∀ X, F.P X → Gl X "range") (hm : ∀ X, F.P X → X.mg "range" = none) (ha : SA D C F W [a, b] (.cons ia (.cons ib .nil))) (hs : ∀ X : Cx, starEach [a, b] X.env = [(false, eval a X.env), (false, eval b X.env)]) (hs2 : ∀ X : Cx, starEach [b] X.env = [(false, eval b X.env)]) :
    SI D C F W tg (.Call (.Name "range" p) [a, b] [] pos) .range (.cons ia (.cons ib .nil)) := by
  obtain ⟨ta, pa, sa⟩ := ha
  refine ⟨_, fun X hX => pi_range2 (hg X hX) (hm X hX) (pa X hX) (hs X) (hs2 X), fun L σ H env h ρ R n er hne w => sa L σ H env h ρ _ n er ?_⟩
  cases ea : evEs C L (.cons ia (.cons ib .nil)) env h with
  | bad => rw [ea] at w; exact w
  | exc c h1 => rw [ea] at w; exact w
  | ok ps h1 =>
    rw [ea] at w
    have hne := hne ps h1 ea
    have hl := evEs_len _ _ _ _ _ _ ea
    intro vs H1 ρ1 n1 rs
    cases rs with
    | nil => cases hl
    | cons r1 rs =>
      cases rs with
      | nil => cases hl
      | cons r2 rs =>
        cases rs with
        | cons _ _ => cases hl
        | nil =>
          cases r1 with
          | int i =>
            cases r2 with
            | int j =>
              by_cases z : (small i && small j) = true
              · have z' := z
                unfold small at z'
                simp only [Bool.and_eq_true, decide_eq_true_eq] at z'
                exact ⟨i, j, rfl, ⟨z'.1.1, z'.1.2, z'.2.1, z'.2.2⟩, w (rangeP i (j - i).toNat) (by simp only [srcItems, z]; rfl) H1 ρ1 _ n1 it_range (fun r hr => by simp [refsOf] at hr)⟩
              · exact absurd (by simp only [srcItems, if_neg z]) hne
            | _ => exact absurd rfl hne
          | _ => cases r2 <;> exact absurd rfl hne
theorem seq_view {h : Hh} {p : PV} {xs : List PV} (e : view h p = .lst xs) : seqOf h p = some xs := by
  cases p with
  | ref i =>
    unfold view at e
    unfold seqOf
    dsimp only at e ⊢
    cases eo : h[i]? with
    | none => rw [eo] at e; cases e
    | some o => rw [eo] at e; cases o <;> cases e; rfl
  | lst ys => cases e; rfl
  | _ => cases e
theorem si_enum {elts : List Expr} {kk : Nat} {tpos : Pos} {a : Expr} {ia : E} {p pos : Pos} (hg : ∀ X, F.P X → Gl X "enumerate") (hm : ∀ X, F.P X → X.mg "enumerate" = none) (ha : SA D C F W [a] (.cons ia .nil)) (hs : ∀ X : Cx, starEach [a] X.env = [(false, eval a X.env)]) :
    SI D C F W (.Tuple elts kk tpos) (.Call (.Name "enumerate" p) [a] [] pos) .enum (.cons ia .nil) := by
  obtain ⟨ta, pa, sa⟩ := ha
  refine ⟨iEnum F.K ta, fun X hX => F.hK X hX ▸ pi_enum (hg X hX) (hm X hX) (pa X hX) (hs X), fun L σ H env h ρ R n er hne w => sa L σ H env h ρ _ n er ?_⟩
  cases ea : evEs C L (.cons ia .nil) env h with
  | bad => rw [ea] at w; exact w
  | exc c h1 => rw [ea] at w; exact w
  | ok ps h1 =>
    rw [ea] at w
    have hne := hne ps h1 ea
    have hl := evEs_len _ _ _ _ _ _ ea
    intro vs H1 ρ1 n1 rs
    cases rs with
    | nil => cases hl
    | cons r1 rs =>
      cases rs with
      | cons r2 rs => cases hl
      | nil =>
        rename_i q v
        cases e2 : view h1 q with
        | lst xs =>
          have e3 : seqOf h1 q = some xs := seq_view e2
          obtain ⟨a, rfl, hh⟩ := reads_of n1.now r1 e3
          rcases hh with ⟨hk, vs, hv, _⟩ | ⟨hk, ep, vs, hv, _⟩
          · exact ⟨a, vs, rfl, hv, w (enumP 0 xs) (by simp [srcItems, e2]) H1 ρ1 _ n1 (it_enumL hk) (refs_lt n1.now r1)⟩
          · subst ep
            cases e2
        | _ => exact absurd (by simp [srcItems, e2]) hne
end
end Mini

/-! Snd7 -/
set_option autoImplicit false
set_option Elab.async false
set_option linter.all false
set_option maxRecDepth 100000
namespace Mini
open PySem PySem.Spec PyProof.Rows L2

/-- the blocks of a comprehension -/
def Fam.blk (F : Fam) (scope : Scope) : Fam where
  K := F.K
  P := fun Y => ∃ (X : Cx) (s : Shared) (H : Hp) (C : Addr) (cl : List (Str × Addr)) (fp : List Addr), F.P X ∧ Y = X.blk s H scope (compEnvC scope cl C X.env) fp
  hK := fun Y ⟨X, s, H, C, cl, fp, hX, e⟩ => by rw [e]; exact F.hK X hX
/-- the tests of a comprehension -/
def STs (D : Side) (C : Cl) (F : Fam) (W : WW) (es : List Expr) (ir : E) : Prop :=
  ∃ t : TT, (∀ X, F.P X → PTs X es t) ∧ ∀ (L : Lk) (σ : L2.St) (H : Hp) (env : Env) (h : Hh) (ρ : List Addr) (Q : Bool → Hp → Prop), Now D F.K ρ h H → EnvR F.K ρ H env σ →
    WantE D F.K ρ H (fun c H' => W c σ H') (fun v H' => ∃ k, v = .bl k ∧ Q k H') (evE C L ir env h) → t σ H Q
section
variable {D : Side} {C : Cl} {F : Fam} {W : WW}
theorem snd_tests0 : STs D C F W [] (.lit (.bl true)) := ⟨_, fun _ _ => pts_nil, fun L σ H env h ρ Q n er w => by
  unfold evE at w
  obtain ⟨k, e, q⟩ := w (.bl true) H ρ n.nxt (.bl true)
  cases e
  exact q⟩
theorem snd_tests1 {e : Expr} {ir : E} (s : ST D C F W e ir) : STs D C F W [e] ir := by
  obtain ⟨t, p, s⟩ := s
  exact ⟨t, fun X hX => pts_one (p X hX), s⟩
theorem EnvR.wipe {K : PySem.W.Frag} {ρ : List Addr} {H : Hp} {env : Env} {σ : L2.St} (e : EnvR K ρ H env σ) : ∀ vs : List Nat, EnvR K ρ H (wipeE env vs) (L2.wipe σ vs)
  | [] => e
  | v :: vs => by
    have ih := EnvR.wipe e vs
    unfold wipeE L2.wipe
    refine ⟨by rw [List.length_set, List.length_set]; exact ih.1, fun i p q => ?_⟩
    by_cases z : v = i
    · subst z
      by_cases l : v < (wipeE env vs).length
      · rw [List.getElem?_set_self l] at q; cases q
      · rw [List.getElem?_eq_none (by simpa using l)] at q; cases q
    · rw [List.getElem?_set_ne z] at q
      obtain ⟨x, h1, h2⟩ := ih.2 i p q
      exact ⟨x, by rw [List.getElem?_set_ne z]; exact h1, h2⟩
/-- the walk of a comprehension: what its reading asks -/
theorem comp_walk {tg it elt : Expr} {t : T} {s : Src} {is : Es} {ic ie : E} {vs : List Nat} {wi : TI} {g : TG} {tt : TT} {te : TE}
    (si : ∀ (L : Lk) (σ : L2.St) (H : Hp) (env : Env) (h : Hh) (ρ : List Addr) (R : It → Hp → Prop), Now D F.K ρ h H → EnvR F.K ρ H env σ → (∀ ps h', evEs C L is env h = .ok ps h' → srcItems s ps h' ≠ none) → WantI D F.K ρ H (fun c H' => W c σ H') s R (evEs C L is env h) → wi σ H R)
    (sg : ∀ (p : PV) (v : V) (σ : L2.St) (H : Hp) (env env' : Env) (ρ : List Addr) (Q : L2.St → Hp → Prop), EnvR F.K ρ H env σ → Rep F.K ρ H p v → asgT t p env = some env' → (∀ σ', EnvR F.K ρ H env' σ' → Off t.slots σ σ' → Q σ' H) → g v σ H Q)
    (st : ∀ (L : Lk) (σ : L2.St) (H : Hp) (env : Env) (h : Hh) (ρ : List Addr) (Q : Bool → Hp → Prop), Now D F.K ρ h H → EnvR F.K ρ H env σ → WantE D F.K ρ H (fun _ _ => False) (fun v H' => ∃ k, v = .bl k ∧ Q k H') (evE C L ic env h) → tt σ H Q)
    (se : ∀ (L : Lk) (σ : L2.St) (H : Hp) (env : Env) (h : Hh) (ρ : List Addr) (Q : VK), Now D F.K ρ h H → EnvR F.K ρ H env σ → WantE D F.K ρ H (fun _ _ => False) Q (evE C L ie env h) → te σ H Q)
    (hsl : ∀ i ∈ t.slots, i ∈ vs) (frc : ∀ (L : Lk) (env : Env) (h : Hh), FrR L h (evE C L ic env h)) (fre : ∀ (L : Lk) (env : Env) (h : Hh), FrR L h (evE C L ie env h))
    (L : Lk) (σ : L2.St) (H : Hp) (env : Env) (h : Hh) (ρ : List Addr) (Q : VK) (n : Now D F.K ρ h H) (er : EnvR F.K ρ H env σ)
    (w : match evEs C L is env h with
      | .ok ps h' => (match srcItems s ps h' with
        | some xs => (match compL t (evE C { L with locked := refsOf ps ++ L.locked } ic) (evE C { L with locked := refsOf ps ++ L.locked } ie) (wipeE env vs) xs h' with
          | .ok ys h' => ys.length ≤ lim ∧ ∀ A H' ρ' acc, Nxt D F.K ρ H ρ' h' H' → H' A = some (.lst acc) → A ∉ ρ' → (∃ H0 ρ0 h0, Nxt D F.K ρ H ρ0 h0 H0 ∧ H0 A = none) → Reps F.K ρ' H' ys acc → Q (.ref A) H'
          | _ => False)
        | none => False)
      | .exc c h' => ∀ H' ρ', Nxt D F.K ρ H ρ' h' H' → W c σ H'
      | .bad => False) : tLc wi g tt te vs σ H Q := by
  cases ea : evEs C L is env h with
  | bad => rw [ea] at w; exact w.elim
  | exc c h1 =>
    rw [ea] at w
    exact si L σ H env h ρ _ n er (fun ps h' e => by rw [ea] at e; cases e) (by rw [ea]; exact w)
  | ok ps h1 =>
    rw [ea] at w
    dsimp only at w
    cases ex : srcItems s ps h1 with
    | none => rw [ex] at w; exact w.elim
    | some xs =>
    rw [ex] at w
    dsimp only at w
    refine si L σ H env h ρ _ n er (fun ps' h' e => by rw [ea] at e; cases e; rw [ex]; nofun) ?_
    rw [ea]
    intro xs' e' H1 ρ1 J n1 itk hlt
    rw [ex] at e'
    cases e'
    generalize hL : ({ L with locked := refsOf ps ++ L.locked } : Lk) = L' at w
    have lk : ∀ r ∈ refsOf ps, r ∈ L'.locked := fun r hr => by rw [← hL]; exact List.mem_append_left _ hr
    intro A nA
    have er1 : EnvR F.K ρ1 H1 (wipeE env vs) (wipe σ vs) := (er.mono n1.grow n1.pre).wipe vs
    -- what is wanted of the rest
    have key : ∃ Wn : List PV → Hh → List PV → Prop, Wn [] h1 xs ∧ (∀ done h rest, Wn done h rest → (match compL t (evE C L' ic) (evE C L' ie) (wipeE env vs) rest h with
          | .ok ys h' => (done ++ ys).length ≤ lim ∧ ∀ A H' ρ' acc, Nxt D F.K ρ H ρ' h' H' → H' A = some (.lst acc) → A ∉ ρ' → (∃ H0 ρ0 h0, Nxt D F.K ρ H ρ0 h0 H0 ∧ H0 A = none) → Reps F.K ρ' H' (done ++ ys) acc → Q (.ref A) H'
          | _ => False)) ∧ ∀ done h rest, (match compL t (evE C L' ic) (evE C L' ie) (wipeE env vs) rest h with
          | .ok ys h' => (done ++ ys).length ≤ lim ∧ ∀ A H' ρ' acc, Nxt D F.K ρ H ρ' h' H' → H' A = some (.lst acc) → A ∉ ρ' → (∃ H0 ρ0 h0, Nxt D F.K ρ H ρ0 h0 H0 ∧ H0 A = none) → Reps F.K ρ' H' (done ++ ys) acc → Q (.ref A) H'
          | _ => False) → Wn done h rest := ⟨_, by simpa using w, fun _ _ _ q => q, fun _ _ _ q => q⟩
    obtain ⟨Wn, k0, kout, kin⟩ := key
    refine ⟨fun i m H2 => i + m = xs.length ∧ ∃ h ρ2 done acc, Nxt D F.K ρ1 H1 ρ2 h H2 ∧ (∀ r ∈ refsOf ps, h[r]? = h1[r]?) ∧ h1.length ≤ h.length ∧ H2 A = some (.lst acc) ∧ A ∉ ρ2 ∧ Reps F.K ρ2 H2 done acc ∧ Wn done h (xs.drop i), ?_, ?_⟩
    · have m := n1.now.new (o := .lst []) nA
      refine ⟨xs.length, by omega, h1, ρ1, [], [], m, fun _ _ => rfl, Nat.le_refl _, upd_same, fun z => ?_, .nil, by rw [List.drop_zero]; exact k0⟩
      obtain ⟨i, hi, ei⟩ := List.getElem_of_mem z
      obtain ⟨b, h1', h2'⟩ := n1.rep.at_ i _ (List.getElem?_eq_getElem (by rw [← n1.rep.len]; exact hi))
      rw [List.getElem?_eq_getElem hi, ei] at h1'
      cases h1'
      exact h2'.ne nA rfl
    · rintro i m H2 ⟨him, h, ρ2, done, acc, n2, hl, hlen, hA, hAρ, rd, wn⟩
      obtain ⟨k1, k2⟩ := itk ρ2 h H2 n2 hl i
      have w2 := kout _ _ _ wn
      by_cases hi : i < xs.length
      · obtain ⟨go, yl⟩ := k1 hi
        refine .inr ⟨go, fun H' => ∃ m', m' < m ∧ (i + 1 + m' = xs.length ∧ ∃ h ρ2 done acc, Nxt D F.K ρ1 H1 ρ2 h H' ∧ (∀ r ∈ refsOf ps, h[r]? = h1[r]?) ∧ h1.length ≤ h.length ∧ H' A = some (.lst acc) ∧ A ∉ ρ2 ∧ Reps F.K ρ2 H' done acc ∧ Wn done h (xs.drop (i + 1))), fun H' q => q, fun x H' hy => ?_⟩
        obtain ⟨p, hp, n3, rp⟩ := yl x H' hy
        rw [List.drop_eq_getElem_cons hi] at w2
        have ep : xs[i] = p := by rw [List.getElem?_eq_getElem hi] at hp; exact Option.some.inj hp
        rw [ep] at w2
        unfold compL at w2
        cases eb : asgT t p (wipeE env vs) with
        | none => rw [eb] at w2; exact w2.elim
        | some env3 =>
          rw [eb] at w2
          dsimp only at w2
          have n13 := n2.trans n3
          refine sg p x (wipe σ vs) H' _ env3 ρ2 _ (er1.mono n13.grow n13.pre) rp eb fun σ3 er3 off => ?_
          refine ⟨(off vs hsl).trans wipe_twice, ?_⟩
          refine st L' σ3 H' env3 h ρ2 _ n3.now er3 ?_
          have fr := frc L' env3 h
          cases ec : evE C L' ic env3 h with
          | bad => rw [ec] at w2; exact w2
          | exc c h4 => rw [ec] at w2; exact w2.elim
          | ok q h4 =>
            rw [ec] at w2 fr
            have hA' : H' A = some (.lst acc) := n3.off A _ hA hAρ id
            cases q <;> first
              | exact w2.elim
              | (rename_i k
                 intro v H4 ρ4 n4 r4
                 cases r4
                 refine ⟨k, rfl, ?_⟩
                 have hA4 : H4 A = some (.lst acc) := n4.off A _ hA' hAρ id
                 have hAρ4 : A ∉ ρ4 := fun z => (n4.fresh A z).elim hAρ fun q => q _ hA'
                 have n14 := n13.trans n4
                 have rd4 := rd.mono (n3.trans n4).grow (n3.trans n4).pre
                 have hl4 : ∀ r ∈ refsOf ps, h4[r]? = h1[r]? := fun r hr => by rw [fr.2 r (Nat.lt_of_lt_of_le (hlt r hr) hlen) (.inl (lk r hr)), hl r hr]
                 cases k with
                 | false =>
                   rw [if_neg Bool.false_ne_true]
                   exact ⟨m - 1, by omega, by omega, h4, ρ4, done, acc, n14, hl4, Nat.le_trans hlen fr.1, hA4, hAρ4, rd4, kin _ _ _ w2⟩
                 | true =>
                   rw [if_pos rfl]
                   dsimp only at w2
                   refine se L' σ3 H4 env3 h4 ρ4 _ n4.now (er3.mono n4.grow n4.pre) ?_
                   have fr5 := fre L' env3 h4
                   cases ed : evE C L' ie env3 h4 with
                   | bad => rw [ed] at w2; exact w2
                   | exc c h5 => rw [ed] at w2; exact w2.elim
                   | ok y h5 =>
                     rw [ed] at w2 fr5
                     dsimp only at w2
                     intro v5 H5 ρ5 n5 r5
                     have hA5 : H5 A = some (.lst acc) := n5.off A _ hA4 hAρ4 id
                     have hAρ5 : A ∉ ρ5 := fun z => (n5.fresh A z).elim hAρ4 fun q => q _ hA4
                     have n15 := n14.trans n5
                     have rd5 := rd4.mono n5.grow n5.pre
                     -- the rest of the list
                     cases er5 : compL t (evE C L' ic) (evE C L' ie) (wipeE env vs) (xs.drop (i + 1)) h5 with
                     | bad => rw [er5] at w2; exact w2.elim
                     | exc c h6 => rw [er5] at w2; exact w2.elim
                     | ok ys h6 =>
                       rw [er5] at w2
                       dsimp only at w2
                       have w5 := w2.1
                       have lm := lim_size
                       rw [List.length_append, List.length_cons] at w5
                       have ld := rd5.length
                       have kup := keep_lst (o := .lst (acc ++ [v5])) hA5
                       -- the list grows by one
                       have m5 : Nxt D F.K ρ1 H1 ρ5 h5 (upd H5 A (.lst (acc ++ [v5]))) := by
                         refine ⟨n15.grow.trans kup.grow, n15.pre, ⟨n15.rep.len, n15.rep.nd, fun j o' ej => ?_⟩, D.keep n15.side kup, fun b u q nb nt => ?_, fun b u q nt => ?_, n15.fresh⟩
                         · obtain ⟨b, q1, q2⟩ := n15.rep.at_ j o' ej
                           exact ⟨b, q1, q2.mono kup.grow (List.prefix_refl _) (upd_ne fun z => hAρ5 (by rw [← z]; exact List.mem_of_getElem? q1))⟩
                         · by_cases z : b = A
                           · rw [z, nA] at q; cases q
                           · rw [upd_ne z]; exact n15.off b u q nb nt
                         · by_cases z : b = A
                           · rw [z]; exact ⟨_, upd_same, id⟩
                           · rw [upd_ne z]; exact n15.dom b u q nt
                       refine ⟨acc, hA5, by omega, m - 1, by omega, by omega, h5, ρ5, done ++ [y], acc ++ [v5], m5, fun r hr => ?_, Nat.le_trans hlen (Nat.le_trans fr.1 fr5.1), upd_same, hAρ5, ?_, kin _ _ _ ?_⟩
                       · rw [fr5.2 r (Nat.lt_of_lt_of_le (hlt r hr) (Nat.le_trans hlen fr.1)) (.inl (lk r hr)), hl4 r hr]
                       · exact (rd5.append (.cons r5 .nil)).mono kup.grow (List.prefix_refl _)
                       · rw [er5]
                         dsimp only
                         rw [List.append_assoc]
                         exact w2)
      · have hi' : i = xs.length := by omega
        subst hi'
        refine .inl ⟨k2 rfl, ?_⟩
        rw [List.drop_length] at w2
        unfold compL at w2
        dsimp only at w2
        rw [List.append_nil] at w2
        exact w2.2 A H2 ρ2 acc (n1.trans n2) hA hAρ ⟨H1, ρ1, h1, n1, nA⟩ rd
end
end Mini

/-! Snd8 -/
set_option autoImplicit false
set_option Elab.async false
set_option linter.all false
set_option maxRecDepth 100000
namespace Mini
open PySem PySem.Spec PyProof.Rows L2

abbrev W0 : WW := fun _ _ _ => False
section
variable {D : Side} {K : PySem.W.Frag} {ρ ρ' : List Addr} {h' : Hh} {H H' : Hp} {A : Addr} {acc : List V} {ys : List PV}
/-- a list that is new since H stays as it is from now on -/
theorem Nxt.lock (m : Nxt D K ρ H ρ' h' H') (hA : H' A = some (.lst acc)) (nA : A ∉ ρ') (n0 : ∀ u, H A = some u → IsTbl u) (o : Obj) : Nxt D K ρ H ρ' h' (upd H' A (.frz o (.lst acc))) := by
  have kup := keep_lst (o := .frz o (.lst acc)) hA
  refine ⟨m.grow.trans kup.grow, m.pre, ⟨m.rep.len, m.rep.nd, fun j o' ej => ?_⟩, D.keep m.side kup, fun b u q nb nt => ?_, fun b u q nt => ?_, m.fresh⟩
  · obtain ⟨b, q1, q2⟩ := m.rep.at_ j o' ej
    exact ⟨b, q1, q2.mono kup.grow (List.prefix_refl _) (upd_ne fun z => nA (by rw [← z]; exact List.mem_of_getElem? q1))⟩
  · by_cases z : b = A
    · exact absurd (n0 u (by rw [← z]; exact q)) nt
    · rw [upd_ne z]; exact m.off b u q nb nt
  · by_cases z : b = A
    · rw [z]; exact ⟨_, upd_same, id⟩
    · rw [upd_ne z]; exact m.dom b u q nt
theorem Nxt.lock_rep (m : Nxt D K ρ H ρ' h' H') (hA : H' A = some (.lst acc)) (r : Reps K ρ' H' ys acc) (o : Obj) : Rep K ρ' (upd H' A (.frz o (.lst acc))) (.lst ys) (.ref A) :=
  .lst (.inl ⟨o, upd_same⟩) (r.mono (keep_lst (o := .frz o (.lst acc)) hA).grow (List.prefix_refl _))
/-- .. or it may be changed from now on -/
theorem Nxt.own (m : Nxt D K ρ H ρ' h' H') (hA : H' A = some (.lst acc)) (nA : A ∉ ρ') (n0 : ∀ u, H A = some u → IsTbl u) (r : Reps K ρ' H' ys acc) : Nxt D K ρ H (ρ' ++ [A]) (h' ++ [.lst ys]) H' ∧ Rep K (ρ' ++ [A]) H' (.ref h'.length) (.ref A) := by
  have pr : ρ' <+: ρ' ++ [A] := List.prefix_append _ _
  refine ⟨⟨m.grow, m.pre.trans pr, ⟨by simp [m.rep.len], ?_, fun i o' ei => ?_⟩, m.side, m.off, m.dom, fun b mb => ?_⟩, .ref ?_⟩
  · rw [List.nodup_append]
    refine ⟨m.rep.nd, by simp, fun b hb c hc => ?_⟩
    rw [List.mem_singleton.mp hc]
    exact fun z => nA (z ▸ hb)
  · by_cases hi : i < h'.length
    · rw [List.getElem?_append_left hi] at ei
      obtain ⟨b, h1, h2⟩ := m.rep.at_ i o' ei
      exact ⟨b, pre_get pr h1, h2.mono (Grow.refl _) pr rfl⟩
    · rw [List.getElem?_append_right (by omega)] at ei
      have i0 : i - h'.length = 0 := by
        have := (List.getElem?_eq_some_iff.mp ei).1
        simp at this
        omega
      rw [i0] at ei
      simp at ei
      subst ei
      refine ⟨A, ?_, acc, hA, r.mono (Grow.refl _) pr⟩
      rw [List.getElem?_append_right (by rw [m.rep.len]; omega), m.rep.len, i0]
      rfl
  · rcases List.mem_append.mp mb with z | z
    · exact m.fresh b z
    · rw [List.mem_singleton.mp z]; exact .inr n0
  · rw [List.getElem?_append_right (by rw [m.rep.len]; omega), m.rep.len, Nat.sub_self]
    rfl
theorem Nxt.was_none {ρ0 : List Addr} {h0 : Hh} {H0 : Hp} (m : Nxt D K ρ H ρ0 h0 H0) (e : H0 A = none) : ∀ u, H A = some u → IsTbl u := fun u q => Classical.byContradiction fun t => by
  obtain ⟨o', e', _⟩ := m.dom A u q t
  rw [e] at e'
  cases e'
end

section
variable {D : Side} {C : Cl} {F : Fam} {W : WW} {tg it elt : Expr} {ifs : List Expr} {t : T} {s : Src} {is : Es} {ic ie : E} {own : List (Str × Nat)} {scope : Scope} {pos : Pos}
/-- what stands ready for a comprehension -/
structure CompOk (D : Side) (C : Cl) (F : Fam) (W : WW) (tg it elt : Expr) (ifs : List Expr) (scope : Scope) (own : List (Str × Nat)) (t : T) (s : Src) (is : Es) (ic ie : E) : Prop where
  calm : ∀ X, F.P X → X.calm = true
  nd : ∀ X, F.P X → X.N.Nodup
  src : SI D C F W tg it s is
  blk : ∀ X, F.P X → BlkOk X.N X.env.scope scope own
  tgt : SG (F.blk scope) tg t
  tst : STs D C (F.blk scope) W0 ifs ic
  elt : SE D C (F.blk scope) W0 elt ie
  slots : ∀ i ∈ t.slots, i ∈ own.map (·.2)
  frc : ∀ (L : Lk) (env : Env) (h : Hh), FrR L h (evE C L ic env h)
  fre : ∀ (L : Lk) (env : Env) (h : Hh), FrR L h (evE C L ie env h)
  fold : ∀ X : Cx, ∀ x, foldedSetIterable it X.env x = pure x
/-- the comprehension as a reading, whatever comes behind it -/
theorem comp_read (c : CompOk D C F W tg it elt ifs scope own t s is ic ie) : ∃ (wi : TI) (g : TG) (tt : TT) (te : TE),
    (∀ X, F.P X → PI X tg it wi) ∧ (∀ X, F.P X → ∀ (s : Shared) (H : Hp) (C : Addr) (cl : List (Str × Addr)) (fp : List Addr), PG (X.blk s H scope (compEnvC scope cl C X.env) fp) tg g) ∧
    (∀ X, F.P X → ∀ (s : Shared) (H : Hp) (C : Addr) (cl : List (Str × Addr)) (fp : List Addr), PTs (X.blk s H scope (compEnvC scope cl C X.env) fp) ifs tt) ∧
    (∀ X, F.P X → ∀ (s : Shared) (H : Hp) (C : Addr) (cl : List (Str × Addr)) (fp : List Addr), PE (X.blk s H scope (compEnvC scope cl C X.env) fp) elt te) ∧
    ∀ (L : Lk) (σ : L2.St) (H : Hp) (env : Env) (h : Hh) (ρ : List Addr) (Q : VK), Now D F.K ρ h H → EnvR F.K ρ H env σ → (match evEs C L is env h with
      | .ok ps h' => (match srcItems s ps h' with
        | some xs => (match compL t (evE C { L with locked := refsOf ps ++ L.locked } ic) (evE C { L with locked := refsOf ps ++ L.locked } ie) (wipeE env (own.map (·.2))) xs h' with
          | .ok ys h' => ys.length ≤ lim ∧ ∀ A H' ρ' acc, Nxt D F.K ρ H ρ' h' H' → H' A = some (.lst acc) → A ∉ ρ' → (∃ H0 ρ0 h0, Nxt D F.K ρ H ρ0 h0 H0 ∧ H0 A = none) → Reps F.K ρ' H' ys acc → Q (.ref A) H'
          | _ => False)
        | none => False)
      | .exc c h' => ∀ H' ρ', Nxt D F.K ρ H ρ' h' H' → W c σ H'
      | .bad => False) → tLc wi g tt te (own.map (·.2)) σ H Q := by
  obtain ⟨wi, pi, si⟩ := c.src
  obtain ⟨g, pg, sg⟩ := c.tgt
  obtain ⟨tt, pt, st⟩ := c.tst
  obtain ⟨te, pe, se⟩ := c.elt
  refine ⟨wi, g, tt, te, pi, fun X hX s H C cl fp => pg _ ⟨X, s, H, C, cl, fp, hX, rfl⟩, fun X hX s H C cl fp => pt _ ⟨X, s, H, C, cl, fp, hX, rfl⟩, fun X hX s H C cl fp => pe _ ⟨X, s, H, C, cl, fp, hX, rfl⟩, fun L σ H env h ρ Q n er w => ?_⟩
  exact comp_walk (tg := tg) (it := it) (elt := elt) si sg st se c.slots c.frc c.fre L σ H env h ρ Q n er w
/-- [e for ..] -/
theorem snd_comp {m : Bool} (c : CompOk D C F W tg it elt ifs scope own t s is ic ie) : SE D C F W (.ListComp elt [⟨tg, it, ifs, 0⟩] scope pos) (.comp m (own.map (·.2)) t s is ic ie) := by
  obtain ⟨wi, g, tt, te, pi, pg, pt, pe, rd⟩ := comp_read c
  have PEX : ∀ X, F.P X → PE X (.ListComp elt [⟨tg, it, ifs, 0⟩] scope pos) (tLc wi g tt te (own.map (·.2))) := fun X hX => pe_lc (c.calm X hX) (c.nd X hX) (pi X hX) (c.blk X hX) (pg X hX) (pt X hX) (pe X hX) (c.fold X)
  cases m with
  | true =>
    refine ⟨_, PEX, fun L σ H env h ρ Q n er w => rd L σ H env h ρ Q n er ?_⟩
    unfold evE at w
    cases ea : evEs C L is env h with
    | bad => rw [ea] at w; exact w
    | exc c h1 => rw [ea] at w; exact w
    | ok ps h1 =>
      rw [ea] at w
      dsimp only at w ⊢
      cases ex : srcItems s ps h1 with
      | none => rw [ex] at w; exact w
      | some xs =>
        rw [ex] at w
        dsimp only at w ⊢
        cases ec : compL t (evE C { L with locked := refsOf ps ++ L.locked } ic) (evE C { L with locked := refsOf ps ++ L.locked } ie) (wipeE env (own.map (·.2))) xs h1 with
        | bad => rw [ec] at w; exact w
        | exc c h2 => rw [ec] at w; exact w
        | ok ys h2 =>
          rw [ec] at w
          dsimp only at w ⊢
          by_cases z : ys.length ≤ lim
          · rw [if_pos z, if_pos rfl] at w
            refine ⟨z, fun A H' ρ' acc mm hA nA ⟨H0, ρ0, h0, m0, e0⟩ r => ?_⟩
            obtain ⟨q1, q2⟩ := mm.own hA nA (m0.was_none e0) r
            exact w _ _ _ q1 q2
          · rw [if_neg z] at w; exact w.elim
  | false =>
    refine ⟨fun σ H Q => tLc wi g tt te (own.map (·.2)) σ H fun v H1 => ∃ p vs, v = .ref p ∧ H1 p = some (.lst vs) ∧ ∀ o, Q v (upd H1 p (.frz o (.lst vs))), fun X hX => ⟨fun pins s σ H Q I hw => thn ((PEX X hX).run pins s σ H _ I hw) fun u s1 hq => ?_⟩, fun L σ H env h ρ Q n er w => ?_⟩
    · obtain ⟨x, H1, I1, r1, p, vs, rfl, hp, q⟩ := hq
      obtain ⟨od, I2⟩ := I1.lock hp trivial
      exact ⟨.ref p, _, I2, r1, q od⟩
    · refine rd L σ H env h ρ _ n er ?_
      unfold evE at w
      cases ea : evEs C L is env h with
      | bad => rw [ea] at w; exact w
      | exc c h1 => rw [ea] at w; exact w
      | ok ps h1 =>
        rw [ea] at w
        dsimp only at w ⊢
        cases ex : srcItems s ps h1 with
        | none => rw [ex] at w; exact w
        | some xs =>
          rw [ex] at w
          dsimp only at w ⊢
          cases ec : compL t (evE C { L with locked := refsOf ps ++ L.locked } ic) (evE C { L with locked := refsOf ps ++ L.locked } ie) (wipeE env (own.map (·.2))) xs h1 with
          | bad => rw [ec] at w; exact w
          | exc c h2 => rw [ec] at w; exact w
          | ok ys h2 =>
            rw [ec] at w
            dsimp only at w ⊢
            by_cases z : ys.length ≤ lim
            · rw [if_pos z, if_neg Bool.false_ne_true] at w
              refine ⟨z, fun A H' ρ' acc mm hA nA ⟨H0, ρ0, h0, m0, e0⟩ r => ⟨A, acc, rfl, hA, fun o => ?_⟩⟩
              exact w _ _ _ (mm.lock hA nA (m0.was_none e0) o) (mm.lock_rep hA r o)
            · rw [if_neg z] at w; exact w.elim
/-- y = [e for ..] where the list is stored within -/
theorem snds_setLc {m : Bool} {i : Nat} {y : Str} {py spos : Pos} (c : CompOk D C F W tg it elt ifs scope own t s is ic ie) (hy : ∀ X, F.P X → X.N[i]? = some y) (hyl : ∀ X, F.P X → X.env.scope.names.lookup y = some .local)
    (hsw : ∀ X, F.P X → swapsWith (.ListComp elt [⟨tg, it, ifs, 0⟩] scope pos) (some (.Name y py)) spos.line X.env = pure true) : SS D C F W (.Assign [.Name y py] (.ListComp elt [⟨tg, it, ifs, 0⟩] scope pos) spos) (.asg (.name i) (.comp m (own.map (·.2)) t s is ic ie)) := by
  obtain ⟨wi, g, tt, te, pi, pg, pt, pe, rd⟩ := comp_read c
  have PSX : ∀ X, F.P X → PS X (.Assign [.Name y py] (.ListComp elt [⟨tg, it, ifs, 0⟩] scope pos) spos) (tAsg (tLc wi g tt te (own.map (·.2))) (gName i)) := fun X hX => ps_setLc (c.calm X hX) (c.nd X hX) (hy X hX) (hyl X hX) (hsw X hX) (pi X hX) (c.blk X hX) (pg X hX) (pt X hX) (pe X hX) (c.fold X)
  cases m with
  | true =>
    refine ⟨_, PSX, fun L σ H env h ρ De n er w => rd L σ H env h ρ _ n er ?_⟩
    unfold evS evE at w
    cases ea : evEs C L is env h with
    | bad => rw [ea] at w; exact w
    | exc c h1 => rw [ea] at w; exact fun H' ρ' m => w σ H' ρ' m
    | ok ps h1 =>
      rw [ea] at w
      dsimp only at w ⊢
      cases ex : srcItems s ps h1 with
      | none => rw [ex] at w; exact w
      | some xs =>
        rw [ex] at w
        dsimp only at w ⊢
        cases ec : compL t (evE C { L with locked := refsOf ps ++ L.locked } ic) (evE C { L with locked := refsOf ps ++ L.locked } ie) (wipeE env (own.map (·.2))) xs h1 with
        | bad => rw [ec] at w; exact w
        | exc c h2 => rw [ec] at w; exact w
        | ok ys h2 =>
          rw [ec] at w
          dsimp only at w ⊢
          by_cases z : ys.length ≤ lim
          · rw [if_pos z, if_pos rfl] at w
            dsimp only [asgT] at w
            refine ⟨z, fun A H' ρ' acc mm hA nA ⟨H0, ρ0, h0, m0, e0⟩ r => ?_⟩
            obtain ⟨q1, q2⟩ := mm.own hA nA (m0.was_none e0) r
            exact w _ _ _ q1 ((er.mono q1.grow q1.pre).set q2 i)
          · rw [if_neg z] at w; exact w.elim
  | false =>
    refine ⟨fun De σ H => tAsg (tLc wi g tt te (own.map (·.2))) (gName i) { De with nx := fun σ' H1 => ∃ p vs, H1 p = some (.lst vs) ∧ ∀ o, De.nx σ' (upd H1 p (.frz o (.lst vs))) } σ H, fun X hX => ⟨fun pins s σ H De I hw => thn ((PSX X hX).run pins s σ H _ I hw) fun f s1 hq => ?_⟩, fun L σ H env h ρ De n er w => ?_⟩
    · cases f with
      | next =>
        obtain ⟨σ', H1, I1, p, vs, hp, q⟩ := hq
        obtain ⟨od, I2⟩ := I1.lock hp trivial
        exact ⟨σ', _, I2, q od⟩
      | brk => exact hq
      | cont => exact hq
      | ret u => exact hq
    · refine rd L σ H env h ρ _ n er ?_
      unfold evS evE at w
      cases ea : evEs C L is env h with
      | bad => rw [ea] at w; exact w
      | exc c h1 => rw [ea] at w; exact fun H' ρ' m => w σ H' ρ' m
      | ok ps h1 =>
        rw [ea] at w
        dsimp only at w ⊢
        cases ex : srcItems s ps h1 with
        | none => rw [ex] at w; exact w
        | some xs =>
          rw [ex] at w
          dsimp only at w ⊢
          cases ec : compL t (evE C { L with locked := refsOf ps ++ L.locked } ic) (evE C { L with locked := refsOf ps ++ L.locked } ie) (wipeE env (own.map (·.2))) xs h1 with
          | bad => rw [ec] at w; exact w
          | exc c h2 => rw [ec] at w; exact w
          | ok ys h2 =>
            rw [ec] at w
            dsimp only at w ⊢
            by_cases z : ys.length ≤ lim
            · rw [if_pos z, if_neg Bool.false_ne_true] at w
              dsimp only [asgT] at w
              refine ⟨z, fun A H' ρ' acc mm hA nA ⟨H0, ρ0, h0, m0, e0⟩ r => ⟨A, acc, hA, fun o => ?_⟩⟩
              have q1 := mm.lock hA nA (m0.was_none e0) o
              exact w _ _ _ q1 ((er.mono q1.grow q1.pre).set (mm.lock_rep hA r o) i)
            · rw [if_neg z] at w; exact w.elim
end
end Mini

/-! Snd9 -/
set_option autoImplicit false
set_option Elab.async false
set_option linter.all false
set_option maxRecDepth 100000
namespace Mini
open PySem PySem.Spec PySem.Calls PyProof.Rows L2

/-! ### sorting -/
mutual
theorem alike_toD : ∀ (k : Nat) (x y : PV), flatN k x = true → flatN k y = true → alike x y = true → PySem.W.alike (toD x) (toD y) = true
  | k, .tup xs, .tup ys, h1, h2, h3 => by
    cases k with
    | zero => simp [flatN] at h1
    | succ k => simp only [toD, PySem.W.alike]; exact alikes_toD k xs ys (by simpa [flatN] using h1) (by simpa [flatN] using h2) (by simpa [alike] using h3)
  | k, .lst xs, .lst ys, h1, h2, h3 => by
    cases k with
    | zero => simp [flatN] at h1
    | succ k => simp only [toD, PySem.W.alike]; exact alikes_toD k xs ys (by simpa [flatN] using h1) (by simpa [flatN] using h2) (by simpa [alike] using h3)
  | _, .str x, .str y, _, _, _ => by simp [toD, PySem.W.alike]
  | _, .bl x, .bl y, _, _, _ => by simp [toD, PySem.W.alike]
  | _, .int x, .int y, _, _, _ => by simp [toD, PySem.W.alike]
  | _, .non, y, _, _, h3 => by cases y <;> simp [alike] at h3
  | _, .dic _, y, _, _, h3 => by cases y <;> simp [alike] at h3
  | _, .ref _, y, _, _, h3 => by cases y <;> simp [alike] at h3
  | _, .clo _ _, y, _, _, h3 => by cases y <;> simp [alike] at h3
  | _, .bl _, .non, _, _, h3 | _, .bl _, .int _, _, _, h3 | _, .bl _, .str _, _, _, h3 | _, .bl _, .tup _, _, _, h3 | _, .bl _, .lst _, _, _, h3 | _, .bl _, .dic _, _, _, h3 | _, .bl _, .ref _, _, _, h3 | _, .bl _, .clo _ _, _, _, h3 => by simp [alike] at h3
  | _, .int _, .non, _, _, h3 | _, .int _, .bl _, _, _, h3 | _, .int _, .str _, _, _, h3 | _, .int _, .tup _, _, _, h3 | _, .int _, .lst _, _, _, h3 | _, .int _, .dic _, _, _, h3 | _, .int _, .ref _, _, _, h3 | _, .int _, .clo _ _, _, _, h3 => by simp [alike] at h3
  | _, .str _, .non, _, _, h3 | _, .str _, .int _, _, _, h3 | _, .str _, .bl _, _, _, h3 | _, .str _, .tup _, _, _, h3 | _, .str _, .lst _, _, _, h3 | _, .str _, .dic _, _, _, h3 | _, .str _, .ref _, _, _, h3 | _, .str _, .clo _ _, _, _, h3 => by simp [alike] at h3
  | _, .tup _, .non, _, _, h3 | _, .tup _, .int _, _, _, h3 | _, .tup _, .bl _, _, _, h3 | _, .tup _, .str _, _, _, h3 | _, .tup _, .lst _, _, _, h3 | _, .tup _, .dic _, _, _, h3 | _, .tup _, .ref _, _, _, h3 | _, .tup _, .clo _ _, _, _, h3 => by simp [alike] at h3
  | _, .lst _, .non, _, _, h3 | _, .lst _, .int _, _, _, h3 | _, .lst _, .bl _, _, _, h3 | _, .lst _, .str _, _, _, h3 | _, .lst _, .tup _, _, _, h3 | _, .lst _, .dic _, _, _, h3 | _, .lst _, .ref _, _, _, h3 | _, .lst _, .clo _ _, _, _, h3 => by simp [alike] at h3
theorem alikes_toD : ∀ (k : Nat) (xs ys : List PV), xs.all (flatN k) = true → ys.all (flatN k) = true → alikes xs ys = true → PySem.W.alikeAll (toDs xs) (toDs ys) = true
  | k, [], _, _, _, _ => by simp [toDs, PySem.W.alikeAll]
  | k, _ :: _, [], _, _, _ => by simp [toDs, PySem.W.alikeAll]
  | k, x :: xs, y :: ys, h1, h2, h3 => by
    rw [List.all_cons, Bool.and_eq_true] at h1 h2
    rw [alikes, Bool.and_eq_true] at h3
    simp only [toDs, PySem.W.alikeAll]
    rw [alike_toD k x y h1.1 h2.1 h3.1, alikes_toD k xs ys h1.2 h2.2 h3.2]
    rfl
end
mutual
theorem plt_toD : ∀ (k : Nat) (x y : PV), flatN k x = true → flatN k y = true → alike x y = true → PySem.W.dataLt (toD x) (toD y) = plt x y
  | k, .tup xs, .tup ys, h1, h2, h3 => by
    cases k with
    | zero => simp [flatN] at h1
    | succ k => simp only [toD, plt, PySem.W.dataLt_tuple]; exact plts_toD k xs ys (by simpa [flatN] using h1) (by simpa [flatN] using h2) (by simpa [alike] using h3)
  | k, .lst xs, .lst ys, h1, h2, h3 => by
    cases k with
    | zero => simp [flatN] at h1
    | succ k => simp only [toD, plt, PySem.W.dataLt_list]; exact plts_toD k xs ys (by simpa [flatN] using h1) (by simpa [flatN] using h2) (by simpa [alike] using h3)
  | _, .str x, .str y, _, _, _ => by simp [toD, plt, PySem.W.dataLt_str]
  | _, .bl x, .bl y, _, _, _ => by simp only [toD, plt, PySem.W.dataLt_bool]; cases x <;> cases y <;> decide
  | _, .int x, .int y, _, _, _ => by simp [toD, plt, PySem.W.dataLt_int]
  | _, .non, y, _, _, h3 => by cases y <;> simp [alike] at h3
  | _, .dic _, y, _, _, h3 => by cases y <;> simp [alike] at h3
  | _, .ref _, y, _, _, h3 => by cases y <;> simp [alike] at h3
  | _, .clo _ _, y, _, _, h3 => by cases y <;> simp [alike] at h3
  | _, .bl _, .non, _, _, h3 | _, .bl _, .int _, _, _, h3 | _, .bl _, .str _, _, _, h3 | _, .bl _, .tup _, _, _, h3 | _, .bl _, .lst _, _, _, h3 | _, .bl _, .dic _, _, _, h3 | _, .bl _, .ref _, _, _, h3 | _, .bl _, .clo _ _, _, _, h3 => by simp [alike] at h3
  | _, .int _, .non, _, _, h3 | _, .int _, .bl _, _, _, h3 | _, .int _, .str _, _, _, h3 | _, .int _, .tup _, _, _, h3 | _, .int _, .lst _, _, _, h3 | _, .int _, .dic _, _, _, h3 | _, .int _, .ref _, _, _, h3 | _, .int _, .clo _ _, _, _, h3 => by simp [alike] at h3
  | _, .str _, .non, _, _, h3 | _, .str _, .int _, _, _, h3 | _, .str _, .bl _, _, _, h3 | _, .str _, .tup _, _, _, h3 | _, .str _, .lst _, _, _, h3 | _, .str _, .dic _, _, _, h3 | _, .str _, .ref _, _, _, h3 | _, .str _, .clo _ _, _, _, h3 => by simp [alike] at h3
  | _, .tup _, .non, _, _, h3 | _, .tup _, .int _, _, _, h3 | _, .tup _, .bl _, _, _, h3 | _, .tup _, .str _, _, _, h3 | _, .tup _, .lst _, _, _, h3 | _, .tup _, .dic _, _, _, h3 | _, .tup _, .ref _, _, _, h3 | _, .tup _, .clo _ _, _, _, h3 => by simp [alike] at h3
  | _, .lst _, .non, _, _, h3 | _, .lst _, .int _, _, _, h3 | _, .lst _, .bl _, _, _, h3 | _, .lst _, .str _, _, _, h3 | _, .lst _, .tup _, _, _, h3 | _, .lst _, .dic _, _, _, h3 | _, .lst _, .ref _, _, _, h3 | _, .lst _, .clo _ _, _, _, h3 => by simp [alike] at h3
theorem plts_toD : ∀ (k : Nat) (xs ys : List PV), xs.all (flatN k) = true → ys.all (flatN k) = true → alikes xs ys = true → PyProof.Rows.lexLt itemOrd (PySem.W.keyToksAll (toDs xs)) (PySem.W.keyToksAll (toDs ys)) = plts xs ys
  | k, [], [], _, _, _ => by simp only [toDs, plts]; exact PyProof.Rows.lex_irrefl _
  | k, [], _ :: _, _, _, _ => by simp only [toDs, plts, PySem.W.keyToksAll]; rfl
  | k, _ :: _, [], _, _, _ => by simp only [toDs, plts, PySem.W.keyToksAll]; rfl
  | k, x :: xs, y :: ys, h1, h2, h3 => by
    rw [List.all_cons, Bool.and_eq_true] at h1 h2
    rw [alikes, Bool.and_eq_true] at h3
    simp only [toDs, plts]
    rw [PySem.W.dataLt_cons (alike_toD k x y h1.1 h2.1 h3.1), eqv_toD k x y h1.1 h2.1, plt_toD k x y h1.1 h2.1 h3.1, plts_toD k xs ys h1.2 h2.2 h3.2]
end
end Mini
namespace Mini
open PySem PySem.Spec PySem.Calls PyProof.Rows L2
theorem ins_cut {x : PV} : ∀ {l₁ l₂ : List PV}, (∀ b ∈ l₁, plt b x = true) → (∀ b ∈ l₂, plt b x = false) → ins x (l₁ ++ l₂) = l₁ ++ x :: l₂
  | [], [], _, _ => rfl
  | [], y :: ys, _, h2 => by
    show ins x (y :: ys) = _
    rw [ins, h2 y (List.mem_cons_self ..)]
    rfl
  | y :: l₁, l₂, h1, h2 => by
    show ins x (y :: (l₁ ++ l₂)) = _
    rw [ins, h1 y (List.mem_cons_self ..), if_pos rfl, ins_cut (fun b hb => h1 b (List.mem_cons_of_mem _ hb)) h2]
    rfl
theorem isort_eq : ∀ {xs : List PV}, (∀ x ∈ xs, ∀ y ∈ xs, PySem.W.dataLt (toD x) (toD y) = plt x y) → xs.mergeSort (PySem.W.dataLe false toD) = isort xs
  | [], _ => by simp [isort]
  | x :: xs, h => by
    have T : PySem.W.TotalLe (PySem.W.dataLe false toD) := PySem.W.sortLe_total _ _ _
    obtain ⟨l₁, l₂, e1, e2, e3⟩ := List.mergeSort_cons T.trans (fun a b => by rw [Bool.or_eq_true]; exact T.total a b) x xs
    have ih := isort_eq (xs := xs) fun a ha b hb => h a (List.mem_cons_of_mem _ ha) b (List.mem_cons_of_mem _ hb)
    have pm : (l₁ ++ l₂).Perm xs := by rw [← e2]; exact List.mergeSort_perm xs _
    have srt : (l₁ ++ x :: l₂).Pairwise (fun a b => PySem.W.dataLe false toD a b = true) := by rw [← e1]; exact PySem.W.sort_pairwise T _
    have m1 : ∀ b ∈ l₁, b ∈ xs := fun b hb => pm.mem_iff.mp (List.mem_append_left _ hb)
    have m2 : ∀ b ∈ l₂, b ∈ xs := fun b hb => pm.mem_iff.mp (List.mem_append_right _ hb)
    have le : ∀ a b, PySem.W.dataLe false toD a b = !PySem.W.dataLt (toD b) (toD a) := fun _ _ => rfl
    rw [e1, isort, ← ih, e2, ins_cut (fun b hb => ?_) (fun b hb => ?_)]
    · have := e3 b hb
      rw [le, Bool.not_not] at this
      rw [← h b (List.mem_cons_of_mem _ (m1 b hb)) x (List.mem_cons_self ..)]
      exact this
    · have s2 := (List.pairwise_append.mp srt).2.1
      have := (List.pairwise_cons.mp s2).1 b hb
      rw [le, Bool.not_eq_true'] at this
      rw [← h b (List.mem_cons_of_mem _ (m2 b hb)) x (List.mem_cons_self ..)]
      exact this

/-! ### builtin functions -/
def RaE (D : Side) (K : PySem.W.Frag) (f : Prim) : List V → Hp → VK → Prop := fun vs H Q => ∃ (ρ : List Addr) (h : Hh) (ps : List PV) (L : Lk), Now D K ρ h H ∧ Reps K ρ H ps vs ∧ WantE D K ρ H (fun _ _ => False) Q (primE f ps L h)
theorem nox_prim (f : Prim) (ps : List PV) (L : Lk) (h : Hh) (c : Nat) (h' : Hh) : primE f ps L h ≠ .exc c h' := by
  intro e
  unfold primE at e
  repeat' split at e
  all_goals cases e
section
variable {D : Side} {C : Cl} {F : Fam} {W : WW}
/-- a builtin called -/
theorem snd_prim {f : Prim} {e : Expr} {es : List Expr} {ies : Es} {r : List V → Hp → VK → Prop} (hr : ∀ vs H Q, RaE D F.K f vs H Q → r vs H Q) (he : ∀ X, F.P X → ∀ t, PA X es t → PE X e (tCB r t)) (ha : SA D C F W es ies) : SE D C F W e (.prim f ies) := by
  obtain ⟨t, pa, sa⟩ := ha
  refine ⟨_, fun X hX => he X hX t (pa X hX), fun L σ H env h ρ Q n er w => ?_⟩
  unfold evE at w
  refine sa L σ H env h ρ _ n er ?_
  cases ea : evEs C L ies env h with
  | bad => rw [ea] at w; exact w
  | exc c h1 => rw [ea] at w; exact w
  | ok ps h1 =>
    rw [ea] at w
    intro vs H1 ρ1 n1 rs
    exact hr vs H1 Q ⟨ρ1, h1, ps, L, n1.now, rs, want_no (nox_prim f ps L h1) (w.at n1)⟩
/-- a builtin's method called -/
theorem snd_meth {f : Prim} {T : String} {e o : Expr} {es : List Expr} {io : E} {ies : Es} {r : V → List V → Hp → VK → Prop} (hr : ∀ v vs H Q, RaE D F.K f (v :: vs) H Q → r v vs H Q)
    (ty : ∀ (ρ : List Addr) (h : Hh) (p : PV) (v : V) (H : Hp), Now D F.K ρ h H → Rep F.K ρ H p v → recv f p h = true → tyV F.K T v H)
    (he : ∀ X, F.P X → ∀ to t, PE X o to → PA X es t → PE X e (tBM F.K T r to t)) (ho : SE D C F W o io) (ha : SA D C F W es ies) : SE D C F W e (.meth f io ies) := by
  obtain ⟨to, po, so⟩ := ho
  obtain ⟨t, pa, sa⟩ := ha
  refine ⟨_, fun X hX => he X hX to t (po X hX) (pa X hX), fun L σ H env h ρ Q n er w => ?_⟩
  unfold evE at w
  refine so L σ H env h ρ _ n er ?_
  cases eo : evE C L io env h with
  | bad => rw [eo] at w; exact w
  | exc c h1 => rw [eo] at w; exact w
  | ok p h1 =>
    simp only [eo] at w
    intro v H1 ρ1 n1 rp
    by_cases z : recv f p h1 = true
    · rw [if_pos z] at w
      refine ⟨ty ρ1 h1 p v H1 n1.now rp z, sa L σ H1 env h1 ρ1 _ n1.now (er.mono n1.grow n1.pre) ?_⟩
      cases ea : evEs C L ies env h1 with
      | bad => simp only [ea] at w; exact w
      | exc c h2 => simp only [ea] at w; exact fun H2 ρ2 n2 => w H2 ρ2 (n1.trans n2)
      | ok ps h2 =>
        simp only [ea] at w
        intro vs H2 ρ2 n2 rs
        exact hr v vs H2 Q ⟨ρ2, h2, p :: ps, L, n2.now, .cons (rp.mono n2.grow n2.pre) rs, want_no (nox_prim f _ L h2) (w.at (n1.trans n2))⟩
    · rw [if_neg z] at w
      exact w.elim
end
end Mini

/-! Snd10 -/
set_option autoImplicit false
set_option Elab.async false
set_option linter.all false
set_option maxRecDepth 100000
namespace Mini
open PySem PySem.Spec PySem.Calls PyProof.Rows L2

section
variable {D : Side} {X : Cx}
/-- nothing else than this fits -/
theorem bad_or {P : Prop} {D : Side} {K : PySem.W.Frag} {ρ : List Addr} {H : Hp} {Xx : Nat → Hp → Prop} {Q : VK} (w : WantE D K ρ H Xx Q .bad) : P := w.elim

theorem mk_str (s : List Nat) : (⟨s.toArray⟩ : Str).length = s.length := by simp [Str.length]
theorem prr_len : CallR X (.builtin "len") (RaE D X.K .len) := by
  intro pins s σ H xs us Q I rx hh
  obtain ⟨ρ, h, ps, L, n, rs, w⟩ := hh
  cases rs with
  | nil => exact w.elim
  | cons rp rest =>
    rename_i p v ps vs
    cases rest with
    | cons _ _ => cases p <;> exact w.elim
    | nil =>
      have key : ∀ xs, seqOf h p = some xs → WantE D X.K ρ H (fun _ _ => False) Q (.ok (.int xs.length) h) → wpAny (model X.prog X.w) X.A (call (.builtin "len") us) (EP X pins σ Q) X.xe s := by
        intro xs e w
        obtain ⟨a, vs, rfl, hq, rr⟩ := seq_of n rp e
        refine call_len_seq pins s σ H _ us Q I rx ⟨a, vs, rfl, hq, ?_⟩
        rw [← rr.length]
        exact want_ok n w (.int _)
      cases p with
      | str t =>
        cases rp
        by_cases z : t.length ≤ lim
        · have w : WantE D X.K ρ H (fun _ _ => False) Q (if t.length ≤ lim then .ok (.int t.length) h else .bad) := w
          rw [if_pos z] at w
          have lm := lim_size
          refine call_len_str pins s σ H _ us Q I rx ⟨_, rfl, by rw [mk_str]; omega, ?_⟩
          rw [mk_str]
          exact want_ok n w (.int _)
        · have w : WantE D X.K ρ H (fun _ _ => False) Q (if t.length ≤ lim then .ok (.int t.length) h else .bad) := w
          rw [if_neg z] at w
          exact w.elim
      | tup xs => exact key xs rfl w
      | lst xs => exact key xs rfl w
      | ref r =>
        have w : WantE D X.K ρ H (fun _ _ => False) Q (match seqOf h (.ref r) with | some xs => .ok (.int xs.length) h | none => .bad) := w
        cases e : seqOf h (.ref r) with
        | none => rw [e] at w; exact w.elim
        | some xs => rw [e] at w; exact key xs e w
      | _ => exact w.elim
theorem prr_abs : CallR X (.builtin "abs") (RaE D X.K .abs) := by
  intro pins s σ H xs us Q I rx hh
  obtain ⟨ρ, h, ps, L, n, rs, w⟩ := hh
  cases rs with
  | nil => exact w.elim
  | cons rp rest =>
    cases rest with
    | cons _ _ => cases rp <;> exact w.elim
    | nil =>
      cases rp with
      | int i => exact call_abs pins s σ H _ us Q I rx ⟨i, rfl, want_ok n w (.int _)⟩
      | _ => exact w.elim
theorem prr_max2 (hc : X.calm = true) : CallR X (.builtin "max") (RaE D X.K .max2) := by
  intro pins s σ H xs us Q I rx hh
  obtain ⟨ρ, h, ps, L, n, rs, w⟩ := hh
  cases rs with
  | nil => exact w.elim
  | cons rp rest =>
    cases rest with
    | nil => cases rp <;> exact w.elim
    | cons rq rest =>
      cases rest with
      | cons _ _ => cases rp <;> cases rq <;> exact w.elim
      | nil =>
        cases rp with
        | int i =>
          cases rq with
          | int j => exact call_max2 hc pins s σ H _ us Q I rx ⟨i, j, rfl, want_ok n w (.int _)⟩
          | _ => exact w.elim
        | _ => cases rq <;> exact w.elim
theorem prr_min2 (hc : X.calm = true) : CallR X (.builtin "min") (RaE D X.K .min2) := by
  intro pins s σ H xs us Q I rx hh
  obtain ⟨ρ, h, ps, L, n, rs, w⟩ := hh
  cases rs with
  | nil => exact w.elim
  | cons rp rest =>
    cases rest with
    | nil => cases rp <;> exact w.elim
    | cons rq rest =>
      cases rest with
      | cons _ _ => cases rp <;> cases rq <;> exact w.elim
      | nil =>
        cases rp with
        | int i =>
          cases rq with
          | int j => exact call_min2 hc pins s σ H _ us Q I rx ⟨i, j, rfl, want_ok n w (.int _)⟩
          | _ => exact w.elim
        | _ => cases rq <;> exact w.elim

/-! ### numbers as texts -/
theorem cps_mk (s : List Nat) : (⟨s.toArray⟩ : Str).cps.toList = s := by simp
theorem natOf_digits : ∀ (cs : List Nat) (a n : Nat), natOf cs a = some n → NumText.AllDigits cs ∧ cs.foldl (fun acc c => acc * 10 + (c - 48)) a = n
  | [], a, n, h => by
    rw [natOf] at h
    exact ⟨fun c hc => (by cases hc), Option.some.inj h⟩
  | c :: cs, a, n, h => by
    rw [natOf] at h
    split at h
    · rename_i hc
      obtain ⟨h1, h2⟩ := natOf_digits cs _ n h
      refine ⟨fun d hd => ?_, h2⟩
      rcases List.mem_cons.mp hd with rfl | hd
      · exact hc
      · exact h1 d hd
    · cases h
theorem intOf_text {s : List Nat} {i : Int} (h : intOf s = some i) (hl : s.length ≤ 640) : PySem.intText? ⟨s.toArray⟩ = some i := by
  have pos : ∀ (c : Nat) (cs : List Nat), s = c :: cs → Option.map (fun n : Nat => (n : Int)) (natOf (c :: cs) 0) = some i → PySem.intText? ⟨s.toArray⟩ = some i := by
    intro c cs e h
    obtain ⟨n, hn, rfl⟩ := Option.map_eq_some_iff.mp h
    obtain ⟨h1, h2⟩ := natOf_digits _ _ _ hn
    rw [intText_digits (by rw [cps_mk, e]; exact h1) (by rw [cps_mk, e]; simp) (by rw [mk_str]; omega), cps_mk, e]
    unfold NumText.digitsVal
    rw [h2]
  cases s with
  | nil => cases h
  | cons c cs =>
    by_cases z : c = 45
    · subst z
      cases cs with
      | nil => cases h
      | cons d ds =>
        have h : Option.map (fun n : Nat => -(n : Int)) (natOf (d :: ds) 0) = some i := h
        obtain ⟨n, hn, rfl⟩ := Option.map_eq_some_iff.mp h
        obtain ⟨h1, h2⟩ := natOf_digits _ _ _ hn
        rw [intText_neg (cs := d :: ds) (by rw [cps_mk]) h1 (by simp) (by rw [mk_str]; omega)]
        unfold NumText.digitsVal
        rw [h2]
    · refine pos c cs rfl ?_
      rw [← h, intOf]
      · rintro ⟨⟩
      · rintro ⟨⟩; exact z rfl
      · rintro _ ⟨⟩; exact z rfl
theorem text_int (i : Int) : Str.ofString (toString i) = ⟨(intText i).toArray⟩ := by
  rw [Str.ofString_eq_toList]
  congr 2
  cases i with
  | ofNat m =>
    unfold intText natText
    rw [if_neg (show ¬ Int.ofNat m < 0 from Int.not_lt.mpr (Int.natCast_nonneg m))]
    show (Nat.repr m).toList.map Char.toNat = _
    rw [Nat.toList_repr]
    rfl
  | negSucc m =>
    unfold intText natText
    rw [if_pos (Int.negSucc_lt_zero m)]
    show ("-" ++ Nat.repr (m + 1)).toList.map Char.toNat = _
    rw [String.toList_append, List.map_append, Nat.toList_repr]
    rfl
theorem prr_int : CallR X (.type "int") (RaE D X.K .int_) := by
  intro pins s σ H xs us Q I rx hh
  obtain ⟨ρ, h, ps, L, n, rs, w⟩ := hh
  cases rs with
  | nil => exact w.elim
  | cons rp rest =>
    cases rest with
    | cons _ _ => cases rp <;> exact w.elim
    | nil =>
      cases rp with
      | int i => exact call_int1 pins s σ H _ us Q I rx (.inl ⟨i, rfl, want_ok n w (.int _)⟩)
      | bl b => exact call_int1 pins s σ H _ us Q I rx (.inr ⟨b, rfl, want_ok n w (.int _)⟩)
      | str t =>
        have w : WantE D X.K ρ H (fun _ _ => False) Q (if t.length ≤ 640 then (match intOf t with | some i => .ok (.int i) h | none => .bad) else .bad) := w
        by_cases z : t.length ≤ 640
        · rw [if_pos z] at w
          cases e : intOf t with
          | none => rw [e] at w; exact w.elim
          | some i =>
            rw [e] at w
            exact call_int_str pins s σ H _ us Q I rx ⟨_, i, rfl, intOf_text e z, by rw [mk_str]; exact z, want_ok n w (.int _)⟩
        · rw [if_neg z] at w; exact w.elim
      | _ => exact w.elim
theorem prr_str : CallR X (.type "str") (RaE D X.K .str_) := by
  intro pins s σ H xs us Q I rx hh
  obtain ⟨ρ, h, ps, L, n, rs, w⟩ := hh
  cases rs with
  | nil => exact w.elim
  | cons rp rest =>
    cases rest with
    | cons _ _ => cases rp <;> exact w.elim
    | nil =>
      cases rp with
      | int i =>
        have w : WantE D X.K ρ H (fun _ _ => False) Q (if i.natAbs.log2 < 1900 then .ok (.str (intText i)) h else .bad) := w
        by_cases z : i.natAbs.log2 < 1900
        · rw [if_pos z] at w
          refine call_str_int pins s σ H _ us Q I rx ⟨i, rfl, by omega, ?_⟩
          rw [text_int]
          exact want_ok n w (.str _)
        · rw [if_neg z] at w; exact w.elim
      | _ => exact w.elim

/-! ### of lists and tuples -/
theorem ints_map : ∀ {xs : List PV} {is : List Int}, asInts xs = some is → xs = is.map PV.int
  | [], is, h => by rw [asInts] at h; cases h; rfl
  | x :: xs, is, h => by
    cases x <;> first
      | (rw [asInts] at h
         obtain ⟨js, e, rfl⟩ := Option.map_eq_some_iff.mp h
         rw [ints_map e]
         rfl)
      | (exfalso; simp [asInts] at h)
theorem bools_map : ∀ {xs : List PV} {is : List Bool}, asBls xs = some is → xs = is.map PV.bl
  | [], is, h => by rw [asBls] at h; cases h; rfl
  | x :: xs, is, h => by
    cases x <;> first
      | (rw [asBls] at h
         obtain ⟨js, e, rfl⟩ := Option.map_eq_some_iff.mp h
         rw [bools_map e]
         rfl)
      | (exfalso; simp [asBls] at h)
theorem reps_ints {K : PySem.W.Frag} {ρ : List Addr} {H : Hp} : ∀ {is : List Int} {vs : List V}, Reps K ρ H (is.map PV.int) vs → vs = is.map V.int
  | [], _, .nil => rfl
  | _ :: _, _, .cons (.int _) r => by rw [reps_ints r]; rfl
theorem reps_bls {K : PySem.W.Frag} {ρ : List Addr} {H : Hp} : ∀ {is : List Bool} {vs : List V}, Reps K ρ H (is.map PV.bl) vs → vs = is.map V.bl
  | [], _, .nil => rfl
  | _ :: _, _, .cons (.bl _) r => by rw [reps_bls r]; rfl
theorem sum_tupV (hc : X.calm = true) : CallR X (.builtin "sum") (fun vs H Q => ∃ (a : Addr) (ns : List Int), vs = [V.ref a] ∧ SqT X.K H a (ns.map V.int) ∧ Q (.int ns.sum) H) := by
  intro pins s σ H vs us Q I r h
  obtain ⟨a, ns, rfl, hs, q⟩ := h
  obtain ⟨its, rv, hl, _⟩ := I.tuple hs
  rw [Vals.ref1 r]
  have hi := rv.ints
  obtain ⟨xs, e⟩ := hi.allInts.items
  have hn : numsOf (intItems xs).toList = ns := by rw [← e]; exact hi.numsOf
  rw [nums_intItems] at hn
  rw [e] at hl
  refine PySem.W.ktm_sumG (I.ok.hd hc) hl fun h' tk t' hk => ?_
  rw [preSum_eq, List.take_of_length_le (by simp), hn]
  exact ⟨.int _, H, I.kept hk, ⟨_, rfl⟩, q⟩
theorem prr_sum (hc : X.calm = true) : CallR X (.builtin "sum") (RaE D X.K .sum) := by
  intro pins s σ H xs us Q I rx hh
  obtain ⟨ρ, h, ps, L, n, rs, w⟩ := hh
  cases rs with
  | nil => exact w.elim
  | cons rp rest =>
    rename_i p v ps vs
    cases rest with
    | cons _ _ => exact w.elim
    | nil =>
      have w : WantE D X.K ρ H (fun _ _ => False) Q (match seqOf h p with | some xs => (match asInts xs with | some is => .ok (.int is.sum) h | none => .bad) | none => .bad) := w
      cases e : seqOf h p with
      | none => rw [e] at w; exact w.elim
      | some xs =>
        rw [e] at w
        cases e2 : asInts xs with
        | none => simp only [e2] at w; exact w.elim
        | some is =>
          simp only [e2] at w
          obtain ⟨a, vs, rfl, hq, rr⟩ := seq_of n rp e
          rw [ints_map e2] at rr
          obtain rfl := reps_ints rr
          rcases hq with hq | hq
          · exact cr_sum hc pins s σ H _ us Q I rx ⟨a, is, rfl, hq, want_ok n w (.int _)⟩
          · exact sum_tupV hc pins s σ H _ us Q I rx ⟨a, is, rfl, hq, want_ok n w (.int _)⟩
theorem prr_tuple : CallR X (.type "tuple") (RaE D X.K .tuple) := by
  intro pins s σ H xs us Q I rx hh
  obtain ⟨ρ, h, ps, L, n, rs, w⟩ := hh
  cases rs with
  | nil => exact w.elim
  | cons rp rest =>
    rename_i p v ps vs
    cases rest with
    | cons _ _ => cases p <;> exact w.elim
    | nil =>
      have key : ∀ xs, seqOf h p = some xs → (∀ vs a, v = .ref a → SqT X.K H a vs → Reps X.K ρ H xs vs → Rep X.K ρ H (.tup xs) v) → WantE D X.K ρ H (fun _ _ => False) Q (.ok (.tup xs) h) → wpAny (model X.prog X.w) X.A (call (.type "tuple") us) (EP X pins σ Q) X.xe s := by
        intro xs e _ w
        obtain ⟨a, vs, rfl, hq, rr⟩ := seq_of n rp e
        rcases hq with hq | hq
        · refine thn (call_tuple_of pins s σ H _ us (fun v H' => ∃ l, v = .ref l ∧ H l = none ∧ H' = upd H l (.tup vs)) I rx ⟨a, vs, rfl, .inl ⟨hq, fun l hl => ⟨l, rfl, hl, rfl⟩⟩⟩) fun u s1 hq => ?_
          obtain ⟨x, H1, I1, r1, l, rfl, hl, rfl⟩ := hq
          obtain rfl : u = Value.ref l := r1
          exact fin_tup n hl rr I1 w
        · exact call_tuple_of pins s σ H _ us Q I rx ⟨a, vs, rfl, .inr ⟨hq, want_ok n w (.tup hq rr)⟩⟩
      have tt : ∀ xs vs a, v = .ref a → SqT X.K H a vs → Reps X.K ρ H xs vs → Rep X.K ρ H (.tup xs) v := fun xs vs a e q r => by subst e; exact .tup q r
      cases p with
      | tup xs => exact key xs rfl (tt xs) w
      | lst xs => exact key xs rfl (tt xs) w
      | ref r =>
        have w : WantE D X.K ρ H (fun _ _ => False) Q (match seqOf h (.ref r) with | some xs => .ok (.tup xs) h | none => .bad) := w
        cases e : seqOf h (.ref r) with
        | none => rw [e] at w; exact w.elim
        | some xs => rw [e] at w; exact key xs e (tt xs) w
      | _ => exact w.elim
theorem prr_list : CallR X (.type "list") (RaE D X.K .list) := by
  intro pins s σ H xs us Q I rx hh
  obtain ⟨ρ, h, ps, L, n, rs, w⟩ := hh
  cases rs with
  | nil => exact w.elim
  | cons rp rest =>
    rename_i p v ps vs
    cases rest with
    | cons _ _ => exact w.elim
    | nil =>
      have w : WantE D X.K ρ H (fun _ _ => False) Q (match seqOf h p with | some xs => .ok (.lst xs) h | none => .bad) := w
      cases e : seqOf h p with
      | none => rw [e] at w; exact w.elim
      | some xs =>
        rw [e] at w
        obtain ⟨a, vs, rfl, hq, rr⟩ := seq_of n rp e
        refine thn (call_list_of pins s σ H _ us (fun v H' => ∃ l, v = .ref l ∧ H l = none ∧ H' = upd H l (.lst vs)) I rx ⟨a, vs, rfl, hq, fun l hl => ⟨l, rfl, hl, rfl⟩⟩) fun u s1 hq => ?_
        obtain ⟨x, H1, I1, r1, l, rfl, hl, rfl⟩ := hq
        obtain rfl : u = Value.ref l := r1
        exact fin_lst n hl rr I1 w
end
end Mini

/-! Snd11 -/
set_option autoImplicit false
set_option Elab.async false
set_option linter.all false
set_option maxRecDepth 100000
namespace Mini
open PySem PySem.Spec PySem.Calls PyProof.Rows L2

section
variable {D : Side} {X : Cx}
theorem dp_ints {K : PySem.W.Frag} {H : Hp} : ∀ is : List Int, DpAll K H (is.map V.int) (is.map PyData.int)
  | [] => .nil
  | _ :: is => .cons (.int _) (dp_ints is)
theorem reads_intV {h : Heap} {v : Value} {i : Int} {as : List Addr} (r : Reads h v (.int i) as) : RelV (.int i) v := by
  cases r
  exact ⟨_, rfl⟩
theorem depth_intsD : ∀ is : List Int, PyData.depthAll (is.map PyData.int) = 0
  | [] => by simp [PyData.depthAll]
  | _ :: is => by simp [PyData.depthAll, PyData.depth, depth_intsD is]
theorem alike_intsD (is : List Int) : PySem.W.AlikeAll (is.map PyData.int) := by
  refine ⟨fun x hx y hy => ?_, fun x hx => ?_⟩
  · obtain ⟨i, _, rfl⟩ := List.mem_map.mp hx
    obtain ⟨j, _, rfl⟩ := List.mem_map.mp hy
    simp [PySem.W.alike]
  · obtain ⟨i, _, rfl⟩ := List.mem_map.mp hx
    simp
/-- min(a list or tuple of ints, default=d) -/
theorem prr_minD (hc : X.calm = true) (hu : X.A.units + 64 < cLine) : CallRK X (.builtin "min") [Str.ofString "default"] (fun vs zs H Q => vs.length = 1 ∧ RaE D X.K .minD (vs ++ zs) H Q) := by
  intro pins s σ H xs zs us ws Q I rx rz hh
  obtain ⟨hl1, ρ, h, ps, L, n, rs, w⟩ := hh
  match xs, hl1, rx, rs with
  | [v], _, rx, rs =>
    cases rs with
    | cons rp rest =>
      rename_i p ps
      cases rest with
      | nil => exact w.elim
      | cons rd rest =>
        rename_i d dv ps vs
        cases rest with
        | cons _ _ => exact w.elim
        | nil =>
          have w : WantE D X.K ρ H (fun _ _ => False) Q (match seqOf h p with
            | some [] => .ok d h
            | some (x :: xs) => (match asInts (x :: xs) with | some (i :: is) => .ok (.int (is.foldl min i)) h | _ => .bad)
            | none => .bad) := w
          obtain ⟨wd, rfl, rdv⟩ := vals1 rz
          cases e : seqOf h p with
          | none => rw [e] at w; exact w.elim
          | some xs =>
            have go : ∀ is : List Int, asInts xs = some is → WantE D X.K ρ H (fun _ _ => False) Q (match is with | [] => .ok d h | i :: is => .ok (.int (is.foldl min i)) h) → wpAny (model X.prog X.w) X.A (call (.builtin "min") us ([Str.ofString "default"].zip [wd])) (EP X pins σ Q) X.xe s := by
              intro is ei w
              obtain ⟨a, vs, rfl, hq, rr⟩ := seq_of n rp e
              rw [ints_map ei] at rr
              obtain rfl := reps_ints rr
              rw [Vals.ref1 rx]
              have fin0 : is.map PyData.int = [] → ∀ h' tk, (∀ b o, s.heap.get? b = some o → h'.get? b = some o) → EP X pins σ Q wd { s with heap := h', toks := tk } := by
                intro z h' tk k
                have z : is = [] := by simpa using z
                subst z
                exact ⟨dv, H, I.kept k, rdv, want_ok n w rd⟩
              have fin1 : ∀ (y : PyData) (ys : List PyData) (v : Value) h' tk bs, is.map PyData.int = y :: ys → Reads h' v (PySem.W.minD y ys) bs → (∀ b o, s.heap.get? b = some o → h'.get? b = some o) → EP X pins σ Q v { s with heap := h', toks := tk } := by
                intro y ys v h' tk bs z r k
                cases is with
                | nil => cases z
                | cons i is =>
                  cases z
                  rw [PySem.W.minD_ints] at r
                  exact ⟨.int _, H, I.kept k, reads_intV r, want_ok n w (.int _)⟩
              have room : X.A.units + 1 + PyData.depthAll (is.map PyData.int) < cLine := by rw [depth_intsD]; omega
              rcases hq with hq | hq
              · obtain ⟨its, rv, hl, _⟩ := I.list hq
                obtain ⟨as, rA⟩ := Dp.readsAll I _ _ _ (dp_ints is) rv
                exact PySem.W.min_list_default (I.ok.hd hc) hl.isList (vs := its.toArray) (xs := is.map PyData.int) (as := as) rA (alike_intsD is) room fin0 (fun y ys i v h' tk bs z _ r k => fin1 y ys v h' tk bs z r k)
              · obtain ⟨its, rv, hl, _⟩ := I.tuple hq
                obtain ⟨as, rA⟩ := Dp.readsAll I _ _ _ (dp_ints is) rv
                exact PySem.W.min_tuple_default (I.ok.hd hc) hl (vs := its.toArray) (xs := is.map PyData.int) (as := as) rA (alike_intsD is) room fin0 (fun y ys i v h' tk bs z _ r k => fin1 y ys v h' tk bs z r k)
            rw [e] at w
            cases xs with
            | nil => exact go [] rfl w
            | cons x xs =>
              cases ei : asInts (x :: xs) with
              | none => simp only [ei] at w; exact w.elim
              | some is =>
                simp only [ei] at w
                cases is with
                | nil => exact w.elim
                | cons i is => exact go _ ei w

/-! ### sorted(a list) -/
theorem each_reps {K : PySem.W.Frag} {ρ : List Addr} {H : Hp} : ∀ {ps : List PV} {vs : List V} {us : List Value}, Reps K ρ H ps vs → Vals vs us → PySem.W.EachIs (fun u p => ∃ v, RelV v u ∧ Rep K ρ H p v) us ps
  | _, _, _, .nil, .nil => .nil
  | _, _, _, .cons a b, .cons c d => .cons ⟨_, c, a⟩ (each_reps b d)
theorem reps_each {K : PySem.W.Frag} {ρ : List Addr} {H : Hp} : ∀ {ps : List PV} {us : List Value}, PySem.W.EachIs (fun u p => ∃ v, RelV v u ∧ Rep K ρ H p v) us ps → ∃ vs, Vals vs us ∧ Reps K ρ H ps vs
  | _, _, .nil => ⟨[], .nil, .nil⟩
  | _, _, .cons ⟨v, r1, r2⟩ t => let ⟨vs, h1, h2⟩ := reps_each t; ⟨v :: vs, .cons r1 h1, .cons r2 h2⟩
theorem each_reads {ρ : List Addr} {H : Hp} {pins : List (Addr × Obj)} {σ : L2.St} {s : Shared} (I : Inv X pins σ H s) : ∀ {ps : List PV} {us : List Value}, flats ps = true → PySem.W.EachIs (fun u p => ∃ v, RelV v u ∧ Rep X.K ρ H p v) us ps → PySem.W.EachIs (fun u p => ∃ as, Reads s.heap u (toD p) as) us ps
  | _, _, _, .nil => .nil
  | p :: ps, _, f, .cons ⟨v, r1, r2⟩ t => by
    rw [flats, List.all_cons, Bool.and_eq_true] at f
    exact .cons (Dp.reads I _ v _ (rep_dp 24 p v f.1 r2) r1) (each_reads I f.2 t)
theorem prr_sorted (hu : X.A.units + 64 < cLine) : CallR X (.builtin "sorted") (RaE D X.K .sorted) := by
  intro pins s σ H xs us Q I rx hh
  obtain ⟨ρ, h, ps, L, n, rs, w⟩ := hh
  cases rs with
  | nil => exact w.elim
  | cons rp rest =>
    rename_i p v ps vs
    cases rest with
    | cons _ _ => exact w.elim
    | nil =>
      have w : WantE D X.K ρ H (fun _ _ => False) Q (match view h p with
        | .lst xs => if flats xs && allAlike xs && sortable xs && decide (xs.length ≤ lim) then .ok (.lst (isort xs)) h else .bad
        | _ => .bad) := w
      cases e : view h p <;> rw [e] at w <;> first | exact w.elim | skip
      rename_i xs
      dsimp only at w
      cases c : (flats xs && allAlike xs && sortable xs && decide (xs.length ≤ lim)) with
      | false => rw [c] at w; exact w.elim
      | true =>
        rw [c, if_pos rfl] at w
        rw [Bool.and_eq_true, Bool.and_eq_true, Bool.and_eq_true, decide_eq_true_eq] at c
        obtain ⟨⟨⟨c1, c2⟩, c3⟩, c4⟩ := c
        have fl : ∀ x ∈ xs, flat x = true := fun x hx => List.all_eq_true.mp c1 x hx
        have al : ∀ x ∈ xs, ∀ y ∈ xs, alike x y = true := fun x hx y hy => List.all_eq_true.mp (List.all_eq_true.mp c2 x hx) y hy
        obtain ⟨a, vs, rfl, hq, rr⟩ := view_lst n rp e
        obtain ⟨its, rv, hl, hz⟩ := I.list hq
        rw [Vals.ref1 rx]
        have lm := lim_size
        have E1 := each_reps rr rv
        refine PySem.W.sorted_data (enc := toD) (bs := xs) (vs := its) (R := fun u p => ∃ v, RelV v u ∧ Rep X.K ρ H p v) hl.isList E1 (each_reads I c1 E1) (fun d hd d' hd' => ?_) ?_ (by omega) (fun b hb => ?_) fun out hlen hout => ?_
        · obtain ⟨x, hx, rfl⟩ := List.mem_map.mp hd
          obtain ⟨y, hy, rfl⟩ := List.mem_map.mp hd'
          exact alike_toD 24 x y (fl x hx) (fl y hy) (al x hx y hy)
        · unfold sortable at c3
          rw [Bool.or_eq_true] at c3
          rcases c3 with c3 | c3
          · refine .inl fun d hd => ?_
            obtain ⟨x, hx, rfl⟩ := List.mem_map.mp hd
            have := List.all_eq_true.mp c3 x hx
            cases x <;> simp [headed] at this
            rename_i ys
            cases ys with
            | nil => simp [headed] at this
            | cons y ys => exact ⟨_, _, rfl⟩
          · refine .inr fun d hd => ?_
            obtain ⟨x, hx, rfl⟩ := List.mem_map.mp hd
            have := List.all_eq_true.mp c3 x hx
            have f := fl x hx
            cases x <;> first | (simp [noTup] at this; done) | (simp [flat, flatN] at f; done) | (constructor <;> simp [toD])
        · have := flat_deep (fl b hb)
          omega
        · rw [isort_eq (fun x hx y hy => plt_toD 24 x y (fl x hx) (fl y hy) (al x hx y hy))] at hout
          obtain ⟨ws, q1, q2⟩ := reps_each hout
          obtain ⟨ep, he'⟩ := PyProof.Rows.sortedAll_at s.heap its out.toArray
          have hlen2 : ws.length ≤ sizeLine := by
            have := q1.length
            omega
          have I1 : Inv X pins σ (upd H (s.heap.objs.size + 1) (.lst ws)) { s with heap := sortedAll s.heap its out.toArray } := I.laid (t' := s.toks) (fun _ _ => PyProof.Rows.sortedAll_old) (Nat.le_succ _) ⟨hlen2, out, ep, q1, he'⟩
          exact fin_lst n (I.hok.fresh (Nat.le_succ _)) q2 I1 w
end
end Mini

/-! Snd12 -/
set_option autoImplicit false
set_option Elab.async false
set_option linter.all false
set_option maxRecDepth 100000
namespace Mini
open PySem PySem.Spec PySem.Calls PyProof.Rows L2

/-! ### o[i] = v, x op= y, raise, try -/
def RgE (D : Side) (K : PySem.W.Frag) (o : Bop) : R2 := fun x y H Q => ∃ (ρ : List Addr) (h : Hh) (p q : PV) (L : Lk), Now D K ρ h H ∧ Rep K ρ H p x ∧ Rep K ρ H q y ∧ WantE D K ρ H (fun _ _ => False) Q (augE o p q L h)
theorem nox_aug (o : Bop) (p q : PV) (L : Lk) (h : Hh) (c : Nat) (h' : Hh) : augE o p q L h ≠ .exc c h' := by
  intro e
  unfold augE at e
  repeat' split at e
  all_goals cases e
/-- a list grows by a list's items -/
theorem grow_list (l : Addr) (xs : Array Value) (n : Nat) (b : Addr) (ys : Array Value) (m : Nat) (d2 : Option Addr) (s2 : Array (Option Value)) (h0 : ¬(!xs.isEmpty && Builtin.List.listTooLong (xs.size + ys.size)) = true) (h1 : xs.size ≤ sizeLine) (h2 : xs.size + ys.size ≤ sizeLine + 1) :
    Meets (Builtin.«list.__iadd__» ⟨[.ref l, .ref b], []⟩) (fun _ R s => s.heap.get? l = some { cls := .type "list", data := .seq xs n } ∧ s.heap.get? b = some { cls := .type "list", dict := d2, data := .seq ys m, slots := s2 } ∧
      R (.ok (.ret (Value.ref l))) { s with heap := s.heap.update l (Obj.mapSeq fun x => x ++ ys), toks := s.toks }) :=
  .of_wp fun prog w A R s h => by
    obtain ⟨hp, g, d, tk, os⟩ := s
    obtain ⟨hl, hb, h⟩ := h
    have f3 := AutoSeq1.sub_list_list
    have hz' : (xs ++ ys).size ≤ sizeLine + 1 := by rw [Array.size_append]; exact h2
    wp_walk using (wpAny_updateSeq hl rfl (hz := h1) (_hz' := hz')), wpAny_loadPart' hl, wpAny_loadPart' hb
    exact ⟨_, rfl, h⟩
section
variable {D : Side} {X : Cx}
theorem ref_at {ρ : List Addr} {h : Hh} {H : Hp} {r : Nat} {a : Addr} {xs : List PV} (n : Now D X.K ρ h H) (er : ρ[r]? = some a) (e : h[r]? = some (.lst xs)) : ∃ vs, H a = some (.lst vs) ∧ Reps X.K ρ H xs vs := by
  obtain ⟨a', h1, vs, h2, h3⟩ := n.rep.at_ _ _ e
  rw [er] at h1
  cases h1
  exact ⟨vs, h2, h3⟩
theorem opr_iadd : PIp X .Add (RgE D X.K .add) := by
  intro pins s σ H x y v u Q I rx ry hh
  obtain ⟨ρ, h, p, q, L, n, rp, rq, w⟩ := hh
  cases rp with
  | int i =>
    cases rq with
    | int j => exact ip_add pins s σ H _ _ v u Q I rx ry ⟨i, j, rfl, rfl, want_ok n w (.int _)⟩
    | _ => exact w.elim
  | ref er =>
    rename_i r a
    have w : WantE D X.K ρ H (fun _ _ => False) Q (match h[r]?, view h q with
      | some (.lst xs), .lst ys => if L.ok r && decide (xs.length + ys.length ≤ lim) then .ok (.ref r) (h.set r (.lst (xs ++ ys))) else .bad
      | _, _ => .bad) := by cases rq <;> exact w
    cases e : h[r]? with
    | none => rw [e] at w; exact w.elim
    | some ob =>
      rw [e] at w
      cases ob with
      | lst xs =>
        cases e2 : view h q with
        | lst ys =>
          rw [e2] at w
          dsimp only at w
          cases c : (L.ok r && decide (xs.length + ys.length ≤ lim)) with
          | false => rw [c] at w; exact w.elim
          | true =>
            rw [c, if_pos rfl] at w
            rw [Bool.and_eq_true, decide_eq_true_eq] at c
            obtain ⟨vs, h1, h2⟩ := ref_at n er e
            obtain ⟨b, ws, rfl, hb, rb⟩ := view_lst n rq e2
            cases rx
            cases ry
            obtain ⟨z, its, n1, r1, hl, eo⟩ := I.lstM h1
            obtain ⟨its2, r2, hl2, z2⟩ := I.list hb
            obtain ⟨⟨cls2, dd2, data2, sl2⟩, ho2, hc2, n2, hd2⟩ := hl2.isList
            simp only at hc2 hd2
            subst hc2 hd2
            have lm := lim_size
            have l1 := h2.length
            have l2 := rb.length
            have l3 := r2.length
            have hsz : its.toArray.size + its2.toArray.size ≤ sizeLine := by rw [List.size_toArray, List.size_toArray]; omega
            have hlong : ¬ (!its.toArray.isEmpty && Builtin.List.listTooLong (its.toArray.size + its2.toArray.size)) = true := by
              rw [notLongL hsz, Bool.and_false]
              exact Bool.false_ne_true
            refine iadd_road ⟨_, eo, rfl⟩ ⟨_, ho2, rfl⟩ (call_meets PySem.F.slot_list_iadd ⟨_, eo, rfl⟩ PySem.F.entry_list_iadd (PySem.F.args_list_iadd_2 _ _)
              (grow_list a its.toArray n1 b its2.toArray n2 dd2 sl2 hlong (by rw [List.size_toArray]; omega) (by omega)) ⟨eo, ho2, ?_⟩)
            refine ⟨.ref a, _, I.lset (its' := its ++ its2) (t' := s.toks) h1 eo (by simp) (r1.append r2) (by rw [List.length_append]; omega), rfl, ?_⟩
            have m := n.write (vs := vs) (ws := vs ++ ws) e er (h2.append rb)
            exact w _ _ _ m (.ref er)
        | _ => rw [e2] at w; exact w.elim
      | _ => exact w.elim
  | _ => cases rq <;> exact w.elim
theorem opr_isub : PIp X .Sub (RgE D X.K .sub) := by
  intro pins s σ H x y v u Q I rx ry hh
  obtain ⟨ρ, h, p, q, L, n, rp, rq, w⟩ := hh
  cases rp with
  | int i =>
    cases rq with
    | int j => exact ip_sub pins s σ H _ _ v u Q I rx ry ⟨i, j, rfl, rfl, want_ok n w (.int _)⟩
    | _ => exact w.elim
  | _ => cases rq <;> exact w.elim
theorem opr_imul : PIp X .Mult (RgE D X.K .mul) := by
  intro pins s σ H x y v u Q I rx ry hh
  obtain ⟨ρ, h, p, q, L, n, rp, rq, w⟩ := hh
  cases rp with
  | int i =>
    cases rq with
    | int j =>
      have w : WantE D X.K ρ H (fun _ _ => False) Q (if mulOk i j then .ok (.int (i * j)) h else .bad) := w
      cases c : mulOk i j with
      | false => rw [c] at w; exact w.elim
      | true =>
        rw [c, if_pos rfl] at w
        obtain ⟨t, rfl⟩ := rx
        obtain ⟨t', rfl⟩ := ry
        exact imul_int (hm := mulOk_ok c) ⟨.int _, H, I.tok _, ⟨_, rfl⟩, want_ok n w (.int _)⟩
    | _ => exact w.elim
  | _ => cases rq <;> exact w.elim
/-- o[i] = v -/
def RsE (D : Side) (K : PySem.W.Frag) : TSet := fun x y z H Q => ∃ (ρ : List Addr) (h : Hh) (p i q : PV) (L : Lk), Now D K ρ h H ∧ Rep K ρ H p x ∧ Rep K ρ H i y ∧ Rep K ρ H q z ∧ ∃ h', setE p i q L h = some h' ∧ ∀ H', Nxt D K ρ H ρ h' H' → Q H'
theorem set_all : PSet X (RsE D X.K) := by
  intro pins s σ H o i v ov iv u Q I ro ri rv hh
  obtain ⟨ρ, h, p, k, q, L, n, rp, rk, rq, h', e, hq⟩ := hh
  cases rp with
  | ref er =>
    rename_i r a
    cases rk with
    | int j =>
      unfold setE at e
      dsimp only at e
      cases e1 : h[r]? with
      | none => rw [e1] at e; cases e
      | some ob =>
        rw [e1] at e
        cases ob with
        | lst xs =>
          dsimp only at e
          cases c : L.ok r with
          | false => rw [c] at e; cases e
          | true =>
            rw [c, if_pos rfl] at e
            cases e2 : ixOf xs.length j with
            | none => rw [e2] at e; cases e
            | some m =>
              rw [e2] at e
              cases e
              obtain ⟨vs, h1, h2⟩ := ref_at n er e1
              refine set_list pins s σ H _ _ v ov iv u Q I ro ri rv ⟨a, vs, j, m, rfl, rfl, h1, by rw [← h2.length, ← ixOf_eq]; exact e2, ?_⟩
              exact hq _ (n.write (vs := vs) e1 er (h2.set rq m))
        | _ => cases e
    | _ => cases e
  | _ => cases rk <;> cases e
end

section
variable {D : Side} {C : Cl} {F : Fam} {W : WW}
/-- o[i] = e -/
theorem snds_set {o i e : Expr} {io ii ie : E} {tpos pos : Pos} (he : SE D C F W e ie) (ho : SE D C F W o io) (hi : SE D C F W i ii)
    (ha : ∀ X : Cx, ∀ v, assign (.Subscript o i tpos) X.env v = (do
      let ov ← holding [v] (eval o X.env)
      let iv ← holding [v, ov] (eval i X.env)
      standAt tpos
      holding [v, ov, iv] (setItem ov iv v)
      release [v, ov, iv] []))
    (hs : ∀ X, F.P X → swapsWithSole [.Subscript o i tpos] e pos.line X.env = pure false) (hw : ∀ X, F.P X → swappedStores [.Subscript o i tpos] e X.env = pure none)
    (h1 : ∀ X : Cx, (assignEach [.Subscript o i tpos] X.env).map (·.2) = [assign (.Subscript o i tpos) X.env]) : SS D C F W (.Assign [.Subscript o i tpos] e pos) (.set io ii ie) := by
  obtain ⟨te, pe, se⟩ := he
  obtain ⟨to, po, so⟩ := ho
  obtain ⟨ti, pi, si⟩ := hi
  refine ⟨tAsg te (gSub to ti (RsE D F.K)), fun X hX => ps_asg (pe X hX) (pg_sub (po X hX) (pi X hX) (F.hK X hX ▸ set_all) (ha X)) (hs X hX) (hw X hX) (h1 X), fun L σ H env h ρ De n er w => ?_⟩
  unfold evS at w
  refine se L σ H env h ρ _ n er ?_
  cases ea : evE C L ie env h with
  | bad => rw [ea] at w; exact w
  | exc c h1 => rw [ea] at w; exact fun H' ρ' m => w σ H' ρ' m
  | ok q h1 =>
    rw [ea] at w
    intro v H1 ρ1 n1 rq
    dsimp only at w
    refine so L σ H1 env h1 ρ1 _ n1.now (er.mono n1.grow n1.pre) ?_
    cases eb : evE C L io env h1 with
    | bad => rw [eb] at w; exact w
    | exc c h2 => rw [eb] at w; exact fun H' ρ' m => w σ H' ρ' (n1.trans m)
    | ok p h2 =>
      rw [eb] at w
      intro x H2 ρ2 n2 rp
      dsimp only at w
      have n12 := n1.trans n2
      refine si L σ H2 env h2 ρ2 _ n2.now (er.mono n12.grow n12.pre) ?_
      cases ec : evE C L ii env h2 with
      | bad => rw [ec] at w; exact w
      | exc c h3 => rw [ec] at w; exact fun H' ρ' m => w σ H' ρ' (n12.trans m)
      | ok k h3 =>
        rw [ec] at w
        intro y H3 ρ3 n3 rk
        dsimp only at w
        have n13 := n12.trans n3
        cases ed : setE p k q L h3 with
        | none => rw [ed] at w; exact w.elim
        | some h4 =>
          rw [ed] at w
          exact ⟨ρ3, h3, p, k, q, L, n3.now, rp.mono n3.grow n3.pre, rk, rq.mono (n2.trans n3).grow (n2.trans n3).pre, h4, ed, fun H4 n4 => w σ H4 ρ3 (n13.trans n4) (er.mono (n13.trans n4).grow (n13.trans n4).pre)⟩
/-- x op= e -/
theorem snds_aug {i : Nat} {x : Str} {e : Expr} {ie : E} {o : Bop} {op : Operator} {p2 pos : Pos} (hN : ∀ X, F.P X → X.N.Nodup) (hi : ∀ X, F.P X → X.N[i]? = some x) (hx : ∀ X, F.P X → Loc X.env.scope x) (hf : ∀ X, F.P X → X.fn x = true ∨ X.env.scope.names.lookup x = some .local)
    (hp : ∀ X, F.P X → PIp X op (RgE D F.K o)) (he : SE D C F W e ie) : SS D C F W (.AugAssign (.Name x p2) op e pos) (.aug i o ie) := by
  obtain ⟨te, pe, se⟩ := he
  refine ⟨_, fun X hX => ps_aug (hN X hX) (hi X hX) (hx X hX) (pe X hX) (hp X hX) (hf X hX), fun L σ H env h ρ De n er w => ?_⟩
  unfold evS at w
  cases e1 : env[i]? with
  | none => rw [e1] at w; exact w.elim
  | some oa =>
    cases oa with
    | none => rw [e1] at w; exact w.elim
    | some a =>
      rw [e1] at w
      dsimp only at w
      obtain ⟨v, h1, h2⟩ := er.2 i a e1
      refine ⟨v, h1, se L σ H env h ρ _ n er ?_⟩
      cases ea : evE C L ie env h with
      | bad => rw [ea] at w; exact w
      | exc c h1 => rw [ea] at w; exact fun H' ρ' m => w σ H' ρ' m
      | ok b h1 =>
        rw [ea] at w
        intro y H1 ρ1 n1 rb
        dsimp only at w
        refine ⟨ρ1, h1, a, b, L, n1.now, h2.mono n1.grow n1.pre, rb, ?_⟩
        cases ec : augE o a b L h1 with
        | bad => rw [ec] at w; exact w
        | exc c h2 => exact absurd ec (nox_aug o a b L h1 c h2)
        | ok q h2 =>
          rw [ec] at w
          intro z H2 ρ2 n2 rq
          exact w _ H2 ρ2 (n1.trans n2) ((er.mono (n1.trans n2).grow (n1.trans n2).pre).set rq i)
/-- raise X('..') -/
theorem snds_raise {c : Nat} {C0 : Addr} {Wx : WX} {e : Expr} {pos : Pos} (hc : ∀ X, F.P X → X.calm = true) (tk : ∀ X, F.P X → Takes X Wx) (hW : ∀ σ H, W c σ H = Wx (.ref C0) none σ H) (he : ∀ X, F.P X → PMk X e (fun _ H Q => Q (.ref C0) none H)) :
    SS D C F W (.Raise (some e) none pos) (.raise c) :=
  ⟨_, fun X hX => ps_raise (hc X hX) (tk X hX) (he X hX), fun L σ H env h ρ De n er w => by unfold evS at w; show Wx (.ref C0) none σ H; rw [← hW]; exact w σ H ρ n.nxt⟩

/-! ### try: one statement, except X: a suite that looks at no name -/
def Fam.tr (F : Fam) (W' : WX) : Fam where
  K := F.K
  P := fun Y => ∃ (X : Cx) (pn : List (Addr × Obj)) (xe : Value → Shared → Prop), F.P X ∧ Y = X.tr pn xe ∧ Takes (X.tr pn xe) W' ∧ PassesOwn (model X.prog X.w) X.A X.env xe
  hK := fun Y ⟨X, pn, xe, hX, e, _⟩ => by rw [e]; exact F.hK X hX
def Fam.suite (F : Fam) : Fam where
  K := F.K
  P := fun Y => ∃ (X : Cx) (a : Addr) (pn : List (Addr × Obj)), F.P X ∧ Y = X.suite a pn
  hK := fun Y ⟨X, a, pn, hX, e⟩ => by rw [e]; exact F.hK X hX
/-- exceptions by classes -/
def WofX (cls : Nat → Addr) (Wx : WX) : WW := fun c σ H => Wx (.ref (cls c)) none σ H
theorem snds_try1 {cls : Nat → Addr} {Wx : WX} {st : Stmt} {is : S} {c : Nat} {x : Str} {b₀ : Stmt} {suite : List Stmt} {ihb : Ss} {np pos pos' : Pos} (hs : ∀ X, F.P X → X.stack = X.env :: X.outer) (hf : ∀ X, F.P X → X.env.frame = some X.env.locals)
    (hn : ∀ X, F.P X → Names X x (.ref (cls c))) (tk : ∀ X, F.P X → Takes X Wx) (hb : ∀ W' : WX, SS D C (F.tr W') (WofX cls W') st is) (hsu : SSs D C F.suite (fun _ _ _ => False) (b₀ :: suite) ihb)
    (hisa : ∀ c', PySem.W.exmOne F.K (.ref (cls c')) (.ref (cls c)) = some (C.isa c' c)) :
    SS D C F (WofX cls Wx) (.Try [st] [.ExceptHandler (some (.Name x np)) none (b₀ :: suite) pos'] [] [] pos) (.try1 is c ihb) := by
  obtain ⟨tsu, psu, ssu⟩ := hsu
  have hb' : ∀ W' : WX, SSs D C (F.tr W') (WofX cls W') [st] (.cons is .nil) := fun W' => sndss_cons (hb W') sndss_nil
  refine ⟨fun De σ H => (Classical.choose (hb' (wOnly F.K (.ref (cls c)) (fun _ _ _ => tsu) Wx De))) De σ H, fun X hX => ?_, fun L σ H env h ρ De n er w => ?_⟩
  · have key := ps_try_only (X := X) (x := x) (c := .ref (cls c)) (body := [st]) (suite := suite) (b₀ := b₀) (np := np) (pos := pos) (pos' := pos') (tb := fun W' => Classical.choose (hb' W')) (ts := fun _ _ _ => tsu) (Wout := Wx) (hs X hX) (hf X hX) (hn X hX) (tk X hX)
      (fun W' pn xe t1 t2 => (Classical.choose_spec (hb' W')).1 _ ⟨X, pn, xe, hX, rfl, t1, t2⟩) (fun a oe cl d pn _ _ => psu _ ⟨X, a, _, hX, rfl⟩)
    rw [F.hK X hX] at key
    exact key
  · refine (Classical.choose_spec (hb' (wOnly F.K (.ref (cls c)) (fun _ _ _ => tsu) Wx De))).2 L σ H env h ρ De n er ?_
    unfold evS at w
    unfold evSs
    cases ea : evS C L is env h with
    | nx env1 h1 => rw [ea] at w; unfold evSs; exact w
    | rt p h1 => rw [ea] at w; exact w
    | bk env1 h1 => rw [ea] at w; exact w
    | ct env1 h1 => rw [ea] at w; exact w
    | bad => rw [ea] at w; exact w
    | ex c' h1 =>
      rw [ea] at w
      dsimp only at w
      intro σ' H' ρ' m
      refine ⟨C.isa c' c, hisa c', fun hi a na => ?_, fun hi => ?_⟩
      · rw [if_pos hi] at w
        refine ssu L σ' H' [] h1 ρ' De m.now ⟨Nat.zero_le _, fun i p e => by simp at e⟩ ?_
        cases eb : evSs C L ihb [] h1 with
        | rt p h2 =>
          rw [eb] at w
          exact fun v H2 ρ2 n2 r2 => w v H2 ρ2 (m.trans n2) r2
        | _ => rw [eb] at w; exact w.elim
      · rw [if_neg (by rw [hi]; exact Bool.false_ne_true)] at w
        exact w σ' H' ρ' m
end
end Mini

/-! Snd13 -/
set_option autoImplicit false
set_option Elab.async false
set_option linter.all false
set_option maxRecDepth 100000
namespace Mini
open PySem PySem.Spec PySem.Calls PyProof.Rows L2

/-! ### zip of two, each a list or a tuple -/
def SqK (k : Bool) (K : PySem.W.Frag) (H : Hp) (a : Addr) (xs : List V) : Prop := if k then SqL K H a xs else SqT K H a xs
def IterK (k : Bool) (h : Heap) (it a : Addr) (i : Nat) : Prop := if k then h.IsListIter it a i else h.IsTupleIter it a i
def SeqK (k : Bool) (h : Heap) (a : Addr) (its : Array Value) : Prop := if k then h.IsList a its else h.IsTuple a its
theorem drawsK (k : Bool) {prog : Program} {w : World} {A : Around} (hh : A.handled = none) (it a : Addr) (hne : a ≠ it) (its : Array Value) :
    Draws prog w A it [it, a] its.size (fun i v => its[i]? = some v) (fun i h => IterK k h it a i ∧ SeqK k h a its) := by
  cases k with
  | true => exact Draws.list hh it a hne its
  | false => exact Draws.tuple hh it a hne its
theorem SqK.vals {k : Bool} {X : Cx} {pins : List (Addr × Obj)} {σ : L2.St} {H : Hp} {s : Shared} {a : Addr} {xs : List V} (I : Inv X pins σ H s) (h : SqK k X.K H a xs) : ∃ its : List Value, Vals xs its ∧ SeqK k s.heap a its.toArray ∧ a < s.heap.objs.size := by
  cases k with
  | true =>
    obtain ⟨its, r, p, _⟩ := I.list h
    exact ⟨its, r, p.isList, p.lt⟩
  | false =>
    obtain ⟨its, r, p, _⟩ := I.tuple h
    obtain ⟨o, ho, _⟩ := id p
    exact ⟨its, r, p, Heap.lt_size ho⟩
theorem SqK.inj {k : Bool} {X : Cx} {pins : List (Addr × Obj)} {σ : L2.St} {H : Hp} {s : Shared} {a : Addr} {xs ys : List V} (I : Inv X pins σ H s) (h : SqK k X.K H a xs) (h' : SqK k X.K H a ys) : xs = ys := by
  cases k with
  | true => exact I.list_inj h h'
  | false => exact I.tuple_inj h h'
def ItzK (j k : Bool) (K : PySem.W.Frag) (a b : Addr) : It :=
  ⟨fun i H => ∃ (xs ys : List V) (x y : V), SqK j K H a xs ∧ SqK k K H b ys ∧ xs[i]? = some x ∧ ys[i]? = some y,
    fun i H v H' => ∃ T x y, v = .ref T ∧ H T = none ∧ H' = upd H T (.tup [x, y]) ∧ (∀ xs, SqK j K H a xs → xs[i]? = some x) ∧ ∀ ys, SqK k K H b ys → ys[i]? = some y,
    fun i H => ∃ xs ys : List V, SqK j K H a xs ∧ SqK k K H b ys ∧ (xs.length = i ∧ i ≤ ys.length ∨ ys.length = i ∧ i ≤ xs.length)⟩
theorem iterK_at {k : Bool} {h : Heap} {it a : Addr} {i : Nat} (x : IterK k h it a i) : ∃ o, h.get? it = some o ∧ ∀ v, o.data ≠ .cell v := by
  cases k with
  | true => obtain ⟨o, e, _, d⟩ := x; exact ⟨o, e, fun v q => by rw [d] at q; cases q⟩
  | false => obtain ⟨o, e, _, d⟩ := x; exact ⟨o, e, fun v q => by rw [d] at q; cases q⟩
theorem iterK_keep {k : Bool} {h h' : Heap} {it a : Addr} {i : Nat} (x : IterK k h it a i) (e : ∀ o, h.get? it = some o → h'.get? it = some o) : IterK k h' it a i := by
  cases k with
  | true => exact Heap.IsListIter.at x e
  | false => exact Heap.IsTupleIter.at x e
theorem turn_zipK {P : Program} {w : World} {K : PySem.W.Frag} {elts : List Expr} {kk : Nat} {tpos : Pos} {j k : Bool} {a b z TI TO i1 i2 : Addr} (S : ZipSep2 z TI TO i1 i2 [i1, a] [i2, b]) (ne1 : a ≠ i1) (ne2 : b ≠ i2) :
    Turn P w K (.Tuple elts kk tpos) (ItzK j k K a b) [z, TI, TO, i1, i2] z (fun i h => IsZip h z TI TO .none ∧ IsTupOf2 h TI (.ref i1) (.ref i2) ∧ (∃ x y, IsTupOf2 h TO x y) ∧ IterK j h i1 a i ∧ IterK k h i2 b i) where
  mem := by simp
  obj := fun i h st c hc => by
    obtain ⟨hz, hTI, ⟨x, y, hTO⟩, h1, h2⟩ := st
    have e' : c = z ∨ c = TI ∨ c = TO ∨ c = i1 ∨ c = i2 := by simpa using hc
    rcases e' with q | q | q | q | q
    · rw [q]; exact ⟨_, hz, fun v q => nomatch q⟩
    · rw [q]; exact ⟨_, hTI, fun v q => nomatch q⟩
    · rw [q]; exact ⟨_, hTO, fun v q => nomatch q⟩
    · rw [q]; exact iterK_at h1
    · rw [q]; exact iterK_at h2
  keep := fun i h h' st kp => by
    obtain ⟨hz, hTI, ⟨x, y, hTO⟩, h1, h2⟩ := st
    exact ⟨kp z (by simp) _ hz, kp TI (by simp) _ hTI, ⟨x, y, kp TO (by simp) _ hTO⟩, iterK_keep h1 fun o q => kp i1 (by simp) o q, iterK_keep h2 fun o q => kp i2 (by simp) o q⟩
  item := by
    intro X hP hw hK hc i pins s σ H E I hf st hg
    subst hP hw hK
    obtain ⟨hz, hTI, ⟨x0, y0, hTO⟩, h1, h2⟩ := st
    obtain ⟨xs, ys, x, y, hqx, hqy, hx, hy⟩ := hg
    obtain ⟨its, rv, p, al⟩ := hqx.vals I
    obtain ⟨its2, rv2, p2, bl⟩ := hqy.vals I
    obtain ⟨u, hu, ru⟩ := rv.get hx
    obtain ⟨u2, hu2, ru2⟩ := rv2.get hy
    have hzl : z < s.heap.objs.size := Heap.lt_size hz
    have hh := I.ok.hd hc
    refine wpAny_pyNext_zipD2_item S (drawsK j (A := X.A.in1) hh i1 a ne1 its.toArray) (drawsK k (A := X.A.in1) hh i2 b ne2 its2.toArray) hz hTI hTO ⟨h1, p⟩ ⟨h2, p2⟩ (by simpa using (List.getElem?_eq_some_iff.mp hu).1) (by simpa using (List.getElem?_eq_some_iff.mp hu2).1) fun x1 x2 h' tk q1 q2 z' TO' st1 st2 hT hsz hk => ?_
    have e1 : x1 = u := by have q1 : its.toArray[i]? = some x1 := q1; rw [List.getElem?_toArray, hu] at q1; exact (Option.some.inj q1).symm
    have e2 : x2 = u2 := by have q2 : its2.toArray[i]? = some x2 := q2; rw [List.getElem?_toArray, hu2] at q2; exact (Option.some.inj q2).symm
    subst e1 e2
    refine ⟨_, rfl, wpAny_letOwnedTupleGo_zip (s := { s with heap := h', toks := tk }) z' fun h'' z'' sb => ?_⟩
    have hT2 : h''.get? s.heap.objs.size = some { cls := .type "tuple", data := .seq #[x1, x2] } := (sb.2 _ (Nat.ne_of_gt hzl)).trans hT
    have new : ObjOk X.prog X.w (upd H s.heap.objs.size (.tup [x, y])) h'' s.heap.objs.size (.tup [x, y]) :=
      ⟨by show 2 ≤ sizeLine; decide, [x1, x2], .cons ru (.cons ru2 .nil), ⟨_, hT2, rfl, _, rfl⟩⟩
    have I1 : Inv X pins σ (upd H s.heap.objs.size (.tup [x, y])) { s with heap := h'', toks := tk } :=
      I.turnedNew (t' := tk) (ch := [z, TI, TO, i1, i2]) (fun c o hb q => (sb.2 c (fun q' => hb (by simp [q']))).trans (hk c o (fun q' => hb (by simp [q'])) (fun q' => hb (by simp [q'])) (fun q' => hb (by simp [q'])) (fun q' => hb (by simp [q'])) q)) hf (Nat.le_refl _) new
    refine ⟨.ref s.heap.objs.size, _, I1, rfl, ⟨_, x, y, rfl, I.hok.fresh (Nat.le_refl _), rfl, fun l hl => by rw [hl.inj I hqx]; exact hx, fun l hl => by rw [hl.inj I hqy]; exact hy⟩, ⟨z'', ?_, ⟨x1, x2, ?_⟩, ?_, ?_⟩, fun c hcm => ?_⟩
    · exact (sb.2 _ S.TIz).trans (hk _ _ S.TIz S.TITO S.TIi1 S.TIi2 hTI)
    · exact (sb.2 _ S.TOz).trans TO'
    · exact iterK_keep st1.1 fun o q => (sb.2 _ (Ne.symm S.zi1)).trans q
    · exact iterK_keep st2.1 fun o q => (sb.2 _ (Ne.symm S.zi2)).trans q
    · have hlt : c < s.heap.objs.size := by
        have e' : c = z ∨ c = TI ∨ c = TO ∨ c = i1 ∨ c = i2 := by simpa using hcm
        rcases e' with q | q | q | q | q
        · rw [q]; exact hzl
        · rw [q]; exact Heap.lt_size hTI
        · rw [q]; exact Heap.lt_size hTO
        · rw [q]; obtain ⟨_, e1, _⟩ := iterK_at h1; exact Heap.lt_size e1
        · rw [q]; obtain ⟨_, e2, _⟩ := iterK_at h2; exact Heap.lt_size e2
      rw [upd_ne (Nat.ne_of_lt hlt)]
      exact (hf c hcm).1
  done := by
    intro X hP hw hK hc i pins s σ H E I hf st hg
    subst hP hw hK
    obtain ⟨hz, hTI, ⟨x0, y0, hTO⟩, h1, h2⟩ := st
    obtain ⟨xs, ys, hqx, hqy, hend⟩ := hg
    obtain ⟨its, rv, p, al⟩ := hqx.vals I
    obtain ⟨its2, rv2, p2, bl⟩ := hqy.vals I
    have l1 := rv.length
    have l2 := rv2.length
    have hh := I.ok.hd hc
    exact wpAny_pyNext_zipD2_end S (drawsK j (A := X.A.in1) hh i1 a ne1 its.toArray) (drawsK k (A := X.A.in1) hh i2 b ne2 its2.toArray) hz hTI hTO ⟨h1, p⟩ ⟨h2, p2⟩ (by rw [List.size_toArray]; omega) (by rw [List.size_toArray]; omega) (by rw [List.size_toArray, List.size_toArray]; omega)
      fun h' tk hk => ⟨rfl, I.turnedL (t' := tk) (ch := [z, TI, TO, i1, i2]) (fun c o hb q =>
        hk c o (fun q' => hb (by simp [q'])) (fun q' => hb (by simp [q'])) (fun q' => hb (by simp [q'])) (fun q' => hb (by simp [q'])) q) hf⟩
  self := fun A i s Q E st h => wpAny_pyIter_zip st.1 h
def iZipK (K : PySem.W.Frag) (ta : TA) : TI := fun σ H R => ta σ H fun vs H1 => ∃ j k a b xs ys, vs = [.ref a, .ref b] ∧ SqK j K H1 a xs ∧ SqK k K H1 b ys ∧ R (ItzK j k K a b) H1
theorem beginsK (k : Bool) (l : Addr) (items : Array Value) : Begins (.ref l) { cls := .type (if k then "list_iterator" else "tuple_iterator"), data := .fields #[.ref l, .int 0 0] } fun h => SeqK k h l items := by
  cases k with
  | true => exact begins_list l items
  | false => exact begins_tuple l items
theorem iterK_begin {k : Bool} {h : Heap} {it a : Addr} (e : h.get? it = some { cls := .type (if k then "list_iterator" else "tuple_iterator"), data := .fields #[.ref a, .int 0 0] }) : IterK k h it a 0 := by
  cases k with
  | true => exact ⟨_, e, rfl, rfl⟩
  | false => exact ⟨_, e, rfl, rfl⟩
theorem pi_zipK {X : Cx} {e e2 : Expr} {ta : TA} {p pos tpos : Pos} {elts : List Expr} {kk : Nat} (hg : Gl X "zip") (hm : X.mg "zip" = none) (ha : PA X [e, e2] ta)
    (hs : starEach [e, e2] X.env = (false, eval e X.env) :: starEach [e2] X.env) (hpl : (backTo pos (starEach [e2] X.env)).any (·.1) = false) :
    PI X (.Tuple elts kk tpos) (.Call (.Name "zip" p) [e, e2] [] pos) (iZipK X.K ta) := by
  refine ⟨fun pins s σ H R I h => ?_⟩
  refine Call_ (ld_blt I hg hm PyProof.Rows.boot_zip (PyProof.Rows.callWith_type1 (thn (ha.run pos pins s σ H _ I h) fun us s1 ⟨vs, H1, I1, r1, q1⟩ => ?_) hs hpl))
  obtain ⟨j, k, a, b, xs, ys, ex, hqx, hqy, q⟩ := q1
  subst ex
  cases r1 with
  | cons r rr =>
    cases rr with
    | cons r' rr =>
      cases rr
      cases r
      cases r'
      have fresh5 : ∀ c, c ∈ [s1.heap.objs.size + 4, s1.heap.objs.size + 2, s1.heap.objs.size + 3, s1.heap.objs.size, s1.heap.objs.size + 1] → FpOk X pins H1 c := fun c hcm => by
        have e' : c = s1.heap.objs.size + 4 ∨ c = s1.heap.objs.size + 2 ∨ c = s1.heap.objs.size + 3 ∨ c = s1.heap.objs.size ∨ c = s1.heap.objs.size + 1 := by simpa using hcm
        have hle : s1.heap.objs.size ≤ c := by
          rcases e' with z | z | z | z | z
          · rw [z]; exact Nat.le_add_right _ _
          · rw [z]; exact Nat.le_add_right _ _
          · rw [z]; exact Nat.le_add_right _ _
          · rw [z]; exact Nat.le_refl _
          · rw [z]; exact Nat.le_add_right _ _
        exact I1.fpOk hle (I1.hok.fresh hle)
      obtain ⟨its, rv, p1, al⟩ := hqx.vals I1
      obtain ⟨its2, rv2, p2, bl⟩ := hqy.vals I1
      refine zip_begins2 (beginsK j a its.toArray) (beginsK k b its2.toArray) p1 p2 fun h' hz hTI hTO h1 h2 hsz hk => wpAny_pyIter_zip hz ?_
      have I2 : Inv X pins σ H1 { s1 with heap := h' } := I1.kept (t' := s1.toks) hk
      exact ⟨s1.heap.objs.size + 4, [s1.heap.objs.size + 4, s1.heap.objs.size + 2, s1.heap.objs.size + 3, s1.heap.objs.size, s1.heap.objs.size + 1], _, _, H1, rfl, I2,
        turn_zipK (zip_sep2 (fp1 := [a]) (fp2 := [b]) (fun c hc => by rw [List.mem_singleton.mp hc]; exact al) (fun c hc => by rw [List.mem_singleton.mp hc]; exact bl)) (Nat.ne_of_lt al) (Nat.ne_of_lt (Nat.lt_succ_of_lt bl)), ⟨hz, hTI, ⟨_, _, hTO⟩, iterK_begin h1, iterK_begin h2⟩, fresh5, q⟩

section
variable {D : Side} {C : Cl} {F : Fam} {W : WW} {K : PySem.W.Frag} {ρ0 : List Addr} {h0 : Hh} {H0 : Hp}
theorem it_zipK {j k : Bool} {a b : Addr} {xs ys : List PV} {locks : List Nat} (h1 : Reads1 D K (fun H vs => SqK j K H a vs) xs locks ρ0 h0 H0) (h2 : Reads1 D K (fun H vs => SqK k K H b vs) ys locks ρ0 h0 H0) : ItOk D K (ItzK j k K a b) (zipP xs ys) locks ρ0 h0 H0 := by
  intro ρ h H n hl i
  obtain ⟨vs, hv, rs⟩ := h1 ρ h H n hl
  obtain ⟨ws, hw, ss⟩ := h2 ρ h H n hl
  rw [zip_len]
  refine ⟨fun hi => ?_, fun e => ⟨vs, ws, hv, hw, by rw [← rs.length, ← ss.length]; omega⟩⟩
  obtain ⟨x, ex, rx⟩ := rs.get (List.getElem?_eq_getElem (show i < xs.length by omega))
  obtain ⟨y, ey, ry⟩ := ss.get (List.getElem?_eq_getElem (show i < ys.length by omega))
  refine ⟨⟨vs, ws, x, y, hv, hw, ex, ey⟩, fun z H' hy => ?_⟩
  obtain ⟨T, x', y', rfl, nT, rfl, f1, f2⟩ := hy
  have e1 := f1 vs hv
  have e2 := f2 ws hw
  rw [ex] at e1
  rw [ey] at e2
  cases e1
  cases e2
  obtain ⟨m1, m2⟩ := pair_new n.now nT rx ry
  exact ⟨_, zip_get xs ys i _ _ (List.getElem?_eq_getElem (by omega)) (List.getElem?_eq_getElem (by omega)), m1, m2⟩
end
end Mini

/-! Snd14 -/
set_option autoImplicit false
set_option Elab.async false
set_option linter.all false
set_option maxRecDepth 100000
namespace Mini
open PySem PySem.Spec PySem.Calls PyProof.Rows L2

section
variable {D : Side} {C : Cl} {F : Fam} {W : WW}
theorem Reads1.weak {D : Side} {K : PySem.W.Frag} {S : Hp → List V → Prop} {xs : List PV} {l l' : List Nat} {ρ0 : List Addr} {h0 : Hh} {H0 : Hp} (r : Reads1 D K S xs l ρ0 h0 H0) (h : ∀ i ∈ l, i ∈ l') : Reads1 D K S xs l' ρ0 h0 H0 :=
  fun ρ h1 H n hl => r ρ h1 H n fun i hi => hl i (h i hi)
/-- a list or tuple that is read: its kind -/
theorem reads_k {K : PySem.W.Frag} {ρ0 : List Addr} {h0 : Hh} {H0 : Hp} (n0 : Now D K ρ0 h0 H0) {p : PV} {v : V} {xs : List PV} (r : Rep K ρ0 H0 p v) (e : seqOf h0 p = some xs) :
    ∃ a k, v = .ref a ∧ Reads1 D K (fun H vs => SqK k K H a vs) xs (refsOf [p]) ρ0 h0 H0 ∧ ∃ vs, SqK k K H0 a vs := by
  obtain ⟨a, rfl, hh⟩ := reads_of n0 r e
  rcases hh with ⟨hk, vs, hv, _⟩ | ⟨hk, _, vs, hv, _⟩
  · exact ⟨a, true, rfl, hk, vs, hv⟩
  · exact ⟨a, false, rfl, hk, vs, hv⟩
theorem src_zip (p q : PV) (h : Hh) : srcItems .zip [p, q] h = match seqOf h p, seqOf h q with
    | some xs, some ys => some (zipP xs ys)
    | _, _ => none := by cases p <;> rfl
theorem si_zip {elts : List Expr} {kk : Nat} {tpos : Pos} {a b : Expr} {ia ib : E} {p pos : Pos} (hg : ∀ X, F.P X → Gl X "zip") (hm : ∀ X, F.P X → X.mg "zip" = none) (ha : SA D C F W [a, b] (.cons ia (.cons ib .nil)))
    (hs : ∀ X : Cx, starEach [a, b] X.env = (false, eval a X.env) :: starEach [b] X.env) (hpl : ∀ X : Cx, (backTo pos (starEach [b] X.env)).any (·.1) = false) :
    SI D C F W (.Tuple elts kk tpos) (.Call (.Name "zip" p) [a, b] [] pos) .zip (.cons ia (.cons ib .nil)) := by
  obtain ⟨ta, pa, sa⟩ := ha
  refine ⟨iZipK F.K ta, fun X hX => F.hK X hX ▸ pi_zipK (hg X hX) (hm X hX) (pa X hX) (hs X) (hpl X), fun L σ H env h ρ R n er hne w => sa L σ H env h ρ _ n er ?_⟩
  cases ea : evEs C L (.cons ia (.cons ib .nil)) env h with
  | bad => rw [ea] at w; exact w
  | exc c h1 => rw [ea] at w; exact w
  | ok ps h1 =>
    rw [ea] at w
    have hne := hne ps h1 ea
    have hl := evEs_len _ _ _ _ _ _ ea
    intro vs H1 ρ1 n1 rs
    cases rs with
    | nil => cases hl
    | cons r1 rs =>
      cases rs with
      | nil => cases hl
      | cons r2 rs =>
        cases rs with
        | cons r3 rs => cases hl
        | nil =>
          rename_i p v q u
          cases e1 : seqOf h1 p with
          | none => exact absurd (by rw [src_zip, e1]) hne
          | some xs =>
            cases e2 : seqOf h1 q with
            | none => exact absurd (by rw [src_zip, e1, e2]) hne
            | some ys =>
              obtain ⟨a, j, rfl, k1, v1, s1⟩ := reads_k n1.now r1 e1
              obtain ⟨b, k, rfl, k2, v2, s2⟩ := reads_k n1.now r2 e2
              refine ⟨j, k, a, b, v1, v2, rfl, s1, s2, w (zipP xs ys) (by rw [src_zip, e1, e2]) H1 ρ1 _ n1 (it_zipK (k1.weak (refs_mem (List.mem_cons_self ..))) (k2.weak (refs_mem (List.mem_cons_of_mem _ (List.mem_cons_self ..))))) ?_⟩
              intro r hr
              have hr : r ∈ refsOf [p] ∨ r ∈ refsOf [q] := by
                cases p <;> cases q <;> simp [refsOf] at hr ⊢ <;> exact hr
              exact hr.elim (refs_lt n1.now r1 r) (refs_lt n1.now r2 r)

/-! ### chains of two comparisons -/
/-- what a comparison by values gives, a bool -/
theorem chain_parts {o o' : Cop} {ia ib ic : E} {ta tb tc : TE} {r r' : R2} (hr : ∀ x y H Q, R2E D F.K (cmpE o) x y H Q → r x y H Q) (hr' : ∀ x y H Q, R2E D F.K (cmpE o') x y H Q → r' x y H Q)
    (sa : ∀ (L : Lk) (σ : L2.St) (H : Hp) (env : Env) (h : Hh) (ρ : List Addr) (Q : VK), Now D F.K ρ h H → EnvR F.K ρ H env σ → WantE D F.K ρ H (fun c H' => W c σ H') Q (evE C L ia env h) → ta σ H Q)
    (sb : ∀ (L : Lk) (σ : L2.St) (H : Hp) (env : Env) (h : Hh) (ρ : List Addr) (Q : VK), Now D F.K ρ h H → EnvR F.K ρ H env σ → WantE D F.K ρ H (fun c H' => W c σ H') Q (evE C L ib env h) → tb σ H Q)
    (sc : ∀ (L : Lk) (σ : L2.St) (H : Hp) (env : Env) (h : Hh) (ρ : List Addr) (Q : VK), Now D F.K ρ h H → EnvR F.K ρ H env σ → WantE D F.K ρ H (fun c H' => W c σ H') Q (evE C L ic env h) → tc σ H Q)
    (L : Lk) (σ : L2.St) (H : Hp) (env : Env) (h : Hh) (ρ : List Addr) (Q : VK) (n : Now D F.K ρ h H) (er : EnvR F.K ρ H env σ) (w : WantE D F.K ρ H (fun c H' => W c σ H') Q (evE C L (.cmp2 o o' ia ib ic) env h)) : tChain r r' ta tb tc σ H Q := by
  unfold evE at w
  refine sa L σ H env h ρ _ n er ?_
  cases ea : evE C L ia env h with
  | bad => rw [ea] at w; exact w
  | exc c h1 => rw [ea] at w; exact w
  | ok p h1 =>
    rw [ea] at w
    intro v H1 ρ1 n1 rp
    dsimp only at w
    refine sb L σ H1 env h1 ρ1 _ n1.now (er.mono n1.grow n1.pre) ?_
    cases eb : evE C L ib env h1 with
    | bad => simp only [eb] at w; exact w
    | exc c h2 => simp only [eb] at w; exact fun H2 ρ2 n2 => w H2 ρ2 (n1.trans n2)
    | ok q h2 =>
      simp only [eb] at w
      intro u H2 ρ2 n2 rq
      have n12 := n1.trans n2
      refine hr v u H2 _ ⟨ρ2, h2, p, q, n2.now, rp.mono n2.grow n2.pre, rq, ?_⟩
      cases ec : cmpE o p q h2 with
      | bad => simp only [ec] at w; exact w
      | exc c h3 => exact absurd ec (nox_cmp o p q h2 c h3)
      | ok z h3 =>
        simp only [ec] at w
        cases z <;> first
          | exact w.elim
          | (rename_i k
             intro zv H3 ρ3 n3 rz
             cases rz
             refine ⟨k, rfl, ?_⟩
             have n13 := n12.trans n3
             cases k with
             | false => rw [if_neg Bool.false_ne_true]; exact w _ H3 ρ3 n13 (.bl false)
             | true =>
               rw [if_pos rfl]
               refine sc L σ H3 env h3 ρ3 _ n3.now (er.mono n13.grow n13.pre) ?_
               cases ed : evE C L ic env h3 with
               | bad => simp only [ed] at w; exact w
               | exc c h4 => simp only [ed] at w; exact fun H4 ρ4 n4 => w H4 ρ4 (n13.trans n4)
               | ok t h4 =>
                 simp only [ed] at w
                 intro tv H4 ρ4 n4 rt
                 exact hr' u tv H4 Q ⟨ρ4, h4, q, t, n4.now, rq.mono (n3.trans n4).grow (n3.trans n4).pre, rt, want_no (nox_cmp o' q t h4) (WantE.at w (n13.trans n4))⟩)
theorem snd_cmp2 {o o' : Cop} {op op' : CmpOp} {r r' : R2} {a b c : Expr} {ia ib ic : E} {pos : Pos} (ho : ∀ X, F.P X → OpR X (compareOp op) r) (ho' : ∀ X, F.P X → OpR X (compareOp op') r') (hr : ∀ x y H Q, R2E D F.K (cmpE o) x y H Q → r x y H Q)
    (hr' : ∀ x y H Q, R2E D F.K (cmpE o') x y H Q → r' x y H Q) (ha : SE D C F W a ia) (hb : SE D C F W b ib) (hc : SE D C F W c ic) (hm : lastMarks [op, op'] [b, c] = false) : SE D C F W (.Compare a [op, op'] [b, c] pos) (.cmp2 o o' ia ib ic) := by
  obtain ⟨ta, pa, sa⟩ := ha
  obtain ⟨tb, pb, sb⟩ := hb
  obtain ⟨tc, pc, sc⟩ := hc
  exact ⟨_, fun X hX => pe_chain (ho X hX) (ho' X hX) (pa X hX) (pb X hX) (pc X hX) hm, fun L σ H env h ρ Q n er w => chain_parts hr hr' sa sb sc L σ H env h ρ Q n er w⟩
theorem snd_cmp2T {o o' : Cop} {op op' : CmpOp} {r r' : R2} {a b c : Expr} {ia ib ic : E} {pos : Pos} (ho : ∀ X, F.P X → OpR X (compareOp op) r) (ho' : ∀ X, F.P X → OpR X (compareOp op') r') (hr : ∀ x y H Q, R2E D F.K (cmpE o) x y H Q → r x y H Q)
    (hr' : ∀ x y H Q, R2E D F.K (cmpE o') x y H Q → r' x y H Q) (ha : SE D C F W a ia) (hb : SE D C F W b ib) (hc : SE D C F W c ic) (hm : lastMarks [op, op'] [b, c] = false) : ST D C F W (.Compare a [op, op'] [b, c] pos) (.cmp2 o o' ia ib ic) := by
  obtain ⟨ta, pa, sa⟩ := ha
  obtain ⟨tb, pb, sb⟩ := hb
  obtain ⟨tc, pc, sc⟩ := hc
  exact ⟨_, fun X hX => pt_chain (ho X hX) (ho' X hX) (pa X hX) (pb X hX) (pc X hX) hm, fun L σ H env h ρ Q n er w => chain_parts hr hr' sa sb sc L σ H env h ρ _ n er w⟩

/-! ### and, or, not as values -/
theorem snd_one {op : BoolOp} {a : Expr} {ia : E} {pos : Pos} (ha : SE D C F W a ia) : SE D C F W (.BoolOp op [a] pos) ia := by
  obtain ⟨t, p, s⟩ := ha
  exact ⟨t, fun X hX => pe_one (p X hX), s⟩
theorem snd_andV {a b : Expr} {rest : List Expr} {ia ib : E} {pos : Pos} (ha : SE D C F W a ia) (hb : SE D C F W (.BoolOp .And (b :: rest) pos) ib) : SE D C F W (.BoolOp .And (a :: b :: rest) pos) (.and_ ia ib) := by
  obtain ⟨ta, pa, sa⟩ := ha
  obtain ⟨tb, pb, sb⟩ := hb
  refine ⟨_, fun X hX => pe_and (pa X hX) (pb X hX), fun L σ H env h ρ Q n er w => ?_⟩
  unfold evE at w
  refine sa L σ H env h ρ _ n er ?_
  cases e : evE C L ia env h with
  | bad => rw [e] at w; exact w
  | exc c h1 => rw [e] at w; exact w
  | ok q h1 =>
    rw [e] at w
    cases q <;> first
      | exact False.elim w
      | (rename_i k
         intro v H' ρ' m rp
         cases rp
         refine ⟨k, rfl, ?_⟩
         cases k with
         | true => rw [if_pos rfl]; exact sb L σ H' env h1 ρ' _ m.now (er.mono m.grow m.pre) (WantE.at w m)
         | false => rw [if_neg Bool.false_ne_true]; exact w (.bl false) H' ρ' m (.bl _))
theorem snd_orV {a b : Expr} {rest : List Expr} {ia ib : E} {pos : Pos} (ha : SE D C F W a ia) (hb : SE D C F W (.BoolOp .Or (b :: rest) pos) ib) : SE D C F W (.BoolOp .Or (a :: b :: rest) pos) (.or_ ia ib) := by
  obtain ⟨ta, pa, sa⟩ := ha
  obtain ⟨tb, pb, sb⟩ := hb
  refine ⟨_, fun X hX => pe_or (pa X hX) (pb X hX), fun L σ H env h ρ Q n er w => ?_⟩
  unfold evE at w
  refine sa L σ H env h ρ _ n er ?_
  cases e : evE C L ia env h with
  | bad => rw [e] at w; exact w
  | exc c h1 => rw [e] at w; exact w
  | ok q h1 =>
    rw [e] at w
    cases q <;> first
      | exact False.elim w
      | (rename_i k
         intro v H' ρ' m rp
         cases rp
         refine ⟨k, rfl, ?_⟩
         cases k with
         | false => rw [if_neg Bool.false_ne_true]; exact sb L σ H' env h1 ρ' _ m.now (er.mono m.grow m.pre) (WantE.at w m)
         | true => rw [if_pos rfl]; exact w (.bl true) H' ρ' m (.bl _))
theorem snd_notV {a : Expr} {ia : E} {pos : Pos} (ha : SE D C F W a ia) : SE D C F W (.UnaryOp .Not a pos) (.not_ ia) := by
  obtain ⟨ta, pa, sa⟩ := ha
  refine ⟨_, fun X hX => pe_not (pa X hX), fun L σ H env h ρ Q n er w => ?_⟩
  unfold evE at w
  refine sa L σ H env h ρ _ n er ?_
  cases e : evE C L ia env h with
  | bad => rw [e] at w; exact w
  | exc c h1 => rw [e] at w; exact w
  | ok q h1 =>
    rw [e] at w
    cases q <;> first
      | exact False.elim w
      | (rename_i k
         intro v H' ρ' m rp
         cases rp
         exact ⟨k, rfl, w (.bl (!k)) H' ρ' m (.bl _)⟩)
end

/-! ### methods -/
section
variable {D : Side} {X : Cx}
theorem part1_spec {c : Nat} : ∀ {s x y : List Nat} {k : Bool}, part1 c s = (x, k, y) → c ∉ x ∧ (if k then s = x ++ c :: y else s = x ∧ y = [])
  | [], x, y, k, e => by
    simp only [part1, Prod.mk.injEq] at e
    obtain ⟨rfl, rfl, rfl⟩ := e
    simp
  | d :: ds, x, y, k, e => by
    unfold part1 at e
    by_cases z : d = c
    · rw [if_pos z] at e
      simp only [Prod.mk.injEq] at e
      obtain ⟨rfl, rfl, rfl⟩ := e
      simp [z]
    · rw [if_neg z] at e
      cases h : part1 c ds with
      | mk x' p =>
        obtain ⟨k', y'⟩ := p
        rw [h] at e
        simp only [Prod.mk.injEq] at e
        obtain ⟨rfl, rfl, rfl⟩ := e
        obtain ⟨h1, h2⟩ := part1_spec h
        refine ⟨by simp only [List.mem_cons, not_or]; exact ⟨fun q => z q.symm, h1⟩, ?_⟩
        cases k' with
        | true => simp only [if_true] at h2 ⊢; rw [h2]; rfl
        | false => simp only [Bool.false_eq_true, if_false] at h2 ⊢; exact ⟨by rw [← h2.1], h2.2⟩
theorem tlmk (s : List Nat) : TL.tl (⟨s.toArray⟩ : Str) = s := by simp [TL.tl]
theorem mr_partition : MtR X "str.partition" (fun v vs => RaE D X.K .partition (v :: vs)) := by
  intro pins s σ H x xs v us Q I rx rs hh
  obtain ⟨ρ, h, ps, L, n, rr, w⟩ := hh
  cases rr with
  | cons rp rest =>
    cases rest with
    | nil => cases rp <;> exact w.elim
    | cons rq rest =>
      cases rp with
      | str t =>
        cases rq with
        | str u =>
          cases rest with
          | cons _ _ => exact (by cases u with | nil => exact w.elim | cons c r => cases r <;> exact w.elim)
          | nil =>
            cases u with
            | nil => exact w.elim
            | cons c r =>
              cases r with
              | cons _ _ => exact w.elim
              | nil =>
                have w : WantE D X.K ρ H (fun _ _ => False) Q (if t.length ≤ lim then (match part1 c t with
                  | (x, true, y) => .ok (.tup [.str x, .str [c], .str y]) h
                  | (x, false, y) => .ok (.tup [.str x, .str [], .str y]) h) else .bad) := w
                by_cases z : t.length ≤ lim
                · rw [if_pos z] at w
                  have lm := lim_size
                  refine thn (mt_partition pins s σ H _ _ v us (fun v H' => ∃ p, v = .ref p ∧ H p = none ∧ H' = upd H p (.tup [.str (Txt.partition ⟨t.toArray⟩ ⟨[c].toArray⟩).1, .str (Txt.partition ⟨t.toArray⟩ ⟨[c].toArray⟩).2.1, .str (Txt.partition ⟨t.toArray⟩ ⟨[c].toArray⟩).2.2])) I rx rs ⟨_, _, rfl, rfl, rfl, by rw [mk_str]; omega, fun p hp => ⟨p, rfl, hp, rfl⟩⟩) fun u2 s1 hq => ?_
                  obtain ⟨x1, H1, I1, r1, p, rfl, hp, rfl⟩ := hq
                  obtain rfl : u2 = Value.ref p := r1
                  have ey : TL.tl (⟨[c].toArray⟩ : Str) = c :: [] := tlmk [c]
                  cases ep : part1 c t with
                  | mk a r =>
                    obtain ⟨k, b⟩ := r
                    rw [ep] at w
                    obtain ⟨q1, q2⟩ := part1_spec ep
                    cases k with
                    | true =>
                      simp only [if_true] at q2
                      have e2 : (⟨t.toArray⟩ : Str) = ⟨a.toArray⟩ ++ (⟨[c].toArray⟩ : Str) ++ ⟨b.toArray⟩ := by
                        rw [str_toks, str_toks, q2]; simp
                      rw [e2, TL.partition_app ey (a := ⟨a.toArray⟩) (b := ⟨b.toArray⟩) (by rw [tlmk]; exact q1)] at I1
                      exact fin_tup n hp (.cons (.str a) (.cons (.str [c]) (.cons (.str b) .nil))) I1 w
                    | false =>
                      simp only [Bool.false_eq_true, if_false] at q2
                      obtain ⟨rfl, rfl⟩ := q2
                      rw [TL.partition_none ey (a := ⟨t.toArray⟩) (by rw [tlmk]; exact q1)] at I1
                      exact fin_tup n hp (.cons (.str t) (.cons (.str []) (.cons (.str []) .nil))) I1 w
                · rw [if_neg z] at w; exact w.elim
        | _ => cases rest <;> exact w.elim
      | _ => cases rq <;> cases rest <;> exact w.elim
end
end Mini

/-! Snd15 -/
set_option autoImplicit false
set_option Elab.async false
set_option linter.all false
set_option maxRecDepth 100000
namespace Mini
open PySem PySem.Spec PySem.Calls PyProof.Rows L2

section
variable {D : Side} {X : Cx}
theorem pre_text (x t : List Nat) : Txt.startswith ⟨t.toArray⟩ ⟨x.toArray⟩ = x.isPrefixOf t := by
  show (decide (0 + (⟨x.toArray⟩ : Str).length ≤ (⟨t.toArray⟩ : Str).length) && Builtin.Str.subAt ⟨t.toArray⟩ ⟨x.toArray⟩ 0) = _
  rw [StrLaws.subAt_eq, mk_str, mk_str, cps_mk, cps_mk, List.drop_zero, Nat.zero_add]
  rw [Bool.eq_iff_iff, Bool.and_eq_true, decide_eq_true_eq, beq_iff_eq, List.isPrefixOf_iff_prefix, List.prefix_iff_eq_take]
  constructor
  · rintro ⟨_, h⟩; exact h.symm
  · intro h
    refine ⟨?_, h.symm⟩
    have := congrArg List.length h
    rw [List.length_take] at this
    omega
theorem mr_startswith : MtR X "str.startswith" (fun v vs => RaE D X.K .startswith (v :: vs)) := by
  intro pins s σ H x xs v us Q I rx rs hh
  obtain ⟨ρ, h, ps, L, n, rr, w⟩ := hh
  cases rr with
  | cons rp rest =>
    cases rest with
    | nil => cases rp <;> exact w.elim
    | cons rq rest =>
      cases rp with
      | str t =>
        cases rq with
        | str u =>
          cases rest with
          | cons _ _ => exact w.elim
          | nil =>
            refine mt_startswith pins s σ H _ _ v us Q I rx rs ⟨_, _, rfl, rfl, ?_⟩
            rw [pre_text]
            exact want_ok n w (.bl _)
        | _ => cases rest <;> exact w.elim
      | _ => cases rq <;> cases rest <;> exact w.elim
theorem placeOf_spec {x : PV} : ∀ {xs : List PV} {j : Nat}, placeOf x xs = some j → (∃ z, xs[j]? = some z ∧ eqv z x = true) ∧ ∀ m z, m < j → xs[m]? = some z → eqv z x = false
  | [], _, h => by cases h
  | y :: ys, j, h => by
    unfold placeOf at h
    by_cases c : eqv y x = true
    · rw [if_pos c] at h
      cases h
      exact ⟨⟨y, rfl, c⟩, fun m z hm => absurd hm (Nat.not_lt_zero _)⟩
    · rw [if_neg c] at h
      obtain ⟨i, hi, rfl⟩ := Option.map_eq_some_iff.mp h
      obtain ⟨⟨z, h1, h2⟩, h3⟩ := placeOf_spec hi
      refine ⟨⟨z, by simpa using h1, h2⟩, fun m z hm hz => ?_⟩
      cases m with
      | zero => simp at hz; subst hz; simpa using c
      | succ m => exact h3 m z (by omega) (by simpa using hz)
theorem toDs_get : ∀ {xs : List PV} {j : Nat} {z : PV}, xs[j]? = some z → (toDs xs)[j]? = some (toD z)
  | [], _, _, h => by simp at h
  | x :: xs, 0, z, h => by simp at h; subst h; rfl
  | x :: xs, j + 1, z, h => by rw [toDs, List.getElem?_cons_succ]; exact toDs_get (by simpa using h)
theorem toDs_back : ∀ {xs : List PV} {j : Nat} {d : PyData}, (toDs xs)[j]? = some d → ∃ z, xs[j]? = some z ∧ d = toD z
  | [], _, _, h => by simp [toDs] at h
  | x :: xs, 0, d, h => by simp [toDs] at h; exact ⟨x, rfl, h.symm⟩
  | x :: xs, j + 1, d, h => by rw [toDs, List.getElem?_cons_succ] at h; obtain ⟨z, h1, h2⟩ := toDs_back h; exact ⟨z, by simpa using h1, h2⟩
theorem find_place {x : PV} (fx : flat x = true) : ∀ {xs : List PV}, flats xs = true → PySem.SeqAt.dataPlace (toDs xs) (toD x) = placeOf x xs
  | [], _ => rfl
  | y :: ys, f => by
    rw [flats, List.all_cons, Bool.and_eq_true] at f
    have ih := find_place fx (xs := ys) f.2
    unfold PySem.SeqAt.dataPlace at ih ⊢
    rw [toDs, placeOf, List.findIdx?_cons, ih, eqv_flat f.1 fx]
theorem index_data {prog : Program} {w : World} {A : Around} {E : Value → Shared → Prop} {s : Shared} {l : Addr} {vs : Array Value} {xs : List PyData} {x : Value} {d : PyData} {as bs : List Addr} {Q : Value → Shared → Prop} {j : Nat}
    (hl : s.heap.IsList l vs) (rs : ReadsAll s.heap vs.toList xs as) (rx : Reads s.heap x d bs) (hxs : PyData.plainAll xs = true) (hd : d.plain = true) (hu : A.units + 1 + min (PyData.depthAll xs) d.depth < cLine)
    (hp : PySem.SeqAt.dataPlace xs d = some j) (hs : (j : Int) < 2 ^ 63 - 1) (h : Q (.int j s.toks) { s with toks := s.toks + 1 }) : wpAny (model prog w) A (call (.builtin "list.index") [.ref l, x]) Q E s := by
  obtain ⟨⟨cls, dd, data, sl⟩, ho, hc, n, hd'⟩ := id hl
  simp only at hc hd'
  subst hc hd'
  obtain ⟨hj, hit, hno⟩ := SeqAt.hit_at rs hxs hp
  exact call_meets PySem.F.slot_list_index ⟨_, ho, rfl⟩ PySem.F.entry_list_index (PySem.F.args_list_index_2 _ _) (SeqAt.list_indexAt l vs n dd sl x _ j hj hs hit hno) ⟨ho, SeqAt.items_plain rs rx hxs hd hu, h⟩
theorem mr_index (hu : X.A.units + 65 < cLine) : MtR X "list.index" (fun v vs => RaE D X.K .index (v :: vs)) := by
  intro pins s σ H x xs v us Q I rx rs hh
  obtain ⟨ρ, h, ps, L, n, rr, w⟩ := hh
  cases rr with
  | cons rp rest =>
    rename_i p ps
    cases rest with
    | nil => exact w.elim
    | cons rq rest =>
      rename_i q u ps vs
      cases rest with
      | cons _ _ => exact w.elim
      | nil =>
        have w : WantE D X.K ρ H (fun _ _ => False) Q (match view h p with
          | .lst xs => if flat q && flats xs then (match placeOf q xs with | some j => .ok (.int j) h | none => .bad) else .bad
          | _ => .bad) := w
        cases e : view h p <;> rw [e] at w <;> first | exact w.elim | skip
        rename_i xs
        dsimp only at w
        cases c : (flat q && flats xs) with
        | false => rw [c] at w; exact w.elim
        | true =>
          rw [c, if_pos rfl] at w
          rw [Bool.and_eq_true] at c
          cases e2 : placeOf q xs with
          | none => rw [e2] at w; exact w.elim
          | some j =>
            rw [e2] at w
            obtain ⟨⟨z, h1, h2⟩, h3⟩ := placeOf_spec e2
            obtain ⟨a, vs, rfl, hq, rr⟩ := view_lst n rp e
            have dq := rep_dp 24 q u c.1 rq
            have f1 := flat_plain c.1
            have f2 := flat_deep c.1
            obtain ⟨g1, g2⟩ := flats_plain c.2
            obtain ⟨its, rv, hl, hz⟩ := I.list hq
            obtain ⟨as, rA⟩ := Dp.readsAll I _ _ _ (reps_dp 24 xs vs c.2 rr) rv
            cases rx
            obtain ⟨uu, rfl, ru⟩ := vals1 rs
            obtain ⟨bs, rB⟩ := Dp.reads I _ u uu dq ru
            have hlen := rr.length
            have hln := line63
            have hj : j < xs.length := (List.getElem?_eq_some_iff.mp h1).1
            exact index_data hl.isList (vs := its.toArray) rA rB g1 f1 (by omega) (by rw [find_place c.1 c.2]; exact e2) (by omega) ⟨.int j, H, I.tok _, ⟨_, rfl⟩, want_ok n w (.int _)⟩
theorem mr_append : MtR X "list.append" (fun v vs => RaE D X.K .append (v :: vs)) := by
  intro pins s σ H x xs v us Q I rx rs hh
  obtain ⟨ρ, h, ps, L, n, rr, w⟩ := hh
  cases rr with
  | cons rp rest =>
    rename_i p ps
    cases rest with
    | nil => cases p <;> exact w.elim
    | cons rq rest =>
      rename_i q u ps vs
      cases rest with
      | cons _ _ => cases p <;> exact w.elim
      | nil =>
        cases rp with
        | ref er =>
          rename_i r a
          have w : WantE D X.K ρ H (fun _ _ => False) Q (match h[r]? with
            | some (.lst xs) => if L.ok r && decide (xs.length < lim) then .ok .non (h.set r (.lst (xs ++ [q]))) else .bad
            | _ => .bad) := w
          cases e : h[r]? with
          | none => rw [e] at w; exact w.elim
          | some ob =>
            rw [e] at w
            cases ob with
            | lst xs =>
              dsimp only at w
              cases c : (L.ok r && decide (xs.length < lim)) with
              | false => rw [c] at w; exact w.elim
              | true =>
                rw [c, if_pos rfl] at w
                rw [Bool.and_eq_true, decide_eq_true_eq] at c
                obtain ⟨vs, h1, h2⟩ := ref_at n er e
                have lm := lim_size
                have l1 := h2.length
                refine mt_append pins s σ H _ _ v us Q I rx rs ⟨a, vs, u, rfl, rfl, h1, by omega, ?_⟩
                have m := n.write (vs := vs) (ws := vs ++ [u]) e er (h2.append (.cons rq .nil))
                exact w _ _ _ m .non
            | _ => exact w.elim
        | _ => exact w.elim
end

section
variable {D : Side} {C : Cl} {F : Fam} {W : WW}
theorem recv_str {f : Prim} {p : PV} {h : Hh} (hf : f = .partition ∨ f = .startswith) (e : recv f p h = true) : ∃ s, p = .str s := by
  rcases hf with rfl | rfl <;> cases p <;> first | exact ⟨_, rfl⟩ | (simp [recv] at e)
theorem recv_lst {f : Prim} {p : PV} {h : Hh} (hf : f = .index ∨ f = .append) (e : recv f p h = true) : ∃ xs, view h p = .lst xs := by
  have e : (match view h p with | .lst _ => true | _ => false) = true := by rcases hf with rfl | rfl <;> exact e
  cases ev : view h p <;> rw [ev] at e <;> first | exact ⟨_, rfl⟩ | (cases e)
theorem ty_str {f : Prim} (hf : f = .partition ∨ f = .startswith) (ρ : List Addr) (h : Hh) (p : PV) (v : V) (H : Hp) (n : Now D F.K ρ h H) (r : Rep F.K ρ H p v) (e : recv f p h = true) : tyV F.K "str" v H := by
  obtain ⟨s, rfl⟩ := recv_str hf e
  cases r
  rfl
theorem ty_lst {f : Prim} (hf : f = .index ∨ f = .append) (ρ : List Addr) (h : Hh) (p : PV) (v : V) (H : Hp) (n : Now D F.K ρ h H) (r : Rep F.K ρ H p v) (e : recv f p h = true) : tyV F.K "list" v H := by
  obtain ⟨xs, e2⟩ := recv_lst hf e
  obtain ⟨a, vs, rfl, hq, _⟩ := view_lst n r e2
  exact .inl ⟨rfl, vs, hq⟩
/-- the shape of a method's call -/
structure MethOk (o e : Expr) (es : List Expr) (name : Str) (apos cpos : Pos) : Prop where
  base : ∀ X : Cx, attributeBase o name X.env (eval o X.env) = eval o X.env
  few : ∀ X : Cx, ((backTo cpos (starEach (e :: es) X.env)).all (fun x => !x.1) && (backToKw cpos (keywordEach [] X.env)).all (fun x => x.1.isSome)
      && decide ((e :: es).length + ([] : List Keyword).length + (if ([] : List Keyword).isEmpty then 0 else 1) < 30)) = true
  line : (apos.endLine == cpos.line) = true
  star : ∀ X : Cx, starEach (e :: es) X.env = (false, eval e X.env) :: starEach es X.env
  plain : ∀ X : Cx, (backTo cpos (starEach es X.env)).any (·.1) = false
theorem snd_m {f : Prim} {T id : String} {name : Str} {o e : Expr} {es : List Expr} {io : E} {ies : Es} {apos cpos : Pos} (k : MethOk o e es name apos cpos) (pa : PlainAttrs T) (slot : Slot T name id) (hty : typeOf (.builtin id) = pure (.type "method_descriptor"))
    (hm : ∀ X, F.P X → MtR X id (fun v vs => RaE D F.K f (v :: vs))) (ty : ∀ (ρ : List Addr) (h : Hh) (p : PV) (v : V) (H : Hp), Now D F.K ρ h H → Rep F.K ρ H p v → recv f p h = true → tyV F.K T v H)
    (ho : SE D C F W o io) (ha : SA D C F W (e :: es) ies) : SE D C F W (.Call (.Attribute o name apos) (e :: es) [] cpos) (.meth f io ies) :=
  snd_meth (fun _ _ _ _ h => h) ty (fun X hX to t po pt => by
    have z := pe_bm (X := X) (r := fun v vs => RaE D F.K f (v :: vs)) pa slot hty (hm X hX) po pt (k.base X) (k.few X) k.line (k.star X) (k.plain X)
    rw [F.hK X hX] at z
    exact z) ho ha
theorem snd_partition {o e : Expr} {io : E} {ies : Es} {apos cpos : Pos} (k : MethOk o e [] "partition" apos cpos) (ho : SE D C F W o io) (ha : SA D C F W [e] ies) : SE D C F W (.Call (.Attribute o "partition" apos) [e] [] cpos) (.meth .partition io ies) :=
  snd_m k PySem.F.plainAttrs_str PySem.F.slot_str_partition PySem.F.type_str_partition (fun X hX => F.hK X hX ▸ mr_partition) (ty_str (.inl rfl)) ho ha
theorem snd_startswith {o e : Expr} {io : E} {ies : Es} {apos cpos : Pos} (k : MethOk o e [] "startswith" apos cpos) (ho : SE D C F W o io) (ha : SA D C F W [e] ies) : SE D C F W (.Call (.Attribute o "startswith" apos) [e] [] cpos) (.meth .startswith io ies) :=
  snd_m k PySem.F.plainAttrs_str PySem.F.slot_str_startswith PySem.F.type_str_startswith (fun X hX => F.hK X hX ▸ mr_startswith) (ty_str (.inr rfl)) ho ha
theorem snd_index {o e : Expr} {io : E} {ies : Es} {apos cpos : Pos} (hu : ∀ X, F.P X → X.A.units + 65 < cLine) (k : MethOk o e [] "index" apos cpos) (ho : SE D C F W o io) (ha : SA D C F W [e] ies) : SE D C F W (.Call (.Attribute o "index" apos) [e] [] cpos) (.meth .index io ies) :=
  snd_m k PySem.F.plainAttrs_list PySem.F.slot_list_index PySem.F.type_list_index (fun X hX => F.hK X hX ▸ mr_index (hu X hX)) (ty_lst (.inl rfl)) ho ha
theorem snd_append {o e : Expr} {io : E} {ies : Es} {apos cpos : Pos} (k : MethOk o e [] "append" apos cpos) (ho : SE D C F W o io) (ha : SA D C F W [e] ies) : SE D C F W (.Call (.Attribute o "append" apos) [e] [] cpos) (.meth .append io ies) :=
  snd_m k PySem.F.plainAttrs_list PySem.F.slot_list_append PySem.F.type_list_append (fun X hX => F.hK X hX ▸ mr_append) (ty_lst (.inr rfl)) ho ha

/-! ### f-strings -/
/-- a text's parts -/
def SJ (D : Side) (C : Cl) (F : Fam) (W : WW) (es : List Expr) (irs : Es) : Prop :=
  ∃ ts : List TE, (∀ X, F.P X → PJ X es ts) ∧ ts.length = es.length ∧ ∀ (L : Lk) (σ : L2.St) (H : Hp) (env : Env) (h : Hh) (ρ : List Addr) (acc : List Nat) (Q : Str → Hp → Prop), Now D F.K ρ h H → EnvR F.K ρ H env σ → (match evEs C L irs env h with
    | .ok ps h' => ∃ s, fmts ps = some s ∧ acc.length + s.length ≤ lim ∧ ∀ H' ρ', Nxt D F.K ρ H ρ' h' H' → Q ⟨(acc ++ s).toArray⟩ H'
    | _ => False) → tJs ts ⟨acc.toArray⟩ σ H Q
theorem snj_nil : SJ D C F W [] .nil := ⟨[], fun _ _ => .nil, rfl, fun L σ H env h ρ acc Q n er w => by
  unfold evEs at w
  obtain ⟨s, e, _, q⟩ := w
  cases e
  rw [List.append_nil] at q
  exact q H ρ n.nxt⟩
theorem fmts_cons {p : PV} {ps : List PV} {s : List Nat} (e : fmts (p :: ps) = some s) : ∃ x y, fmtOf p = some x ∧ fmts ps = some y ∧ s = x ++ y := by
  rw [fmts] at e
  cases e1 : fmtOf p with
  | none => rw [e1] at e; cases e
  | some x =>
    cases e2 : fmts ps with
    | none => rw [e1, e2] at e; cases e
    | some y => rw [e1, e2] at e; cases e; exact ⟨x, y, rfl, rfl, rfl⟩
theorem snj_fmt {e : Expr} {es : List Expr} {i : E} {is : Es} {pos : Pos} (he : SE D C F W e i) (hes : SJ D C F W es is) : SJ D C F W (.FormattedValue e (-1) none pos :: es) (.cons i is) := by
  obtain ⟨t, p, s⟩ := he
  obtain ⟨ts, ps, hl, ss⟩ := hes
  refine ⟨_ :: ts, fun X hX => .cons (pe_fmt (p X hX)) (ps X hX), by rw [List.length_cons, List.length_cons, hl], fun L σ H env h ρ acc Q n er w => ?_⟩
  unfold evEs at w
  refine s L σ H env h ρ _ n er ?_
  cases ea : evE C L i env h with
  | bad => rw [ea] at w; exact w
  | exc c h1 => rw [ea] at w; exact w.elim
  | ok q h1 =>
    rw [ea] at w
    intro v H1 ρ1 n1 rq
    dsimp only at w
    cases eb : evEs C L is env h1 with
    | bad => rw [eb] at w; exact w.elim
    | exc c h2 => rw [eb] at w; exact w.elim
    | ok qs h2 =>
      rw [eb] at w
      obtain ⟨s, e1, e2, e3⟩ := w
      obtain ⟨x, y, k1, k2, rfl⟩ := fmts_cons e1
      rw [List.length_append] at e2
      have lm := lim_size
      have rest : tJs ts (⟨acc.toArray⟩ ++ ⟨x.toArray⟩) σ H1 Q := by
        rw [str_toks]
        refine ss L σ H1 env h1 ρ1 (acc ++ x) Q n1.now (er.mono n1.grow n1.pre) ?_
        rw [eb]
        exact ⟨y, k2, by rw [List.length_append]; omega, fun H2 ρ2 n2 => by rw [List.append_assoc]; exact e3 H2 ρ2 (n1.trans n2)⟩
      have fits : ((⟨acc.toArray⟩ : Str) ++ (⟨x.toArray⟩ : Str)).length ≤ sizeLine := by rw [str_toks, mk_str, List.length_append]; omega
      cases rq with
      | str z =>
        cases k1
        exact .inl ⟨_, rfl, by rw [mk_str]; omega, _, rfl, fits, rest⟩
      | int j =>
        unfold fmtOf at k1
        dsimp only at k1
        by_cases z : j.natAbs.log2 < 1900
        · rw [if_pos z] at k1
          cases k1
          refine .inr ⟨j, rfl, by omega, _, rfl, ?_, ?_⟩
          · rw [text_int]; exact fits
          · rw [text_int]; exact rest
        · rw [if_neg z] at k1; cases k1
      | _ => cases k1
theorem snj_str {x : Str} {j : Nat} {es : List Expr} {is : Es} {pos : Pos} (hes : SJ D C F W es is) : SJ D C F W (.Constant (.str x) j pos :: es) (.cons (.lit (.str x.cps.toList)) is) := by
  obtain ⟨ts, ps, hl, ss⟩ := hes
  refine ⟨tC (.str x) :: ts, fun X hX => .cons pe_str (ps X hX), by rw [List.length_cons, List.length_cons, hl], fun L σ H env h ρ acc Q n er w => ?_⟩
  unfold evEs evE at w
  dsimp only at w
  cases eb : evEs C L is env h with
  | bad => rw [eb] at w; exact w.elim
  | exc c h2 => rw [eb] at w; exact w.elim
  | ok qs h2 =>
    rw [eb] at w
    obtain ⟨s, e1, e2, e3⟩ := w
    obtain ⟨x', y, k1, k2, rfl⟩ := fmts_cons e1
    cases k1
    rw [List.length_append] at e2
    have lm := lim_size
    have ex : x = ⟨x.cps.toList.toArray⟩ := by simp
    refine ⟨x, rfl, ?_, ?_⟩
    · rw [ex, str_toks, mk_str, List.length_append]; omega
    · rw [ex, str_toks]
      refine ss L σ H env h ρ _ Q n er ?_
      rw [eb]
      simp only [Array.toArray_toList] 
      exact ⟨y, k2, by rw [List.length_append]; omega, fun H2 ρ2 n2 => by rw [List.append_assoc]; exact e3 H2 ρ2 n2⟩
/-- f'..' of two parts or more -/
theorem snd_fstr {v1 v2 : Expr} {rest : List Expr} {ies : Es} {pos : Pos} (h : SJ D C F W (v1 :: v2 :: rest) ies) : SE D C F W (.JoinedStr (v1 :: v2 :: rest) pos) (.fstr ies) := by
  obtain ⟨ts, ps, hl, ss⟩ := h
  refine ⟨_, fun X hX => pe_joined (ps X hX), fun L σ H env h ρ Q n er w => ?_⟩
  unfold evE at w
  refine ss L σ H env h ρ [] _ n er ?_
  cases ea : evEs C L ies env h with
  | bad => rw [ea] at w; exact w
  | exc c h1 => rw [ea] at w; exact w
  | ok qs h1 =>
    rw [ea] at w
    dsimp only at w
    cases ef : fmts qs with
    | none => rw [ef] at w; exact w.elim
    | some s =>
      rw [ef] at w
      dsimp only at w
      by_cases z : s.length ≤ lim
      · rw [if_pos z] at w
        exact ⟨s, ef, by simpa using z, fun H' ρ' m => w _ H' ρ' m (.str s)⟩
      · rw [if_neg z] at w; exact w.elim

/-! ### min(xs, default=d) -/
theorem snd_minD {p pos kp : Pos} {a d : Expr} {ia id : E} (hc : ∀ X, F.P X → X.calm = true) (hu : ∀ X, F.P X → X.A.units + 64 < cLine) (hg : ∀ X, F.P X → Gl X "min") (hm : ∀ X, F.P X → X.mg "min" = none) (ha : SE D C F W a ia) (hd : SE D C F W d id)
    (he : ∀ X : Cx, backTo pos (starEach [a] X.env) = (false, eval a X.env) :: backTo pos (starEach [] X.env)) (hpl : ∀ X : Cx, (backTo pos (starEach [a] X.env)).any (·.1) = false) (hs : ∀ X : Cx, starEach [a] X.env = (false, eval a X.env) :: starEach [] X.env)
    (hall : ∀ X : Cx, (backToKw pos (keywordEach [⟨some "default", d, kp⟩] X.env)).all (·.1.isSome) = true) (hnone : ∀ X : Cx, (backToKw pos (keywordEach [⟨some "default", d, kp⟩] X.env)).any (·.1.isNone) = false)
    (hks : ∀ X : Cx, (backToKw pos (keywordEach [⟨some "default", d, kp⟩] X.env)).filterMap (·.1) = [Str.ofString "default"]) :
    SE D C F W (.Call (.Name "min" p) [a] [⟨some "default", d, kp⟩] pos) (.prim .minD (.cons ia (.cons id .nil))) := by
  obtain ⟨ta, pa, sa⟩ := ha
  obtain ⟨td, pd, sd⟩ := hd
  refine ⟨tCKw (fun vs zs H Q => vs.length = 1 ∧ RaE D F.K .minD (vs ++ zs) H Q) (tCons ta tNil) (tCons td tNil), fun X hX => ?_, fun L σ H env h ρ Q n er w => ?_⟩
  · exact pe_callBK (F.hK X hX ▸ prr_minD (hc X hX) (hu X hX)) (hg X hX) (hm X hX) boot_min (pa_cons (pa X hX) pa_nil (hs X)) (pk_cons (pd X hX) pk_nil) (by decide) (by decide) (he X) (hpl X) (hall X) (hnone X) (hks X)
  · unfold evE evEs at w
    refine sa L σ H env h ρ _ n er ?_
    cases ea : evE C L ia env h with
    | bad => rw [ea] at w; exact w
    | exc c h1 => rw [ea] at w; exact w
    | ok q h1 =>
      rw [ea] at w
      intro v H1 ρ1 n1 rq
      dsimp only at w
      refine sd L σ H1 env h1 ρ1 _ n1.now (er.mono n1.grow n1.pre) ?_
      unfold evEs at w
      cases ed : evE C L id env h1 with
      | bad => simp only [ed] at w; exact w
      | exc c h2 => simp only [ed] at w; exact fun H2 ρ2 n2 => w H2 ρ2 (n1.trans n2)
      | ok z h2 =>
        simp only [ed, evEs] at w
        intro u H2 ρ2 n2 rz
        exact ⟨rfl, ρ2, h2, [q, z], L, n2.now, .cons (rq.mono n2.grow n2.pre) (.cons rz .nil), want_no (nox_prim .minD _ L h2) (WantE.at w (n1.trans n2))⟩
end
end Mini

/-! Snd16 -/
set_option autoImplicit false
set_option Elab.async false
set_option linter.all false
set_option maxRecDepth 100000
namespace Mini
open PySem PySem.Spec PySem.Calls PyProof.Rows L2

/-! ### what a def hands back: new lists are locked -/
inductive Locks (P : Hp → Prop) : Hp → Prop
  | done {H : Hp} (h : P H) : Locks P H
  | lock {H : Hp} {p : Addr} {vs : List V} (e : H p = some (.lst vs)) (k : ∀ od, Locks P (upd H p (.frz od (.lst vs)))) : Locks P H
theorem Locks.inv {P : Hp → Prop} {X : Cx} {pins : List (Addr × Obj)} {σ : L2.St} {s : Shared} : ∀ {H : Hp}, Locks P H → Inv X pins σ H s → ∃ H', Inv X pins σ H' s ∧ P H'
  | _, .done h, I => ⟨_, I, h⟩
  | _, .lock e k, I => let ⟨od, I2⟩ := I.lock e trivial; Locks.inv (k od) I2
/-- a body whose result is locked before it goes -/
theorem pss_lock {X : Cx} {sts : List Stmt} {t : TS} (h : PSs X sts t) : PSs X sts (fun De σ H => t { De with rt := fun v H' => Locks (fun H'' => De.rt v H'') H' } σ H) := by
  refine ⟨fun pins s σ H De I hw => thn (h.run pins s σ H _ I hw) fun f s1 hq => ?_⟩
  cases f with
  | next => exact hq
  | brk => exact hq
  | cont => exact hq
  | ret u =>
    obtain ⟨v, σ', H', I', r, q⟩ := hq
    obtain ⟨H'', I'', q'⟩ := q.inv I'
    exact ⟨v, σ', H'', I'', r, q'⟩

section
variable {D : Side} {K : PySem.W.Frag} {ρ ρ1 : List Addr} {h h1 : Hh} {H H1 : Hp}
/-- refs that were old are old -/
theorem rep_low (hp : ρ <+: ρ1) : (∀ {p : PV} {v v1 : V}, Rep K ρ H p v → Rep K ρ1 H1 p v1 → Rep K ρ H1 p v1) ∧ ∀ {ps : List PV} {vs vs1 : List V}, Reps K ρ H ps vs → Reps K ρ1 H1 ps vs1 → Reps K ρ H1 ps vs1 := by
  have key : ∀ n : Nat, (∀ {p : PV} {v v1 : V}, sizeOf p ≤ n → Rep K ρ H p v → Rep K ρ1 H1 p v1 → Rep K ρ H1 p v1) ∧ ∀ {ps : List PV} {vs vs1 : List V}, sizeOf ps ≤ n → Reps K ρ H ps vs → Reps K ρ1 H1 ps vs1 → Reps K ρ H1 ps vs1 := by
    intro n
    induction n with
    | zero =>
      refine ⟨fun {p v v1} hs => ?_, fun {ps vs vs1} hs => ?_⟩
      · cases p <;> simp at hs
      · cases ps <;> simp at hs
    | succ n ih =>
      have one : ∀ {p : PV} {v v1 : V}, sizeOf p ≤ n + 1 → Rep K ρ H p v → Rep K ρ1 H1 p v1 → Rep K ρ H1 p v1 := by
        intro p v v1 hs a b
        cases b with
        | non => exact .non
        | bl b => exact .bl b
        | int i => exact .int i
        | str s => exact .str s
        | tup q r => cases a with | tup q0 r0 => exact .tup q (ih.2 (by simp at hs; omega) r0 r)
        | lst q r => cases a with | lst q0 r0 => exact .lst q (ih.2 (by simp at hs; omega) r0 r)
        | ref e => cases a with | ref e0 =>
          have := pre_get hp e0
          rw [e] at this
          cases this
          exact .ref e0
      refine ⟨one, fun {ps vs vs1} hs a b => ?_⟩
      cases b with
      | nil => exact .nil
      | cons b1 b2 => cases a with | cons a1 a2 =>
        simp at hs
        exact .cons (ih.1 (by omega) a1 b1) (ih.2 (by omega) a2 b2)
  exact ⟨fun {p v v1} a b => (key (sizeOf p)).1 (Nat.le_refl _) a b, fun {ps vs vs1} a b => (key (sizeOf ps)).2 (Nat.le_refl _) a b⟩
/-- back to the old changeable objects, which stand as they were -/
theorem Nxt.back (n0 : Now D K ρ h H) (m : Nxt D K ρ H ρ1 h1 H1) (fr : ∀ r, r < h.length → h1[r]? = h[r]?) : Nxt D K ρ H ρ h H1 := by
  refine ⟨m.grow, List.prefix_refl _, ⟨n0.rep.len, n0.rep.nd, fun i o ei => ?_⟩, m.side, m.off, m.dom, fun a hm => .inl hm⟩
  have hi : i < h.length := (List.getElem?_eq_some_iff.mp ei).1
  obtain ⟨a, ea, ob⟩ := n0.rep.at_ i o ei
  obtain ⟨a1, ea1, ob1⟩ := m.rep.at_ i o (by rw [fr i hi]; exact ei)
  have := pre_get m.pre ea
  rw [ea1] at this
  cases this
  refine ⟨_, ea, ?_⟩
  cases o with
  | lst ps =>
    obtain ⟨vs, _, r0⟩ := ob
    obtain ⟨vs1, e1, r1⟩ := ob1
    exact ⟨vs1, e1, (rep_low m.pre).2 r0 r1⟩
  | dic _ => exact ob
  | ins _ _ => exact ob
/-- the places from n on that are lists are locked -/
theorem lock_all {P : Hp → Prop} (hnd : ρ1.Nodup) : ∀ (as : List Addr), (∀ a ∈ as, a ∈ ρ1) → as.Nodup → ∀ (H1 : Hp), (∀ a ∈ as, ∃ vs, H1 a = some (.lst vs)) →
    (∀ H2, (∀ a o, H1 a = some o → a ∉ as → H2 a = some o) → (∀ a, H1 a = none → H2 a = none) → (∀ a ∈ as, ∀ vs, H1 a = some (.lst vs) → ∃ od, H2 a = some (.frz od (.lst vs))) → P H2) → Locks P H1
  | [], _, _, H1, _, k => .done (k H1 (fun _ _ e _ => e) (fun _ e => e) (fun a m => by cases m))
  | a :: as, ha, nd, H1, hl, k => by
    obtain ⟨vs, e⟩ := hl a (List.mem_cons_self ..)
    have nda := List.nodup_cons.mp nd
    refine .lock e fun od => lock_all hnd as (fun b hb => ha b (List.mem_cons_of_mem _ hb)) nda.2 _ (fun b hb => ?_) fun H2 k1 k2 k3 => k H2 (fun b o eb nb => ?_) (fun b eb => ?_) (fun b hb ws eb => ?_)
    · obtain ⟨ws, ew⟩ := hl b (List.mem_cons_of_mem _ hb)
      exact ⟨ws, by rw [upd_ne (show b ≠ a from fun z => nda.1 (by rw [← z]; exact hb))]; exact ew⟩
    · simp only [List.mem_cons, not_or] at nb
      exact k1 b o (by rw [upd_ne nb.1]; exact eb) nb.2
    · exact k2 b (by rw [upd_ne (show b ≠ a from fun z => by rw [z, e] at eb; cases eb)]; exact eb)
    · rcases List.mem_cons.mp hb with z | hb
      · subst z
        rw [e] at eb
        cases eb
        exact ⟨od, k1 _ _ upd_same nda.1⟩
      · exact k3 b hb ws (by rw [upd_ne (show b ≠ a from fun z => nda.1 (by rw [← z]; exact hb))]; exact eb)

/-- what a ref stands for when it is handed back -/
def RdOk (K : PySem.W.Frag) (ρ ρ1 : List Addr) (H2 : Hp) (rd : Nat → Option PV) : Prop := ∀ r q a, rd r = some q → ρ1[r]? = some a → Rep K ρ H2 q (.ref a)
mutual
theorem frz_rep {H2 : Hp} {rd : Nat → Option PV} (g : Grow H1 H2) (hr : RdOk K ρ ρ1 H2 rd) : ∀ {p q : PV} {v : V}, Rep K ρ1 H1 p v → frz rd p = some q → Rep K ρ H2 q v
  | _, _, _, .non, e => by simp only [frz] at e; cases e; exact .non
  | _, _, _, .bl b, e => by simp only [frz] at e; cases e; exact .bl b
  | _, _, _, .int i, e => by simp only [frz] at e; cases e; exact .int i
  | _, _, _, .str s, e => by simp only [frz] at e; cases e; exact .str s
  | _, _, _, .tup q r, e => by
    simp only [frz] at e
    obtain ⟨ys, e1, rfl⟩ := Option.map_eq_some_iff.mp e
    exact .tup (SqT.grow g q) (frzs_rep g hr r e1)
  | _, _, _, .lst q r, e => by
    simp only [frz] at e
    obtain ⟨ys, e1, rfl⟩ := Option.map_eq_some_iff.mp e
    exact .lst (Fz.grow g q) (frzs_rep g hr r e1)
  | _, _, _, .ref ea, e => by simp only [frz] at e; exact hr _ _ _ e ea
theorem frzs_rep {H2 : Hp} {rd : Nat → Option PV} (g : Grow H1 H2) (hr : RdOk K ρ ρ1 H2 rd) : ∀ {ps qs : List PV} {vs : List V}, Reps K ρ1 H1 ps vs → frzs rd ps = some qs → Reps K ρ H2 qs vs
  | _, _, _, .nil, e => by simp only [frzs] at e; cases e; exact .nil
  | p :: ps, _, _, .cons a b, e => by
    simp only [frzs] at e
    cases e1 : frz rd p with
    | none => rw [e1] at e; cases e
    | some y =>
      cases e2 : frzs rd ps with
      | none => rw [e1, e2] at e; cases e
      | some ys => rw [e1, e2] at e; cases e; exact .cons (frz_rep g hr a e1) (frzs_rep g hr b e2)
end
theorem deref_ok {H2 : Hp} (hp : ρ <+: ρ1) (hl : ρ.length = h.length) (rep1 : HRep K ρ1 h1 H1) (g : Grow H1 H2) (hk : ∀ i a vs, h.length ≤ i → ρ1[i]? = some a → H1 a = some (.lst vs) → ∃ od, H2 a = some (.frz od (.lst vs))) : ∀ k : Nat, RdOk K ρ ρ1 H2 (deref h.length h1 k)
  | 0, r, q, a, e, ea => by
    unfold deref at e
    split at e
    · rename_i z
      cases e
      obtain ⟨b, eb⟩ : ∃ b, ρ[r]? = some b := ⟨_, List.getElem?_eq_getElem (by rw [hl]; exact z)⟩
      have := pre_get hp eb
      rw [ea] at this
      cases this
      exact .ref eb
    · cases e
  | k + 1, r, q, a, e, ea => by
    unfold deref at e
    by_cases z : r < h.length
    · rw [if_pos z] at e
      cases e
      obtain ⟨b, eb⟩ : ∃ b, ρ[r]? = some b := ⟨_, List.getElem?_eq_getElem (by rw [hl]; exact z)⟩
      have := pre_get hp eb
      rw [ea] at this
      cases this
      exact .ref eb
    · rw [if_neg z] at e
      cases eo : h1[r]? with
      | none => rw [eo] at e; cases e
      | some o =>
        rw [eo] at e
        obtain ⟨b, eb, ob⟩ := rep1.at_ r o eo
        rw [ea] at eb
        cases eb
        cases o with
        | lst xs =>
          dsimp only at e
          obtain ⟨ys, e1, rfl⟩ := Option.map_eq_some_iff.mp e
          obtain ⟨vs, k1, k2⟩ := ob
          obtain ⟨od, k3⟩ := hk r _ vs (Nat.le_of_not_lt z) ea k1
          exact .lst (.inl ⟨od, k3⟩) (frzs_rep g (deref_ok hp hl rep1 g hk k) k2 e1)
        | dic _ => exact ob.elim
        | ins _ _ => cases e
/-- a pure def's return -/
theorem ret_pure {Q : VK} {p q : PV} {v : V} (n0 : Now D K ρ h H) (m : Nxt D K ρ H ρ1 h1 H1) (fr : ∀ r, r < h.length → h1[r]? = h[r]?) (r : Rep K ρ1 H1 p v) (e : frz (deref h.length h1 8) p = some q)
    (w : ∀ v H' ρ', Nxt D K ρ H ρ' h H' → Rep K ρ' H' q v → Q v H') : Locks (fun H' => Q v H') H1 := by
  have hlen := n0.rep.len
  have hlen1 := m.rep.len
  have back := Nxt.back n0 m fr
  obtain ⟨tl, htl⟩ := m.pre
  have nd1 := m.rep.nd
  have nd1' := nd1
  rw [← htl] at nd1'
  have nda := List.nodup_append.mp nd1'
  have at1 : ∀ a ∈ tl, ∃ i : Nat, h.length ≤ i ∧ ρ1[i]? = some a := by
    intro a ha
    obtain ⟨j, hj, ej⟩ := List.getElem_of_mem ha
    refine ⟨ρ.length + j, by omega, ?_⟩
    rw [← htl, List.getElem?_append_right (by omega), Nat.add_sub_cancel_left, List.getElem?_eq_getElem hj, ej]
  have isl : ∀ (i : Nat) (a : Addr), ρ1[i]? = some a → ∃ vs, H1 a = some (.lst vs) := by
    intro i a ei
    have hi : i < h1.length := by rw [← hlen1]; exact (List.getElem?_eq_some_iff.mp ei).1
    obtain ⟨b, eb, ob⟩ := m.rep.at_ i _ (List.getElem?_eq_getElem hi)
    rw [ei] at eb
    cases eb
    cases eo : h1[i] with
    | lst xs => rw [eo] at ob; obtain ⟨vs, k1, _⟩ := ob; exact ⟨vs, k1⟩
    | dic _ => rw [eo] at ob; exact ob.elim
    | ins _ _ => rw [eo] at ob; exact ob.elim
  have inTl : ∀ (i : Nat) (a : Addr), h.length ≤ i → ρ1[i]? = some a → a ∈ tl := by
    intro i a hi ei
    rw [← htl, List.getElem?_append_right (by omega)] at ei
    exact List.mem_of_getElem? ei
  refine lock_all nd1 tl (fun a ha => by rw [← htl]; exact List.mem_append_right _ ha) nda.2.1 H1 (fun a ha => let ⟨i, _, ei⟩ := at1 a ha; isl i a ei) fun H2 k1 k2 k3 => ?_
  have notTl : ∀ a o, H1 a = some o → (∀ vs, o ≠ .lst vs) → a ∉ tl := fun a o ea hn hm => by
    obtain ⟨i, _, ei⟩ := at1 a hm
    obtain ⟨vs, ev⟩ := isl i a ei
    rw [ea] at ev
    cases ev
    exact hn vs rfl
  have keep : Keep H1 H2 := fun a o ea s => k1 a o ea (notTl a o ea (by rintro vs rfl; rcases s with s | s <;> exact s))
  have g := keep.grow
  refine w v H2 ρ ⟨m.grow.trans g, List.prefix_refl _, ⟨hlen, n0.rep.nd, fun i o ei => ?_⟩, D.keep m.side keep, fun a o ea na nt => ?_, fun a o ea nt => ?_, fun a ha => .inl ha⟩ ?_
  · obtain ⟨a, ea, ob⟩ := back.rep.at_ i o ei
    have na : a ∉ tl := fun hm => nda.2.2 a (List.mem_of_getElem? ea) a hm rfl
    refine ⟨a, ea, ob.mono g (List.prefix_refl _) ?_⟩
    cases e1 : H1 a with
    | none => exact k2 a e1
    | some u => exact k1 a u e1 na
  · have e1 := m.off a o ea na nt
    refine k1 a o e1 fun hm => ?_
    rcases m.fresh a (by rw [← htl]; exact List.mem_append_right _ hm) with z | z
    · exact na z
    · exact nt (z _ ea)
  · obtain ⟨o', e1, t1⟩ := m.dom a o ea nt
    by_cases hm : a ∈ tl
    · obtain ⟨i, _, ei⟩ := at1 a hm
      obtain ⟨vs, ev⟩ := isl i a ei
      obtain ⟨od, e2⟩ := k3 a hm vs ev
      exact ⟨_, e2, id⟩
    · exact ⟨o', k1 a o' e1 hm, t1⟩
  · exact frz_rep g (deref_ok m.pre hlen m.rep g (fun i a vs hi ei ea => k3 a (inTl i a hi ei) vs ea) 8) r e
end
end Mini

/-! Snd17 -/
set_option autoImplicit false
set_option Elab.async false
set_option linter.all false
set_option maxRecDepth 100000
namespace Mini
open PySem PySem.Spec PySem.Calls PyProof.Rows L2

/-- a program as it stands behind its top: the evaluator's program, where its defs and exception classes lie -/
structure Wd where
  P : Program
  w : World
  K : PySem.W.Frag
  mg : Str → Option Value
  base : Heap
  D : Side
  I : Prg
  cls : Nat → Addr
  cad : Nat → Addr
  fa : Nat → Addr
  fd : Nat → FuncData
  ps : Nat → List Str
/-- what a def promises at depth d -/
def Wd.sp (Z : Wd) (d i : Nat) : Sp := fun vs H Q E => vs.length = (Z.ps i).length ∧ ∃ (ρ : List Addr) (h : Hh) (args : List PV) (L : Lk), Now Z.D Z.K ρ h H ∧ Reps Z.K ρ H args vs ∧ WantE Z.D Z.K ρ H (fun c H' => E (.ref (Z.cls c)) none H') Q (callN Z.I d i args L h)
def lev (d : Nat) : Nat := 8 * d
def Wd.Ok (Z : Wd) (d : Nat) : Prop := ∀ i, i < Z.I.fns.length → FnOk Z.P Z.w Z.K Z.mg Z.base (L2.CX Z.P Z.w) (lev d) (Z.fa i) (Z.fd i) (Z.ps i) (Z.sp d i)

/-- what a family of contexts is known by -/
structure FamG (Z : Wd) (F : Fam) (k : Nat) (N : List Str) (sc : Scope) (tp : Tp) (Wx : WX) : Prop where
  hK : F.K = Z.K
  prog : ∀ X, F.P X → X.prog = Z.P
  hW : ∀ X, F.P X → X.w = Z.w
  mg : ∀ X, F.P X → X.mg = Z.mg
  base : ∀ X, F.P X → X.base = Z.base
  calm : ∀ X, F.P X → X.calm = true
  room : ∀ X, F.P X → Room k X.A
  hN : ∀ X, F.P X → X.N = N
  nd : N.Nodup
  hSc : ∀ X, F.P X → X.env.scope = sc
  kind : sc.kind = .function
  tk : ∀ X, F.P X → Takes X Wx
  own : ∀ X, F.P X → PassesOwn (model X.prog X.w) X.A X.env X.xe
  fn : tp.top = true → ∀ X, F.P X → ∀ x, X.fn x = true
  stk : tp.top = true → ∀ X, F.P X → X.stack = X.env :: X.outer ∧ X.env.frame = some X.env.locals
  cd : ∀ ca, tp.cd = some ca → ∀ X, F.P X → X.env.code = .ref (Z.cad ca) ∧ X.env.qual = tp.ql
  one : tp.top = true → ∃ e0, ∀ X, F.P X → X.env = e0
section
variable {Z : Wd} {F : Fam} {k : Nat} {N : List Str} {sc : Scope} {tp : Tp} {Wx : WX}
theorem FamG.hu (G : FamG Z F k N sc tp Wx) : ∀ X, F.P X → X.A.units + 64 < cLine := fun X hX => (G.room X hX).units
theorem FamG.hu2 (G : FamG Z F k N sc tp Wx) : ∀ X, F.P X → X.A.units + 65 < cLine := fun X hX => by have := (G.room X hX).un; omega
theorem FamG.gl (G : FamG Z F k N sc tp Wx) {x : Str} (h : sc.names.lookup x = some .globalImplicit) : ∀ X, F.P X → Gl X x := fun X hX => by
  show X.env.scope.names.lookup x = _
  rw [G.hSc X hX]; exact h
theorem FamG.vis (G : FamG Z F k N sc tp Wx) {x : Str} (h : Vis sc x) : ∀ X, F.P X → Vis X.env.scope x := fun X hX => by rw [G.hSc X hX]; exact h
theorem FamG.loc (G : FamG Z F k N sc tp Wx) {x : Str} (h : Loc sc x) : ∀ X, F.P X → Loc X.env.scope x := fun X hX => by rw [G.hSc X hX]; exact h
theorem FamG.at (G : FamG Z F k N sc tp Wx) {x : Str} {i : Nat} (h : N[i]? = some x) : ∀ X, F.P X → X.N[i]? = some x := fun X hX => by rw [G.hN X hX]; exact h
theorem FamG.hnd (G : FamG Z F k N sc tp Wx) : ∀ X, F.P X → X.N.Nodup := fun X hX => by rw [G.hN X hX]; exact G.nd
theorem FamG.mgN (G : FamG Z F k N sc tp Wx) {x : Str} (h : Z.mg x = none) : ∀ X, F.P X → X.mg x = none := fun X hX => by rw [G.mg X hX]; exact h
theorem FamG.mgS (G : FamG Z F k N sc tp Wx) {x : Str} {v : Value} (h : Z.mg x = some v) : ∀ X, F.P X → X.mg x = some v := fun X hX => by rw [G.mg X hX]; exact h
theorem FamG.blk (G : FamG Z F k N sc tp Wx) {scope : Scope} (hk : scope.kind = .function) : FamG Z (F.blk scope) k N (relS scope sc) { tp with top := false } (fun _ _ _ _ => False) where
  hK := G.hK
  prog := fun Y ⟨X, s, H, C, cl, fp, hX, e⟩ => by rw [e]; exact G.prog X hX
  hW := fun Y ⟨X, s, H, C, cl, fp, hX, e⟩ => by rw [e]; exact G.hW X hX
  mg := fun Y ⟨X, s, H, C, cl, fp, hX, e⟩ => by rw [e]; exact G.mg X hX
  base := fun Y ⟨X, s, H, C, cl, fp, hX, e⟩ => by rw [e]; exact G.base X hX
  calm := fun Y ⟨X, s, H, C, cl, fp, hX, e⟩ => by rw [e]; exact G.calm X hX
  room := fun Y ⟨X, s, H, C, cl, fp, hX, e⟩ => by rw [e]; exact G.room X hX
  hN := fun Y ⟨X, s, H, C, cl, fp, hX, e⟩ => by rw [e]; exact G.hN X hX
  nd := G.nd
  hSc := fun Y ⟨X, s, H, C, cl, fp, hX, e⟩ => by
    rw [e]
    show relS scope X.env.scope = _
    rw [G.hSc X hX]
  kind := hk
  tk := fun Y ⟨X, s, H, C, cl, fp, hX, e⟩ => takes0
  own := fun Y ⟨X, s, H, C, cl, fp, hX, e⟩ => by rw [e]; exact PassesOwn.never
  fn := fun h => by cases h
  stk := fun h => by cases h
  cd := fun ca hc Y ⟨X, s, H, C, cl, fp, hX, e⟩ => by rw [e]; exact G.cd ca hc X hX
  one := fun h => by cases h
theorem FamG.tr (G : FamG Z F k N sc tp Wx) (W' : WX) : FamG Z (F.tr W') k N sc tp W' where
  hK := G.hK
  prog := fun Y ⟨X, pn, xe, hX, e, _⟩ => by rw [e]; exact G.prog X hX
  hW := fun Y ⟨X, pn, xe, hX, e, _⟩ => by rw [e]; exact G.hW X hX
  mg := fun Y ⟨X, pn, xe, hX, e, _⟩ => by rw [e]; exact G.mg X hX
  base := fun Y ⟨X, pn, xe, hX, e, _⟩ => by rw [e]; exact G.base X hX
  calm := fun Y ⟨X, pn, xe, hX, e, _⟩ => by rw [e]; exact G.calm X hX
  room := fun Y ⟨X, pn, xe, hX, e, _⟩ => by rw [e]; exact G.room X hX
  hN := fun Y ⟨X, pn, xe, hX, e, _⟩ => by rw [e]; exact G.hN X hX
  nd := G.nd
  hSc := fun Y ⟨X, pn, xe, hX, e, _⟩ => by rw [e]; exact G.hSc X hX
  kind := G.kind
  tk := fun Y ⟨X, pn, xe, hX, e, t, _⟩ => by rw [e]; exact t
  own := fun Y ⟨X, pn, xe, hX, e, _, o⟩ => by rw [e]; exact o
  fn := fun h Y ⟨X, pn, xe, hX, e, _⟩ => by rw [e]; exact G.fn h X hX
  stk := fun h Y ⟨X, pn, xe, hX, e, _⟩ => by rw [e]; exact G.stk h X hX
  cd := fun ca hc Y ⟨X, pn, xe, hX, e, _⟩ => by rw [e]; exact G.cd ca hc X hX
  one := fun h => (G.one h).elim fun e0 q => ⟨e0, fun Y ⟨X, pn, xe, hX, e, _⟩ => by rw [e]; exact q X hX⟩
end

/-! ### a call of a def -/
theorem evEs_lits (C : Cl) (L : Lk) (env : Env) : ∀ (qs : List PV) (h : Hh), evEs C L (Es.lits qs) env h = .ok qs h
  | [], h => by rw [Es.lits, evEs]
  | q :: qs, h => by rw [Es.lits, evEs, evE]; simp only [evEs_lits C L env qs h]
theorem evEs_app (C : Cl) (L : Lk) (env : Env) (qs : List PV) : ∀ (is : Es) (h : Hh), evEs C L (is.app (Es.lits qs)) env h = (match evEs C L is env h with
    | .ok ps h => .ok (ps ++ qs) h
    | .exc c h => .exc c h
    | .bad => .bad)
  | .nil, h => by rw [Es.app, evEs_lits, evEs]; rfl
  | .cons e es, h => by
    rw [Es.app]
    unfold evEs
    cases evE C L e env h with
    | bad => rfl
    | exc c h1 => rfl
    | ok p h1 =>
      dsimp only
      rw [evEs_app C L env qs es h1]
      cases evEs C L es env h1 <;> rfl
/-- f(): like f(e, ..), with no value written -/
theorem pe_callSD0 {X : Cx} {CX : CXT} {k : Nat} {f : Addr} {fd : FuncData} {ps : List Str} {sp : Sp} {dvs : List V} {ds : List Value} {E : L2.St → XK} {x : Str} {p pos : Pos} (F : FnOk X.prog X.w X.K X.mg X.base CX k f fd ps sp) (hr : Room k X.A) (hg : Gl X x) (hm : X.mg x = some (.ref f))
    (hk : PySem.W.keepIn X.K (.ref f) = true) (hb : Binds X.K fd ps ds) (hd : Vals dvs ds) (hx : ∀ σ, PassesAt CX X σ (E σ)) (hdb : (x == ("__debug__" : Str)) = false) : PE X (.Call (.Name x p) [] [] pos) (tCallSD sp dvs E tNil) := by
  refine ⟨fun pins s σ H Q I h => ?_⟩
  refine wpAny_Call_Name_kw (ld_glob I hg hm ?_ hdb)
  exact PySem.W.callWith_K0 I.kIn hk (run_fnSD (us := []) F hr hb hd (hx σ) I .nil h)
section
variable {Z : Wd} {F : Fam} {k : Nat} {N : List Str} {sc : Scope} {tp : Tp} {Wx : WX}
theorem call_rd {d i : Nat} {ies : Es} {qs : List PV} {dvs : List V} {t : TA} (G : FamG Z F k N sc tp Wx) (hq : ∀ ρ H, Reps Z.K ρ H qs dvs)
    (hn : ∀ (ps : List PV) C L env h h', evEs C L ies env h = .ok ps h' → (ps ++ qs).length = (Z.ps i).length)
    (sa : ∀ (L : Lk) (σ : L2.St) (H : Hp) (env : Env) (h : Hh) (ρ : List Addr) (Q : List V → Hp → Prop), Now Z.D F.K ρ h H → EnvR F.K ρ H env σ → WantL Z.D F.K ρ H (fun c H' => WofX Z.cls Wx c σ H') Q (evEs (clN Z.I d) L ies env h) → t σ H Q) :
    ∀ (L : Lk) (σ : L2.St) (H : Hp) (env : Env) (h : Hh) (ρ : List Addr) (Q : VK), Now Z.D F.K ρ h H → EnvR F.K ρ H env σ → WantE Z.D F.K ρ H (fun c H' => WofX Z.cls Wx c σ H') Q (evE (clN Z.I d) L (.call i (ies.app (Es.lits qs))) env h) →
      tCallSD (Z.sp d i) dvs (WE Wx) t σ H Q := by
  intro L σ H env h ρ Q n er w
  unfold evE at w
  rw [evEs_app] at w
  refine sa L σ H env h ρ _ n er ?_
  cases ea : evEs (clN Z.I d) L ies env h with
  | bad => rw [ea] at w; exact w
  | exc c h1 => rw [ea] at w; exact w
  | ok ps h1 =>
    rw [ea] at w
    intro vs H1 ρ1 n1 rs
    dsimp only at w
    have rs2 : Reps F.K ρ1 H1 (ps ++ qs) (vs ++ dvs) := rs.append (by rw [G.hK]; exact hq ρ1 H1)
    refine ⟨by rw [← rs2.length]; exact hn ps _ L env h h1 ea, ρ1, h1, ps ++ qs, L, ?_⟩
    rw [← G.hK]
    exact ⟨n1.now, rs2, WantE.at w n1⟩
theorem fn_at {d i : Nat} (G : FamG Z F k N sc tp Wx) (O : Z.Ok d) (hl : lev d ≤ k) (hi : i < Z.I.fns.length) : ∀ X, F.P X → FnOk X.prog X.w X.K X.mg X.base (L2.CX X.prog X.w) k (Z.fa i) (Z.fd i) (Z.ps i) (Z.sp d i) := fun X hX => by
  rw [G.prog X hX, G.hW X hX, F.hK X hX, G.hK, G.mg X hX, G.base X hX]
  exact (O i hi).mono hl
theorem snd_call {d i : Nat} {x : Str} {p pos : Pos} {e : Expr} {es : List Expr} {ies : Es} {qs : List PV} {dvs : List V} {ds : List Value} (G : FamG Z F k N sc tp Wx) (O : Z.Ok d) (hl : lev d ≤ k) (hi : i < Z.I.fns.length)
    (hg : sc.names.lookup x = some .globalImplicit) (hm : Z.mg x = some (.ref (Z.fa i))) (hk : PySem.W.keepIn Z.K (.ref (Z.fa i)) = true) (hb : Binds Z.K (Z.fd i) (Z.ps i) ds) (hd : Vals dvs ds) (hq : ∀ ρ H, Reps Z.K ρ H qs dvs) (hdb : (x == ("__debug__" : Str)) = false)
    (hn : ∀ (ps : List PV) C L env h h', evEs C L ies env h = .ok ps h' → (ps ++ qs).length = (Z.ps i).length)
    (ha : SA Z.D (clN Z.I d) F (WofX Z.cls Wx) (e :: es) ies) (he : ∀ (X : Cx), starEach (e :: es) X.env = (false, eval e X.env) :: starEach es X.env) (hpl : ∀ (X : Cx), (backTo pos (starEach es X.env)).any (·.1) = false) :
    SE Z.D (clN Z.I d) F (WofX Z.cls Wx) (.Call (.Name x p) (e :: es) [] pos) (.call i (ies.app (Es.lits qs))) := by
  obtain ⟨t, pa, sa⟩ := ha
  have hKX : ∀ X, F.P X → X.K = Z.K := fun X hX => (F.hK X hX).trans G.hK
  exact ⟨_, fun X hX => pe_callSD (fn_at G O hl hi X hX) (G.room X hX) (G.gl hg X hX) (G.mgS hm X hX) (by rw [hKX X hX]; exact hk) (by rw [hKX X hX]; exact hb) hd (fun σ => passAt (G.tk X hX) σ) (pa X hX) hdb (he X) (hpl X), call_rd G hq hn sa⟩
theorem snd_call0 {d i : Nat} {x : Str} {p pos : Pos} {qs : List PV} {dvs : List V} {ds : List Value} (G : FamG Z F k N sc tp Wx) (O : Z.Ok d) (hl : lev d ≤ k) (hi : i < Z.I.fns.length)
    (hg : sc.names.lookup x = some .globalImplicit) (hm : Z.mg x = some (.ref (Z.fa i))) (hk : PySem.W.keepIn Z.K (.ref (Z.fa i)) = true) (hb : Binds Z.K (Z.fd i) (Z.ps i) ds) (hd : Vals dvs ds) (hq : ∀ ρ H, Reps Z.K ρ H qs dvs) (hdb : (x == ("__debug__" : Str)) = false)
    (hn : qs.length = (Z.ps i).length) : SE Z.D (clN Z.I d) F (WofX Z.cls Wx) (.Call (.Name x p) [] [] pos) (.call i (Es.app .nil (Es.lits qs))) := by
  have hKX : ∀ X, F.P X → X.K = Z.K := fun X hX => (F.hK X hX).trans G.hK
  refine ⟨_, fun X hX => pe_callSD0 (fn_at G O hl hi X hX) (G.room X hX) (G.gl hg X hX) (G.mgS hm X hX) (by rw [hKX X hX]; exact hk) (by rw [hKX X hX]; exact hb) hd (fun σ => passAt (G.tk X hX) σ) hdb, call_rd G hq (fun ps C L env h h' e => ?_) fun L σ H env h ρ Q n er w => ?_⟩
  · unfold evEs at e
    cases e
    exact hn
  · unfold evEs at w
    exact w [] H ρ n.nxt .nil
/-- a module's constant -/
theorem snd_con {d j : Nat} {x : Str} {pos : Pos} {q : PV} {v : V} {u : Value} (G : FamG Z F k N sc tp Wx) (hg : sc.names.lookup x = some .globalImplicit) (hm : Z.mg x = some u) (r : RelV v u) (hq : Z.I.cons[j]? = some q) (hr : ∀ ρ H, Rep Z.K ρ H q v) (hdb : (x == ("__debug__" : Str)) = false) :
    SE Z.D (clN Z.I d) F (WofX Z.cls Wx) (.Name x pos) (.con j) :=
  ⟨tC v, fun X hX => pe_glob (G.gl hg X hX) (G.mgS hm X hX) r hdb, fun L σ H env h ρ Q n er w => by
    unfold evE at w
    rw [show (clN Z.I d).con j = Z.I.cons[j]? from rfl, hq] at w
    exact w v H ρ n.nxt (by rw [G.hK]; exact hr ρ H)⟩
end
end Mini

/-! Snd18 -/
set_option autoImplicit false
set_option Elab.async false
set_option linter.all false
set_option maxRecDepth 100000
namespace Mini
open PySem PySem.Spec PySem.Calls PyProof.Rows L2

theorem envR_start {K : PySem.W.Frag} {ρ : List Addr} {H : Hp} {N : List Str} {args : List PV} {vs : List V} (r : Reps K ρ H args vs) (hl : vs.length ≤ N.length) : EnvR K ρ H (entry N.length args) (start N vs) := by
  have l := r.length
  unfold entry L2.start
  refine ⟨by simp [l], fun i p e => ?_⟩
  by_cases hi : i < args.length
  · rw [List.getElem?_append_left (by simpa using hi), List.getElem?_map] at e
    obtain ⟨q, e1, e2⟩ := Option.map_eq_some_iff.mp e
    cases e2
    obtain ⟨v, h1, h2⟩ := r.get e1
    exact ⟨v, by rw [List.getElem?_append_left (by simpa [← l] using hi), List.getElem?_map, h1]; rfl, h2⟩
  · rw [List.getElem?_append_right (by simpa using hi)] at e
    have := List.mem_of_getElem? e
    rw [List.mem_replicate] at this
    cases this.2
theorem frO_get {n : Nat} {h h' : Hh} (x : Fr ⟨n, []⟩ h h') (hn : n = h.length) : ∀ r, r < h.length → h'[r]? = h[r]? := fun r hr => x.2 r hr (.inr (by show r < n; omega))
/-- a def as it stands behind the top, its code object told -/
structure FunC (K : PySem.W.Frag) (x qual : Str) (params : Arguments) (body : List Stmt) (scope : Scope) (dvs : List V) (f : Addr) (fd : FuncData) (cdv : Value) : Prop where
  ex : ∃ (oc : Value) (od : Option Addr) (dV kV doc pm : Value) (an : Option Addr) (ct : Value) (osl : Array (Option Value)),
    fd = PySem.W.fnOf x qual params body scope dV kV doc pm an cdv ct ∧ K.lookup f = some ⟨oc, od, .func fd, osl⟩ ∧ PySem.W.codeIn K cdv qual = true ∧ DflV K dV dvs
  kp : PySem.W.keepIn K (.ref f) = true
theorem FunC.toD {K : PySem.W.Frag} {x qual : Str} {params : Arguments} {body : List Stmt} {scope : Scope} {dvs : List V} {f : Addr} {fd : FuncData} {cdv : Value} (F : FunC K x qual params body scope dvs f fd cdv) : FunD K x qual params body scope dvs [] f fd := by
  obtain ⟨oc, od, dV, kV, doc, pm, an, ct, osl, h1, h2, h3, h4⟩ := F.ex
  exact ⟨⟨oc, od, dV, kV, doc, pm, an, cdv, ct, osl, h1, h2, h3, h4, .inl rfl⟩, F.kp⟩
section
variable {Z : Wd}
/-- one more level of calls: a def -/
theorem fn_step {d i : Nat} {x qual : Str} {params : Arguments} {body : List Stmt} {scope : Scope} {dvs : List V} {N : List Str} {Fd : Fn} {cdv : Value} {ca : Option Nat} (FD : FunC Z.K x qual params body scope dvs (Z.fa i) (Z.fd i) cdv) (hca : ∀ a, ca = some a → cdv = .ref (Z.cad a)) (S : FnScope N (Z.ps i) scope)
    (hi : Z.I.fns[i]? = some Fd) (hp : Fd.npar = (Z.ps i).length) (hs : Fd.nslot = N.length) (hle : (Z.ps i).length ≤ N.length)
    (hb : ∀ (F : Fam) (Wx : WX) (k : Nat), FamG Z F k N scope ⟨true, qual ++ ".<locals>.", ca⟩ Wx → lev d + 7 ≤ k → SSs Z.D (clN Z.I d) F (WofX Z.cls Wx) body Fd.body) :
    FnOk Z.P Z.w Z.K Z.mg Z.base (L2.CX Z.P Z.w) (lev (d + 1)) (Z.fa i) (Z.fd i) (Z.ps i) (Z.sp (d + 1) i) := by
  obtain ⟨oc, od, dV, kV, doc, pm, an, ct, osl, efd, lk, hcd, hdf⟩ := FD.ex
  rw [efd] at lk ⊢
  refine fn_of (k := lev d + 7) lk hcd S (fun vs H Q E h => h.1) fun A outer s H vs Q E hr hsp => ?_
  obtain ⟨hlen, ρ, h, args, L, n, rs, w⟩ := hsp
  let X0 : Cx := cxOf (L2.CX Z.P Z.w) Z.P Z.w Z.K Z.mg Z.base N qual scope (Z.fa i) cdv A outer s H E
  let F : Fam := { K := Z.K, P := fun X => X = X0, hK := fun X e => by rw [e]; rfl }
  have G : FamG Z F (lev d + 7) N scope ⟨true, qual ++ ".<locals>.", ca⟩ (fun cls dd _ H' => E cls dd H') := by
    refine ⟨rfl, ?_, ?_, ?_, ?_, ?_, ?_, ?_, S.nd, ?_, S.kind, ?_, ?_, ?_, ?_, ?_, fun _ => ⟨X0.env, fun X e => by rw [show X = X0 from e]⟩⟩
    · rintro X rfl; rfl
    · rintro X rfl; rfl
    · rintro X rfl; rfl
    · rintro X rfl; rfl
    · rintro X rfl; rfl
    · rintro X rfl; exact hr
    · rintro X rfl; rfl
    · rintro X rfl; rfl
    · rintro X rfl; exact takes_of (X := X0) (E := E) rfl rfl rfl rfl
    · rintro X rfl; exact passes_of (X := X0) rfl
    · rintro _ X rfl x; rfl
    · rintro _ X rfl; exact ⟨rfl, rfl⟩
    · rintro a ha X rfl; exact ⟨hca a ha, rfl⟩
  obtain ⟨t, pt, st⟩ := hb F _ _ G (Nat.le_refl _)
  have er : EnvR Z.K ρ H (entry Fd.nslot args) (start N vs) := by rw [hs]; exact envR_start rs (by rw [hlen]; exact hle)
  have la : args.length = Fd.npar := by rw [hp, ← hlen]; exact rs.length
  unfold callN at w
  rw [hi] at w
  dsimp only at w
  rw [if_pos la] at w
  cases hpu : Fd.pure with
  | false =>
    rw [hpu, if_neg Bool.false_ne_true] at w
    refine ⟨t, pt X0 rfl, st L _ H _ h ρ _ n er ?_⟩
    change WantE Z.D Z.K ρ H _ Q (endRaw (evSs (clN Z.I d) L Fd.body (entry Fd.nslot args) h)) at w
    cases ea : evSs (clN Z.I d) L Fd.body (entry Fd.nslot args) h with
    | nx env h1 => rw [ea] at w; exact fun σ' H' ρ' m _ => w .non H' ρ' m .non
    | rt p h1 => rw [ea] at w; exact w
    | ex c h1 => rw [ea] at w; exact fun σ' H' ρ' m => w H' ρ' m
    | bk env h1 => rw [ea] at w; exact w.elim
    | ct env h1 => rw [ea] at w; exact w.elim
    | bad => rw [ea] at w; exact w.elim
  | true =>
    rw [hpu, if_pos rfl] at w
    refine ⟨_, pss_lock (pt X0 rfl), st ⟨h.length, []⟩ _ H _ h ρ _ n er ?_⟩
    change WantE Z.D Z.K ρ H _ Q (endPure h.length h (evSs (clN Z.I d) ⟨h.length, []⟩ Fd.body (entry Fd.nslot args) h)) at w
    have fr := fr_Ss (clN Z.I d) (frm_N Z.I d) Fd.body ⟨h.length, []⟩ (entry Fd.nslot args) h
    cases ea : evSs (clN Z.I d) ⟨h.length, []⟩ Fd.body (entry Fd.nslot args) h with
    | nx env h1 => rw [ea] at w fr; exact fun σ' H' ρ' m _ => w .non H' ρ (Nxt.back n m (frO_get fr rfl)) .non
    | rt p h1 =>
      rw [ea] at w fr
      intro v H' ρ' m rp
      unfold endPure at w
      dsimp only at w
      cases ef : frz (deref h.length h1 8) p with
      | none => rw [ef] at w; exact w.elim
      | some q =>
        rw [ef] at w
        exact ret_pure n m (frO_get fr rfl) rp ef w
    | ex c h1 => rw [ea] at w fr; exact fun σ' H' ρ' m => w H' ρ (Nxt.back n m (frO_get fr rfl))
    | bk env h1 => rw [ea] at w; exact w.elim
    | ct env h1 => rw [ea] at w; exact w.elim
    | bad => rw [ea] at w; exact w.elim
/-- at depth 0 nothing is promised -/
theorem ok_zero (h : ∀ i, i < Z.I.fns.length → ∃ x qual params body scope dvs kws N, FunD Z.K x qual params body scope dvs kws (Z.fa i) (Z.fd i) ∧ FnScope N (Z.ps i) scope) : Z.Ok 0 := by
  intro i hi
  refine ⟨fun vs H Q E h => h.1, fun A outer s H args us vs Q E hr e0 hb hv hs => ?_⟩
  obtain ⟨_, ρ, h, ps, L, _, _, w⟩ := hs
  unfold callN at w
  exact w.elim
/-- all defs, step by step -/
theorem ok_all (h0 : Z.Ok 0) (hs : ∀ d, Z.Ok d → Z.Ok (d + 1)) : ∀ d, Z.Ok d
  | 0 => h0
  | d + 1 => hs d (ok_all h0 hs d)
end
end Mini

/-! Cmp -/
set_option autoImplicit false
set_option linter.all false
namespace Mini
open PySem

/-- what a global name stands for -/
inductive Gn where
  | fn (i : Nat) (opts : List (Nat × List PV))
  | con (j : Nat)
  | exc (c : Nat)
/-- what the compiler is told -/
structure Tx where
  gt : List (Str × Gn)
  no : List Str
  chg : List (Nat × Nat)
  told : List (Str × Nat × List Nat)
  lams : List (Nat × Str × List (Nat × Nat))
structure CC where
  tx : Tx
  N : List Str
  sc : Scope
  tp : Tp
  rm : Nat
abbrev CC.top (c : CC) : Bool := c.tp.top
def slotOf (N : List Str) (x : Str) : Option Nat := N.findIdx? (· == x)
def plainName (x : Str) : Bool := !(x == ("__debug__" : Str)) && !(x == ("__classdict__" : Str))
def CC.vis (c : CC) (x : Str) : Bool := match c.sc.names.lookup x with
  | some .local => true
  | some .cell => true
  | some .free => true
  | _ => false
def CC.gl (c : CC) (x : Str) : Bool := match c.sc.names.lookup x with
  | some .globalImplicit => true
  | _ => false
/-- may be stored into -/
def CC.loc (c : CC) (x : Str) : Bool := match c.sc.names.lookup x with
  | some .local => true
  | some .cell => c.top
  | _ => false
def CC.bt (c : CC) (x : Str) : Bool := c.gl x && c.tx.no.contains x
def CC.muts (c : CC) (p : Pos) : Bool := c.tx.chg.contains (p.line, p.col)
def star : Expr → Bool
  | .Starred _ _ => true
  | _ => false
def isSlice : Expr → Bool
  | .Slice _ _ _ _ => true
  | _ => false
def isSet : Expr → Bool
  | .Set _ _ _ => true
  | _ => false
def isSuper : Expr → Bool
  | .Call (.Name _ _) [] [] _ => true
  | _ => false
def opOf : Operator → Option Bop
  | .Add => some .add
  | .Sub => some .sub
  | .Mult => some .mul
  | .FloorDiv => some .fdiv
  | .Mod => some .mod
  | .Pow => some .pow
  | _ => none
def copOf : CmpOp → Cop
  | .Eq => .eq
  | .NotEq => .ne
  | .Lt => .lt
  | .LtE => .le
  | .Gt => .gt
  | .GtE => .ge
  | .Is => .is_
  | .IsNot => .isnot
  | .In => .isin
  | .NotIn => .notin
def cEs (f : Expr → Option E) : List Expr → Option Es
  | [] => some .nil
  | e :: es => if star e then none else match f e, cEs f es with
    | some i, some is => some (.cons i is)
    | _, _ => none
def cBool (f : Expr → Option E) (op : BoolOp) : List Expr → Option E
  | [] => none
  | [e] => f e
  | e :: es => match f e, cBool f op es with
    | some a, some b => some (match op with | .And => .and_ a b | .Or => .or_ a b)
    | _, _ => none
def cIfs (f : Expr → Option E) : List Expr → Option E
  | [] => some (.lit (.bl true))
  | [d] => f d
  | _ => none
def cOpt (f : Expr → Option E) : Option Expr → Option (Bool × E)
  | none => some (false, .lit .non)
  | some e => (f e).map fun i => (true, i)
def cParts (f : Expr → Option E) : List Expr → Option Es
  | [] => some .nil
  | .Constant (.str s) _ _ :: es => (cParts f es).map (.cons (.lit (.str s.cps.toList)))
  | .FormattedValue e c none _ :: es => if c = -1 then (match f e, cParts f es with
    | some i, some is => some (.cons i is)
    | _, _ => none) else none
  | _ => none
mutual
def cT : Nat → CC → Expr → Option T
  | n + 1, c, .Name x _ => if c.loc x then (slotOf c.N x).map .name else none
  | n + 1, c, .Tuple es _ _ => (cTs n c es).map .tup
  | _, _, _ => none
def cTs : Nat → CC → List Expr → Option Ts
  | _, _, [] => some .nil
  | n + 1, c, e :: es => if star e then none else match cT n c e, cTs n c es with
    | some t, some ts => some (.cons t ts)
    | _, _ => none
  | _, _, _ => none
end
def isTup : Expr → Bool
  | .Tuple _ _ _ => true
  | _ => false
def seq1 (f : Expr → Option E) (e : Expr) : Option (Src × Es) := (f e).map fun i => (.seq, .cons i .nil)
def cSrc (c : CC) (f : Expr → Option E) (tg it : Expr) : Option (Src × Es) := match it with
  | .Call (.Name x _) [a] [] _ => if x == ("range" : Str) && c.bt "range" && !star a then (f a).map fun i => (.range, .cons i .nil)
    else if x == ("enumerate" : Str) && c.bt "enumerate" && isTup tg && !star a then (f a).map fun i => (.enum, .cons i .nil)
    else seq1 f it
  | .Call (.Name x _) [a, b] [] _ => if x == ("range" : Str) && c.bt "range" && !star a && !star b then (match f a, f b with | some i, some j => some (.range, .cons i (.cons j .nil)) | _, _ => none)
    else if x == ("zip" : Str) && c.bt "zip" && isTup tg && !star a && !star b then (match f a, f b with | some i, some j => some (.zip, .cons i (.cons j .nil)) | _, _ => none)
    else seq1 f it
  | _ => seq1 f it
def ownOf (N : List Str) (scope : Scope) : List (Str × Nat) := scope.names.filterMap fun y => match y.2 with
  | .local => (slotOf N y.1).map fun i => (y.1, i)
  | .cell => (slotOf N y.1).map fun i => (y.1, i)
  | _ => none
mutual
def tSlots : T → List Nat
  | .name i => [i]
  | .tup ts => tsSlots ts
def tsSlots : Ts → List Nat
  | .nil => []
  | .cons t ts => tSlots t ++ tsSlots ts
end
def CC.inner (c : CC) (scope : Scope) : CC := { c with sc := L2.relS scope c.sc, tp := { c.tp with top := false } }
/-- a lambda's body -/
def CC.lam (c : CC) (scope : Scope) : CC := { c with sc := scope, tp := ⟨false, Str.empty, none⟩, rm := c.rm - 2 }
/-- a lambda may stand here -/
def CC.lamOk (c : CC) (scope : Scope) (p : Pos) : Bool := decide (2 ≤ c.rm) && LamX.lamSB c.sc scope && c.tx.lams.any fun l => c.tp.cd == some l.1 && c.tp.ql == l.2.1 && l.2.2.contains (p.line, p.col)
/-- the element of a generator expression -/
def CC.gen (c : CC) (scope : Scope) : CC := { c with sc := scope, tp := ⟨false, Str.empty, none⟩, rm := c.rm - 5 }
def isList : Expr → Bool
  | .List _ _ => true
  | _ => false
/-- a generator expression may stand here -/
def CC.genOk (c : CC) (scope : Scope) (p : Pos) : Bool := decide (5 ≤ c.rm) && L2.blkC c.N c.sc scope (ownOf c.N scope) && (scope.names.all fun y => !(y.2 == .cell)) && !scope.isCoroutine && (scope.names.lookup (".0" : Str) == some .local) &&
  c.tx.lams.any fun l => c.tp.cd == some l.1 && c.tp.ql == l.2.1 && !l.2.2.contains (p.line, p.col)
/-- who takes the items of a generator expression -/
def genOf (x : Str) : Option Prim := if x == ("tuple" : Str) then some .tuple else if x == ("any" : Str) then some .any else if x == ("all" : Str) then some .all else none
def noArgs (a : Arguments) : Bool := a.posonlyargs.isEmpty && a.args.isEmpty && a.vararg.isNone && a.kwonlyargs.isEmpty && a.kw_defaults.isEmpty && a.kwarg.isNone && a.defaults.isEmpty
/-- a builtin's call by its name and how many are written -/
def primOf (x : Str) (n : Nat) : Option Prim :=
  if n == 1 then
    (if x == ("len" : Str) then some .len else if x == ("abs" : Str) then some .abs else if x == ("int" : Str) then some .int_ else if x == ("str" : Str) then some .str_ else if x == ("sum" : Str) then some .sum
    else if x == ("sorted" : Str) then some .sorted else if x == ("tuple" : Str) then some .tuple else if x == ("list" : Str) then some .list else none)
  else if n == 2 then (if x == ("min" : Str) then some .min2 else if x == ("max" : Str) then some .max2 else none)
  else none
def methOf (x : Str) : Option Prim :=
  if x == ("partition" : Str) then some .partition else if x == ("startswith" : Str) then some .startswith else if x == ("index" : Str) then some .index else if x == ("append" : Str) then some .append else none
def comp : Nat → CC → Expr → Option E
  | 0, _, _ => none
  | n + 1, c, e => match e with
    | .Name x _ => if plainName x then (if c.vis x then (slotOf c.N x).map .var else if c.gl x then (match c.tx.gt.lookup x with | some (.con j) => some (.con j) | _ => none) else none) else none
    | .Constant (.int i) _ _ => some (.lit (.int i))
    | .Constant (.bool b) _ _ => some (.lit (.bl b))
    | .Constant (.str s) _ _ => some (.lit (.str s.cps.toList))
    | .Constant .none _ _ => some (.lit .non)
    | .BinOp a op b _ => (match opOf op, comp n c a, comp n c b with
      | some o, some i, some j => some (.bin o i j)
      | _, _, _ => none)
    | .UnaryOp .USub a _ => (comp n c a).map .neg
    | .UnaryOp .Not a _ => (comp n c a).map .not_
    | .BoolOp op es _ => cBool (comp n c) op es
    | .IfExp t a b _ => (match comp n c t, comp n c a, comp n c b with
      | some i, some j, some k => some (.ife i j k)
      | _, _, _ => none)
    | .Compare a [op] [b] _ => if isSet b then none else (match comp n c a, comp n c b with
      | some i, some j => some (.cmp (copOf op) i j)
      | _, _ => none)
    | .Compare a [op, op'] [b, d] _ => if isSet d then none else (match comp n c a, comp n c b, comp n c d with
      | some i, some j, some k => some (.cmp2 (copOf op) (copOf op') i j k)
      | _, _, _ => none)
    | .Tuple es _ _ => (cEs (comp n c) es).map .tup
    | .List es p => (cEs (comp n c) es).map (.lst (c.muts p))
    | .Subscript a (.Slice l u none _) _ => (match comp n c a, cOpt (comp n c) l, cOpt (comp n c) u with
      | some i, some (kl, j), some (ku, k) => some (.sli kl ku i j k)
      | _, _, _ => none)
    | .Subscript a b _ => if isSlice b then none else (match comp n c a, comp n c b with
      | some i, some j => some (.idx i j)
      | _, _ => none)
    | .ListComp elt [⟨tg, it, ifs, 0⟩] scope p =>
      if L2.blkC c.N c.sc scope (ownOf c.N scope) && !isSet it then
        (match cSrc c (comp n c) tg it, cT n (c.inner scope) tg, cIfs (comp n (c.inner scope)) ifs, comp n (c.inner scope) elt with
        | some (s, is), some t, some ic, some ie => if (tSlots t).all (fun i => ((ownOf c.N scope).map (·.2)).contains i) then some (.comp (c.muts p) ((ownOf c.N scope).map (·.2)) t s is ic ie) else none
        | _, _, _, _ => none)
      else none
    | .JoinedStr (a :: b :: es) _ => (cParts (comp n c) (a :: b :: es)).map .fstr
    | .Call (.Name x _) [.GeneratorExp elt [⟨tg, it, ifs, 0⟩] scope gp] [] _ => if c.bt x && c.genOk scope gp && !isSet it && !isList it then (match genOf x, cSrc c (comp n c) tg it, cT n (c.gen scope) tg, cIfs (comp n (c.gen scope)) ifs, comp n (c.gen scope) elt with
      | some f, some (s, is), some t, some ic, some ie => if (tSlots t).all (fun i => ((ownOf c.N scope).map (·.2)).contains i) then some (.gen f ((ownOf c.N scope).map (·.2)) t s is ic ie) else none
      | _, _, _, _, _ => none) else none
    | .Call (.Name x _) [.Lambda ar b scope lp] [] _ => if c.gl x && noArgs ar && c.lamOk scope lp then (match c.tx.told.lookup x, comp n (c.lam scope) b with
      | some (k, ret), some i => some (.told k ret i)
      | _, _ => none) else none
    | .Call (.Name x _) es [] p => (match c.gl x && plainName x, c.tx.gt.lookup x with
      | true, some (.fn i opts) => (match opts.lookup es.length, cEs (comp n c) es with
        | some qs, some is => some (.call i (is.app (Es.lits qs)))
        | _, _ => none)
      | _, _ => if c.bt x then (match primOf x es.length, cEs (comp n c) es with
        | some f, some is => some (.prim f is)
        | _, _ => none) else none)
    | .Call (.Name x _) [a] [⟨some kw, d, _⟩] _ => if x == ("min" : Str) && kw == ("default" : Str) && c.bt "min" && !star a then (match comp n c a, comp n c d with
      | some i, some j => some (.prim .minD (.cons i (.cons j .nil)))
      | _, _ => none) else none
    | .Call (.Attribute o name ap) [a] [] p => if !star a && !isSuper o && ap.endLine == p.line then (match methOf name, comp n c o, comp n c a with
      | some f, some i, some j => some (.meth f i (.cons j .nil))
      | _, _, _ => none) else none
    | _ => none
/-- the statement's value is a comprehension that is stored within -/
def swapB (c : CC) (tg e : Expr) : Bool := match e with
  | .ListComp _ _ s p => (match tg with
    | .Name t q => (c.sc.names.lookup t == some .local) && q.line == p.line && !(s.names.any fun y => y.1 == t && (y.2 == .local || y.2 == .cell))
    | _ => false)
  | _ => false
def isComp : Expr → Bool
  | .ListComp _ _ _ _ => true
  | .SetComp _ _ _ _ => true
  | .DictComp _ _ _ _ _ => true
  | _ => false
/-- how a, b = x, y is stored: by the tuple, or from the right -/
inductive Stores where | plain | swapped | odd
def lineOf (ts : List Expr) : Nat := (ts.head?.map (·.pos.line)).getD 0
def namesOf (c : CC) (ts : List Expr) : List Str := ts.filterMap fun
  | .Name id pos => if c.sc.names.lookup id == some .local && pos.line == lineOf ts then some id else none
  | _ => none
def storesOf (c : CC) (ts vs : List Expr) : Stores :=
  if !(ts.length == 2 || ts.length == 3) || vs.length != ts.length then .plain
  else if vs.any star then .plain
  else if (namesOf c ts).length != ts.length || (namesOf c ts).eraseDups.length != (namesOf c ts).length then .plain
  else if vs.all (foldedForSure 8) then .plain
  else if vs.all (constantsAlone 8) then .odd
  else .swapped
def cSs (f : Stmt → Option S) : List Stmt → Option Ss
  | [] => some .nil
  | s :: ss => match f s, cSs f ss with
    | some i, some is => some (.cons i is)
    | _, _ => none
def ipOf : Operator → Option Bop
  | .Add => some .add
  | .Sub => some .sub
  | .Mult => some .mul
  | _ => none
def compS : Nat → CC → Stmt → Option S
  | 0, _, _ => none
  | n + 1, c, s => match s with
    | .Assign [.Name y q] (.ListComp elt gs scope p) _ => if swapB c (.Name y q) (.ListComp elt gs scope p) then (match c.top && (c.sc.names.lookup y == some .local), slotOf c.N y, comp n c (.ListComp elt gs scope p) with
        | true, some i, some e => some (.asg (.name i) e)
        | _, _, _ => none)
      else (match cT n c (.Name y q), comp n c (.ListComp elt gs scope p) with
        | some t, some e => some (.asg t e)
        | _, _ => none)
    | .Assign [.Tuple ts k tp] (.Tuple vs k2 vp) _ => (match storesOf c ts vs with
      | .plain => (match cT n c (.Tuple ts k tp), comp n c (.Tuple vs k2 vp) with
        | some t, some e => some (.asg t e)
        | _, _ => none)
      | .swapped => (match ts, vs with
        | [.Name x _, .Name y _], [a, b] => (match slotOf c.N x, slotOf c.N y, cEs (comp n c) [a, b] with
          | some i, some j, some is => if i == j || !(namesOf c ts == [x, y]) then none else some (.asg (.tup (.cons (.name i) (.cons (.name j) .nil))) (.tup is))
          | _, _, _ => none)
        | _, _ => none)
      | .odd => none)
    | .Assign [.Subscript o i _] e _ => if isComp e || isSlice i then none else (match comp n c e, comp n c o, comp n c i with
      | some x, some y, some z => some (.set y z x)
      | _, _, _ => none)
    | .Assign [tg] e _ => if isComp e || star tg then none else (match cT n c tg, comp n c e with
      | some t, some i => some (.asg t i)
      | _, _ => none)
    | .AugAssign (.Name x _) op e _ => (match ipOf op, c.loc x, slotOf c.N x, comp n c e with
      | some o, true, some i, some v => some (.aug i o v)
      | _, _, _, _ => none)
    | .AugAssign (.Subscript o i _) op e _ => if isSlice i then none else (match ipOf op, comp n c o, comp n c i, comp n c e with
      | some p, some x, some y, some v => some (.augx x y p v)
      | _, _, _, _ => none)
    | .Expr e _ => if isComp e then none else (comp n c e).map .expr
    | .If t a b _ => (match comp n c t, cSs (compS n c) a, cSs (compS n c) b with
      | some i, some x, some y => some (.ife i x y)
      | _, _, _ => none)
    | .For tg it b [] _ => if isSet it then none else (match cSrc c (comp n c) tg it, cT n c tg, cSs (compS n c) b with
      | some (s, is), some t, some x => some (.for_ t s is x)
      | _, _, _ => none)
    | .While t b [] _ => (match comp n c t, cSs (compS n c) b with
      | some i, some x => some (.whl i x)
      | _, _ => none)
    | .Return none _ => some (.ret (.lit .non))
    | .Return (some e) _ => (comp n c e).map .ret
    | .Raise (some (.Call (.Name x _) [.Constant (.str _) _ _] [] _)) none _ => if c.gl x && plainName x then (match c.tx.gt.lookup x with
      | some (.exc k) => some (.raise k)
      | _ => none) else none
    | .Break _ => some .brk
    | .Continue _ => some .cnt
    | .Pass _ => some .pass
    | _ => none
end Mini

/-! Snd19 -/
set_option autoImplicit false
set_option Elab.async false
set_option linter.all false
set_option maxRecDepth 100000
namespace Mini
open PySem PySem.Spec PySem.Calls PyProof.Rows L2

/-! ### small facts of the text -/
theorem star_each {e : Expr} (h : star e = false) (es : List Expr) (env : PySem.Env) : starEach (e :: es) env = (false, eval e env) :: starEach es env := by
  cases e <;> first | (simp [star] at h; done) | simp [starEach]
theorem asg_each {e : Expr} (h : star e = false) (es : List Expr) (env : PySem.Env) : assignEach (e :: es) env = (false, assign e env) :: assignEach es env := by
  cases e <;> first | (simp [star] at h; done) | simp [assignEach]
theorem fold_not {it : Expr} (h : isSet it = false) (env : PySem.Env) (x : Value) : foldedSetIterable it env x = pure x := by
  cases it <;> first | (simp [isSet] at h; done) | rfl
theorem behind_not {op : CmpOp} {b : Expr} (h : isSet b = false) : behindInMarks op b = false := by
  cases b <;> first | (simp [isSet] at h; done) | rfl
theorem last_not {op op' : CmpOp} {b d : Expr} (h : isSet d = false) : lastMarks [op, op'] [b, d] = false := by
  show behindInMarks op' d = false
  exact behind_not h
theorem plain_ix {b : Expr} (h : isSlice b = false) : PlainIx b := fun o i => by
  cases b <;> first | (simp [isSlice] at h; done) | rfl
theorem base_not {o : Expr} (h : isSuper o = false) (name : Str) (env : PySem.Env) : attributeBase o name env (eval o env) = eval o env := by
  unfold attributeBase
  split
  · simp [isSuper] at h
  · rfl
theorem plain_name {x : Str} (h : plainName x = true) : (x == ("__debug__" : Str)) = false ∧ (x == ("__classdict__" : Str)) = false := by
  unfold plainName at h
  rw [Bool.and_eq_true, Bool.not_eq_true', Bool.not_eq_true'] at h
  exact h
theorem slot_at {N : List Str} {x : Str} {i : Nat} (h : slotOf N x = some i) : N[i]? = some x := by
  obtain ⟨h1, h2, _⟩ := List.findIdx?_eq_some_iff_getElem.mp h
  rw [List.getElem?_eq_getElem h1, beq_iff_eq.mp h2]
theorem vis_of {c : CC} {x : Str} (h : c.vis x = true) : Vis c.sc x := by
  unfold CC.vis at h
  split at h
  · exact .inl (by assumption)
  · exact .inr (.inl (by assumption))
  · exact .inr (.inr (by assumption))
  · cases h
theorem gl_of {c : CC} {x : Str} (h : c.gl x = true) : c.sc.names.lookup x = some .globalImplicit := by
  unfold CC.gl at h
  split at h
  · assumption
  · cases h
theorem loc_of {c : CC} {x : Str} (h : c.loc x = true) : L2.Loc c.sc x ∧ (c.top = true ∨ c.sc.names.lookup x = some .local) := by
  unfold CC.loc at h
  split at h
  · rename_i e; exact ⟨.inl e, .inr e⟩
  · rename_i e; exact ⟨.inr e, .inl h⟩
  · cases h
/-- a list of expressions without stars -/
theorem no_stars {f : Expr → Option E} : ∀ {es : List Expr} {is : Es}, cEs f es = some is → ∀ e ∈ es, star e = false
  | [], _, _, e, he => by cases he
  | a :: es, is, h, e, he => by
    unfold cEs at h
    cases hs : star a with
    | true => rw [hs] at h; cases h
    | false =>
      rw [hs, if_neg Bool.false_ne_true] at h
      rcases List.mem_cons.mp he with rfl | he
      · exact hs
      · cases h1 : f a with
        | none => rw [h1] at h; cases h
        | some i =>
          cases h2 : cEs f es with
          | none => rw [h1, h2] at h; cases h
          | some js => exact no_stars h2 e he
theorem stars_any {es : List Expr} (h : ∀ e ∈ es, star e = false) (pos : Pos) (env : PySem.Env) : (backTo pos (starEach es env)).any (·.1) = false := by
  induction es with
  | nil => rfl
  | cons e es ih =>
    rw [star_each (h e (List.mem_cons_self ..))]
    show (false || (backTo pos (starEach es env)).any (·.1)) = false
    rw [ih fun a ha => h a (List.mem_cons_of_mem _ ha)]
    rfl
theorem cEs_len {f : Expr → Option E} : ∀ {es : List Expr} {is : Es}, cEs f es = some is → is.len = es.length
  | [], is, h => by unfold cEs at h; cases h; rfl
  | a :: es, is, h => by
    unfold cEs at h
    cases hs : star a with
    | true => rw [hs] at h; cases h
    | false =>
      rw [hs, if_neg Bool.false_ne_true] at h
      cases h1 : f a with
      | none => rw [h1] at h; cases h
      | some i =>
        cases h2 : cEs f es with
        | none => rw [h1, h2] at h; cases h
        | some js =>
          rw [h1, h2] at h
          cases h
          rw [List.length_cons, ← cEs_len h2]
          rfl
section
variable {D : Side} {C : Cl} {F : Fam} {W : WW}
theorem cEs_ok {f : Expr → Option E} : ∀ {es : List Expr} {is : Es}, (∀ e ∈ es, ∀ i, f e = some i → SE D C F W e i) → cEs f es = some is → SA D C F W es is
  | [], is, _, h => by unfold cEs at h; cases h; exact snd_nil
  | a :: es, is, hf, h => by
    unfold cEs at h
    cases hs : star a with
    | true => rw [hs] at h; cases h
    | false =>
      rw [hs, if_neg Bool.false_ne_true] at h
      cases h1 : f a with
      | none => rw [h1] at h; cases h
      | some i =>
        cases h2 : cEs f es with
        | none => rw [h1, h2] at h; cases h
        | some js =>
          rw [h1, h2] at h
          cases h
          exact snd_cons (hf a (List.mem_cons_self ..) i h1) (cEs_ok (fun e he => hf e (List.mem_cons_of_mem _ he)) h2) fun X => star_each hs es X.env
/-- a test of a if c else b -/
theorem pt_ifx {X : Cx} {c a b : Expr} {tc ta tb : TT} {pos : Pos} (hc : PT X c tc) (ha : PT X a ta) (hb : PT X b tb) : PT X (.IfExp c a b pos) (fun σ H Q => tc σ H fun k H1 => if k = true then ta σ H1 Q else tb σ H1 Q) := by
  refine ⟨fun pins s σ H Q I h => ?_⟩
  have e : PySem.isTrue (.IfExp c a b pos) X.env (eval (.IfExp c a b pos) X.env) = (do if ← PySem.isTrue c X.env (eval c X.env) then PySem.isTrue a X.env (eval a X.env) else PySem.isTrue b X.env (eval b X.env)) := by rw [PySem.isTrue]
  rw [e]
  refine wpAny_bind (thn (hc.run pins s σ H _ I h) fun k s1 ⟨H1, I1, q1⟩ => ?_)
  cases k with
  | true => exact ha.run pins s1 σ H1 Q I1 q1
  | false => exact hb.run pins s1 σ H1 Q I1 q1
theorem snd_ifeT {c a b : Expr} {ic ia ib : E} {pos : Pos} (hc : ST D C F W c ic) (ha : ST D C F W a ia) (hb : ST D C F W b ib) : ST D C F W (.IfExp c a b pos) (.ife ic ia ib) := by
  obtain ⟨tc, pc, sc⟩ := hc
  obtain ⟨ta, pa, sa⟩ := ha
  obtain ⟨tb, pb, sb⟩ := hb
  refine ⟨_, fun X hX => pt_ifx (pc X hX) (pa X hX) (pb X hX), fun L σ H env h ρ Q n er w => ?_⟩
  unfold evE at w
  refine sc L σ H env h ρ _ n er ?_
  cases e : evE C L ic env h with
  | bad => rw [e] at w; exact w
  | exc c h1 => rw [e] at w; exact w
  | ok q h1 =>
    rw [e] at w
    cases q <;> first
      | exact False.elim w
      | (rename_i k
         intro v H' ρ' m rp
         cases rp
         refine ⟨k, rfl, ?_⟩
         cases k with
         | true => rw [if_pos rfl]; exact sa L σ H' env h1 ρ' _ m.now (er.mono m.grow m.pre) (WantE.at w m)
         | false => rw [if_neg Bool.false_ne_true]; exact sb L σ H' env h1 ρ' _ m.now (er.mono m.grow m.pre) (WantE.at w m))
/-- both: as a value, as a test -/
def SB (D : Side) (C : Cl) (F : Fam) (W : WW) (e : Expr) (ir : E) : Prop := SE D C F W e ir ∧ ST D C F W e ir
theorem SB.of {e : Expr} {ir : E} (s : SE D C F W e ir) (h : ∀ env whole, PySem.isTrue e env whole = (do let v ← whole; standAt e.pos; holding [v] (truthy v))) : SB D C F W e ir := ⟨s, ST.of s fun X _ whole => h X.env whole⟩
theorem cBool_ok {f : Expr → Option E} {op : BoolOp} {pos : Pos} : ∀ {es : List Expr} {i : E}, (∀ e ∈ es, ∀ i, f e = some i → SB D C F W e i) → cBool f op es = some i → SE D C F W (.BoolOp op es pos) i ∧ SW D C F W (.BoolOp op es pos) i
  | [], i, _, h => by unfold cBool at h; cases h
  | [e], i, hf, h => by
    unfold cBool at h
    obtain ⟨h1, h2⟩ := hf e (List.mem_cons_self ..) i h
    refine ⟨snd_one h1, ?_⟩
    cases op with
    | And => exact snd_and1 h2
    | Or => exact snd_or1 h2
  | e :: b :: es, i, hf, h => by
    unfold cBool at h
    cases h1 : f e with
    | none => rw [h1] at h; cases h
    | some x =>
      cases h2 : cBool f op (b :: es) with
      | none => rw [h1, h2] at h; cases h
      | some y =>
        rw [h1, h2] at h
        obtain ⟨q1, q2⟩ := hf e (List.mem_cons_self ..) x h1
        obtain ⟨q3, q4⟩ := cBool_ok (pos := pos) (fun a ha => hf a (List.mem_cons_of_mem _ ha)) h2
        cases op with
        | And => cases h; exact ⟨snd_andV q1 q3, snd_and q2 q4⟩
        | Or => cases h; exact ⟨snd_orV q1 q3, snd_or q2 q4⟩
theorem cOpt_ok {f : Expr → Option E} {o : Option Expr} {k : Bool} {i : E} (hf : ∀ e i, o = some e → f e = some i → SE D C F W e i) (h : cOpt f o = some (k, i)) : SO D C F W k o i := by
  cases o with
  | none => unfold cOpt at h; cases h; exact so_none
  | some e =>
    unfold cOpt at h
    obtain ⟨j, h1, h2⟩ := Option.map_eq_some_iff.mp h
    cases h2
    exact so_some (hf e _ rfl h1)
theorem cParts_ok {f : Expr → Option E} : ∀ {es : List Expr} {is : Es}, (∀ e i, f e = some i → (∃ c p, Expr.FormattedValue e c none p ∈ es) → SE D C F W e i) → cParts f es = some is → SJ D C F W es is
  | [], is, _, h => by unfold cParts at h; cases h; exact snj_nil
  | e :: es, is, hf, h => by
    unfold cParts at h
    split at h
    · rename_i e0; cases e0
    · rename_i s k p es' e0
      cases e0
      obtain ⟨js, h1, rfl⟩ := Option.map_eq_some_iff.mp h
      exact snj_str (cParts_ok (fun a i ha hm => hf a i ha (let ⟨c, p, m⟩ := hm; ⟨c, p, List.mem_cons_of_mem _ m⟩)) h1)
    · rename_i a c p es' e0
      cases e0
      split at h
      · rename_i hc
        subst hc
        cases h1 : f a with
        | none => rw [h1] at h; cases h
        | some i =>
          cases h2 : cParts f es with
          | none => rw [h1, h2] at h; cases h
          | some js =>
            rw [h1, h2] at h
            cases h
            exact snj_fmt (hf a i h1 ⟨-1, p, List.mem_cons_self ..⟩) (cParts_ok (fun a i ha hm => hf a i ha (let ⟨c, p, m⟩ := hm; ⟨c, p, List.mem_cons_of_mem _ m⟩)) h2)
      · cases h
    · cases h
end
end Mini

/-! Tab -/
set_option autoImplicit false
set_option Elab.async false
set_option linter.all false
set_option maxRecDepth 100000
set_option maxHeartbeats 2000000
namespace Mini
open PySem PySem.Spec PySem.Calls PyProof.Rows L2

/-! ### tables of code objects: what is told at the places of lambdas -/
abbrev TabNm := Nat → Nat → Option Str
def TabM (H : Hp) (P : Addr) (nm : TabNm) : Prop := ∃ ps : Array Value, H P = some (.tbl ps) ∧ TriplesOk ps.toList ∧ ∀ (pos : Pos) (cv : Value), codeAmong pos ps.toList = some cv → ∀ q, nm pos.line pos.col = some q → ∃ c, cv = .ref c ∧ H c = some (LamX.CodeO c q)
def TabsM (T : List (Addr × TabNm)) (H : Hp) : Prop := ∀ p ∈ T, TabM H p.1 p.2
theorem TabM.keep {H H' : Hp} {P : Addr} {nm : TabNm} (t : TabM H P nm) (k : Keep H H') : TabM H' P nm := by
  obtain ⟨ps, h1, h2, h3⟩ := t
  refine ⟨ps, k _ _ h1 (.inr trivial), h2, fun pos cv hc q hq => ?_⟩
  obtain ⟨c, e1, e2⟩ := h3 pos cv hc q hq
  exact ⟨c, e1, k _ _ e2 (.inl trivial)⟩
/-- the side that knows tables -/
def tabSide (T : List (Addr × TabNm)) : Side where
  T := TabsM T
  keep := fun t k p hp => (t p hp).keep k
theorem TabM.nil {H : Hp} {P : Addr} {nm : TabNm} (h : H P = some (.tbl #[])) : TabM H P nm := by
  refine ⟨#[], h, True.intro, fun pos cv hc => ?_⟩
  have z : codeAmong pos [] = some cv := hc
  simp [codeAmong] at z
/-- all but the tables stay: as the heap goes on -/
theorem ext_nxt {D : Side} {K : PySem.W.Frag} {ρ : List Addr} {h : Hh} {H H1 : Hp} (n : Now D K ρ h H) (e : LamX.ExtN H H1) (t : D.T H1) : Nxt D K ρ H ρ h H1 := by
  have nt : ∀ a o, H a = some o → ¬ IsTbl o → H1 a = some o := fun a o q z => e a o q fun ps w => z (by rw [w]; trivial)
  have g : Grow H H1 := fun a o q s => nt a o q fun z => by cases o <;> first | exact s.elim | exact z.elim
  refine ⟨g, List.prefix_refl _, ⟨n.rep.len, n.rep.nd, fun i o ei => ?_⟩, t, fun a o q _ z => nt a o q z, fun a o q z => ⟨o, nt a o q z, z⟩, fun a ha => .inl ha⟩
  obtain ⟨a, ea, ob⟩ := n.rep.at_ i o ei
  cases o with
  | lst ps =>
    obtain ⟨vs, q, r⟩ := ob
    exact ⟨a, ea, vs, nt a _ q id, r.mono g (List.prefix_refl _)⟩
  | dic _ => exact ob.elim
  | ins _ _ => exact ob.elim
section
variable {X : Cx} {pins : List (Addr × Obj)} {σ : L2.St} {H : Hp} {s : Shared}
/-- a lambda is made; its code object is new, or found in the table of its def -/
theorem lam_makeM {T : List (Addr × TabNm)} {c P : Addr} {nm : TabNm} {params : Arguments} {body : Expr} {scope : Scope} {pos : Pos} {E : Value → Shared → Prop} {Q : Value → Shared → Prop} (I : Inv X pins σ H s) (TB : LamX.TabB X.base X.mg c P) (hcode : X.env.code = .ref c)
    (hm : (P, nm) ∈ T) (hu : ∀ p ∈ T, p.1 = P → p.2 = nm) (hnm : nm pos.line pos.col = some (X.env.qual ++ "<lambda>")) (hT : TabsM T H) (hdef : defaultsOf params X.env = ([], [])) (hfree : ∀ y ∈ scope.names, y.2 = .free → ∃ c, X.env.cells.lookup y.1 = some c)
    (h : ∀ (f c' : Addr) (pm ctv : Value) (H1 : Hp) (s' : Shared), Inv X pins σ H1 s' → LamX.ExtN H H1 → TabsM T H1 →
      s'.heap.get? f = some (PySem.W.kla_obj "<lambda>" (X.env.qual ++ "<lambda>") params body scope (cloFrom X.env.cells scope.names []) pm c' ctv) → H1 f = none → f ∉ frs X.stack → s.heap.objs.size ≤ f → H1 c' = some (LamX.CodeO c' (X.env.qual ++ "<lambda>")) → Q (.ref f) s') :
    wpAny (model X.prog X.w) X.A (eval (.Lambda params body scope pos) X.env) Q E s := by
  obtain ⟨ps, hP, ht, told⟩ := hT _ hm
  refine PySem.W.kla_eval hdef ?_
  have blt : s.heap.BuiltinsAt X.mg P := TB.bm.keeps I.bk
  have obP : s.heap.get? P = some { cls := .none, data := .fields ps } := I.hok P _ hP
  have young : ∀ f, s.heap.objs.size ≤ f → f ∉ frs X.stack := fun f hf z => by
    rcases List.mem_cons.mp (I.stkSub _ z) with e | e
    · have l := I.lt
      rw [← e] at l
      exact absurd (Nat.lt_of_lt_of_le l hf) (Nat.lt_irrefl _)
    · exact I.nofs hf e
  cases hc : codeAmong pos ps.toList with
  | some cv =>
    obtain ⟨c', rfl, known⟩ := told pos cv hc _ hnm
    refine PySem.W.kla_makeFunctionHit (mg := X.mg) (c := c) (P := P) (ps := ps) (closure_ok hfree) I.ok.glob (I.mod.glob.keeps I.bk) hcode (TB.code.keeps I.bk) obP ht hc blt fun ctv h' tk grew hsz => ?_
    have I1 : Inv X pins σ H { s with heap := h'.push (PySem.W.kla_obj "<lambda>" (X.env.qual ++ "<lambda>") params body scope (cloFrom X.env.cells scope.names []) ((X.mg "__name__").getD .none) c' ctv), toks := tk } := I.kept fun b o e => Heap.get?_push_of_some _ (grew b o e)
    exact h h'.objs.size c' _ ctv H _ I1 (.refl H) hT (Heap.get?_push_size _ rfl) (I.hok.fresh hsz) (young _ hsz) hsz known
  | none =>
    refine PySem.W.kla_makeFunction (mg := X.mg) (c := c) (P := P) (ps := ps) (closure_ok hfree) I.ok.glob (I.mod.glob.keeps I.bk) hcode (TB.code.keeps I.bk) obP ht hc TB.gP blt fun c' ctv h' tk grew hge hlt hrec htb => ?_
    obtain ⟨c2, oc, vs, t, e2, hoc, hd, hv⟩ := hrec
    cases e2
    have hsz : s.heap.objs.size ≤ h'.objs.size := Nat.le_trans hge (Nat.le_of_lt hlt)
    have nC : H c' = none := I.hok.fresh hge
    let ps' : Array Value := ps ++ #[rawInt pos.line, rawInt pos.col, .ref c']
    let H' : Hp := upd (upd H P (.tbl ps')) c' (LamX.CodeO c' (X.env.qual ++ "<lambda>"))
    have I1 : Inv X pins σ H' { s with heap := h'.push (PySem.W.kla_obj "<lambda>" (X.env.qual ++ "<lambda>") params body scope (cloFrom X.env.cells scope.names []) ((X.mg "__name__").getD .none) c' ctv), toks := tk } :=
      LamX.inv_table (more := #[rawInt pos.line, rawInt pos.col, .ref c']) I hP (fun b o hb e => Heap.get?_push_of_some _ (grew b o hb e)) (Heap.get?_push_of_some _ htb) hge ⟨oc, vs, t, Heap.get?_push_of_some _ hoc, hd, hv⟩
    have ext : LamX.ExtN H H' := fun b o e n => by
      show upd (upd H P _) c' _ b = _
      rw [upd_ne (ne_of_none e nC), upd_ne (fun z => n ps (Option.some.inj (e.symm.trans (by rw [z]; exact hP))))]
      exact e
    have atP : H' P = some (.tbl ps') := by
      show upd (upd H P _) c' _ P = _
      rw [upd_ne (ne_of_none hP nC), upd_same]
    have eL : ps'.toList = ps.toList ++ [rawInt pos.line, rawInt pos.col, .ref c'] := by simp [ps']
    refine h h'.objs.size c' _ ctv H' _ I1 ext (fun p hp => ?_) (Heap.get?_push_size _ rfl) ?_ (young _ hsz) hsz upd_same
    · by_cases hb : p.1 = P
      · rw [hu p hp hb, hb]
        refine ⟨ps', atP, by rw [eL]; exact PySem.TriplesOk_snoc _ _ _ _ ht, fun p' cv hcv q hq => ?_⟩
        -- the place that is asked: an old one, or the new one
        rw [eL] at hcv
        rcases NdefX.among_app2 _ ht hcv with z | ⟨z, z1, z2⟩
        · obtain ⟨c0, e1, e2⟩ := told p' cv z q hq
          exact ⟨c0, e1, ext _ _ e2 LamX.codeO_ne⟩
        · subst z
          rw [← z1, ← z2, hnm] at hq
          cases hq
          exact ⟨c', rfl, upd_same⟩
      · obtain ⟨qs, a1, a2, a3⟩ := hT p hp
        refine ⟨qs, ?_, a2, fun p' cv hcv q hq => ?_⟩
        · show upd (upd H P _) c' _ p.1 = _
          rw [upd_ne (ne_of_none a1 nC), upd_ne hb]; exact a1
        · obtain ⟨c0, e1, e2⟩ := a3 p' cv hcv q hq
          exact ⟨c0, e1, ext _ _ e2 LamX.codeO_ne⟩
    · show upd (upd H P _) c' _ h'.objs.size = none
      rw [upd_ne (Nat.ne_of_gt hlt), upd_ne (Nat.ne_of_gt (Nat.lt_of_lt_of_le (Heap.lt_size obP) hsz))]
      exact I.hok.fresh hsz
end

def tLamM (T : List (Addr × TabNm)) (TT : (XK → Hp → VK → Prop) → Hp → VK → Prop) (t : XK → TE) : TE := fun σ H Q => TabsM T H ∧ ∀ H1, LamX.ExtN H H1 → TabsM T H1 → TT (fun E H' Q' => t E σ H' Q') H1 Q
/-- the def at g, as K has it, with one parameter a -/
structure GiveFn (mg0 : Str → Option Value) (K : PySem.W.Frag) (x : Str) (g : Addr) (Ng : List Str) (a : Str) (bg : List Stmt) (sg : Scope) (cdv : Value) : Prop where
  mg : mg0 x = some (.ref g)
  kp : PySem.W.keepIn K (.ref g) = true
  lk : ∃ (oc : Value) (od : Option Addr) (pg : Arguments) (dV kV doc pm : Value) (an : Option Addr) (ct : Value) (osl : Array (Option Value)), K.lookup g = some ⟨oc, od, .func (PySem.W.fnOf x x pg bg sg dV kV doc pm an cdv ct), osl⟩ ∧ L2.Binds K (PySem.W.fnOf x x pg bg sg dV kV doc pm an cdv ct) [a] []
  cd : PySem.W.codeIn K cdv x = true
  sc : FnScope Ng [a] sg
  at0 : Ng[0]? = some a
  vis : Vis sg a
  db : (x == ("__debug__" : Str)) = false
  da : (a == ("__debug__" : Str)) = false
  dc : (a == ("__classdict__" : Str)) = false
/-- x(lambda: body), x a def that calls what it gets -/
theorem pe_lamM {X : Cx} {T : List (Addr × TabNm)} {TT : (XK → Hp → VK → Prop) → Hp → VK → Prop} {x a : Str} {g c P : Addr} {nm : TabNm} {k : Nat} {bg : List Stmt} {sg : Scope} {cdv : Value} {Ng : List Str} {params : Arguments} {body : Expr} {scope : Scope} {t : XK → TE} {p lpos pos : Pos}
    (hg : Gl X x) (G : GiveFn X.mg X.K x g Ng a bg sg cdv) (hG : LamX.GivesTo X Ng x sg g cdv bg a (X.env.qual ++ "<lambda>") TT) (TB : LamX.TabB X.base X.mg c P) (hcode : X.env.code = .ref c) (hmT : (P, nm) ∈ T) (hu : ∀ q ∈ T, q.1 = P → q.2 = nm) (hnm : nm lpos.line lpos.col = some (X.env.qual ++ "<lambda>"))
    (hr : Room (k + 2) X.A) (L : LamX.LamS X.env.scope scope) (hdef : defaultsOf params X.env = ([], [])) (hbind : ∀ (q : Str) (cl : List (Str × Addr)) (pm cv ctv : Value), bindArgs (PySem.W.kla_fn "<lambda>" q params body scope cl pm cv ctv) ⟨[], []⟩ = pure [])
    (hbody : ∀ (A : Around) (outer : List PySem.Env) (s : Shared) (H : Hp) (E : XK) (f c' : Addr), Room k (A.deeper (LamX.lamEnv X scope s.heap.objs.size f c')) → PE (LamX.lamCx X A outer s H E scope f c') body (t E)) :
    PE X (.Call (.Name x p) [.Lambda params body scope lpos] [] pos) (tLamM T TT t) := by
  obtain ⟨oc, od, pg, dV, kV, doc, pm, an, ct, osl, lk, hb⟩ := G.lk
  refine ⟨fun pins s σ H Q I ⟨hT, hq⟩ => ?_⟩
  refine wpAny_Call_Name_kw (ld_glob I hg G.mg ?_ G.db)
  refine PySem.W.callWith_K (h₀ := X.base) I.ok.mod.kin G.kp ?_ (by rfl) (by rfl)
  show wpAny _ _ (spliced ((false, eval (.Lambda params body scope lpos) X.env) :: backTo pos (starEach [] X.env))) _ _ s
  refine Calls.spliced_cons (lam_makeM I TB hcode hmT hu hnm hT hdef (L.has I.ok) fun f c' pm' ctv H1 s' I1 eN T1 of nf fr _ co => Calls.spliced_nil ⟨I1.kIn, ?_⟩)
  have run : codeAny (model X.prog X.w) X.A (.call (.ref g) ⟨[.ref f], []⟩) (CR C8.CX0 X.stack X.prog X.w H1 s' Q C8.E0) s' :=
    LamX.run_ofS (N := Ng) (ps := [a]) (us := [.ref f]) (vs := [.ref f]) lk G.cd G.sc hr I1.env0 (hb s' [.ref f] I1.kIn rfl) (.cons rfl .nil) rfl fun hr' => by
      obtain ⟨u, hu1, hu2⟩ := hG f c' s' H1 Q (fun E H' Q' => t E σ H' Q') (fun W pn xe E p1 p2 tk hW => LamX.pe_act (i := 0) I1 L of nf fr (hbind _ _ _ _ _) tk hW hr' (fun A outer s H hr2 => hbody A outer s H E f c' hr2) G.at0 G.vis G.da G.dc) co (hq H1 eN T1)
      exact ⟨u, hu1.nox, hu2⟩
  refine wpAny_call (codeAny_mono run fun r s2 hh => ?_)
  cases r with
  | error e => exact False.elim hh
  | ok fl => cases fl <;> first | exact I1.after hh | exact False.elim hh
end Mini

/-! Bd1 -/
set_option autoImplicit false
set_option Elab.async false
set_option linter.all false
set_option maxRecDepth 100000
set_option maxHeartbeats 2000000
namespace Mini
open PySem PySem.Spec PySem.Calls PyProof.Rows L2

/-! ### lambdas that wait in a list -/
section
variable {X : Cx} {pins : List (Addr × Obj)} {σ : L2.St} {H : Hp} {s : Shared}
/-- a thing that was held by a fact alone is no longer told of -/
theorem inv_del {f : Addr} {φ : Heap → Prop} (I : Inv X pins σ H s) (hf : H f = some (.ext φ)) : Inv X pins σ (delH H f) s := by
  have neH : ∀ b o, H b = some o → (∀ φ', o ≠ .ext φ') → b ≠ f := fun b o e hne z => by
    rw [z, hf] at e
    cases e
    exact hne _ rfl
  have del : ∀ b, H b = none → delH H f b = none := fun b e => by
    unfold delH
    split
    · rfl
    · exact e
  refine ⟨I.ok, I.os, I.bare, ⟨I.base.keep, I.base.slot, fun b o e n hx => del _ (I.base.free b o e n hx), I.base.there, fun b xs e => ?_, fun b o x e => ?_, fun b ps e => ?_⟩, I.loc, I.cell, del _ I.free, fun x c e => del _ (I.freeC x c e), fun p hp => ?_, fun b o e => ?_, I.len⟩
  · have q := I.base.tups b xs e
    rw [delH_ne (neH b _ q (fun _ z => nomatch z))]; exact q
  · have q := I.base.frzs b o x e
    rw [delH_ne (neH b _ q (fun _ z => nomatch z))]; exact q
  · obtain ⟨m, q⟩ := I.base.tbls b ps e
    exact ⟨m, by rw [delH_ne (neH b _ q (fun _ z => nomatch z))]; exact q⟩
  · obtain ⟨e, n, r⟩ := I.pin p hp
    exact ⟨e, del _ n, r⟩
  · by_cases hb : b = f
    · rw [hb, delH_same] at e; cases e
    · rw [delH_ne hb] at e
      exact (I.hok b o e).stay (fun c v _ q => q) (fun c q => by rw [delH_ne (neH c _ q (fun _ z => nomatch z))]; exact q) fun c xs q => by rw [delH_ne (neH c _ q (fun _ z => nomatch z))]; exact q
/-- a thing of ours that was not told of is told of from now on -/
theorem inv_tell {f : Addr} {o : HO} (I : Inv X pins σ H s) (nf : H f = none) (h0 : X.s_0.heap.objs.size ≤ f) (hL : f ≠ X.env.locals) (hc : ∀ x c, X.env.cells.lookup x = some c → c ≠ f) (hp : ∀ p ∈ X.pn ++ pins, p.1 ≠ f) (new : ObjOk X.prog X.w (upd H f o) s.heap f o) : Inv X pins σ (upd H f o) s := by
  have old : ∀ b u, X.s_0.heap.get? b = some u → b ≠ f := fun b u e => Nat.ne_of_lt (Nat.lt_of_lt_of_le (Heap.lt_size e) h0)
  refine ⟨I.ok, I.os, I.bare, ⟨I.base.keep, I.base.slot, fun b u e n hx => ?_, I.base.there, fun b xs e => ?_, fun b u x e => ?_, fun b ps e => ?_⟩, I.loc, I.cell, ?_, fun x c e => ?_, fun p hq => ?_, fun b u e => ?_, I.len⟩
  · rw [upd_ne (old b u e)]; exact I.base.free b u e n hx
  · have q := I.base.tups b xs e
    rw [upd_ne (ne_of_none q nf)]; exact q
  · have q := I.base.frzs b u x e
    rw [upd_ne (ne_of_none q nf)]; exact q
  · obtain ⟨m, q⟩ := I.base.tbls b ps e
    exact ⟨m, by rw [upd_ne (ne_of_none q nf)]; exact q⟩
  · rw [upd_ne (Ne.symm hL)]; exact I.free
  · rw [upd_ne (hc x c e)]; exact I.freeC x c e
  · obtain ⟨e, n, r⟩ := I.pin p hq
    exact ⟨e, by rw [upd_ne (hp p hq)]; exact n, r⟩
  · by_cases hb : b = f
    · rw [hb, upd_same] at e
      cases e
      rw [hb]
      exact new
    · rw [upd_ne hb] at e
      exact (I.hok b u e).stay (fun c v _ q => q) (fun c q => by rw [upd_ne (ne_of_none q nf)]; exact q) fun c xs q => by rw [upd_ne (ne_of_none q nf)]; exact q
/-- f is the function of the lambda, made in the frame env -/
def LamF (env : PySem.Env) (body : Expr) (scope : Scope) (f c' : Addr) : Heap → Prop := fun h => ∃ pm ctv, h.get? f = some (PySem.W.kla_obj "<lambda>" (env.qual ++ "<lambda>") ⟨[], [], none, [], [], none, []⟩ body scope (cloFrom env.cells scope.names []) pm c' ctv)
/-- lambda: body, kept -/
def tLamK (T : List (Addr × TabNm)) (env : PySem.Env) (body : Expr) (scope : Scope) : TE := fun σ H Q => TabsM T H ∧ ∀ H1 f c', LamX.ExtN H H1 → TabsM T H1 → H1 f = none → H1 c' = some (LamX.CodeO c' (env.qual ++ "<lambda>")) → Q (.ref f) (upd H1 f (.ext (LamF env body scope f c')))
theorem pe_lamK {T : List (Addr × TabNm)} {c P : Addr} {nm : TabNm} {body : Expr} {scope : Scope} {pos : Pos} (TB : LamX.TabB X.base X.mg c P) (hcode : X.env.code = .ref c) (hm : (P, nm) ∈ T) (hu : ∀ p ∈ T, p.1 = P → p.2 = nm) (hnm : nm pos.line pos.col = some (X.env.qual ++ "<lambda>"))
    (L : LamX.LamS X.env.scope scope) : PE X (.Lambda ⟨[], [], none, [], [], none, []⟩ body scope pos) (tLamK T X.env body scope) := by
  refine ⟨fun pins s σ H Q I ⟨hT, hq⟩ => ?_⟩
  refine lam_makeM I TB hcode hm hu hnm hT rfl (L.has I.ok) fun f c' pm ctv H1 s' I1 eN T1 of nf fr hsz co => ?_
  refine ⟨.ref f, _, ?_, rfl, hq H1 f c' eN T1 nf co⟩
  -- the function's object is told of from now on
  have new : ObjOk X.prog X.w (upd H1 f (.ext (LamF X.env body scope f c'))) s'.heap f (.ext (LamF X.env body scope f c')) := ⟨⟨pm, ctv, of⟩, ⟨_, of⟩, fun h1 h2 ⟨pm, ctv, e⟩ k => ⟨pm, ctv, k _ e⟩⟩
  refine inv_tell I1 nf (Nat.le_trans I.sz hsz) (Nat.ne_of_gt (Nat.lt_of_lt_of_le I.lt hsz)) (fun x c e z => ?_) (fun p hp z => ?_) new
  · obtain ⟨v, q⟩ := I.cell x c e
    have l := q.lt
    rw [z] at l
    exact absurd (Nat.lt_of_lt_of_le l hsz) (Nat.lt_irrefl _)
  · have l := Heap.lt_size (I.pin p hp).1
    rw [z] at l
    exact absurd (Nat.lt_of_lt_of_le l hsz) (Nat.lt_irrefl _)
/-- x(f) in a block, f a lambda of the def that the block stands in -/
theorem told_blk {Y : Cx} {pl : List (Addr × Obj)} {σY : L2.St} {H3 H' : Hp} {s3 s' : Shared} {fp : List Addr} {TT : (XK → Hp → VK → Prop) → Hp → VK → Prop} {x a : Str} {g : Addr} {k : Nat} {bg : List Stmt} {sg : Scope} {cdv : Value} {Ng : List Str} {body : Expr} {scope : Scope} {t : XK → TE} {f c' : Addr} {Q : VK} {E : Value → Shared → Prop}
    (I3 : Inv X pins σ H3 s3) (hfp : ∀ b ∈ fp, FpOk X pins H3 b) (IY : Inv Y pl σY H' s') (y1 : Y.prog = X.prog) (y2 : Y.w = X.w) (y3 : Y.s_0 = s3) (y4 : Y.H_0 = H3) (y5 : Y.outer = X.stack) (y6 : Y.stack = X.stack) (y7 : Y.ex = fp)
    (G : GiveFn X.mg X.K x g Ng a bg sg cdv) (hG : LamX.GivesTo X Ng x sg g cdv bg a (X.env.qual ++ "<lambda>") TT) (hr : Room (k + 2) X.A) (L : LamX.LamS X.env.scope scope)
    (hbody : ∀ (A : Around) (outer : List PySem.Env) (s : Shared) (H : Hp) (E : XK) (f c' : Addr), Room k (A.deeper (LamX.lamEnv X scope s.heap.objs.size f c')) → PE (LamX.lamCx X A outer s H E scope f c') body (t E))
    (hf : H' f = some (.ext (LamF X.env body scope f c'))) (co : H' c' = some (LamX.CodeO c' (X.env.qual ++ "<lambda>"))) (hq : TT (fun E H'' Q' => t E σ H'' Q') (delH H' f) Q) :
    wpAny (model X.prog X.w) X.A (call (.ref g) [.ref f]) (EP Y pl σY Q) E s' := by
  obtain ⟨oc, od, pg, dV, kV, doc, pm0, an, ct, osl, lk, hb⟩ := G.lk
  have hch : ∀ b ∈ fp, (b ∈ X.ex ∨ X.s_0.heap.objs.size ≤ b) ∧ b ≠ X.env.locals ∧ (∀ x c, X.env.cells.lookup x = some c → c ≠ b) ∧ ∀ p ∈ X.pn ++ pins, p.1 ≠ b := fun b hb => ⟨(hfp b hb).2.2.2.1, (hfp b hb).2.1, (hfp b hb).2.2.2.2.1, (hfp b hb).2.2.2.2.2⟩
  have toX : ∀ {H' : Hp}, Inv Y pl σY H' s' → Inv X pins σ H' s' := fun {H'} J => by
    have b1 := J.base
    have b2 := J.hok
    have b3 := J.os
    unfold Cx.fs at b1
    rw [y5, y7, y4, y3] at b1
    rw [y1, y2] at b2
    rw [y3] at b3
    exact I3.call' (ch := fp) b3 b1 b2 J.bare hch
  have IX0 := toX IY
  have IYd := inv_del IY hf
  have I1 := toX IYd
  obtain ⟨⟨pm, ctv, of⟩, _, _⟩ := IX0.hok f _ hf
  have nf : delH H' f f = none := delH_same
  have fr : f ∉ frs X.stack := fun z => by
    have := IX0.stkFree f z
    rw [hf] at this
    cases this
  have co1 : delH H' f c' = some (LamX.CodeO c' (X.env.qual ++ "<lambda>")) := by
    rw [delH_ne (fun z => ?_)]
    · exact co
    · obtain ⟨⟨oc, vs, tk, e, hd, _⟩, _, _⟩ := IX0.hok c' _ co
      rw [z, of] at e
      cases e
      cases hd
  have run : codeAny (model X.prog X.w) X.A (.call (.ref g) ⟨[.ref f], []⟩) (CR C8.CX0 X.stack X.prog X.w (delH H' f) s' Q C8.E0) s' :=
    LamX.run_ofS (N := Ng) (ps := [a]) (us := [.ref f]) (vs := [.ref f]) lk G.cd G.sc hr I1.env0 (hb s' [.ref f] I1.kIn rfl) (.cons rfl .nil) rfl fun hr' => by
      obtain ⟨u, hu1, hu2⟩ := hG f c' s' (delH H' f) Q (fun E H' Q' => t E σ H' Q') (fun W pn xe E p1 p2 tk hW => LamX.pe_act (i := 0) I1 L of nf fr rfl tk hW hr' (fun A outer s H hr2 => hbody A outer s H E f c' hr2) G.at0 G.vis G.da G.dc) co1 hq
      exact ⟨u, hu1.nox, hu2⟩
  refine wpAny_call (codeAny_mono run fun r s2 hh => ?_)
  cases r with
  | error e => exact False.elim hh
  | ok fl => cases fl <;> first | exact IYd.after (by rw [y6, y1, y2]; exact hh) | exact False.elim hh
end
end Mini

/-! Bd2 -/
set_option autoImplicit false
set_option Elab.async false
set_option linter.all false
set_option maxRecDepth 100000
set_option maxHeartbeats 2000000
namespace Mini
open PySem PySem.Spec PySem.Calls PyProof.Rows L2

theorem grow_del {H : Hp} {f : Addr} {φ : Heap → Prop} (hf : H f = some (.ext φ)) : Grow H (delH H f) := fun a o e s => by
  rw [delH_ne (fun z => by rw [z, hf] at e; cases e; exact s.elim)]
  exact e
/-- a held fact that is new since H is no longer told of -/
theorem nxt_del {D : Side} {K : PySem.W.Frag} {ρ ρ1 : List Addr} {H H1 : Hp} {h1 : Hh} {f : Addr} {φ : Heap → Prop} (n : Nxt D K ρ H ρ1 h1 H1) (nf : H f = none) (hf : H1 f = some (.ext φ)) (sd : D.T (delH H1 f)) : Nxt D K ρ H ρ1 h1 (delH H1 f) := by
  refine ⟨n.grow.trans (grow_del hf), n.pre, ⟨n.rep.len, n.rep.nd, fun i o ei => ?_⟩, sd, fun a o e m t => ?_, fun a o e t => ?_, n.fresh⟩
  · obtain ⟨a, ea, ob⟩ := n.rep.at_ i o ei
    refine ⟨a, ea, ob.mono (grow_del hf) (List.prefix_refl _) (delH_ne fun z => ?_)⟩
    cases o with
    | lst ps =>
      obtain ⟨vs, q, _⟩ := ob
      rw [z, hf] at q
      cases q
    | _ => exact ob.elim
  · rw [delH_ne (ne_of_none e nf)]; exact n.off a o e m t
  · rw [delH_ne (ne_of_none e nf)]; exact n.dom a o e t
end Mini

/-! Bd3 -/
set_option autoImplicit false
set_option Elab.async false
set_option linter.all false
set_option maxRecDepth 100000
set_option maxHeartbeats 2000000
namespace Mini
open PySem PySem.Spec PySem.Calls PyProof.Rows L2

section
variable {X : Cx}
/-- a list comprehension whose test calls back into the frame that it stands in: at each turn the frame's own state is at hand -/
theorem pe_lcB {elt tg iter : Expr} {ifs : List Expr} {scope : Scope} {own : List (Str × Nat)} {pos : Pos} {wi : TI} {g : TG} {tt : L2.St → TT} {te : TE} (hc : X.calm = true) (hN : X.N.Nodup) (hi : PI X tg iter wi) (ok : BlkOk X.N X.env.scope scope own)
    (hg : ∀ (s : Shared) (H : Hp) (C : Addr) (cl : List (Str × Addr)) (fp : List Addr), PG (X.blk s H scope (compEnvC scope cl C X.env) fp) tg g)
    (ht : ∀ (pins : List (Addr × Obj)) (σ : L2.St) (s : Shared) (H : Hp) (C : Addr) (cl : List (Str × Addr)) (fp : List Addr), Inv X pins σ H s → (∀ b ∈ fp, FpOk X pins H b) → PTs (X.blk s H scope (compEnvC scope cl C X.env) fp) ifs (tt σ))
    (he : ∀ (s : Shared) (H : Hp) (C : Addr) (cl : List (Str × Addr)) (fp : List Addr), PE (X.blk s H scope (compEnvC scope cl C X.env) fp) elt te) (hs : ∀ x, foldedSetIterable iter X.env x = pure x) :
    PE X (.ListComp elt [⟨tg, iter, ifs, 0⟩] scope pos) (fun σ H Q => tLc wi g (tt σ) te (own.map (·.2)) σ H Q) := by
  refine ⟨fun pins s σ H Q I h => ?_⟩
  have hfree : ∀ y ∈ scope.names, y.2 = .free → ∃ c, X.env.cells.lookup y.1 = some c := fun y hy e => (ok.free y hy e).elim (fun k => I.ok.has _ (.inl k)) fun k => I.ok.has _ (.inr k)
  rw [eval_ListComp]
  refine wpAny_comprehension_free (use := none) rfl hs (closure_ok hfree) ok.kind (fun y hy e => by rw [ok.uniq y hy, e]) (thn (hi.run pins s σ H _ I h) fun xv s1 hx => thn hx fun itv s2 ⟨it, fp, tn, J, H2, e, I2, T, st2, f2, q⟩ => ?_)
  subst e
  refine wpAny_newObj_type (newEnv_comp ?_) (by show 0 ≤ sizeLine; decide)
  -- the new list stands at D
  obtain ⟨D, hD⟩ : ∃ D, s2.heap.objs.size = D := ⟨_, rfl⟩
  obtain ⟨W, ⟨m0, w0⟩, turn⟩ := q D (I2.hok.fresh (Nat.le_of_eq hD))
  obtain ⟨H3, eH3⟩ : ∃ H3, upd H2 D (.lst []) = H3 := ⟨_, rfl⟩
  obtain ⟨s3, es3⟩ : ∃ s3 : Shared, ({ s2 with heap := s2.heap.push { cls := .type "list", data := .seq ([] : List Value).toArray } } : Shared) = s3 := ⟨_, rfl⟩
  have kp23 : ∀ b o, s2.heap.get? b = some o → s3.heap.get? b = some o := fun b o e => by rw [← es3]; exact Heap.get?_push_of_some _ e
  have I3 : Inv X pins σ H3 s3 := by
    rw [← es3, ← eH3, ← hD]
    exact I2.laid (t' := s2.toks) (fun b o e => Heap.get?_push_of_some _ e) (Nat.le_refl _) ⟨Nat.zero_le _, [], 0, .nil, Heap.get?_push_size _ rfl⟩
  have f3 : ∀ b ∈ fp, FpOk X pins H3 b ∧ b < s3.heap.objs.size := fun b hb => by
    obtain ⟨o, e, _⟩ := T.obj _ _ st2 b hb
    refine ⟨⟨?_, (f2 b hb).2⟩, Heap.lt_size (kp23 b o e)⟩
    rw [← eH3, upd_ne (by rw [← hD]; exact Nat.ne_of_lt (Heap.lt_size e))]
    exact (f2 b hb).1
  have st3 : tn 0 s3.heap := T.keep _ _ _ st2 fun b _ o e => kp23 b o e
  have I4 := block_start I3 ok hN f3
  obtain ⟨ce, hce⟩ : ∃ ce, compEnvC scope (cellsFrom (s3.heap.objs.size + 1) scope.names (cloFrom X.env.cells scope.names [])) s3.heap.objs.size X.env = ce := ⟨_, rfl⟩
  have pg := hg s3 H3 s3.heap.objs.size (cellsFrom (s3.heap.objs.size + 1) scope.names (cloFrom X.env.cells scope.names [])) fp
  have pt := ht pins σ s3 H3 s3.heap.objs.size (cellsFrom (s3.heap.objs.size + 1) scope.names (cloFrom X.env.cells scope.names [])) fp I3 fun b hb => (f3 b hb).1
  have pe := he s3 H3 s3.heap.objs.size (cellsFrom (s3.heap.objs.size + 1) scope.names (cloFrom X.env.cells scope.names [])) fp
  rw [eH3] at w0
  rw [hce] at I4 pg pt pe
  obtain ⟨s4, es4⟩ : ∃ s4 : Shared, ({ s3 with heap := pushCells (s3.heap.push { cls := .type "dict", data := .dict #[] }) scope.names } : Shared) = s4 := ⟨_, rfl⟩
  rw [es4] at I4
  have st4 : tn 0 s4.heap := T.keep _ _ _ st3 fun b _ o e => by rw [← es4]; exact pushCells_keeps _ _ _ _ (Heap.get?_push_of_some _ e)
  have cL : ce.locals = s3.heap.objs.size := by subst hce; rfl
  have stat : ∀ {σ' : L2.St} {H' : Hp} {s' : Shared}, Inv (X.blk s3 H3 scope ce fp) [] σ' H' s' → (∀ b ∈ fp, H' b = none) → ∀ b ∈ fp, FpOk (X.blk s3 H3 scope ce fp) [] H' b := fun {σ' H' s'} J hn b hb =>
    ⟨hn b hb, (J.ok.exf b hb).1, J.ok.exfs b hb, .inl hb, fun x c e => (J.ok.exf b hb).2 x c e, fun p hp => absurd (show p ∈ ([] : List (Addr × Obj)) ++ [] from hp) (by simp)⟩
  rw [hD, es3]
  show codeAny _ _ (.compStart (.ListComp elt [⟨tg, iter, ifs, 0⟩] scope pos) 0 (.ref it) (.ref D) (compEnvC scope (cellsFrom (s3.heap.objs.size + 1) scope.names (cloFrom X.env.cells scope.names [])) s3.heap.objs.size X.env)) (compPost (model X.prog X.w) X.A X.xe none (EP X pins σ Q) (.ref D) s3.heap.objs.size) { s3 with heap := pushCells (s3.heap.push { cls := .type "dict", data := .dict #[] }) scope.names }
  rw [hce, es4]
  have loop : codeAny (model X.prog X.w) X.A (.compLoop (.ListComp elt [⟨tg, iter, ifs, 0⟩] scope pos) 0 (.ref it) (.ref D) ce) (compPost (model X.prog X.w) X.A X.xe none (EP X pins σ Q) (.ref D) s3.heap.objs.size) s4 := by
    refine compLoop_any (fun n s' => ∃ i H', Inv (X.blk s3 H3 scope ce fp) [] (wipe σ (own.map (·.2))) H' s' ∧ tn i s'.heap ∧ (∀ b ∈ fp, H' b = none) ∧ W i n H') ?_ m0 ⟨0, H3, I4, st4, fun b hb => (f3 b hb).1.1, w0⟩
    rintro n s5 ⟨i, H5, I5, st5, n5, w5⟩
    rcases turn i n H5 w5 with ⟨stop, qq⟩ | ⟨go, Nx, hNx, step⟩
    · refine thnF (T.done (X.blk s3 H3 scope ce fp) rfl rfl rfl hc i [] s5 _ H5 (fun _ _ => False) I5 (stat I5 n5) st5 stop) fun r s6 ⟨hr, I6⟩ => ?_
      subst hr
      have I7 : Inv X pins σ H5 s6 := I3.call' (ch := fp) I6.os I6.base I6.hok I6.bare fun b hb => ⟨(f3 b hb).1.2.2.2.1, (f3 b hb).1.2.1, (f3 b hb).1.2.2.2.2.1, (f3 b hb).1.2.2.2.2.2⟩
      obtain ⟨m, hn, _⟩ := I6.loc
      have nC : H5 ce.locals = none := I6.free
      have hn : s6.heap.Ns ce.locals m := hn
      rw [cL] at hn nC
      obtain ⟨f0, f1, _, f3', f4, f5⟩ := I3.fpOk (Nat.le_refl _) nC
      exact ⟨m, hn, fun h'' sb => ⟨.ref D, H5, I7.turned (t' := s6.toks) (fun b o hb e => (sb.2 b hb).trans e) f0 f1 f3' f4 f5, rfl, qq⟩⟩
    · refine thnF (T.item (X.blk s3 H3 scope ce fp) rfl rfl rfl hc i [] s5 _ H5 (fun _ _ => False) I5 (stat I5 n5) st5 go) fun r s6 ⟨u, hr, h6⟩ => ?_
      subst hr
      refine thnF h6 fun _ s7 ⟨x, H7, I7, r7, y7, st7, n7⟩ => ?_
      refine thnF (pg.run _ s7 _ H7 x u _ (I7.pinned (stat I7 n7) (T.obj _ _ st7)) r7 (step x H7 y7)) fun _ s8 ⟨σ8, H8, I8, hw8, q8⟩ => ?_
      refine thnF (pt.run _ s8 σ8 H8 _ I8 q8) fun b s9 ⟨H9, I9, q9⟩ => ?_
      have fin : ∀ {s' : Shared} {H' : Hp}, Inv (X.blk s3 H3 scope ce fp) ([] ++ pinsAt fp s7.heap) σ8 H' s' → Nx H' → ∃ m, m < n ∧ ∃ i H', Inv (X.blk s3 H3 scope ce fp) [] (wipe σ (own.map (·.2))) H' s' ∧ tn i s'.heap ∧ (∀ b ∈ fp, H' b = none) ∧ W i m H' := fun {s' H'} J nx => by
        obtain ⟨m', hm, w'⟩ := hNx H' nx
        have pin' : ∀ b ∈ fp, ∀ o, s7.heap.get? b = some o → s'.heap.get? b = some o ∧ H' b = none := fun b hb o e =>
          let z := J.pin (b, o) (List.mem_append_right _ (List.mem_append_right _ (mem_pinsAt hb e)))
          ⟨z.1, z.2.1⟩
        refine ⟨m', hm, i + 1, H', (J.unpinned (pins := [])).weak (by rw [← hw8, wipe_length]) (fun j v e => ?_), T.keep _ _ _ st7 fun b hb o e => (pin' b hb o e).1, fun b hb => ?_, w'⟩
        · rw [← hw8] at e
          exact (wipe_some e).1
        · obtain ⟨o, e, _⟩ := T.obj _ _ st7 b hb
          exact (pin' b hb o e).2
      cases b with
      | false =>
        simp only [Bool.false_eq_true, if_false] at q9 ⊢
        exact fin I9 q9
      | true =>
        simp only [if_true] at q9 ⊢
        exact thnF (pe.run _ s9 σ8 H9 _ I9 q9) fun z s10 ⟨yv, H10, I10, r10, acc, hD10, hz10, nx⟩ => app_ok (X := X.blk s3 H3 scope ce fp) I10 hD10 hz10 r10 fun s11 I11 => fin I11 nx
  exact codeAny_compStart_list loop (T.self X.A 0 _ _ _ st4 loop)
end
end Mini

/-! Bd4 -/
set_option autoImplicit false
set_option Elab.async false
set_option linter.all false
set_option maxRecDepth 100000
set_option maxHeartbeats 2000000
namespace Mini
open PySem PySem.Spec PySem.Calls PyProof.Rows L2

/-- a lambda that may be called: body, scope, its reading -/
structure LamE where
  body : Expr
  scope : Scope
  t : XK → TE
section
variable {X : Cx} {pins : List (Addr × Obj)} {σ : L2.St} {H : Hp} {s : Shared}
/-- the tables hang on no lambda's function -/
theorem tabs_del {T : List (Addr × TabNm)} {env : PySem.Env} {body : Expr} {scope : Scope} {f c' : Addr} (I : Inv X pins σ H s) (t : TabsM T H) (hf : H f = some (.ext (LamF env body scope f c'))) : TabsM T (delH H f) := fun p hp => by
  obtain ⟨⟨pm, ctv, of⟩, _, _⟩ := I.hok f _ hf
  obtain ⟨ps, a1, a2, a3⟩ := t p hp
  refine ⟨ps, by rw [delH_ne (ne_of a1 hf (by intro z; cases z))]; exact a1, a2, fun pos cv hc q hq => ?_⟩
  obtain ⟨c, e1, e2⟩ := a3 pos cv hc q hq
  refine ⟨c, e1, ?_⟩
  rw [delH_ne (fun z => ?_)]
  · exact e2
  · obtain ⟨⟨oc, vs, tk, e, hd, _⟩, _, _⟩ := I.hok c _ e2
    rw [z, of] at e
    cases e
    cases hd
end
/-- x(f) amid a comprehension, f one of these lambdas of the def around -/
def tToldB (T : List (Addr × TabNm)) (env : PySem.Env) (TT : (XK → Hp → VK → Prop) → Hp → VK → Prop) (es : List LamE) (j : Nat) (σ : L2.St) : TE := fun σ' H' Q => ∃ (f c' : Addr) (e : LamE), e ∈ es ∧ σ'[j]? = some (some (.ref f)) ∧ H' f = some (.ext (LamF env e.body e.scope f c')) ∧ H' c' = some (LamX.CodeO c' (env.qual ++ "<lambda>")) ∧ TabsM T H' ∧
  (TabsM T (delH H' f) → TT (fun E H'' Q' => e.t E σ H'' Q') (delH H' f) Q)
theorem pe_toldB {X : Cx} {T : List (Addr × TabNm)} {TT : (XK → Hp → VK → Prop) → Hp → VK → Prop} {x a y : Str} {g : Addr} {k j : Nat} {bg : List Stmt} {sg : Scope} {cdv : Value} {Ng : List Str} {es : List LamE} {p p2 pos : Pos} {pins : List (Addr × Obj)} {σ : L2.St} {s : Shared} {H : Hp} {scope : Scope} {ce : PySem.Env} {fp : List Addr}
    (I3 : Inv X pins σ H s) (hfp : ∀ b ∈ fp, FpOk X pins H b) (hg : Gl (X.blk s H scope ce fp) x) (G : GiveFn X.mg X.K x g Ng a bg sg cdv) (hG : LamX.GivesTo X Ng x sg g cdv bg a (X.env.qual ++ "<lambda>") TT) (hr : Room (k + 2) X.A)
    (hes : ∀ e ∈ es, LamX.LamS X.env.scope e.scope ∧ ∀ (A : Around) (outer : List PySem.Env) (s : Shared) (H : Hp) (E : XK) (f c' : Addr), Room k (A.deeper (LamX.lamEnv X e.scope s.heap.objs.size f c')) → PE (LamX.lamCx X A outer s H E e.scope f c') e.body (e.t E))
    (hj : X.N[j]? = some y) (hv : Vis ce.scope y) (hd : (y == ("__debug__" : Str)) = false) (hcd : (y == ("__classdict__" : Str)) = false) :
    PE (X.blk s H scope ce fp) (.Call (.Name x p) [.Name y p2] [] pos) (tToldB T X.env TT es j σ) := by
  refine ⟨fun pl s' σ' H' Q IY ⟨f, c', e, he, h1, h2, h3, h4, h5⟩ => ?_⟩
  refine wpAny_Call_Name_kw (ld_glob IY hg G.mg ?_ G.db)
  refine PySem.W.callWith_K (h₀ := X.base) IY.ok.mod.kin G.kp ?_ (by rfl) (by rfl)
  show wpAny _ _ (spliced ((false, eval (.Name y p2) ce) :: backTo pos (starEach [] ce))) _ _ s'
  refine Calls.spliced_cons (thn ((pe_var (X := X.blk s H scope ce fp) (pos := p2) (i := j) hj hv hd hcd).run pl s' σ' H' (fun v H1 => v = .ref f ∧ H1 = H') IY ⟨.ref f, h1, rfl, rfl⟩) fun u s1 ⟨v, H1, I1, r1, q1⟩ => Calls.spliced_nil ⟨I1.kIn, ?_⟩)
  obtain ⟨ev, eH⟩ := q1
  subst ev
  rw [eH] at I1
  obtain rfl : u = Value.ref f := r1
  have hq := h5 (tabs_del I1 h4 h2)
  show wpAny (model X.prog X.w) X.A (call (.ref g) [.ref f]) (EP (X.blk s H scope ce fp) pl σ' Q) _ s1
  exact told_blk (X := X) (Y := X.blk s H scope ce fp) (fp := fp) I3 hfp I1 rfl rfl rfl rfl rfl rfl rfl G hG hr (hes e he).1 (hes e he).2 h2 h3 hq
end Mini

/-! Bd5 -/
set_option autoImplicit false
set_option Elab.async false
set_option linter.all false
set_option maxRecDepth 100000
set_option maxHeartbeats 1000000
namespace Mini
open PySem PySem.Spec PySem.Calls PyProof.Rows L2

/-- [lambda: .., ..]: the functions, one after another -/
def tLams (T : List (Addr × TabNm)) (env : PySem.Env) : List (Expr × Scope × Pos) → TA
  | [] => tNil
  | l :: r => tCons (tLamK T env l.1 l.2.1) (tLams T env r)
def lamX (l : Expr × Scope × Pos) : Expr := .Lambda ⟨[], [], none, [], [], none, []⟩ l.1 l.2.1 l.2.2
theorem pa_lams {X : Cx} {T : List (Addr × TabNm)} {c P : Addr} {nm : TabNm} (TB : LamX.TabB X.base X.mg c P) (hcode : X.env.code = .ref c) (hm : (P, nm) ∈ T) (hu : ∀ p ∈ T, p.1 = P → p.2 = nm) :
    ∀ ls : List (Expr × Scope × Pos), (∀ l ∈ ls, nm l.2.2.line l.2.2.col = some (X.env.qual ++ "<lambda>") ∧ LamX.LamS X.env.scope l.2.1) → PA X (ls.map lamX) (tLams T X.env ls)
  | [], _ => pa_nil
  | l :: r, h => pa_cons (pe_lamK TB hcode hm hu (h l (List.mem_cons_self ..)).1 (h l (List.mem_cons_self ..)).2) (pa_lams TB hcode hm hu r fun q hq => h q (List.mem_cons_of_mem _ hq))
end Mini

/-! Bd6 -/
set_option autoImplicit false
set_option Elab.async false
set_option linter.all false
set_option maxRecDepth 100000
set_option maxHeartbeats 1000000
namespace Mini
open PySem PySem.Spec PySem.Calls PyProof.Rows L2

/-- the test x(f) != "r" amid the comprehension -/
theorem pts_toldB {X : Cx} {T : List (Addr × TabNm)} {TT : (XK → Hp → VK → Prop) → Hp → VK → Prop} {x a y : Str} {g : Addr} {k j i : Nat} {bg : List Stmt} {sg : Scope} {cdv : Value} {Ng : List Str} {es : List LamE} {p p2 pos p3 p4 : Pos} {pins : List (Addr × Obj)} {σ : L2.St} {s : Shared} {H : Hp} {scope : Scope} {ce : PySem.Env} {fp : List Addr} {rt : Str} {r : R2}
    (I3 : Inv X pins σ H s) (hfp : ∀ b ∈ fp, FpOk X pins H b) (hg : Gl (X.blk s H scope ce fp) x) (G : GiveFn X.mg X.K x g Ng a bg sg cdv) (hG : LamX.GivesTo X Ng x sg g cdv bg a (X.env.qual ++ "<lambda>") TT) (hr : Room (k + 2) X.A)
    (hes : ∀ e ∈ es, LamX.LamS X.env.scope e.scope ∧ ∀ (A : Around) (outer : List PySem.Env) (s : Shared) (H : Hp) (E : XK) (f c' : Addr), Room k (A.deeper (LamX.lamEnv X e.scope s.heap.objs.size f c')) → PE (LamX.lamCx X A outer s H E e.scope f c') e.body (e.t E))
    (hj : X.N[j]? = some y) (hv : Vis ce.scope y) (hd : (y == ("__debug__" : Str)) = false) (hcd : (y == ("__classdict__" : Str)) = false) (ho : OpR (X.blk s H scope ce fp) (compareOp .NotEq) r) :
    PTs (X.blk s H scope ce fp) [.Compare (.Call (.Name x p) [.Name y p2] [] pos) [.NotEq] [.Constant (.str rt) i p3] p4] (tTest (tOp r (tToldB T X.env TT es j σ) (tC (.str rt)))) :=
  pts_one (pt_cmpR ho (pe_toldB I3 hfp hg G hG hr hes hj hv hd hcd) pe_str rfl)
end Mini

/-! Snd20 -/
set_option autoImplicit false
set_option Elab.async false
set_option linter.all false
set_option maxRecDepth 100000
namespace Mini
open PySem PySem.Spec PySem.Calls PyProof.Rows L2

/-- the compiler was told right -/
structure GOk (Z : Wd) (tx : Tx) : Prop where
  fn : ∀ x i opts, tx.gt.lookup x = some (.fn i opts) → i < Z.I.fns.length ∧ Z.mg x = some (.ref (Z.fa i)) ∧ PySem.W.keepIn Z.K (.ref (Z.fa i)) = true ∧
    ∀ n qs, opts.lookup n = some qs → n + qs.length = (Z.ps i).length ∧ ∃ dvs ds, Binds Z.K (Z.fd i) (Z.ps i) ds ∧ Vals dvs ds ∧ ∀ ρ H, Reps Z.K ρ H qs dvs
  con : ∀ x j, tx.gt.lookup x = some (.con j) → ∃ u v q, Z.mg x = some u ∧ RelV v u ∧ Z.I.cons[j]? = some q ∧ ∀ ρ H, Rep Z.K ρ H q v
  exc : ∀ x c, tx.gt.lookup x = some (.exc c) → Z.mg x = some (.ref (Z.cls c)) ∧ PySem.W.keepIn Z.K (.ref (Z.cls c)) = true ∧ (∃ B newId initId bmB, ExcBaseFacts B newId initId bmB ∧ PySem.W.excIn Z.K (Z.cls c) bmB newId = true) ∧
    PySem.W.subIn Z.K (.ref (Z.cls c)) (.type "BaseException") = some true ∧ PySem.W.typeIn Z.K (.ref (Z.cls c)) = some (.type "type")
  no : ∀ x, tx.no.contains x = true → Z.mg x = none
  told : ∀ x k ret, tx.told.lookup x = some (k, ret) → ∃ (g : Addr) (Ng : List Str) (a e : Str) (r : Str) (sg : Scope) (cdv : Value) (j : Nat) (p1 p2 p3 p4 p5 p6 p7 p8 : Pos),
    GiveFn Z.mg Z.K x g Ng a [.Try [.Return (some (.Call (.Name a p1) [] [] p2)) p3] [.ExceptHandler (some (.Name e p4)) none [.Return (some (.Constant (.str r) j p5)) p6] p7] [] [] p8] sg cdv ∧
    sg.names.lookup e = some .globalImplicit ∧ Z.mg e = some (.ref (Z.cls k)) ∧ (e == ("__debug__" : Str)) = false ∧ ret = r.cps.toList
  lam : ∀ l ∈ tx.lams, ∃ (T : List (Addr × TabNm)) (P : Addr) (nm : TabNm), Z.D = tabSide T ∧ LamX.TabB Z.base Z.mg (Z.cad l.1) P ∧ (P, nm) ∈ T ∧ (∀ q ∈ T, q.1 = P → q.2 = nm) ∧ (∀ pl ∈ l.2.2, nm pl.1 pl.2 = some (l.2.1 ++ "<lambda>")) ∧ ∀ pl ∉ l.2.2, nm pl.1 pl.2 = none
  isa : ∀ c c', PySem.W.exmOne Z.K (.ref (Z.cls c')) (.ref (Z.cls c)) = some (Z.I.isa c' c)
section
variable {Z : Wd} {F : Fam} {k d : Nat} {c : CC} {Wx : WX}
abbrev SEw (Z : Wd) (d : Nat) (F : Fam) (Wx : WX) (e : Expr) (ir : E) : Prop := SE Z.D (clN Z.I d) F (WofX Z.cls Wx) e ir
theorem bt_of {x : Str} (T : GOk Z c.tx) (h : c.bt x = true) : c.sc.names.lookup x = some .globalImplicit ∧ Z.mg x = none := by
  unfold CC.bt at h
  rw [Bool.and_eq_true] at h
  exact ⟨gl_of h.1, T.no x h.2⟩
/-! ### targets -/
theorem cT_ok (G : FamG Z F k c.N c.sc c.tp Wx) : ∀ n, (∀ e t, cT n c e = some t → SG F e t ∧ t.slots = tSlots t) ∧ ∀ es ts, cTs n c es = some ts → SGs F es ts ∧ ts.slots = tsSlots ts ∧ (∀ e ∈ es, star e = false) ∧ ts.len = es.length
  | 0 => by
    refine ⟨fun e t h => (by unfold cT at h; cases h), fun es ts h => ?_⟩
    cases es with
    | nil => unfold cTs at h; cases h; exact ⟨sgd_nil, rfl, ⟨fun a ha => absurd ha List.not_mem_nil, rfl⟩⟩
    | cons _ _ => unfold cTs at h; cases h
  | n + 1 => by
    have ih := cT_ok G n
    refine ⟨fun e t h => ?_, fun es ts h => ?_⟩
    · cases e <;> first
        | (unfold cT at h; cases h; done)
        | skip
      · rename_i x p
        unfold cT at h
        split at h
        · rename_i hl
          obtain ⟨i, h1, rfl⟩ := Option.map_eq_some_iff.mp h
          obtain ⟨l1, l2⟩ := loc_of hl
          exact ⟨sgd_name G.hnd (G.at (slot_at h1)) (G.loc l1) (fun X hX => l2.elim (fun ht => .inl (G.fn ht X hX x)) fun hn => .inr (by rw [G.hSc X hX]; exact hn)), by simp [T.slots, tSlots]⟩
        · cases h
      · rename_i es k2 p
        unfold cT at h
        obtain ⟨ts, h1, rfl⟩ := Option.map_eq_some_iff.mp h
        obtain ⟨s1, s2, s3, s4⟩ := ih.2 es ts h1
        have asl : ∀ X : Cx, ∀ es : List Expr, (∀ e ∈ es, star e = false) → (assignEach es X.env).length = es.length ∧ (assignEach es X.env).findIdx? (·.1) = none := by
          intro X es hs
          induction es with
          | nil => exact ⟨rfl, rfl⟩
          | cons e es ihe =>
            obtain ⟨q1, q2⟩ := ihe fun a ha => hs a (List.mem_cons_of_mem _ ha)
            rw [asg_each (hs e (List.mem_cons_self ..))]
            refine ⟨by rw [List.length_cons, q1, List.length_cons], ?_⟩
            rw [List.findIdx?_cons]
            simp only [Bool.false_eq_true, if_false, q2]
            rfl
        exact ⟨sgd_tup G.calm s1 (fun X => by rw [(asl X es s3).1, s4]) (fun X => (asl X es s3).2), by rw [T.slots, tSlots, s2]⟩
    · cases es with
      | nil => unfold cTs at h; cases h; exact ⟨sgd_nil, rfl, ⟨fun a ha => absurd ha List.not_mem_nil, rfl⟩⟩
      | cons e es =>
        unfold cTs at h
        cases hs : star e with
        | true => rw [hs] at h; cases h
        | false =>
          rw [hs, if_neg Bool.false_ne_true] at h
          cases h1 : cT n c e with
          | none => rw [h1] at h; cases h
          | some t =>
            cases h2 : cTs n c es with
            | none => rw [h1, h2] at h; cases h
            | some us =>
              rw [h1, h2] at h
              cases h
              obtain ⟨a1, a2⟩ := ih.1 e t h1
              obtain ⟨b1, b2, b3, b4⟩ := ih.2 es us h2
              refine ⟨sgd_cons a1 b1 fun X => ?_, by rw [Ts.slots, tsSlots, a2, b2], fun a ha => ?_, by rw [Ts.len, b4, List.length_cons]⟩
              · rw [asg_each hs]; rfl
              · rcases List.mem_cons.mp ha with rfl | ha
                · exact hs
                · exact b3 a ha
/-! ### sources -/
theorem seq1_ok {f : Expr → Option E} {tg e : Expr} {s : Src} {is : Es} (hf : ∀ i, f e = some i → SEw Z d F Wx e i) (h : seq1 f e = some (s, is)) : SI Z.D (clN Z.I d) F (WofX Z.cls Wx) tg e s is := by
  unfold seq1 at h
  obtain ⟨i, h1, h2⟩ := Option.map_eq_some_iff.mp h
  cases h2
  exact si_seq (hf _ h1)
theorem is_tup {tg : Expr} (h : isTup tg = true) : ∃ es k p, tg = .Tuple es k p := by
  cases tg <;> first | exact ⟨_, _, _, rfl⟩ | (simp [isTup] at h)
theorem cSrc_ok {f : Expr → Option E} {tg it : Expr} {s : Src} {is : Es} (G : FamG Z F k c.N c.sc c.tp Wx) (T : GOk Z c.tx) (hf : ∀ e i, f e = some i → SEw Z d F Wx e i) (h : cSrc c f tg it = some (s, is)) : SI Z.D (clN Z.I d) F (WofX Z.cls Wx) tg it s is := by
  unfold cSrc at h
  split at h
  · rename_i x p1 a p2
    split at h
    · rename_i q
      simp only [Bool.and_eq_true, Bool.not_eq_true'] at q
      obtain ⟨⟨q1, q2⟩, q3⟩ := q
      obtain rfl := beq_iff_eq.mp q1
      obtain ⟨g1, g2⟩ := bt_of T q2
      obtain ⟨i, h1, h2⟩ := Option.map_eq_some_iff.mp h
      cases h2
      exact si_range1 (G.gl g1) (G.mgN g2) (snd_cons (hf a _ h1) snd_nil fun X => star_each q3 _ _) fun X => star_each q3 _ _
    · split at h
      · rename_i q
        simp only [Bool.and_eq_true, Bool.not_eq_true'] at q
        obtain ⟨⟨⟨q1, q2⟩, q3⟩, q4⟩ := q
        obtain rfl := beq_iff_eq.mp q1
        obtain ⟨g1, g2⟩ := bt_of T q2
        obtain ⟨es, k2, tp, rfl⟩ := is_tup q3
        obtain ⟨i, h1, h2⟩ := Option.map_eq_some_iff.mp h
        cases h2
        exact si_enum (G.gl g1) (G.mgN g2) (snd_cons (hf a _ h1) snd_nil fun X => star_each q4 _ _) fun X => star_each q4 _ _
      · exact seq1_ok (hf _) h
  · rename_i x p1 a b p2
    split at h
    · rename_i q
      simp only [Bool.and_eq_true, Bool.not_eq_true'] at q
      obtain ⟨⟨⟨q1, q2⟩, q3⟩, q4⟩ := q
      obtain rfl := beq_iff_eq.mp q1
      obtain ⟨g1, g2⟩ := bt_of T q2
      cases h1 : f a with
      | none => rw [h1] at h; cases h
      | some i =>
        cases h2 : f b with
        | none => rw [h1, h2] at h; cases h
        | some j =>
          rw [h1, h2] at h
          cases h
          exact si_range2 (G.gl g1) (G.mgN g2) (snd_cons (hf a i h1) (snd_cons (hf b j h2) snd_nil fun X => star_each q4 _ _) fun X => star_each q3 _ _) (fun X => by rw [star_each q3, star_each q4]; rfl) fun X => by rw [star_each q4]; rfl
    · split at h
      · rename_i q
        simp only [Bool.and_eq_true, Bool.not_eq_true'] at q
        obtain ⟨⟨⟨⟨q1, q2⟩, q5⟩, q3⟩, q4⟩ := q
        obtain rfl := beq_iff_eq.mp q1
        obtain ⟨g1, g2⟩ := bt_of T q2
        obtain ⟨es, k2, tp, rfl⟩ := is_tup q5
        cases h1 : f a with
        | none => rw [h1] at h; cases h
        | some i =>
          cases h2 : f b with
          | none => rw [h1, h2] at h; cases h
          | some j =>
            rw [h1, h2] at h
            cases h
            exact si_zip (G.gl g1) (G.mgN g2) (snd_cons (hf a i h1) (snd_cons (hf b j h2) snd_nil fun X => star_each q4 _ _) fun X => star_each q3 _ _) (fun X => star_each q3 _ _) fun X => stars_any (fun e he => by rw [List.mem_singleton.mp he]; exact q4) _ _
      · exact seq1_ok (hf _) h
  · exact seq1_ok (hf _) h
/-! ### builtins -/
theorem snd_pB {f : Prim} {id : String} {x : Str} {e : Expr} {es : List Expr} {ies : Es} {p pos : Pos} (G : FamG Z F k c.N c.sc c.tp Wx) (hg : c.sc.names.lookup x = some .globalImplicit) (hm : Z.mg x = none) (hv : bootBuiltins x = some (.builtin id)) (hn : x ≠ "__name__") (hdb : (x == ("__debug__" : Str)) = false)
    (hc : ∀ X, F.P X → CallR X (.builtin id) (RaE Z.D X.K f)) (hs : ∀ a ∈ e :: es, star a = false) (ha : SA Z.D (clN Z.I d) F (WofX Z.cls Wx) (e :: es) ies) : SEw Z d F Wx (.Call (.Name x p) (e :: es) [] pos) (.prim f ies) :=
  snd_prim (r := RaE Z.D F.K f) (fun _ _ _ h => h) (fun X hX t pt => by
    have z := hc X hX
    rw [F.hK X hX] at z
    exact pe_callB z (G.gl hg X hX) (G.mgN hm X hX) hv pt hn hdb (star_each (hs e (List.mem_cons_self ..)) _ _) (stars_any (fun a ha => hs a (List.mem_cons_of_mem _ ha)) _ _)) ha
theorem snd_pT {f : Prim} {id : String} {x : Str} {e : Expr} {es : List Expr} {ies : Es} {p pos : Pos} (G : FamG Z F k c.N c.sc c.tp Wx) (hg : c.sc.names.lookup x = some .globalImplicit) (hm : Z.mg x = none) (hv : bootBuiltins x = some (.type id)) (hn : x ≠ "__name__") (hdb : (x == ("__debug__" : Str)) = false)
    (hc : ∀ X, F.P X → CallR X (.type id) (RaE Z.D X.K f)) (hs : ∀ a ∈ e :: es, star a = false) (ha : SA Z.D (clN Z.I d) F (WofX Z.cls Wx) (e :: es) ies) : SEw Z d F Wx (.Call (.Name x p) (e :: es) [] pos) (.prim f ies) :=
  snd_prim (r := RaE Z.D F.K f) (fun _ _ _ h => h) (fun X hX t pt => by
    have z := hc X hX
    rw [F.hK X hX] at z
    exact pe_callTy z (G.gl hg X hX) (G.mgN hm X hX) hv pt hn hdb (star_each (hs e (List.mem_cons_self ..)) _ _) (stars_any (fun a ha => hs a (List.mem_cons_of_mem _ ha)) _ _)) ha
theorem prim_ok {f : Prim} {x : Str} {es : List Expr} {ies : Es} {p pos : Pos} (G : FamG Z F k c.N c.sc c.tp Wx) (T : GOk Z c.tx) (hb : c.bt x = true) (h : primOf x es.length = some f) (hs : ∀ a ∈ es, star a = false) (ha : SA Z.D (clN Z.I d) F (WofX Z.cls Wx) es ies) :
    SEw Z d F Wx (.Call (.Name x p) es [] pos) (.prim f ies) := by
  obtain ⟨g1, g2⟩ := bt_of T hb
  unfold primOf at h
  cases es with
  | nil => simp at h
  | cons e es =>
    split at h
    · repeat' split at h
      all_goals first | (cases h; done) | skip
      all_goals (rename_i q; obtain rfl := beq_iff_eq.mp q; cases h)
      · exact snd_pB G g1 g2 boot_len (by decide) (by decide) (fun X hX => prr_len) hs ha
      · exact snd_pB G g1 g2 boot_abs (by decide) (by decide) (fun X hX => prr_abs) hs ha
      · exact snd_pT G g1 g2 boot_int (by decide) (by decide) (fun X hX => prr_int) hs ha
      · exact snd_pT G g1 g2 boot_str (by decide) (by decide) (fun X hX => prr_str) hs ha
      · exact snd_pB G g1 g2 boot_sum (by decide) (by decide) (fun X hX => prr_sum (G.calm X hX)) hs ha
      · exact snd_pB G g1 g2 boot_sorted (by decide) (by decide) (fun X hX => prr_sorted (G.hu X hX)) hs ha
      · exact snd_pT G g1 g2 boot_tuple (by decide) (by decide) (fun X hX => prr_tuple) hs ha
      · exact snd_pT G g1 g2 boot_list (by decide) (by decide) (fun X hX => prr_list) hs ha
    · split at h
      · repeat' split at h
        all_goals first | (cases h; done) | skip
        all_goals (rename_i q; obtain rfl := beq_iff_eq.mp q; cases h)
        · exact snd_pB G g1 g2 boot_min (by decide) (by decide) (fun X hX => prr_min2 (G.calm X hX)) hs ha
        · exact snd_pB G g1 g2 boot_max (by decide) (by decide) (fun X hX => prr_max2 (G.calm X hX)) hs ha
      · cases h
end
end Mini

/-! Snd20b -/
set_option autoImplicit false
set_option Elab.async false
set_option linter.all false
set_option maxRecDepth 100000
namespace Mini
open PySem PySem.Spec PySem.Calls PyProof.Rows L2

/-- the bodies of a lambda that is called by the def that got it -/
def Fam.lam (F : Fam) (m : Nat) (E : XK) (scope : Scope) : Fam where
  K := F.K
  P := fun Y => ∃ (X : Cx) (A : Around) (outer : List PySem.Env) (s : Shared) (H : Hp) (f c' : Addr), F.P X ∧ LamX.LamS X.env.scope scope ∧ Room m (A.deeper (LamX.lamEnv X scope s.heap.objs.size f c')) ∧ Y = LamX.lamCx X A outer s H E scope f c'
  hK := fun Y ⟨X, A, outer, s, H, f, c', hX, _, _, e⟩ => by rw [e]; exact F.hK X hX
section
variable {Z : Wd} {F : Fam} {k : Nat} {N : List Str} {sc : Scope} {tp : Tp} {Wx : WX}
theorem FamG.lam (G : FamG Z F k N sc tp Wx) (m : Nat) (E : XK) {scope : Scope} (hk : scope.kind = .function) : FamG Z (F.lam m E scope) m N scope ⟨false, Str.empty, none⟩ (fun cls d _ H => E cls d H) where
  hK := G.hK
  prog := fun Y ⟨X, A, outer, s, H, f, c', hX, _, _, e⟩ => by rw [e]; exact G.prog X hX
  hW := fun Y ⟨X, A, outer, s, H, f, c', hX, _, _, e⟩ => by rw [e]; exact G.hW X hX
  mg := fun Y ⟨X, A, outer, s, H, f, c', hX, _, _, e⟩ => by rw [e]; exact G.mg X hX
  base := fun Y ⟨X, A, outer, s, H, f, c', hX, _, _, e⟩ => by rw [e]; exact G.base X hX
  calm := fun Y ⟨X, A, outer, s, H, f, c', hX, _, _, e⟩ => by rw [e]; rfl
  room := fun Y ⟨X, A, outer, s, H, f, c', hX, _, r, e⟩ => by rw [e]; exact r
  hN := fun Y ⟨X, A, outer, s, H, f, c', hX, _, _, e⟩ => by rw [e]; exact G.hN X hX
  nd := G.nd
  hSc := fun Y ⟨X, A, outer, s, H, f, c', hX, _, _, e⟩ => by rw [e]; rfl
  kind := hk
  tk := fun Y ⟨X, A, outer, s, H, f, c', hX, _, _, e⟩ => by rw [e]; exact takes_of (X := LamX.lamCx X A outer s H E scope f c') (E := E) rfl rfl rfl rfl
  own := fun Y ⟨X, A, outer, s, H, f, c', hX, _, _, e⟩ => by rw [e]; exact passes_of (X := LamX.lamCx X A outer s H E scope f c') rfl
  fn := fun h => by cases h
  stk := fun h => by cases h
  cd := fun ca h => by cases h
  one := fun h => by cases h
/-- x(lambda: body), where x tells an exception of class j by a text -/
theorem snd_told {d : Nat} {c : CC} {x : Str} {p lp pos : Pos} {ar : Arguments} {b : Expr} {ib : E} {scope : Scope} {j : Nat} {ret : List Nat} (G : FamG Z F k c.N c.sc c.tp Wx) (T : GOk Z c.tx) (hk : lev d + c.rm ≤ k) (hg : c.sc.names.lookup x = some .globalImplicit) (ha : noArgs ar = true) (hl : c.lamOk scope lp = true)
    (ht : c.tx.told.lookup x = some (j, ret)) (hb : ∀ E : XK, SE Z.D (clN Z.I d) (F.lam (k - 2) E scope) (WofX Z.cls (fun cls d _ H => E cls d H)) b ib) : SEw Z d F Wx (.Call (.Name x p) [.Lambda ar b scope lp] [] pos) (.told j ret ib) := by
  unfold CC.lamOk at hl
  simp only [Bool.and_eq_true, decide_eq_true_eq, List.any_eq_true] at hl
  obtain ⟨⟨h2, hL⟩, l, hl, ⟨l1, l2⟩, l3⟩ := hl
  have l1 := eq_of_beq l1
  have l2 := eq_of_beq l2
  obtain ⟨TT, P, nm, t1, t2, t3, t4, t5, _⟩ := T.lam l hl
  have hnm : nm lp.line lp.col = some (l.2.1 ++ "<lambda>") := t5 (lp.line, lp.col) (by simpa using l3)
  obtain ⟨g, Ng, a, e, r, sg, cdv, jj, p1, p2, p3, p4, p5, p6, p7, p8, gv, ge, gm, gd, rfl⟩ := T.told x j ret ht
  have hkk : k - 2 + 2 = k := by omega
  have ars : ar = ⟨[], [], none, [], [], none, []⟩ := by
    obtain ⟨q1, q2, q3, q4, q5, q6, q7⟩ := ar
    simp only [noArgs, Bool.and_eq_true, List.isEmpty_iff, Option.isNone_iff_eq_none] at ha
    obtain ⟨⟨⟨⟨⟨⟨rfl, rfl⟩, rfl⟩, rfl⟩, rfl⟩, rfl⟩, rfl⟩ := ha
    rfl
  subst ars
  refine ⟨tLamM TT (LamX.TTold F.K (Z.cls j) r) fun E => Classical.choose (hb E), fun X hX => ?_, fun L σ H env h ρ Q n er w => ?_⟩
  · have hKX : X.K = Z.K := (F.hK X hX).trans G.hK
    have hc := G.cd l.1 l1 X hX
    have hq : X.env.qual = l.2.1 := by rw [hc.2, l2]
    have hLS : LamX.LamS X.env.scope scope := by rw [G.hSc X hX]; exact LamX.lamS_by hL
    rw [← F.hK X hX]
    exact pe_lamM (k := k - 2) (G.gl hg X hX) (by rw [hKX, G.mg X hX]; exact gv) (LamX.told_gives ge (G.mgS gm X hX) gd fun f => by
        have := gv.at0
        cases Ng with
        | nil => cases this
        | cons y ys => rfl)
      (by rw [G.base X hX, G.mg X hX]; exact t2) hc.1 t3 t4 (by rw [hq]; exact hnm) (by rw [hkk]; exact G.room X hX) hLS rfl (fun _ _ _ _ _ => rfl)
      fun A outer s H E f c' hr => (Classical.choose_spec (hb E)).1 _ ⟨X, A, outer, s, H, f, c', hX, hLS, hr, rfl⟩
  · have hD : ∀ H, Z.D.T H → TabsM TT H := fun H q => by rw [t1] at q; exact q
    refine ⟨hD H n.side, fun H1 ext tab => ?_⟩
    have m : Nxt Z.D F.K ρ H ρ h H1 := ext_nxt n ext (by rw [t1]; exact tab)
    unfold evE at w
    refine (Classical.choose_spec (hb _)).2 L σ H1 env h ρ Q m.now (er.mono m.grow m.pre) ?_
    have w1 := WantE.at w m
    cases ea : evE (clN Z.I d) L ib env h with
    | bad => rw [ea] at w1; exact w1.elim
    | ok q h1 => rw [ea] at w1; exact w1
    | exc i h1 =>
      rw [ea] at w1
      intro H2 ρ2 m2
      dsimp only at w1
      refine ⟨Z.I.isa i j, by rw [G.hK]; exact T.isa j i, fun hi => ?_, fun hi => ?_⟩
      · have hi' : (clN Z.I d).isa i j = true := hi
        rw [if_pos hi'] at w1
        have := w1 (.str ⟨r.cps.toList.toArray⟩) H2 ρ2 m2 (.str _)
        simpa using this
      · have hi' : ¬ (clN Z.I d).isa i j = true := by show ¬ Z.I.isa i j = true; rw [hi]; exact Bool.false_ne_true
        rw [if_neg hi'] at w1
        exact w1.elim
end
end Mini

/-! Gx1 -/
set_option autoImplicit false
set_option Elab.async false
set_option linter.all false
set_option maxRecDepth 100000
set_option maxHeartbeats 2000000
namespace Mini
open PySem PySem.Spec PySem.Calls PyProof.Rows L2 GenW

/-! ### generator expressions: the context of the element -/
abbrev gEnv (X : Cx) (scope : Scope) (C : Addr) (code : Value) : PySem.Env := genEnv scope (cloFrom X.env.cells scope.names []) C code builtinsNs X.env
abbrev gCx (X : Cx) (A : Around) (s : Shared) (H : Hp) (scope : Scope) (C : Addr) (code : Value) (fp : List Addr) (pn : List (Addr × Obj)) : Cx :=
  { X with A := A, s_0 := s, H_0 := H, env := gEnv X scope C code, outer := X.stack, stack := gEnv X scope C code :: X.stack, ex := fp, fn := fun _ => false, pn := pn, xe := fun _ _ => False }
section
variable {X : Cx} {pins : List (Addr × Obj)} {σ : L2.St} {H : Hp} {s : Shared}
theorem gen_start {A : Around} {scope : Scope} {own : List (Str × Nat)} {code : Value} {fp : List Addr} {a : Addr} {go : Obj} {s2 : Shared} {m : Str → Option Value} (I : Inv X pins σ H s) (ok : BlkOk X.N X.env.scope scope own) (hcell : ∀ y ∈ scope.names, y.2 ≠ .cell) (hN : X.N.Nodup)
    (hfp : ∀ b ∈ fp, FpOk X pins H b ∧ b < s.heap.objs.size) (hA : A.frames = some (gEnv X scope s.heap.objs.size code :: X.stack)) (hh : A.handled = none)
    (kp : ∀ b o, s.heap.get? b = some o → s2.heap.get? b = some o) (hns : s2.heap.Ns s.heap.objs.size m) (ha : s.heap.objs.size < a) (hgo : s2.heap.get? a = some go) (hgd : ∀ v, go.data ≠ .cell v) (os : s2.os = s.os) (hb : AllBare s2.gens) :
    Inv (gCx X A s H scope s.heap.objs.size code fp [(a, go)]) [] (wipe σ (own.map (·.2))) H s2 := by
  have hfree : ∀ y ∈ scope.names, y.2 = .free → ∃ c, X.env.cells.lookup y.1 = some c := fun y hy e => by
    rcases ok.free y hy e with k | k
    · exact I.ok.has _ (.inl k)
    · exact I.ok.has _ (.inr k)
  have cm : ∀ {y c}, (cloFrom X.env.cells scope.names []).lookup y = some c → X.env.cells.lookup y = some c ∧ c < s.heap.objs.size := fun {y c} e => by
    rcases cloFrom_mem (PySem.mem_of_lookup e) with hm | ⟨h1, h2⟩
    · cases hm
    · obtain ⟨c1, hc⟩ := hfree _ h1 rfl
      have hc : X.env.cells.lookup y = some c1 := hc
      have e2 : c = c1 := by
        rw [h2, hc] <;> rfl
      obtain ⟨w, z⟩ := I.cell _ _ hc
      rw [e2]
      exact ⟨hc, z.lt⟩
  have look : ∀ {y}, scope.names.lookup y = some .free → ∃ c, (cloFrom X.env.cells scope.names []).lookup y = some c := fun {y} hl => by
    have hy : (y, NameKind.free) ∈ scope.names := PySem.mem_of_lookup hl
    exact mem_lookup (cloFrom_has (cells := X.env.cells) (acc := []) hy)
  refine ⟨⟨I.ok.mod, ok.kind, I.ok.glob, rfl, Nat.le_refl _, fun y z c e1 e2 => I.ok.inj y z c (cm e1).1 (cm e2).1, fun y hy => ?_, fun y c z _ => (by cases z), fun _ => hh, hA, .inr ⟨rfl, rfl⟩, fun b hb => ⟨Nat.ne_of_lt (hfp b hb).2, fun y c e z => (hfp b hb).1.2.2.2.2.1 y c (cm e).1 z⟩,
      I.bs, Nat.le_trans I.ok.bsz I.sz, fun b o e hb => ?_, fun b hb z => ?_, I.stack, I.stkFree⟩,
    os, hb, Un.kept kp, ⟨m, hns, fun i y v e1 e2 e3 => ?_⟩, fun y c e => ?_, I.hok.fresh (Nat.le_refl _), fun y c e => I.freeC y c (cm e).1, fun q hq => ?_, I.hok.kept kp, by rw [wipe_length]; exact I.len⟩
  · have hy : scope.names.lookup y = some .cell ∨ scope.names.lookup y = some .free := hy
    rcases hy with hy | hy
    · exact absurd rfl (hcell _ (PySem.mem_of_lookup hy))
    · exact look hy
  · rcases (hfp b hb).1.2.2.2.1 with z | z
    · exact I.ok.noex b o e z
    · exact absurd (Nat.lt_of_lt_of_le (Heap.lt_size e) (Nat.le_trans I.ok.bsz z)) (Nat.lt_irrefl _)
  · rcases List.mem_cons.mp (I.stkSub b z) with z | z
    · exact (hfp b hb).1.2.1 z
    · exact (hfp b hb).1.2.2.1 z
  · obtain ⟨e2, hne⟩ := wipe_some e2
    have e3 : Vis scope y := e3
    have no : ∀ k', scope.names.lookup y = some k' → ¬ (k' = .local ∨ k' = .cell) := fun k' e hh => by
      rcases ok.own _ (PySem.mem_of_lookup e) hh with e' | e'
      · obtain ⟨p, hp, hpy⟩ := List.mem_map.mp e'
        have e4 := ok.ix p hp
        have : p.1 = y := hpy
        rw [this] at e4
        exact hne (List.mem_map.mpr ⟨p, hp, nodup_ix hN e4 e1⟩)
      · exact e' (List.mem_of_getElem? e1)
    rcases e3 with k | k | k
    · exact absurd (.inl rfl) (no _ k)
    · exact absurd (.inr rfl) (no _ k)
    · obtain ⟨m', hn, hl⟩ := I.loc
      have hvis : Vis X.env.scope y := (ok.free _ (PySem.mem_of_lookup k) rfl).elim (fun k => .inr (.inl k)) (fun k => .inr (.inr k))
      obtain ⟨w', r, q⟩ := hl i y v e1 e2 hvis
      obtain ⟨c2, h2⟩ := look k
      refine ⟨w', r, .inr ⟨.inr k, c2, h2, ?_⟩⟩
      have c1 := (cm h2).1
      rcases q with ⟨k', _⟩ | ⟨_, c3, e', z⟩
      · have k' : X.env.scope.names.lookup y = some .local := k'
        rcases ok.free _ (PySem.mem_of_lookup k) rfl with k2 | k2 <;> rw [show X.env.scope.names.lookup y = _ from k2] at k' <;> cases k'
      · rw [c1] at e'
        cases e'
        exact z.keeps kp
  · obtain ⟨w', z⟩ := I.cell y c (cm e).1
    exact ⟨w', z.keeps kp⟩
  · have hq : q ∈ [(a, go)] := by simpa using hq
    rw [List.mem_singleton.mp hq]
    refine ⟨hgo, I.hok.fresh (Nat.le_of_lt ha), Nat.ne_of_gt ha, fun z => ?_, hgd⟩
    rcases List.mem_cons.mp (I.stkSub a z) with z | z
    · have l := I.lt
      rw [← z] at l
      exact absurd (Nat.lt_trans l ha) (Nat.lt_irrefl _)
    · exact I.nofs (Nat.le_of_lt ha) z
end

/-! ### who takes what comes out -/
/-- what the one who takes the items keeps at L; al: where it stands -/
structure Csm (τ : Type) where
  L : List Addr
  st : τ → Heap → Prop
  obj : ∀ a h, st a h → ∀ b ∈ L, ∃ o, h.get? b = some o ∧ ∀ v, o.data ≠ .cell v
  keep : ∀ a h h', st a h → (∀ b ∈ L, ∀ o, h.get? b = some o → h'.get? b = some o) → st a h'
abbrev Stp (τ : Type) := τ → V → Hp → (τ → Prop) → Prop
def SleptL (L : List Addr) (s s' : Shared) : Prop := s'.os = s.os ∧ AllBare s'.gens ∧ ∀ b o, b ∉ L → s.heap.get? b = some o → s'.heap.get? b = some o
section
variable {τ : Type} (X : Cx) (pins : List (Addr × Obj)) (σ : L2.St) (a : Addr) (g : Nat) (Cn : Csm τ) (Step : Stp τ) (Q : τ → Hp → Prop)
def GYx : Protocol := fun n s₀ v s1 kap => ∃ α y H', RelV y v ∧ Inv X pins σ H' s1 ∧ s1.heap.IsGen a g ∧ Cn.st α s1.heap ∧ (∀ b ∈ Cn.L, H' b = none) ∧ Step α y H' fun α' => ∀ s', SleptL Cn.L s1 s' → Cn.st α' s'.heap → kap (.send .none) s'
def GFx : Nat → Shared → Shared → Prop := fun _ _ s1 => ∃ α H', Inv X pins σ H' s1 ∧ Cn.st α s1.heap ∧ (∀ b ∈ Cn.L, H' b = none) ∧ Q α H'
def GRx : GenEnd := fun n s₀ r s1 => ((r = .ok (.ret .none) ∨ r = .ok .next) ∧ GFx X pins σ Cn Q n s₀ s1) ∨ ∃ e, r = .error e ∧ False
end
theorem inv_slept {X : Cx} {pins : List (Addr × Obj)} {σ : L2.St} {H : Hp} {s s' : Shared} {L : List Addr} (I : Inv X pins σ H s) (z : SleptL L s s') (hf : ∀ b ∈ L, FpOk X pins H b) (ht : ∀ b ∈ L, ∃ o, s'.heap.get? b = some o) : Inv X pins σ H s' := by
  obtain ⟨z1, z2, z3⟩ := z
  obtain ⟨hh, g, d, t, o⟩ := s'
  have ho : o = s.os := z1
  subst ho
  have nL : ∀ b u, H b = some u → b ∉ L := fun b u q hb => by rw [(hf b hb).1] at q; cases q
  refine I.step (g' := g) (t' := t) (d' := d) (ch := L) (fun b hb => ⟨(hf b hb).2.2.2.1, (hf b hb).2.1, (hf b hb).2.2.2.2.1, (hf b hb).2.2.2.2.2⟩)
      (fun b ob _ _ hc q _ => z3 b ob hc q) (fun b ob _ _ hc q _ => ⟨ob.slots, z3 b ob hc q⟩) (fun _ _ _ _ n => n) (fun b ob hc q => ⟨ob, z3 b ob hc q⟩)
      (fun _ _ q => q) (fun _ _ _ q => q) (fun b ps q => ⟨#[], by rw [q]; simp⟩) (fun m hm => ?_) (fun b u q => ?_) z2
  · obtain ⟨ob, es, ep, ho, r⟩ := hm
    exact ⟨ob, es, ep, z3 _ ob (fun z => (hf _ z).2.1 rfl) ho, r⟩
  · refine (I.hok b u q).stay (fun c v hc y => z3 c v ?_ y) (fun _ y => y) fun _ _ y => y
    rcases hc with y | y
    · rw [y]; exact nL b u q
    · exact nL c _ y

/-- the turns of a generator expression -/
theorem gl_loop {τ : Type} {X : Cx} {pins : List (Addr × Obj)} {σ : L2.St} {H : Hp} {s3 : Shared} {A : Around} {scope : Scope} {own : List (Str × Nat)} {C : Addr} {code : Value} {fp : List Addr} {a it : Addr} {g : Nat} {go : Obj} {Cn : Csm τ} {Step : Stp τ} {Q : τ → Hp → Prop}
    {elt tg iter : Expr} {ifs : List Expr} {pos : Pos} {J : It} {tn : Nat → Heap → Prop} {wg : TG} {tt : TT} {te : TE} {W : τ → Nat → Nat → Hp → Prop}
    (hmono : ∀ α y H (N N' : τ → Prop), (∀ α', N α' → N' α') → Step α y H N → Step α y H N') (I3 : Inv X pins σ H s3) (hfp : ∀ b ∈ fp, FpOk X pins H b) (hgo : ∀ h : Heap, h.get? a = some go → h.IsGen a g) (hafp : a ∉ fp) (hLf : ∀ b ∈ Cn.L, b ∉ fp) (hLs : ∀ b ∈ Cn.L, s3.heap.objs.size ≤ b)
    (hov : A.over (.compLoop (.GeneratorExp elt [⟨tg, iter, ifs, 0⟩] scope pos) 0 (.ref it) .none (gEnv X scope C code)) [] = A.deeper (gEnv X scope C code)) (hc : X.calm = true) (hco : scope.isCoroutine = false)
    (T : Turn X.prog X.w X.K tg J fp it tn)
    (pg : PG (gCx X (A.deeper (gEnv X scope C code)) s3 H scope C code fp [(a, go)]) tg wg) (pt : PTs (gCx X (A.deeper (gEnv X scope C code)) s3 H scope C code fp [(a, go)]) ifs tt) (pe : PE (gCx X (A.deeper (gEnv X scope C code)) s3 H scope C code fp [(a, go)]) elt te)
    (turn : ∀ α i m H, W α i m H → (J.stop i H ∧ Q α H) ∨ (J.go i H ∧ ∃ Nx : τ → Hp → Prop, (∀ α' H', Nx α' H' → ∃ m', m' < m ∧ W α' (i + 1) m' H') ∧ ∀ x H', J.yld i H x H' → wg x (wipe σ (own.map (·.2))) H' fun σ2 H2 => wipe σ2 (own.map (·.2)) = wipe σ (own.map (·.2)) ∧ tt σ2 H2 fun b H3 =>
      if b = true then te σ2 H3 fun y H4 => Step α y H4 fun α' => Nx α' H4 else Nx α H3)) :
    ∀ (m n i : Nat) (α : τ) (s₀ s : Shared) (H' : Hp), m < n → Inv (gCx X (A.deeper (gEnv X scope C code)) s3 H scope C code fp [(a, go)]) [] (wipe σ (own.map (·.2))) H' s → tn i s.heap → (∀ b ∈ fp, H' b = none) → Cn.st α s.heap →
      (∀ b ∈ Cn.L, FpOk (gCx X (A.deeper (gEnv X scope C code)) s3 H scope C code fp [(a, go)]) [] H' b) → W α i m H' →
      Seg (model X.prog X.w) A (GRx X pins σ Cn Q) (GYx X pins σ a g Cn Step) n s₀ (.compLoop (.GeneratorExp elt [⟨tg, iter, ifs, 0⟩] scope pos) 0 (.ref it) .none (gEnv X scope C code))
        ((model X.prog X.w).den (.compLoop (.GeneratorExp elt [⟨tg, iter, ifs, 0⟩] scope pos) 0 (.ref it) .none (gEnv X scope C code))) [] s := by
  intro m
  induction m using Nat.strongRecOn with
  | ind m ih =>
    intro n i α s₀ s H' hmn I st nfp cst fL w
    -- what stands: the taker's things
    have I' := I.pinned fL (Cn.obj _ _ cst)
    have stat : ∀ {pl : List (Addr × Obj)} {σ' : L2.St} {H' : Hp} {s' : Shared}, Inv (gCx X (A.deeper (gEnv X scope C code)) s3 H scope C code fp [(a, go)]) pl σ' H' s' → (∀ p ∈ pl, p.1 ∉ fp) → (∀ b ∈ fp, H' b = none) → ∀ b ∈ fp, FpOk (gCx X (A.deeper (gEnv X scope C code)) s3 H scope C code fp [(a, go)]) pl H' b := fun {pl σ' H' s'} J' hp hn b hb =>
      ⟨hn b hb, (J'.ok.exf b hb).1, J'.ok.exfs b hb, .inl hb, fun x c e => (J'.ok.exf b hb).2 x c e, fun p hq z => by
        rcases List.mem_append.mp hq with hq | hq
        · rw [List.mem_singleton.mp hq] at z
          exact hafp (by rw [show a = b from z]; exact hb)
        · exact hp p hq (by rw [z]; exact hb)⟩
    have hpl : ∀ p ∈ ([] : List (Addr × Obj)) ++ pinsAt Cn.L s.heap, p.1 ∉ fp := fun p hp => hLf _ (of_pinsAt (by simpa using hp)).1
    have back : ∀ {pl : List (Addr × Obj)} {σ' : L2.St} {H' : Hp} {s' : Shared}, Inv (gCx X (A.deeper (gEnv X scope C code)) s3 H scope C code fp [(a, go)]) pl σ' H' s' → Inv X pins σ H' s' := fun {pl σ' H' s'} J' =>
      I3.call' (ch := fp) J'.os J'.base J'.hok J'.bare fun b hb => ⟨(hfp b hb).2.2.2.1, (hfp b hb).2.1, (hfp b hb).2.2.2.2.1, (hfp b hb).2.2.2.2.2⟩
    have pinS : ∀ {more : List (Addr × Obj)} {σ' : L2.St} {H' : Hp} {s' : Shared}, Inv (gCx X (A.deeper (gEnv X scope C code)) s3 H scope C code fp [(a, go)]) (([] ++ pinsAt Cn.L s.heap) ++ more) σ' H' s' → Cn.st α s'.heap ∧ (∀ b ∈ Cn.L, H' b = none) ∧ s'.heap.IsGen a g := fun {more σ' H' s'} J' => by
      refine ⟨Cn.keep _ _ _ cst fun b hb o e => (J'.pin (b, o) (List.mem_append_right _ (List.mem_append_left _ (List.mem_append_right _ (mem_pinsAt hb e))))).1, fun b hb => ?_, hgo _ (J'.pin (a, go) (List.mem_append_left _ (List.mem_singleton.mpr rfl))).1⟩
      obtain ⟨o, e, _⟩ := Cn.obj _ _ cst b hb
      exact (J'.pin (b, o) (List.mem_append_right _ (List.mem_append_left _ (List.mem_append_right _ (mem_pinsAt hb e))))).2.1
    show Seg _ A _ _ _ s₀ _ ((compTurn (.GeneratorExp elt [⟨tg, iter, ifs, 0⟩] scope pos) 0 (.ref it) .none (gEnv X scope C code)).onRaise (leaving (gEnv X scope C code))) [] s
    rw [compTurn_gen, Sem.onRaise_eq_wrap]
    refine seg_bind_wrap (wpAny_standAt ?_)
    rcases turn α i m H' w with ⟨stop, qq⟩ | ⟨gog, Nx, hNx, step⟩
    · have td := T.done (gCx X (A.deeper (gEnv X scope C code)) s3 H scope C code fp [(a, go)]) rfl rfl rfl hc i _ s _ H' (fun _ _ => False) I' (stat I' hpl nfp) st stop
      refine seg_bind_wrap ?_
      rw [hov]
      refine wpAny_mono td (fun r s6 ⟨hr, I6⟩ => ?_) fun _ _ z => z.elim
      subst hr
      have I6' : Inv (gCx X (A.deeper (gEnv X scope C code)) s3 H scope C code fp [(a, go)]) (([] ++ pinsAt Cn.L s.heap) ++ []) (wipe σ (own.map (·.2))) H' s6 := by rw [List.append_nil]; exact I6
      obtain ⟨p1, p2, p3⟩ := pinS I6'
      exact seg_end (.ok .next) (.inl ⟨.inr rfl, α, H', back I6, p1, p2, qq⟩)
    · have ti := T.item (gCx X (A.deeper (gEnv X scope C code)) s3 H scope C code fp [(a, go)]) rfl rfl rfl hc i _ s _ H' (fun _ _ => False) I' (stat I' hpl nfp) st gog
      refine seg_bind_wrap ?_
      rw [hov]
      refine wpAny_mono ti (fun r s6 ⟨u, hr, h6⟩ => ?_) fun _ _ z => z.elim
      subst hr
      refine seg_bind_wrap ?_
      rw [hov]
      refine wpAny_mono h6 (fun _ s7 ⟨x, H7, I7, r7, y7, st7, n7⟩ => ?_) fun _ _ z => z.elim
      have I7' := I7.pinned (stat I7 hpl n7) (T.obj _ _ st7)
      refine seg_bind_wrap ?_
      rw [hov]
      refine wpAny_mono (pg.run _ s7 _ H7 x u _ I7' r7 (step x H7 y7)) (fun _ s8 ⟨σ8, H8, I8, hw8, q8⟩ => ?_) fun _ _ z => False.elim z
      refine seg_bind_wrap ?_
      rw [hov]
      refine wpAny_mono (pt.run _ s8 σ8 H8 _ I8 q8) (fun b s9 ⟨H9, I9, q9⟩ => ?_) fun _ _ z => False.elim z
      have hl : (wipe σ (own.map (·.2))).length = σ8.length := by rw [← hw8, wipe_length]
      have wk : ∀ {pl : List (Addr × Obj)} {H' : Hp} {s' : Shared}, Inv (gCx X (A.deeper (gEnv X scope C code)) s3 H scope C code fp [(a, go)]) pl σ8 H' s' → Inv (gCx X (A.deeper (gEnv X scope C code)) s3 H scope C code fp [(a, go)]) [] (wipe σ (own.map (·.2))) H' s' := fun {pl H' s'} J' =>
        ((Inv.unpinned (pins := []) (pl := pl) (by simpa using J')).weak hl fun j v e => by
          rw [← hw8] at e
          exact (wipe_some e).1)
      have pinF : ∀ {H' : Hp} {s' : Shared}, Inv (gCx X (A.deeper (gEnv X scope C code)) s3 H scope C code fp [(a, go)]) (([] ++ pinsAt Cn.L s.heap) ++ pinsAt fp s7.heap) σ8 H' s' → tn (i + 1) s'.heap ∧ ∀ b ∈ fp, H' b = none := fun {H' s'} J' => by
        refine ⟨T.keep _ _ _ st7 fun b hb o e => (J'.pin (b, o) (List.mem_append_right _ (List.mem_append_right _ (mem_pinsAt hb e)))).1, fun b hb => ?_⟩
        obtain ⟨o, e, _⟩ := T.obj _ _ st7 b hb
        exact (J'.pin (b, o) (List.mem_append_right _ (List.mem_append_right _ (mem_pinsAt hb e)))).2.1
      have fL' : ∀ {H' : Hp}, (∀ b ∈ Cn.L, H' b = none) → ∀ b ∈ Cn.L, FpOk (gCx X (A.deeper (gEnv X scope C code)) s3 H scope C code fp [(a, go)]) [] H' b := fun {H'} hn b hb => ⟨hn b hb, (fL b hb).2⟩
      cases b with
      | false =>
        simp only [Bool.false_eq_true, if_false] at q9 ⊢
        obtain ⟨m', hm', w'⟩ := hNx α H9 q9
        obtain ⟨p1, p2, p3⟩ := pinS I9
        obtain ⟨p4, p5⟩ := pinF I9
        exact seg_again rfl (ih m' hm' n (i + 1) α s₀ s9 H9 (by omega) (wk I9) p4 p5 p1 (fL' p2) w')
      | true =>
        simp only [if_true] at q9 ⊢
        have hy : ∀ v, yieldOut (gEnv X scope C code) v = yieldValue v := fun v => by
          have e : (gEnv X scope C code).scope.isCoroutine = false := hco
          simp only [yieldOut, e, Bool.false_eq_true, if_false]
        simp only [hy]
        rw [Sem.bind_eq_wrap', Sem.bind_eq_wrap', Sem.wrap_wrap, Sem.wrap_wrap]
        refine seg_wrap ?_
        rw [hov]
        refine wpAny_mono (pe.run _ s9 σ8 H9 _ I9 q9) (fun yv s10 ⟨y, H10, I10, r10, q10⟩ => ?_) fun _ _ z => False.elim z
        obtain ⟨p1, p2, p3⟩ := pinS I10
        obtain ⟨p4, p5⟩ := pinF I10
        obtain ⟨n', rfl⟩ : ∃ n', n = n' + 1 := ⟨n - 1, by omega⟩
        refine seg_at (seg_yield rfl rfl rfl ⟨α, y, H10, r10, back I10, p3, p1, p2, hmono _ _ _ _ _ (fun α' nx s' z c' => ?_) q10⟩)
        obtain ⟨m', hm', w'⟩ := hNx α' H10 nx
        refine seg_again rfl (ih m' hm' n' (i + 1) α' s' s' H10 (by omega) (inv_slept (wk I10) z (fL' p2) fun b hb => ?_) (T.keep _ _ _ p4 fun b hb o e => z.2.2 b o (fun hL => hLf b hL hb) e) p5 c' (fL' p2) w')
        obtain ⟨o, e, _⟩ := Cn.obj _ _ c' b hb
        exact ⟨o, e⟩
end Mini

/-! Gx2 -/
set_option autoImplicit false
set_option Elab.async false
set_option linter.all false
set_option maxRecDepth 100000
set_option maxHeartbeats 2000000
namespace Mini
open PySem PySem.Spec PySem.Calls PyProof.Rows L2 GenW

/-- what a generator expression is to do, told by the one who takes its items -/
def tGn {τ : Type} (T : List (Addr × TabNm)) (wi : TI) (wg : TG) (tt : TT) (te : TE) (vs : List Nat) (Step : Stp τ) (α0 : τ) (Q : τ → Hp → Prop) (σ : L2.St) (H : Hp) : Prop :=
  wi σ H fun J H1 => TabsM T H1 ∧ ∀ H2, LamX.ExtN H1 H2 → TabsM T H2 → ∃ W : τ → Nat → Nat → Hp → Prop, (∃ m, W α0 0 m H2) ∧ ∀ α i m H, W α i m H → (J.stop i H ∧ Q α H) ∨
    (J.go i H ∧ ∃ Nx : τ → Hp → Prop, (∀ α' H', Nx α' H' → ∃ m', m' < m ∧ W α' (i + 1) m' H') ∧ ∀ x H', J.yld i H x H' → wg x (wipe σ vs) H' fun σ2 H2 => wipe σ2 vs = wipe σ vs ∧ tt σ2 H2 fun b H3 =>
      if b = true then te σ2 H3 fun y H4 => Step α y H4 fun α' => Nx α' H4 else Nx α H3)
/-- a generator that has not begun: whoever takes its items -/
def GMk {τ : Type} (X : Cx) (pins : List (Addr × Obj)) (σ : L2.St) (k : Nat) (Step : Stp τ) (α0 : τ) (Q : τ → Hp → Prop) (u : Value) (s5 : Shared) : Prop :=
  ∃ (a : Addr) (g : Nat) (c : Code) (H2 : Hp), u = .ref a ∧ Inv X pins σ H2 s5 ∧ s5.heap.IsGen a g ∧ s5.gens[g]? = some (.fresh c) ∧ a < s5.heap.objs.size ∧
    ∀ (A : Around) (Cn : Csm τ) (s6 : Shared), Room (k + 1) A → A.frames = some X.stack → (∀ b ∈ Cn.L, s5.heap.objs.size ≤ b) → Cn.st α0 s6.heap → (∀ b o, s5.heap.get? b = some o → s6.heap.get? b = some o) → s6.os = s5.os → AllBare s6.gens →
      ∃ n, Seg (model X.prog X.w) A (GRx X pins σ Cn Q) (GYx X pins σ a g Cn Step) n s6 c ((model X.prog X.w).den c) [] s6

theorem over_gen {A : Around} {elt : Expr} {gs : List Comprehension} {scope : Scope} {pos : Pos} {it acc : Value} {env : PySem.Env} : A.over (.compLoop (.GeneratorExp elt gs scope pos) 0 it acc env) [] = A.deeper env := by
  first
    | rfl
    | (obtain ⟨hd, d, fr, gs, u⟩ := A; simp [Around.over, Around.deeper, marksOver, frameCount, unitsOf, envsOf, guardsOf, pushEnvs, pushGuards, Code.envs, Code.env?, Code.isFrame, Code.guards, Code.isGuard, Code.weight, Code.frames, Code.isCreation, Code.isCaller, Code.cUnits])
theorem over_gen0 {A : Around} {elt : Expr} {gs : List Comprehension} {scope : Scope} {pos : Pos} {it acc : Value} {env : PySem.Env} : A.over (.compStart (.GeneratorExp elt gs scope pos) 0 it acc env) [] = A.deeper env := by
  first
    | rfl
    | (obtain ⟨hd, d, fr, gs, u⟩ := A; simp [Around.over, Around.deeper, marksOver, frameCount, unitsOf, envsOf, guardsOf, pushEnvs, pushGuards, Code.envs, Code.env?, Code.isFrame, Code.guards, Code.isGuard, Code.weight, Code.frames, Code.isCreation, Code.isCaller, Code.cUnits])
theorem seg_gstart {P : Program} {w : World} {A : Around} {R : GenEnd} {Y : Protocol} {n : Nat} {s₀ s : Shared} {elt tg iter : Expr} {ifs : List Expr} {scope : Scope} {pos : Pos} {it : Addr} {cenv : PySem.Env}
    (hself : ∀ (A : Around) (Q : Value → Shared → Prop) (E : Value → Shared → Prop), Q (.ref it) s → wpAny (model P w) A (pyIter (.ref it)) Q E s)
    (loop : Seg (model P w) A R Y n s₀ (.compLoop (.GeneratorExp elt [⟨tg, iter, ifs, 0⟩] scope pos) 0 (.ref it) .none cenv) ((model P w).den (.compLoop (.GeneratorExp elt [⟨tg, iter, ifs, 0⟩] scope pos) 0 (.ref it) .none cenv)) [] s) :
    Seg (model P w) A R Y n s₀ (.compStart (.GeneratorExp elt [⟨tg, iter, ifs, 0⟩] scope pos) 0 (.ref it) .none cenv) ((model P w).den (.compStart (.GeneratorExp elt [⟨tg, iter, ifs, 0⟩] scope pos) 0 (.ref it) .none cenv)) [] s := by
  show Seg _ A _ _ _ s₀ _ ((compStart (.GeneratorExp elt [⟨tg, iter, ifs, 0⟩] scope pos) 0 (.ref it) .none cenv).onRaise (leaving cenv)) [] s
  unfold compStart
  rw [Sem.onRaise_eq_wrap]
  show Seg _ A _ _ _ s₀ _ ((ask >>= _).wrap _ _ _ _) [] s
  refine seg_bind_wrap (wpAny_askSetting ?_)
  split
  · exact seg_again rfl loop
  · first
      | exact seg_bind_wrap (wpAny_rule (seg_bind_wrap (wpAny_standAt (seg_bind_wrap (hself _ _ _ (seg_again rfl loop))))))
      | (refine seg_bind_wrap (wpAny_rule ?_); show Seg _ A _ _ _ s₀ _ ((standAt iter.pos >>= _).wrap _ _ _ _) [] s; exact seg_bind_wrap (wpAny_standAt (seg_bind_wrap (hself _ _ _ (seg_again rfl loop)))))
section
variable {X : Cx} {pins : List (Addr × Obj)} {σ : L2.St} {H : Hp} {s : Shared}
/-- the table of the running def has grown by a place that tells nothing -/
theorem tabs_grow {T : List (Addr × TabNm)} {P : Addr} {nm : TabNm} {ps : Array Value} {pos : Pos} {cv : Value} {H : Hp} (hm : (P, nm) ∈ T) (hu : ∀ p ∈ T, p.1 = P → p.2 = nm) (hnm : nm pos.line pos.col = none) (hT : TabsM T H) (hP : H P = some (.tbl ps)) (ht : TriplesOk ps.toList) :
    TabsM T (upd H P (.tbl (ps ++ #[rawInt pos.line, rawInt pos.col, cv]))) ∧ LamX.ExtN H (upd H P (.tbl (ps ++ #[rawInt pos.line, rawInt pos.col, cv]))) := by
  have ext : LamX.ExtN H (upd H P (.tbl (ps ++ #[rawInt pos.line, rawInt pos.col, cv]))) := fun b o e n => by
    rw [upd_ne (fun z => n ps (Option.some.inj (e.symm.trans (by rw [z]; exact hP))))]
    exact e
  refine ⟨fun p hp => ?_, ext⟩
  obtain ⟨qs, a1, a2, a3⟩ := hT p hp
  by_cases hb : p.1 = P
  · rw [hu p hp hb] at a3 ⊢
    rw [hb] at a1 ⊢
    rw [hP] at a1
    cases a1
    have eL : (ps ++ #[rawInt pos.line, rawInt pos.col, cv]).toList = ps.toList ++ [rawInt pos.line, rawInt pos.col, cv] := by simp
    refine ⟨_, upd_same, by rw [eL]; exact PySem.TriplesOk_snoc _ _ _ _ ht, fun p' cv' hcv q hq => ?_⟩
    rw [eL] at hcv
    rcases NdefX.among_app2 _ ht hcv with z | ⟨z, z1, z2⟩
    · obtain ⟨c0, e1, e2⟩ := a3 p' cv' z q hq
      exact ⟨c0, e1, ext _ _ e2 LamX.codeO_ne⟩
    · rw [← z1, ← z2, hnm] at hq
      cases hq
  · refine ⟨qs, by rw [upd_ne hb]; exact a1, a2, fun p' cv' hcv q hq => ?_⟩
    obtain ⟨c0, e1, e2⟩ := a3 p' cv' hcv q hq
    exact ⟨c0, e1, ext _ _ e2 LamX.codeO_ne⟩
/-- (e for ..), made -/
theorem gen_make {τ : Type} {T : List (Addr × TabNm)} {c P : Addr} {nm : TabNm} {elt tg iter : Expr} {ifs : List Expr} {scope : Scope} {own : List (Str × Nat)} {gpos : Pos} {wi : TI} {wg : TG} {tt : TT} {te : TE} {Step : Stp τ} {α0 : τ} {Q : τ → Hp → Prop} {k : Nat}
    (hmono : ∀ α y H (N N' : τ → Prop), (∀ α', N α' → N' α') → Step α y H N → Step α y H N') (hr : Room k X.A) (hc : X.calm = true) (hN : X.N.Nodup) (TB : LamX.TabB X.base X.mg c P) (hcode : X.env.code = .ref c) (hm : (P, nm) ∈ T) (hu : ∀ p ∈ T, p.1 = P → p.2 = nm) (hnm : nm gpos.line gpos.col = none)
    (ok : BlkOk X.N X.env.scope scope own) (hcell : ∀ y ∈ scope.names, y.2 ≠ .cell) (hco : scope.isCoroutine = false) (h0 : scope.names.lookup (".0" : Str) = some NameKind.local) (hi : PI X tg iter wi) (hs : ∀ x, genFold iter X.env x = pure x)
    (hb : ∀ (A : Around) (s : Shared) (H : Hp) (C : Addr) (code : Value) (fp : List Addr) (pn : List (Addr × Obj)), A.frames = some X.stack → Room (k + 1) A → PG (gCx X (A.deeper (gEnv X scope C code)) s H scope C code fp pn) tg wg ∧ PTs (gCx X (A.deeper (gEnv X scope C code)) s H scope C code fp pn) ifs tt ∧ PE (gCx X (A.deeper (gEnv X scope C code)) s H scope C code fp pn) elt te)
    (I : Inv X pins σ H s) (h : tGn T wi wg tt te (own.map (·.2)) Step α0 Q σ H) : wpAny (model X.prog X.w) X.A (eval (.GeneratorExp elt [⟨tg, iter, ifs, 0⟩] scope gpos) X.env) (GMk X pins σ k Step α0 Q) X.xe s := by
  have hfree : ∀ y ∈ scope.names, y.2 = .free → ∃ c, X.env.cells.lookup y.1 = some c := fun y hy e => by
    rcases ok.free y hy e with k | k
    · exact I.ok.has _ (.inl k)
    · exact I.ok.has _ (.inr k)
  refine wpAny_GeneratorExp_make hco (closure_ok hfree) hcell h0 ok.kind (by have := hr.dp; omega) ?_ hs
  refine thn (hi.run pins s σ H _ I h) fun xv s1 hx => thn hx fun itv s2 h2 => ?_
  obtain ⟨it, fp, tn, J, H2, e, I2, TJ, st2, f2, hT, q⟩ := h2
  subst e
  refine ⟨I2.nolimit, ?_⟩
  obtain ⟨ps, hP, ht, _⟩ := hT _ hm
  have hPs : s2.heap.get? P = some { cls := .none, data := .fields ps } := I2.hok P _ hP
  have nfpP : P ∉ fp := fun hb => by
    have := (f2 P hb).1
    rw [hP] at this
    cases this
  -- the rest, the code object at hand
  have cont : ∀ (code : Value) (s3 : Shared) (H3 : Hp), Inv X pins σ H3 s3 → LamX.ExtN H2 H3 → TabsM T H3 → (∀ b o, b ≠ P → s2.heap.get? b = some o → s3.heap.get? b = some o) → (∀ b ∈ fp, H3 b = none) →
      wpAny (model X.prog X.w) X.A (builtinsFor X.env.globals X.env.builtins) (fun bi s₄ =>
        ∀ h', h'.Ns s₄.heap.objs.size (fun y => if y = ".0" then some (.ref it) else none) → Heap.SameBut s₄.heap.objs.size (s₄.heap.push { cls := .type "frame", data := .dict #[] }) h' →
          GMk X pins σ k Step α0 Q (.ref h'.objs.size) { s₄ with
            gens := s₄.gens.push (.fresh (.compStart (.GeneratorExp elt [⟨tg, iter, ifs, 0⟩] scope gpos) 0 (.ref it) .none (genEnv scope (cloFrom X.env.cells scope.names []) s₄.heap.objs.size code bi X.env))),
            toks := s₄.toks + 1 + 1 + 1,
            heap := h'.push { cls := .type "generator", data := .fields #[.int s₄.gens.size 0, .str "<genexpr>" (s₄.toks + 1), .str (X.env.qual ++ "<genexpr>") (s₄.toks + 1 + 1)] } }) X.xe s3 := by
    intro code s3 H3 I3 ext T3 kp3 nfp3
    obtain ⟨bm, ob, e1, e2, e3, e4, e5, e6, e7, e8⟩ := TB.bm
    refine wpAny_builtinsFor (m := X.mg) (by rw [I3.ok.glob]; exact I3.mod.glob.keeps I3.bk) e1 e2 (I3.bk _ _ e5) e6 e7 e8 ?_
    intro h' hn' hs'
    have st3 : tn 0 s3.heap := TJ.keep _ _ _ st2 fun b hb o e => kp3 b o (fun z => nfpP (z ▸ hb)) e
    have hsz : h'.objs.size = s3.heap.objs.size + 1 := by rw [hs'.1, Heap.size_push]
    have keep' : ∀ b o, s3.heap.get? b = some o → h'.get? b = some o := fun b o e => hs'.extBut b o (Nat.ne_of_lt (Heap.lt_size e)) (Heap.get?_push_of_some _ e)
    generalize hgo : ({ cls := .type "generator", data := .fields #[.int s3.gens.size 0, .str "<genexpr>" (s3.toks + 1), .str (X.env.qual ++ "<genexpr>") (s3.toks + 1 + 1)] } : Obj) = go
    have keep5 : ∀ b o, s3.heap.get? b = some o → (h'.push go).get? b = some o := fun b o e => Heap.get?_push_of_some _ (keep' b o e)
    have hgen : ∀ h : Heap, h.get? h'.objs.size = some go → h.IsGen h'.objs.size s3.gens.size := fun h e => by rw [← hgo] at e; exact ⟨_, _, _, e, rfl, rfl, rfl⟩
    have hpushed : (h'.push go).get? h'.objs.size = some go := Heap.get?_push_size _ (by rw [← hgo]; rfl)
    have hgd : ∀ v, go.data ≠ .cell v := fun v q => by rw [← hgo] at q; cases q
    have hb5 : AllBare (s3.gens.push (.fresh (.compStart (.GeneratorExp elt [⟨tg, iter, ifs, 0⟩] scope gpos) 0 (.ref it) .none (genEnv scope (cloFrom X.env.cells scope.names []) s3.heap.objs.size code builtinsNs X.env)))) := AllBare.push I3.bare rfl
    refine ⟨h'.objs.size, s3.gens.size, _, H3, rfl, I3.call' (ch := []) rfl (Un.kept keep5) (I3.hok.kept keep5) hb5 (fun b z => by simp at z), hgen _ hpushed, Array.getElem?_push_size .., by
      show _ < (h'.push go).objs.size
      rw [Heap.size_push]; exact Nat.lt_succ_self _, ?_⟩
    intro A Cn s6 hr6 hfr hL hcst hk6 hos hba
    obtain ⟨W, ⟨m0, w0⟩, turn⟩ := q H3 ext T3
    obtain ⟨pg, pt, pe⟩ := hb A s3 H3 s3.heap.objs.size code fp [(h'.objs.size, go)] hfr hr6
    have f3 : ∀ b ∈ fp, FpOk X pins H3 b := fun b hb => ⟨nfp3 b hb, (f2 b hb).2⟩
    have sz : ∀ b ∈ fp, b < s3.heap.objs.size := fun b hb => by
      obtain ⟨o, e, _⟩ := TJ.obj _ _ st3 b hb
      exact Heap.lt_size e
    have kp6 : ∀ b o, s3.heap.get? b = some o → s6.heap.get? b = some o := fun b o e => hk6 b o (keep5 b o e)
    have hns6 : s6.heap.Ns s3.heap.objs.size (fun y => if y = ".0" then some (.ref it) else none) := (hn'.push go).keeps hk6
    have I6 := gen_start (A := A.deeper (gEnv X scope s3.heap.objs.size code)) (code := code) (a := h'.objs.size) (go := go) (s2 := s6) I3 ok hcell hN (fun b hb => ⟨f3 b hb, sz b hb⟩) (Around.frames_deeper hfr) hr6.hd kp6 hns6 (by rw [hsz]; exact Nat.lt_succ_self _) (hk6 _ _ hpushed) hgd (hos) hba
    have hL5 : ∀ b ∈ Cn.L, h'.objs.size < b := fun b hb => by
      have : (h'.push go).objs.size ≤ b := hL b hb
      rw [Heap.size_push] at this
      exact this
    have hL6 : ∀ b ∈ Cn.L, s3.heap.objs.size ≤ b ∧ s3.heap.objs.size ≠ b := fun b hb => by
      have h1 : s3.heap.objs.size < h'.objs.size := by rw [hsz]; exact Nat.lt_succ_self _
      have h2 : s3.heap.objs.size < b := Nat.lt_trans h1 (hL5 b hb)
      exact ⟨Nat.le_of_lt h2, Nat.ne_of_lt h2⟩
    refine ⟨m0 + 1, seg_gstart (fun A' Q' E' hq => TJ.self A' 0 _ _ _ (TJ.keep _ _ _ st3 fun b hb o e => kp6 b o e) hq) ?_⟩
    refine gl_loop (own := own) hmono I3 f3 hgen (fun hb => Nat.lt_irrefl _ (Nat.lt_trans (by rw [hsz]; exact Nat.lt_succ_self _) (sz _ hb))) (fun b hb hf => ?_) (fun b hb => ?_) over_gen hc hco TJ pg pt pe turn m0 (m0 + 1) 0 α0 s6 s6 H3 (Nat.lt_succ_self _) I6 (TJ.keep _ _ _ st3 fun b hb o e => kp6 b o e) nfp3 hcst (fun b hb => ?_) w0
    · exact absurd (Nat.lt_of_lt_of_le (sz b hf) (hL6 b hb).1) (Nat.lt_irrefl _)
    · exact (hL6 b hb).1
    · have h3 := (hL6 b hb).1
      refine ⟨I3.hok.fresh h3, ?_, ?_, .inr h3, fun y c' e z => ?_, fun p hp z => ?_⟩
      · exact (hL6 b hb).2.symm
      · intro z
        rcases List.mem_cons.mp (I3.stkSub b z) with z | z
        · have l := I3.lt
          rw [← z] at l
          exact absurd (Nat.lt_of_lt_of_le l h3) (Nat.lt_irrefl _)
        · exact I3.nofs h3 z
      · have e : (cloFrom X.env.cells scope.names []).lookup y = some c' := e
        rcases cloFrom_mem (PySem.mem_of_lookup e) with hm' | ⟨h1, h2'⟩
        · cases hm'
        · obtain ⟨c1, hc1⟩ := hfree _ h1 rfl
          have hc1 : X.env.cells.lookup y = some c1 := hc1
          obtain ⟨w', zz⟩ := I3.cell _ _ hc1
          have e2 : c' = c1 := by rw [h2', hc1] <;> rfl
          have l := zz.lt
          rw [← e2, z] at l
          exact absurd (Nat.lt_of_lt_of_le l h3) (Nat.lt_irrefl _)
      · have hp : p ∈ [(h'.objs.size, go)] := by simpa using hp
        rw [List.mem_singleton.mp hp] at z
        have z : h'.objs.size = b := z
        have h5 := hL5 b hb
        rw [z] at h5
        exact Nat.lt_irrefl _ h5
  have cd : PySem.W.CodeHd s2.heap c P := TB.code.keeps I2.bk
  cases hf : codeAmong gpos ps.toList with
  | some cv =>
    refine wpAny_genexprCode_hit hcode (cd.code hPs ht) hf ?_
    exact cont cv s2 H2 I2 (.refl H2) hT (fun _ _ _ e => e) fun b hb => (f2 b hb).1
  | none =>
    refine wpAny_genexprCodeX hcode (cd.code hPs ht) (cd.tab hPs) hf fun c' h' tk hx hge hlt hco' _ htab' _ => ?_
    obtain ⟨g1, g2⟩ := tabs_grow (cv := .ref c') hm hu hnm hT hP ht
    exact cont _ { s2 with heap := h', toks := tk } _ (GxR.inv_tab (g' := s2.gens) (d' := s2.drawn) (t' := tk) I2 hP (fun b o hb e => hx b o hb e) htab'.2 I2.bare) g2 g1 (fun b o hb e => hx b o hb e) fun b hb => by
      have nb : b ≠ P := fun z => nfpP (by rw [← z]; exact hb)
      rw [upd_ne nb]
      exact (f2 b hb).1
end
end Mini

/-! Gx3 -/
set_option autoImplicit false
set_option Elab.async false
set_option linter.all false
set_option maxRecDepth 100000
set_option maxHeartbeats 2000000
namespace Mini
open PySem PySem.Spec PySem.Calls PyProof.Rows L2 GenW

section
variable {τ : Type} {X : Cx} {pins : List (Addr × Obj)} {σ : L2.St} {a : Addr} {g : Nat} {Cn : Csm τ} {Step : Stp τ} {Q : τ → Hp → Prop}
theorem inv_with {H : Hp} {s s' : Shared} (I : Inv X pins σ H s) (os : s'.os = s.os) (k : ∀ b o, s.heap.get? b = some o → s'.heap.get? b = some o) (hb : AllBare s'.gens) : Inv X pins σ H s' :=
  I.call' (ch := []) os (Un.kept k) (I.hok.kept k) hb fun b z => by simp at z
/-- an item, or the end -/
theorem gen_next {A : Around} {s : Shared} {n : Nat} {gs : GenState} {Qn : Option Value → Shared → Prop} {E : Value → Shared → Prop} (hh : A.handled = none) (hl : s.heap.NoLimit) (hd : A.depth < recursionLimit) (hg : s.heap.IsGen a g) (hgs : s.gens[g]? = some gs)
    (hgo : gs.Goes (model X.prog X.w) A.in1 (GRx X pins σ Cn Q) (GYx X pins σ a g Cn Step) n (.send .none) (s.setGen g .running))
    (hmono : ∀ α y H (N N' : τ → Prop), (∀ α', N α' → N' α') → Step α y H N → Step α y H N')
    (hY : ∀ α y v H' s1 gs', gs'.bare = true → (s1.setGen g gs').gens[g]? = some gs' → RelV y v → Inv X pins σ H' s1 → s1.heap.IsGen a g → Cn.st α s1.heap → (∀ b ∈ Cn.L, H' b = none) →
      Step α y H' (fun α' => ∀ s', SleptL Cn.L s1 s' → Cn.st α' s'.heap → ∃ m, n = m + 1 ∧ gs'.Goes (model X.prog X.w) A.in1 (GRx X pins σ Cn Q) (GYx X pins σ a g Cn Step) m (.send .none) s') → Qn (some v) (s1.setGen g gs'))
    (hP : ∀ α H' s1, Inv X pins σ H' s1 → Cn.st α s1.heap → (∀ b ∈ Cn.L, H' b = none) → Q α H' → Qn none s1) : wpAny (model X.prog X.w) A (pyNext (.ref a)) Qn E s := by
  have hgl : g < s.gens.size := (Array.getElem?_eq_some_iff.mp hgs).1
  have goes : gs.Goes (model X.prog X.w) A.in1 (fun n s₀ r s1 => ((r = .ok (.ret .none) ∨ r = .ok .next) ∧ GFx X pins σ Cn Q n s₀ s1) ∨ ∃ e, r = .error e ∧ (fun _ _ => False) e s1) (GYx X pins σ a g Cn Step) n (.send .none) (s.setGen g .running) := hgo
  refine wpAny_gsz (n := g + 1) hgl (next_genG hh hl hd hg hgs goes (fun v s₁ gs' hb hv hsz => ?_) (fun s₁ hp h' hk hsz => ?_) fun e s₁ he => he.elim)
  · obtain ⟨α, y, H', r, I, ig, st, fl, sp⟩ := hv
    have hsz1 : g < s₁.gens.size := by
      have q : (s₁.setGen g gs').gens.size = s₁.gens.size := setGen_size _ _ _
      have hsz' : g + 1 ≤ (s₁.setGen g gs').gens.size := hsz
      omega
    refine hY α y v H' s₁ gs' hb (setGen_at hsz1) r I ig st fl (hmono _ _ _ _ _ (fun α' hk s' z c => ?_) sp)
    have q := hk s' z c
    cases n with
    | zero => exact q.elim
    | succ m => exact ⟨m, rfl, q⟩
  · obtain ⟨α, H', I, st, fl, q⟩ := hp
    refine hP α H' _ (inv_with I rfl hk ?_) (Cn.keep _ _ _ st fun b _ o e => hk b o e) fl q
    exact allBare_setGen I.bare rfl
end
/-- what list.extend keeps -/
def cnL (S : Addr) : Csm (List V) where
  L := [S]
  st := fun α h => α.length ≤ sizeLine ∧ ∃ acc c, h.get? S = some (lstObj acc c) ∧ Vals α acc.toList
  obj := fun α h ⟨_, acc, c, e, _⟩ b hb => by
    rw [List.mem_singleton.mp hb]
    exact ⟨_, e, fun v z => by cases z⟩
  keep := fun α h h' ⟨l, acc, c, e, r⟩ k => ⟨l, acc, c, k S (List.mem_singleton.mpr rfl) _ e, r⟩
def stL : Stp (List V) := fun α y H N => α.length < sizeLine ∧ N (α ++ [y])
theorem stL_mono : ∀ α y H (N N' : List V → Prop), (∀ α', N α' → N' α') → stL α y H N → stL α y H N' := fun α y H N N' k ⟨h1, h2⟩ => ⟨h1, k _ h2⟩
section
variable {X : Cx} {pins : List (Addr × Obj)} {σ : L2.St} {a S : Addr} {g : Nat} {Q : List V → Hp → Prop}
theorem gdrain {A : Around} {R : Result → Shared → Prop} {res : Value} (hh : A.handled = none) (hd : A.depth < recursionLimit) (hSa : S ≠ a) (hSc : S ≠ cStatics)
    (hend : ∀ α H' s', Inv X pins σ H' s' → (cnL S).st α s'.heap → H' S = none → Q α H' → R (.ok (.ret res)) s') :
    ∀ (n : Nat) (s : Shared), s.heap.IsGen a g → s.heap.NoLimit → (∃ gs, s.gens[g]? = some gs ∧ gs.Goes (model X.prog X.w) A.in1.in1 (GRx X pins σ (cnL S) Q) (GYx X pins σ a g (cnL S) stL) n (.send .none) (s.setGen g .running)) →
      codeAny (model X.prog X.w) A (.builtin "list.extend.loop" ⟨[.ref S, .ref a, res], []⟩) R s := by
  intro n
  induction n using Nat.strongRecOn with
  | ind n ih =>
    intro s hg hl ⟨gs, hgs, hgo⟩
    refine codeAny_builtin F.entry_extend_loop ?_
    rw [Around.under_plainId F.plain_extend_loop _]
    show wpAny _ A.in1 (pyNext (.ref a) >>= _) _ _ s
    refine wpAny_bind (gen_next (A := A.in1) hh hl hd hg hgs hgo stL_mono (fun α y v H' s1 gs' hb hgs1 r I ig st fl sp => ?_) fun α H' s1 I st fl q => wpAny_pure (hend α H' s1 I st (fl S (List.mem_singleton.mpr rfl)) q))
    obtain ⟨hlt, hk⟩ := sp
    obtain ⟨_, acc, c, eS, ra⟩ := st
    have hsz : acc.size = α.length := by
      have e1 := ra.length
      have e2 : acc.toList.length = acc.size := by simp
      omega
    have eS' : (s1.setGen g gs').heap.get? S = some (lstObj acc c) := eS
    show wpAny _ A.in1 (updateSeq S (·.push v) >>= _) _ _ _
    refine wpAny_bind (wpAny_updateSeq eS' rfl (wpAny_pure ⟨plainId_quiet F.plain_extend_loop _, ?_⟩) (by show acc.size ≤ sizeLine; omega) (by show (acc.push v).size ≤ sizeLine + 1; rw [Array.size_push]; omega))
    have keep3 : ∀ b o, b ≠ S → s1.heap.get? b = some o → (s1.heap.update S (Obj.mapSeq (·.push v))).get? b = some o := fun b o hbS e => (Heap.get?_update_other _ _ (Ne.symm hbS)).trans e
    have st' : (cnL S).st (α ++ [y]) (s1.heap.update S (Obj.mapSeq (·.push v))) := ⟨by rw [List.length_append, List.length_singleton]; omega, acc.push v, _, Heap.get?_update_self _ eS rfl, by rw [Array.toList_push]; exact ra.append (.cons r .nil)⟩
    have bareS : AllBare ((s1.setGen g gs').setGen g .running).gens := allBare_setGen (s := s1.setGen g gs') (allBare_setGen I.bare hb) rfl
    obtain ⟨m, rfl, go⟩ := hk ({ (s1.setGen g gs').setGen g .running with heap := s1.heap.update S (Obj.mapSeq (·.push v)) } : Shared) ⟨rfl, bareS, fun b o hb e => keep3 b o (fun z => hb (by rw [z]; exact List.mem_singleton.mpr rfl)) e⟩ st'
    refine ih m (Nat.lt_succ_self _) { s1.setGen g gs' with heap := s1.heap.update S (Obj.mapSeq (·.push v)) } ?_ ?_ ⟨gs', hgs1, go⟩
    · obtain ⟨o, nm, qn, ho, r⟩ := ig
      exact ⟨o, nm, qn, keep3 a o (Ne.symm hSa) ho, r⟩
    · obtain ⟨mc, hns, hnn⟩ := I.nolimit
      exact ⟨mc, hns.at' fun o e => keep3 _ o (Ne.symm hSc) e, hnn⟩
/-- the items of a generator that has not begun, as the protocol collects them -/
theorem collect_gx {A : Around} {k : Nat} {u : Value} {s : Shared} {Qc : List Value → Shared → Prop} {E : Value → Shared → Prop} (hr : Room (k + 3) A) (hfr : A.frames = some X.stack) (h : GMk X pins σ k stL [] Q u s)
    (hQ : ∀ items α H' s', Inv X pins σ H' s' → Vals α items → α.length ≤ sizeLine → Q α H' → Qc items s') : wpAny (model X.prog X.w) A (collect u) Qc E s := by
  obtain ⟨a, g, c, H2, rfl, I, hg, hgs, ha, wake⟩ := h
  have hSI : s.heap.objs.size ≠ a := Nat.ne_of_gt ha
  have hcl : cStatics < s.heap.objs.size := let ⟨_, hn, _⟩ := I.nolimit; hn.lt
  have hSc : s.heap.objs.size ≠ cStatics := Nat.ne_of_gt hcl
  unfold collect
  refine wpAny_bind (wpAny_runValue (codeAny_builtin F.entry_proto_collect ?_))
  rw [Around.under_plainId F.plain_proto_collect _]
  show wpAny _ A.in1 (newList [] >>= fun l => again (.builtin "list.__iadd__" ⟨[l, .ref a], []⟩)) _ _ s
  refine wpAny_bind (wpAny_newObj_type ?_)
  refine wpAny_pure ⟨plainId_quiet F.plain_list_iadd _, codeAny_builtin F.entry_list_iadd ?_⟩
  rw [Around.under_plainId F.plain_list_iadd _]
  have k1 : ∀ b o, s.heap.get? b = some o → (s.heap.push { cls := .type "list", data := .seq ([] : List Value).toArray }).get? b = some o := fun b o e => Heap.get?_push_of_some _ e
  show wpAny _ A.in1 (Builtin.List.listExtendWith (.ref s.heap.objs.size) (.ref a) (.ref s.heap.objs.size)) _ _ _
  unfold Builtin.List.listExtendWith
  have gty : ∀ {h : Heap}, (∀ b o, s.heap.get? b = some o → h.get? b = some o) → h.IsGen a g := fun {h} q => hg.keeps q
  refine wpAny_bind (wpAny_typeOf (Heap.IsGen.typeIs (s := { s with heap := _ }) (gty k1)) ?_)
  have h1 : Builtin.List.listSameRef (.ref s.heap.objs.size) (.ref a) = false := by simp [Builtin.List.listSameRef, hSI]
  have h2 : (Value.type "generator" == Value.type "list") = false := by decide
  have h3 : (Value.type "generator" == Value.type "tuple") = false := by decide
  simp only [h1, h2, h3, Bool.or_false, Bool.false_eq_true, if_false]
  refine wpAny_bind (wpAny_pyIter_gen (s := { s with heap := _ }) (gty k1) ?_)
  refine wpAny_bind (wpAny_holding ?_)
  unfold Builtin.List.listLengthHint
  refine wpAny_bind (wpAny_specialOf (Heap.IsGen.typeIs (s := { s with heap := _ }) (gty k1)) F.gen_no_len ?_)
  show wpAny _ A.in1 (specialOf (Value.ref a) (Str.ofString "__length_hint__") >>= _) _ _ _
  refine wpAny_bind (wpAny_specialOf (Heap.IsGen.typeIs (s := { s with heap := _ }) (gty k1)) F.gen_no_hint ?_)
  refine wpAny_pure ?_
  show wpAny _ A.in1 (rule "list.extend.makes-room" >>= fun _ => Builtin.List.listTouch (.ref s.heap.objs.size) >>= fun _ =>
    again (.builtin "list.extend.loop" ⟨[.ref s.heap.objs.size, .ref a, .ref s.heap.objs.size], []⟩)) _ _ _
  refine wpAny_bind (wpAny_rule ?_)
  have hS₁ : (s.heap.push { cls := .type "list", data := .seq ([] : List Value).toArray }).get? s.heap.objs.size = some { cls := .type "list", data := .seq ([] : List Value).toArray } := Heap.get?_push_size _ rfl
  refine wpAny_bind ?_
  show wpAny _ A.in1 (updateSeq s.heap.objs.size (·.push .none) >>= fun _ => updateSeq s.heap.objs.size (·.pop)) _ _ _
  refine wpAny_bind (wpAny_updateSeq hS₁ rfl ?_)
  have hS₂ := Heap.get?_update_self (Obj.mapSeq (·.push Value.none)) hS₁ rfl
  refine wpAny_updateSeq (hz := by seq_fits) hS₂ rfl ?_
  have hS₃ := Heap.get?_update_self (Obj.mapSeq (·.pop)) hS₂ rfl
  have up : ∀ (h : Heap) (f : Obj → Obj), (∀ b o, s.heap.get? b = some o → h.get? b = some o) → ∀ b o, s.heap.get? b = some o → (h.update s.heap.objs.size f).get? b = some o := fun h f q b o e =>
    (Heap.get?_update_other _ _ (Ne.symm (Nat.ne_of_lt (Heap.lt_size e)))).trans (q b o e)
  have k4 := up _ (Obj.mapSeq (·.pop)) (up _ (Obj.mapSeq (·.push Value.none)) k1)
  refine wpAny_pure ⟨plainId_quiet F.plain_extend_loop _, ?_⟩
  have st6 : (cnL s.heap.objs.size).st [] (((s.heap.push { cls := .type "list", data := .seq ([] : List Value).toArray }).update s.heap.objs.size (Obj.mapSeq (·.push Value.none))).update s.heap.objs.size (Obj.mapSeq (·.pop))) := ⟨Nat.zero_le _, #[], _, hS₃, .nil⟩
  obtain ⟨n, sg⟩ := wake A.in1.in1 (cnL s.heap.objs.size) ({ s.setGen g .running with heap := ((s.heap.push { cls := .type "list", data := .seq ([] : List Value).toArray }).update s.heap.objs.size (Obj.mapSeq (·.push Value.none))).update s.heap.objs.size (Obj.mapSeq (·.pop)) } : Shared) hr.in1.in1 hfr
    (fun b hb => by rw [List.mem_singleton.mp hb]; exact Nat.le_refl _) st6 k4 rfl (allBare_setGen I.bare rfl)
  refine gdrain (A := A) hr.hd (by have := hr.dp; omega) hSI hSc (fun α H' s' I' st' hn' q' => ?_) n _ (gty k4) (I.nolimit.keeps k4) ⟨_, hgs, rfl, sg⟩
  obtain ⟨hl, acc, c', e', r'⟩ := st'
  show wpAny _ A (load s.heap.objs.size >>= _) _ _ s'
  refine wpAny_bind (wpAny_load e' ?_)
  exact wpAny_pure (hQ acc.toList α H' s' I' r' hl q')
end
end Mini

/-! Gx4 -/
set_option autoImplicit false
set_option Elab.async false
set_option linter.all false
set_option maxRecDepth 100000
set_option maxHeartbeats 2000000
namespace Mini
open PySem PySem.Spec PySem.Calls PyProof.Rows L2 GenW

section
variable {X : Cx} {pins : List (Addr × Obj)} {σ : L2.St} {Q : List V → Hp → Prop}
theorem code_tuple_gx {A : Around} {k : Nat} {u : Value} {s : Shared} {Q₁ : Value → Shared → Prop} {E : Value → Shared → Prop} (hr : Room (k + 4) A) (hfr : A.frames = some X.stack) (h : GMk X pins σ k stL [] Q u s)
    (hQ : ∀ items α H' s', Inv X pins σ H' s' → Vals α items → α.length ≤ sizeLine → Q α H' → Q₁ (.ref s'.heap.objs.size) { s' with heap := s'.heap.push { cls := .type "tuple", data := .seq items.toArray } }) :
    codeAny (model X.prog X.w) A (.call (.builtin "tuple.__new__") ⟨[.type "tuple", u], []⟩) (wants Q₁ E) s := by
  have h0 := h
  obtain ⟨a, g, c, H2, rfl, I, hg, _⟩ := h
  refine codeAny_of_tree ?_
  show wpAny _ A.in1 (do checkBuiltinCall "tuple.__new__" ⟨[.type "tuple", .ref a], []⟩; again (.builtin "tuple.__new__" ⟨[.type "tuple", .ref a], []⟩)) _ _ s
  refine wpAny_bind (wpAny_of_eq (F.newCall_tuple_1 _) (wpAny_pure ⟨plainId_quiet F.plain_tuple_new _, codeAny_builtin F.entry_tuple_new ?_⟩))
  rw [Around.under_plainId F.plain_tuple_new _]
  have hsub := sub_tuple_self
  have hinit := init_tuple_lookup
  have hmh := madeHere_tuple
  have hTI : s.TypeIs (.ref a) "generator" := hg.typeIs
  wp_walk using wpAny_typeOf hTI, collect_gx (A := A.in1) (k := k) (hr.in1) hfr h0
  intro items α H' s' I' r' hl q'
  show wpAny _ _ (Builtin.Tuple.tupleExact items.toArray >>= fun v => ret v) _ _ _
  unfold Builtin.Tuple.tupleExact
  have hz : items.toArray.size ≤ sizeLine := by rw [List.size_toArray, ← r'.length]; exact hl
  refine wpAny_bind (wpAny_newObj_type ?_ hz)
  exact wpAny_pure (hQ items α H' s' I' r' hl q')
end
end Mini

/-! Gx5 -/
set_option autoImplicit false
set_option Elab.async false
set_option linter.all false
set_option maxRecDepth 100000
set_option maxHeartbeats 2000000
namespace Mini
open PySem PySem.Spec PySem.Calls PyProof.Rows L2 GenW

section
variable {Tb : List (Addr × TabNm)} {C : Cl} {F F2 : Fam} {W : WW}
/-- the walk of a generator whose items are all taken -/
theorem gen_walkL {tg it elt : Expr} {t : T} {s : Src} {is : Es} {ic ie : E} {vs : List Nat} {wi : TI} {g : TG} {tt : TT} {te : TE}
    (si : ∀ (L : Lk) (σ : L2.St) (H : Hp) (env : Env) (h : Hh) (ρ : List Addr) (R : It → Hp → Prop), Now (tabSide Tb) F.K ρ h H → EnvR F.K ρ H env σ → (∀ ps h', evEs C L is env h = .ok ps h' → srcItems s ps h' ≠ none) → WantI (tabSide Tb) F.K ρ H (fun c H' => W c σ H') s R (evEs C L is env h) → wi σ H R)
    (sg : ∀ (p : PV) (v : V) (σ : L2.St) (H : Hp) (env env' : Env) (ρ : List Addr) (Q : L2.St → Hp → Prop), EnvR F.K ρ H env σ → Rep F.K ρ H p v → asgT t p env = some env' → (∀ σ', EnvR F.K ρ H env' σ' → Off t.slots σ σ' → Q σ' H) → g v σ H Q)
    (st : ∀ (L : Lk) (σ : L2.St) (H : Hp) (env : Env) (h : Hh) (ρ : List Addr) (Q : Bool → Hp → Prop), Now (tabSide Tb) F.K ρ h H → EnvR F.K ρ H env σ → WantE (tabSide Tb) F.K ρ H (fun _ _ => False) (fun v H' => ∃ k, v = .bl k ∧ Q k H') (evE C L ic env h) → tt σ H Q)
    (se : ∀ (L : Lk) (σ : L2.St) (H : Hp) (env : Env) (h : Hh) (ρ : List Addr) (Q : VK), Now (tabSide Tb) F.K ρ h H → EnvR F.K ρ H env σ → WantE (tabSide Tb) F.K ρ H (fun _ _ => False) Q (evE C L ie env h) → te σ H Q)
    (hsl : ∀ i ∈ t.slots, i ∈ vs) (frc : ∀ (L : Lk) (env : Env) (h : Hh), FrR L h (evE C L ic env h)) (fre : ∀ (L : Lk) (env : Env) (h : Hh), FrR L h (evE C L ie env h))
    (L : Lk) (σ : L2.St) (H : Hp) (env : Env) (h : Hh) (ρ : List Addr) (Q : List V → Hp → Prop) (n : Now (tabSide Tb) F.K ρ h H) (er : EnvR F.K ρ H env σ)
    (w : match evEs C L is env h with
      | .ok ps h' => (match srcItems s ps h' with
        | some xs => (match compL t (evE C { L with locked := refsOf ps ++ L.locked } ic) (evE C { L with locked := refsOf ps ++ L.locked } ie) (wipeE env vs) xs h' with
          | .ok ys h' => ys.length ≤ lim ∧ ∀ H' ρ' acc, Nxt (tabSide Tb) F.K ρ H ρ' h' H' → Reps F.K ρ' H' ys acc → Q acc H'
          | _ => False)
        | none => False)
      | .exc c h' => ∀ H' ρ', Nxt (tabSide Tb) F.K ρ H ρ' h' H' → W c σ H'
      | .bad => False) : tGn Tb wi g tt te vs stL [] Q σ H := by
  cases ea : evEs C L is env h with
  | bad => rw [ea] at w; exact w.elim
  | exc c h1 =>
    rw [ea] at w
    exact si L σ H env h ρ _ n er (fun ps h' e => by rw [ea] at e; cases e) (by rw [ea]; exact w)
  | ok ps h1 =>
    rw [ea] at w
    dsimp only at w
    cases ex : srcItems s ps h1 with
    | none => rw [ex] at w; exact w.elim
    | some xs =>
    rw [ex] at w
    dsimp only at w
    refine si L σ H env h ρ _ n er (fun ps' h' e => by rw [ea] at e; cases e; rw [ex]; nofun) ?_
    rw [ea]
    intro xs' e' H1 ρ1 J n1 itk hlt
    rw [ex] at e'
    cases e'
    generalize hL : ({ L with locked := refsOf ps ++ L.locked } : Lk) = L' at w
    have lk : ∀ r ∈ refsOf ps, r ∈ L'.locked := fun r hr => by rw [← hL]; exact List.mem_append_left _ hr
    refine ⟨n1.side, fun Hs exs tsd => ?_⟩
    have er1 : EnvR F.K ρ1 H1 (wipeE env vs) (wipe σ vs) := (er.mono n1.grow n1.pre).wipe vs
    -- what is wanted of the rest
    have key : ∃ Wn : List PV → Hh → List PV → Prop, Wn [] h1 xs ∧ (∀ done h rest, Wn done h rest → (match compL t (evE C L' ic) (evE C L' ie) (wipeE env vs) rest h with
          | .ok ys h' => (done ++ ys).length ≤ lim ∧ ∀ H' ρ' acc, Nxt (tabSide Tb) F.K ρ H ρ' h' H' → Reps F.K ρ' H' (done ++ ys) acc → Q acc H'
          | _ => False)) ∧ ∀ done h rest, (match compL t (evE C L' ic) (evE C L' ie) (wipeE env vs) rest h with
          | .ok ys h' => (done ++ ys).length ≤ lim ∧ ∀ H' ρ' acc, Nxt (tabSide Tb) F.K ρ H ρ' h' H' → Reps F.K ρ' H' (done ++ ys) acc → Q acc H'
          | _ => False) → Wn done h rest := ⟨_, by simpa using w, fun _ _ _ q => q, fun _ _ _ q => q⟩
    obtain ⟨Wn, k0, kout, kin⟩ := key
    refine ⟨fun acc i m H2 => i + m = xs.length ∧ ∃ h ρ2 done, Nxt (tabSide Tb) F.K ρ1 H1 ρ2 h H2 ∧ (∀ r ∈ refsOf ps, h[r]? = h1[r]?) ∧ h1.length ≤ h.length ∧ Reps F.K ρ2 H2 done acc ∧ Wn done h (xs.drop i), ?_, ?_⟩
    · exact ⟨xs.length, by omega, h1, ρ1, [], ext_nxt n1.now exs tsd, fun _ _ => rfl, Nat.le_refl _, .nil, by rw [List.drop_zero]; exact k0⟩
    · rintro acc i m H2 ⟨him, h, ρ2, done, n2, hl, hlen, rd, wn⟩
      obtain ⟨k1, k2⟩ := itk ρ2 h H2 n2 hl i
      have w2 := kout _ _ _ wn
      by_cases hi : i < xs.length
      · obtain ⟨go, yl⟩ := k1 hi
        refine .inr ⟨go, fun acc H' => ∃ m', m' < m ∧ (i + 1 + m' = xs.length ∧ ∃ h ρ2 done, Nxt (tabSide Tb) F.K ρ1 H1 ρ2 h H' ∧ (∀ r ∈ refsOf ps, h[r]? = h1[r]?) ∧ h1.length ≤ h.length ∧ Reps F.K ρ2 H' done acc ∧ Wn done h (xs.drop (i + 1))), fun acc H' q => q, fun x H' hy => ?_⟩
        obtain ⟨p, hp, n3, rp⟩ := yl x H' hy
        rw [List.drop_eq_getElem_cons hi] at w2
        have ep : xs[i] = p := by rw [List.getElem?_eq_getElem hi] at hp; exact Option.some.inj hp
        rw [ep] at w2
        unfold compL at w2
        cases eb : asgT t p (wipeE env vs) with
        | none => rw [eb] at w2; exact w2.elim
        | some env3 =>
          rw [eb] at w2
          dsimp only at w2
          have n13 := n2.trans n3
          refine sg p x (wipe σ vs) H' _ env3 ρ2 _ (er1.mono n13.grow n13.pre) rp eb fun σ3 er3 off => ?_
          refine ⟨(off vs hsl).trans wipe_twice, ?_⟩
          refine st L' σ3 H' env3 h ρ2 _ n3.now er3 ?_
          have fr := frc L' env3 h
          cases ec : evE C L' ic env3 h with
          | bad => rw [ec] at w2; exact w2
          | exc c h4 => rw [ec] at w2; exact w2.elim
          | ok q h4 =>
            rw [ec] at w2 fr
            cases q <;> first
              | exact w2.elim
              | (rename_i k
                 intro v H4 ρ4 n4 r4
                 cases r4
                 refine ⟨k, rfl, ?_⟩
                 have n14 := n13.trans n4
                 have rd4 := rd.mono (n3.trans n4).grow (n3.trans n4).pre
                 have hl4 : ∀ r ∈ refsOf ps, h4[r]? = h1[r]? := fun r hr => by rw [fr.2 r (Nat.lt_of_lt_of_le (hlt r hr) hlen) (.inl (lk r hr)), hl r hr]
                 cases k with
                 | false =>
                   rw [if_neg Bool.false_ne_true]
                   exact ⟨m - 1, by omega, by omega, h4, ρ4, done, n14, hl4, Nat.le_trans hlen fr.1, rd4, kin _ _ _ w2⟩
                 | true =>
                   rw [if_pos rfl]
                   dsimp only at w2
                   refine se L' σ3 H4 env3 h4 ρ4 _ n4.now (er3.mono n4.grow n4.pre) ?_
                   have fr5 := fre L' env3 h4
                   cases ed : evE C L' ie env3 h4 with
                   | bad => rw [ed] at w2; exact w2
                   | exc c h5 => rw [ed] at w2; exact w2.elim
                   | ok y h5 =>
                     rw [ed] at w2 fr5
                     dsimp only at w2
                     intro v5 H5 ρ5 n5 r5
                     have n15 := n14.trans n5
                     have rd5 := rd4.mono n5.grow n5.pre
                     -- the rest of the list
                     cases er5 : compL t (evE C L' ic) (evE C L' ie) (wipeE env vs) (xs.drop (i + 1)) h5 with
                     | bad => rw [er5] at w2; exact w2.elim
                     | exc c h6 => rw [er5] at w2; exact w2.elim
                     | ok ys h6 =>
                       rw [er5] at w2
                       dsimp only at w2
                       have w5 := w2.1
                       have lm := lim_size
                       rw [List.length_append, List.length_cons] at w5
                       have ld := rd5.length
                       refine ⟨by omega, m - 1, by omega, by omega, h5, ρ5, done ++ [y], n15, fun r hr => ?_, Nat.le_trans hlen (Nat.le_trans fr.1 fr5.1), rd5.append (.cons r5 .nil), kin _ _ _ ?_⟩
                       · rw [fr5.2 r (Nat.lt_of_lt_of_le (hlt r hr) (Nat.le_trans hlen fr.1)) (.inl (lk r hr)), hl4 r hr]
                       · rw [er5]
                         dsimp only
                         rw [List.append_assoc]
                         exact w2)
      · have hi' : i = xs.length := by omega
        subst hi'
        refine .inl ⟨k2 rfl, ?_⟩
        rw [List.drop_length] at w2
        unfold compL at w2
        dsimp only at w2
        rw [List.append_nil] at w2
        exact w2.2 H2 ρ2 acc (n1.trans n2) rd
end
end Mini

/-! Gx6 -/
set_option autoImplicit false
set_option Elab.async false
set_option linter.all false
set_option maxRecDepth 100000
set_option maxHeartbeats 2000000
namespace Mini
open PySem PySem.Spec PySem.Calls PyProof.Rows L2 GenW

def cn0 : Csm Unit where
  L := []
  st := fun _ _ => True
  obj := fun _ _ _ b hb => by simp at hb
  keep := fun _ _ _ _ _ => trivial
def stB (stop : Bool) (Qf : Hp → Prop) : Stp Unit := fun _ y H N => ∃ b, y = .bl b ∧ if b = stop then Qf H else N ()
theorem stB_mono {stop : Bool} {Qf : Hp → Prop} : ∀ α y H (N N' : Unit → Prop), (∀ α', N α' → N' α') → stB stop Qf α y H N → stB stop Qf α y H N' := fun α y H N N' k ⟨b, h1, h2⟩ => ⟨b, h1, by
  split
  · rename_i z; rw [if_pos z] at h2; exact h2
  · rename_i z; rw [if_neg z] at h2; exact k _ h2⟩
section
variable {X : Cx} {pins : List (Addr × Obj)} {σ : L2.St} {a : Addr} {g : Nat} {Q : Unit → Hp → Prop} {Qf : Hp → Prop}
theorem gany {A : Around} {R : Result → Shared → Prop} (hh : A.handled = none) (hd : A.depth < recursionLimit)
    (hend : ∀ b H' s', Inv X pins σ H' s' → (if b = true then Qf H' else Q () H') → R (.ok (.ret (.bool b))) s') :
    ∀ (n : Nat) (s : Shared), s.heap.IsGen a g → s.heap.NoLimit → (∃ gs, s.gens[g]? = some gs ∧ gs.Goes (model X.prog X.w) A.in1.in1 (GRx X pins σ cn0 Q) (GYx X pins σ a g cn0 (stB true Qf)) n (.send .none) (s.setGen g .running)) →
      codeAny (model X.prog X.w) A (.builtin "any.loop" ⟨[.ref a], []⟩) R s := by
  intro n
  induction n using Nat.strongRecOn with
  | ind n ih =>
    intro s hg hl ⟨gs, hgs, hgo⟩
    refine codeAny_builtin F.entry_any_loop ?_
    rw [Around.under_plainId F.plain_any_loop _]
    show wpAny _ A.in1 (pyNext (.ref a) >>= _) _ _ s
    refine wpAny_bind (gen_next (A := A.in1) hh hl hd hg hgs hgo stB_mono (fun α y v H' s1 gs' hb hgs1 r I ig st fl sp => ?_) fun α H' s1 I st fl q => wpAny_bind (wpAny_rule (wpAny_pure (hend false H' s1 I q))))
    obtain ⟨b, rfl, hk⟩ := sp
    have r : v = .bool b := r
    subst r
    refine wpAny_bind (wpAny_holding (wpAny_truthy_bool ?_))
    refine wpAny_bind (wpAny_letGo ?_)
    have I1 : Inv X pins σ H' (s1.setGen g gs') := inv_with I rfl (fun _ _ e => e) (allBare_setGen I.bare hb)
    cases b with
    | true =>
      rw [if_pos rfl] at hk
      simp only [if_true]
      exact wpAny_bind (wpAny_rule (wpAny_pure (hend true H' _ I1 hk)))
    | false =>
      rw [if_neg Bool.false_ne_true] at hk
      simp only [Bool.false_eq_true, if_false]
      have bareS : AllBare ((s1.setGen g gs').setGen g .running).gens := allBare_setGen (s := s1.setGen g gs') (allBare_setGen I.bare hb) rfl
      obtain ⟨m, rfl, go⟩ := hk ((s1.setGen g gs').setGen g .running) ⟨rfl, bareS, fun _ _ _ e => e⟩ trivial
      exact wpAny_pure ⟨plainId_quiet F.plain_any_loop _, ih m (Nat.lt_succ_self _) (s1.setGen g gs') ig I.nolimit ⟨gs', hgs1, go⟩⟩
theorem gall {A : Around} {R : Result → Shared → Prop} (hh : A.handled = none) (hd : A.depth < recursionLimit)
    (hend : ∀ b H' s', Inv X pins σ H' s' → (if b = false then Qf H' else Q () H') → R (.ok (.ret (.bool b))) s') :
    ∀ (n : Nat) (s : Shared), s.heap.IsGen a g → s.heap.NoLimit → (∃ gs, s.gens[g]? = some gs ∧ gs.Goes (model X.prog X.w) A.in1.in1 (GRx X pins σ cn0 Q) (GYx X pins σ a g cn0 (stB false Qf)) n (.send .none) (s.setGen g .running)) →
      codeAny (model X.prog X.w) A (.builtin "all.loop" ⟨[.ref a], []⟩) R s := by
  intro n
  induction n using Nat.strongRecOn with
  | ind n ih =>
    intro s hg hl ⟨gs, hgs, hgo⟩
    refine codeAny_builtin F.entry_all_loop ?_
    rw [Around.under_plainId F.plain_all_loop _]
    show wpAny _ A.in1 (pyNext (.ref a) >>= _) _ _ s
    refine wpAny_bind (gen_next (A := A.in1) hh hl hd hg hgs hgo stB_mono (fun α y v H' s1 gs' hb hgs1 r I ig st fl sp => ?_) fun α H' s1 I st fl q => wpAny_bind (wpAny_rule (wpAny_pure (hend true H' s1 I q))))
    obtain ⟨b, rfl, hk⟩ := sp
    have r : v = .bool b := r
    subst r
    refine wpAny_bind (wpAny_holding (wpAny_truthy_bool ?_))
    refine wpAny_bind (wpAny_letGo ?_)
    have I1 : Inv X pins σ H' (s1.setGen g gs') := inv_with I rfl (fun _ _ e => e) (allBare_setGen I.bare hb)
    cases b with
    | false =>
      rw [if_pos rfl] at hk
      simp only [Bool.false_eq_true, if_false]
      exact wpAny_bind (wpAny_rule (wpAny_pure (hend false H' _ I1 hk)))
    | true =>
      rw [if_neg (by decide)] at hk
      simp only [if_true]
      have bareS : AllBare ((s1.setGen g gs').setGen g .running).gens := allBare_setGen (s := s1.setGen g gs') (allBare_setGen I.bare hb) rfl
      obtain ⟨m, rfl, go⟩ := hk ((s1.setGen g gs').setGen g .running) ⟨rfl, bareS, fun _ _ _ e => e⟩ trivial
      exact wpAny_pure ⟨plainId_quiet F.plain_all_loop _, ih m (Nat.lt_succ_self _) (s1.setGen g gs') ig I.nolimit ⟨gs', hgs1, go⟩⟩
/-- any(g) -/
theorem call_any_gx {A : Around} {k : Nat} {u : Value} {s : Shared} {Q' : Value → Shared → Prop} {E : Value → Shared → Prop} (hr : Room (k + 4) A) (hfr : A.frames = some X.stack) (h : GMk X pins σ k (stB true Qf) () Q u s)
    (hQ : ∀ b H' s', Inv X pins σ H' s' → (if b = true then Qf H' else Q () H') → Q' (.bool b) s') : wpAny (model X.prog X.w) A (call (.builtin "any") [u]) Q' E s := by
  obtain ⟨a, g, c, H2, rfl, I, hg, hgs, ha, wake⟩ := h
  refine call_function_tree F.kind_any F.plain_any F.entry_any (F.args_any1 _) ?_
  unfold Builtin.«any»
  refine wpAny_bind (m := oneArg "any" _) (wpAny_pure ?_)
  refine wpAny_bind (wpAny_pyIter_gen hg ?_)
  obtain ⟨n, sg⟩ := wake A.in1.in1 cn0 (s.setGen g .running) (hr.in1.in1.mono (by omega)) hfr (fun b hb => by simp [cn0] at hb) trivial (fun _ _ e => e) rfl (allBare_setGen I.bare rfl)
  exact wpAny_pure ⟨plainId_quiet F.plain_any_loop _, gany (A := A) hr.hd (by have := hr.dp; omega) (fun b H' s' I' q => hQ b H' s' I' q) n s hg I.nolimit ⟨_, hgs, rfl, sg⟩⟩
/-- all(g) -/
theorem call_all_gx {A : Around} {k : Nat} {u : Value} {s : Shared} {Q' : Value → Shared → Prop} {E : Value → Shared → Prop} (hr : Room (k + 4) A) (hfr : A.frames = some X.stack) (h : GMk X pins σ k (stB false Qf) () Q u s)
    (hQ : ∀ b H' s', Inv X pins σ H' s' → (if b = false then Qf H' else Q () H') → Q' (.bool b) s') : wpAny (model X.prog X.w) A (call (.builtin "all") [u]) Q' E s := by
  obtain ⟨a, g, c, H2, rfl, I, hg, hgs, ha, wake⟩ := h
  refine call_function_tree F.kind_all F.plain_all F.entry_all (F.args_all1 _) ?_
  unfold Builtin.«all»
  refine wpAny_bind (m := oneArg "all" _) (wpAny_pure ?_)
  refine wpAny_bind (wpAny_pyIter_gen hg ?_)
  obtain ⟨n, sg⟩ := wake A.in1.in1 cn0 (s.setGen g .running) (hr.in1.in1.mono (by omega)) hfr (fun b hb => by simp [cn0] at hb) trivial (fun _ _ e => e) rfl (allBare_setGen I.bare rfl)
  exact wpAny_pure ⟨plainId_quiet F.plain_all_loop _, gall (A := A) hr.hd (by have := hr.dp; omega) (fun b H' s' I' q => hQ b H' s' I' q) n s hg I.nolimit ⟨_, hgs, rfl, sg⟩⟩
end
end Mini

/-! Gx5b -/
set_option autoImplicit false
set_option Elab.async false
set_option linter.all false
set_option maxRecDepth 100000
set_option maxHeartbeats 2000000
namespace Mini
open PySem PySem.Spec PySem.Calls PyProof.Rows L2 GenW

section
variable {Tb : List (Addr × TabNm)} {C : Cl} {F F2 : Fam} {W : WW}
/-- the walk of a generator whose items are taken up to the answer -/
theorem gen_walkB {tg it elt : Expr} {t : T} {s : Src} {is : Es} {ic ie : E} {vs : List Nat} {wi : TI} {g : TG} {tt : TT} {te : TE}
    (si : ∀ (L : Lk) (σ : L2.St) (H : Hp) (env : Env) (h : Hh) (ρ : List Addr) (R : It → Hp → Prop), Now (tabSide Tb) F.K ρ h H → EnvR F.K ρ H env σ → (∀ ps h', evEs C L is env h = .ok ps h' → srcItems s ps h' ≠ none) → WantI (tabSide Tb) F.K ρ H (fun c H' => W c σ H') s R (evEs C L is env h) → wi σ H R)
    (sg : ∀ (p : PV) (v : V) (σ : L2.St) (H : Hp) (env env' : Env) (ρ : List Addr) (Q : L2.St → Hp → Prop), EnvR F.K ρ H env σ → Rep F.K ρ H p v → asgT t p env = some env' → (∀ σ', EnvR F.K ρ H env' σ' → Off t.slots σ σ' → Q σ' H) → g v σ H Q)
    (st : ∀ (L : Lk) (σ : L2.St) (H : Hp) (env : Env) (h : Hh) (ρ : List Addr) (Q : Bool → Hp → Prop), Now (tabSide Tb) F.K ρ h H → EnvR F.K ρ H env σ → WantE (tabSide Tb) F.K ρ H (fun _ _ => False) (fun v H' => ∃ k, v = .bl k ∧ Q k H') (evE C L ic env h) → tt σ H Q)
    (se : ∀ (L : Lk) (σ : L2.St) (H : Hp) (env : Env) (h : Hh) (ρ : List Addr) (Q : VK), Now (tabSide Tb) F.K ρ h H → EnvR F.K ρ H env σ → WantE (tabSide Tb) F.K ρ H (fun _ _ => False) Q (evE C L ie env h) → te σ H Q)
    (hsl : ∀ i ∈ t.slots, i ∈ vs) (frc : ∀ (L : Lk) (env : Env) (h : Hh), FrR L h (evE C L ic env h)) (fre : ∀ (L : Lk) (env : Env) (h : Hh), FrR L h (evE C L ie env h))
    (stop : Bool) (Xp : Nat → Hp → Prop) (L : Lk) (σ : L2.St) (H : Hp) (env : Env) (h : Hh) (ρ : List Addr) (Q : VK) (n : Now (tabSide Tb) F.K ρ h H) (er : EnvR F.K ρ H env σ)
    (w : match evEs C L is env h with
      | .ok ps h' => (match srcItems s ps h' with
        | some xs => WantE (tabSide Tb) F.K ρ H Xp Q (anyL stop t (evE C { L with locked := refsOf ps ++ L.locked } ic) (evE C { L with locked := refsOf ps ++ L.locked } ie) (wipeE env vs) xs h')
        | none => False)
      | .exc c h' => ∀ H' ρ', Nxt (tabSide Tb) F.K ρ H ρ' h' H' → W c σ H'
      | .bad => False) : tGn Tb wi g tt te vs (stB stop (Q (.bl stop))) () (fun _ => Q (.bl (!stop))) σ H := by
  cases ea : evEs C L is env h with
  | bad => rw [ea] at w; exact w.elim
  | exc c h1 =>
    rw [ea] at w
    exact si L σ H env h ρ _ n er (fun ps h' e => by rw [ea] at e; cases e) (by rw [ea]; exact w)
  | ok ps h1 =>
    rw [ea] at w
    dsimp only at w
    cases ex : srcItems s ps h1 with
    | none => rw [ex] at w; exact w.elim
    | some xs =>
    rw [ex] at w
    dsimp only at w
    refine si L σ H env h ρ _ n er (fun ps' h' e => by rw [ea] at e; cases e; rw [ex]; nofun) ?_
    rw [ea]
    intro xs' e' H1 ρ1 J n1 itk hlt
    rw [ex] at e'
    cases e'
    generalize hL : ({ L with locked := refsOf ps ++ L.locked } : Lk) = L' at w
    have lk : ∀ r ∈ refsOf ps, r ∈ L'.locked := fun r hr => by rw [← hL]; exact List.mem_append_left _ hr
    refine ⟨n1.side, fun Hs exs tsd => ?_⟩
    have er1 : EnvR F.K ρ1 H1 (wipeE env vs) (wipe σ vs) := (er.mono n1.grow n1.pre).wipe vs
    -- what is wanted of the rest
    have key : ∃ Wn : Hh → List PV → Prop, Wn h1 xs ∧ (∀ h rest, Wn h rest → WantE (tabSide Tb) F.K ρ H Xp Q (anyL stop t (evE C L' ic) (evE C L' ie) (wipeE env vs) rest h)) ∧
        ∀ h rest, WantE (tabSide Tb) F.K ρ H Xp Q (anyL stop t (evE C L' ic) (evE C L' ie) (wipeE env vs) rest h) → Wn h rest := ⟨_, w, fun _ _ q => q, fun _ _ q => q⟩
    obtain ⟨Wn, k0, kout, kin⟩ := key
    refine ⟨fun _ i m H2 => i + m = xs.length ∧ ∃ h ρ2, Nxt (tabSide Tb) F.K ρ1 H1 ρ2 h H2 ∧ (∀ r ∈ refsOf ps, h[r]? = h1[r]?) ∧ h1.length ≤ h.length ∧ Wn h (xs.drop i), ?_, ?_⟩
    · exact ⟨xs.length, by omega, h1, ρ1, ext_nxt n1.now exs tsd, fun _ _ => rfl, Nat.le_refl _, by rw [List.drop_zero]; exact k0⟩
    · rintro _ i m H2 ⟨him, h, ρ2, n2, hl, hlen, wn⟩
      obtain ⟨k1, k2⟩ := itk ρ2 h H2 n2 hl i
      have w2 := kout _ _ wn
      by_cases hi : i < xs.length
      · obtain ⟨go, yl⟩ := k1 hi
        refine .inr ⟨go, fun _ H' => ∃ m', m' < m ∧ (i + 1 + m' = xs.length ∧ ∃ h ρ2, Nxt (tabSide Tb) F.K ρ1 H1 ρ2 h H' ∧ (∀ r ∈ refsOf ps, h[r]? = h1[r]?) ∧ h1.length ≤ h.length ∧ Wn h (xs.drop (i + 1))), fun _ H' q => q, fun x H' hy => ?_⟩
        obtain ⟨p, hp, n3, rp⟩ := yl x H' hy
        rw [List.drop_eq_getElem_cons hi] at w2
        have ep : xs[i] = p := by rw [List.getElem?_eq_getElem hi] at hp; exact Option.some.inj hp
        rw [ep] at w2
        unfold anyL at w2
        cases eb : asgT t p (wipeE env vs) with
        | none => rw [eb] at w2; exact w2.elim
        | some env3 =>
          rw [eb] at w2
          dsimp only at w2
          have n13 := n2.trans n3
          refine sg p x (wipe σ vs) H' _ env3 ρ2 _ (er1.mono n13.grow n13.pre) rp eb fun σ3 er3 off => ?_
          refine ⟨(off vs hsl).trans wipe_twice, ?_⟩
          refine st L' σ3 H' env3 h ρ2 _ n3.now er3 ?_
          have fr := frc L' env3 h
          cases ec : evE C L' ic env3 h with
          | bad => rw [ec] at w2; exact w2
          | exc c h4 => rw [ec] at w2; exact w2.elim
          | ok q h4 =>
            rw [ec] at w2 fr
            cases q <;> first
              | exact w2.elim
              | (rename_i k
                 intro v H4 ρ4 n4 r4
                 cases r4
                 refine ⟨k, rfl, ?_⟩
                 have n14 := n13.trans n4
                 have hl4 : ∀ r ∈ refsOf ps, h4[r]? = h1[r]? := fun r hr => by rw [fr.2 r (Nat.lt_of_lt_of_le (hlt r hr) hlen) (.inl (lk r hr)), hl r hr]
                 cases k with
                 | false =>
                   rw [if_neg Bool.false_ne_true]
                   exact ⟨m - 1, by omega, by omega, h4, ρ4, n14, hl4, Nat.le_trans hlen fr.1, kin _ _ w2⟩
                 | true =>
                   rw [if_pos rfl]
                   dsimp only at w2
                   refine se L' σ3 H4 env3 h4 ρ4 _ n4.now (er3.mono n4.grow n4.pre) ?_
                   have fr5 := fre L' env3 h4
                   cases ed : evE C L' ie env3 h4 with
                   | bad => rw [ed] at w2; exact w2
                   | exc c h5 => rw [ed] at w2; exact w2.elim
                   | ok y h5 =>
                     rw [ed] at w2 fr5
                     skip
                     cases y <;> first
                       | exact w2.elim
                       | (rename_i kk
                          intro v5 H5 ρ5 n5 r5
                          cases r5
                          have n15 := n14.trans n5
                          refine ⟨kk, rfl, ?_⟩
                          dsimp only at w2
                          by_cases hst : kk = stop
                          · rw [if_pos hst] at w2 ⊢
                            exact w2 (.bl stop) H5 ρ5 (n1.trans n15) (.bl stop)
                          · rw [if_neg hst] at w2 ⊢
                            refine ⟨m - 1, by omega, by omega, h5, ρ5, n15, fun r hr => ?_, Nat.le_trans hlen (Nat.le_trans fr.1 fr5.1), kin _ _ w2⟩
                            rw [fr5.2 r (Nat.lt_of_lt_of_le (hlt r hr) (Nat.le_trans hlen fr.1)) (.inl (lk r hr)), hl4 r hr]))
      · have hi' : i = xs.length := by omega
        subst hi'
        refine .inl ⟨k2 rfl, ?_⟩
        rw [List.drop_length] at w2
        unfold anyL at w2
        exact w2 (.bl (!stop)) H2 ρ2 (n1.trans n2) (.bl _)
end
end Mini

/-! Gx7 -/
set_option autoImplicit false
set_option Elab.async false
set_option linter.all false
set_option maxRecDepth 100000
set_option maxHeartbeats 2000000
namespace Mini
open PySem PySem.Spec PySem.Calls PyProof.Rows L2 GenW

/-- what a generator expression asks of the context that it stands in -/
structure GenOk (Tb : List (Addr × TabNm)) (X : Cx) (k : Nat) (scope : Scope) (own : List (Str × Nat)) (gpos : Pos) : Prop where
  rm : Room k X.A
  calm : X.calm = true
  nd : X.N.Nodup
  tab : ∃ (c P : Addr) (nm : TabNm), LamX.TabB X.base X.mg c P ∧ X.env.code = .ref c ∧ (P, nm) ∈ Tb ∧ (∀ p ∈ Tb, p.1 = P → p.2 = nm) ∧ nm gpos.line gpos.col = none
  blk : BlkOk X.N X.env.scope scope own
  cell : ∀ y ∈ scope.names, y.2 ≠ .cell
  co : scope.isCoroutine = false
  dot : scope.names.lookup (".0" : Str) = some NameKind.local
section
variable {Tb : List (Addr × TabNm)} {X : Cx} {elt tg iter : Expr} {ifs : List Expr} {scope : Scope} {own : List (Str × Nat)} {gpos p pos : Pos} {wi : TI} {wg : TG} {tt : TT} {te : TE} {k : Nat}
theorem run_gen {τ : Type} {Step : Stp τ} {α0 : τ} {Q : τ → Hp → Prop} {pins : List (Addr × Obj)} {σ : L2.St} {H : Hp} {s : Shared} (G : GenOk Tb X k scope own gpos) (hmono : ∀ α y H (N N' : τ → Prop), (∀ α', N α' → N' α') → Step α y H N → Step α y H N') (hi : PI X tg iter wi) (hs : ∀ x, genFold iter X.env x = pure x)
    (hb : ∀ (A : Around) (s : Shared) (H : Hp) (C : Addr) (code : Value) (fp : List Addr) (pn : List (Addr × Obj)), A.frames = some X.stack → Room (k - 5 + 1) A → PG (gCx X (A.deeper (gEnv X scope C code)) s H scope C code fp pn) tg wg ∧ PTs (gCx X (A.deeper (gEnv X scope C code)) s H scope C code fp pn) ifs tt ∧ PE (gCx X (A.deeper (gEnv X scope C code)) s H scope C code fp pn) elt te)
    (I : Inv X pins σ H s) (h : tGn Tb wi wg tt te (own.map (·.2)) Step α0 Q σ H) : wpAny (model X.prog X.w) X.A (eval (.GeneratorExp elt [⟨tg, iter, ifs, 0⟩] scope gpos) X.env) (GMk X pins σ (k - 5) Step α0 Q) X.xe s := by
  obtain ⟨c, P, nm, t1, t2, t3, t4, t5⟩ := G.tab
  exact gen_make hmono (G.rm.mono (by omega)) G.calm G.nd t1 t2 t3 t4 t5 G.blk G.cell G.co G.dot hi hs hb I h
/-- tuple(e for ..) -/
theorem pe_tupG (G : GenOk Tb X k scope own gpos) (h5 : 5 ≤ k) (hg : Gl X "tuple") (hm : X.mg "tuple" = none) (hi : PI X tg iter wi) (hs : ∀ x, genFold iter X.env x = pure x)
    (hb : ∀ (A : Around) (s : Shared) (H : Hp) (C : Addr) (code : Value) (fp : List Addr) (pn : List (Addr × Obj)), A.frames = some X.stack → Room (k - 5 + 1) A → PG (gCx X (A.deeper (gEnv X scope C code)) s H scope C code fp pn) tg wg ∧ PTs (gCx X (A.deeper (gEnv X scope C code)) s H scope C code fp pn) ifs tt ∧ PE (gCx X (A.deeper (gEnv X scope C code)) s H scope C code fp pn) elt te) :
    PE X (.Call (.Name "tuple" p) [.GeneratorExp elt [⟨tg, iter, ifs, 0⟩] scope gpos] [] pos) (fun σ H Q => tGn Tb wi wg tt te (own.map (·.2)) stL [] (fun α H' => ∀ l, H' l = none → Q (.ref l) (upd H' l (.tup α))) σ H) := by
  refine ⟨fun pins s σ H Q I h => ?_⟩
  have he : starEach [.GeneratorExp elt [⟨tg, iter, ifs, 0⟩] scope gpos] X.env = (false, eval (.GeneratorExp elt [⟨tg, iter, ifs, 0⟩] scope gpos) X.env) :: starEach [] X.env := rfl
  refine wpAny_Call_Name_kw (ld_blt I hg hm (show bootBuiltins "tuple" = some (.type "tuple") by kernel_rfl) ?_ (by decide) (by decide))
  refine PyProof.Rows.callWith_type1 ?_ he rfl
  rw [he]
  show wpAny _ _ (spliced ((false, eval (.GeneratorExp elt [⟨tg, iter, ifs, 0⟩] scope gpos) X.env) :: backTo pos (starEach [] X.env))) _ _ s
  refine Calls.spliced_cons (thn (run_gen G stL_mono hi hs hb I h) fun u s1 hG => ?_)
  refine Calls.spliced_nil ?_
  have hr : Room (k - 5 + 5) X.A := G.rm.mono (by omega)
  refine callType_codes (Q₁ := fun obj s₁ => s₁.TypeIs obj "tuple" ∧ EP X pins σ Q obj s₁) F.called_tuple (F.typeCall_tuple_1 _) F.entry_object_init
    (code_tuple_gx (A := X.A.in1) (k := k - 5) hr.in1 I.ok.frames hG fun items α H' s' I' r' hl q' => ⟨⟨_, Heap.get?_push_size _ rfl, rfl⟩, ?_⟩) fun obj s₁ h₁ => ?_
  · refine ⟨.ref s'.heap.objs.size, _, ?_, rfl, q' s'.heap.objs.size (I'.hok.fresh (Nat.le_refl _))⟩
    exact I'.laid (t' := s'.toks) (fun b o e => Heap.get?_push_of_some _ e) (Nat.le_refl _) ⟨hl, items, r', ⟨_, Heap.get?_push_size _ rfl, rfl, _, rfl⟩⟩
  · exact ⟨h₁.1, F.args_object_init_2 obj _, object_init_meets F.called_tuple.init.lookup F.called_tuple.made (by decide) X.prog X.w X.A.in1 _ s₁ ⟨h₁.1, rfl, h₁.2⟩⟩
/-- any(e for ..) -/
theorem pe_anyG (G : GenOk Tb X k scope own gpos) (h5 : 5 ≤ k) (hg : Gl X "any") (hm : X.mg "any" = none) (hi : PI X tg iter wi) (hs : ∀ x, genFold iter X.env x = pure x)
    (hb : ∀ (A : Around) (s : Shared) (H : Hp) (C : Addr) (code : Value) (fp : List Addr) (pn : List (Addr × Obj)), A.frames = some X.stack → Room (k - 5 + 1) A → PG (gCx X (A.deeper (gEnv X scope C code)) s H scope C code fp pn) tg wg ∧ PTs (gCx X (A.deeper (gEnv X scope C code)) s H scope C code fp pn) ifs tt ∧ PE (gCx X (A.deeper (gEnv X scope C code)) s H scope C code fp pn) elt te) :
    PE X (.Call (.Name "any" p) [.GeneratorExp elt [⟨tg, iter, ifs, 0⟩] scope gpos] [] pos) (fun σ H Q => tGn Tb wi wg tt te (own.map (·.2)) (stB true (Q (.bl true))) () (fun _ => Q (.bl false)) σ H) := by
  refine ⟨fun pins s σ H Q I h => ?_⟩
  have he : starEach [.GeneratorExp elt [⟨tg, iter, ifs, 0⟩] scope gpos] X.env = (false, eval (.GeneratorExp elt [⟨tg, iter, ifs, 0⟩] scope gpos) X.env) :: starEach [] X.env := rfl
  refine wpAny_Call_Name_kw (ld_blt I hg hm boot_any ?_)
  refine PyProof.Rows.callWith_builtin1 ?_ he (by rfl)
  rw [he]
  show wpAny _ _ (spliced ((false, eval (.GeneratorExp elt [⟨tg, iter, ifs, 0⟩] scope gpos) X.env) :: backTo pos (starEach [] X.env))) _ _ s
  refine Calls.spliced_cons (thn (run_gen G stB_mono hi hs hb I h) fun u s1 hG => ?_)
  refine Calls.spliced_nil (call_any_gx (k := k - 5) (G.rm.mono (by omega)) I.ok.frames hG fun b H' s' I' q => ⟨.bl b, H', I', rfl, ?_⟩)
  cases b with
  | true => rwa [if_pos rfl] at q
  | false => rwa [if_neg Bool.false_ne_true] at q
/-- all(e for ..) -/
theorem pe_allG (G : GenOk Tb X k scope own gpos) (h5 : 5 ≤ k) (hg : Gl X "all") (hm : X.mg "all" = none) (hi : PI X tg iter wi) (hs : ∀ x, genFold iter X.env x = pure x)
    (hb : ∀ (A : Around) (s : Shared) (H : Hp) (C : Addr) (code : Value) (fp : List Addr) (pn : List (Addr × Obj)), A.frames = some X.stack → Room (k - 5 + 1) A → PG (gCx X (A.deeper (gEnv X scope C code)) s H scope C code fp pn) tg wg ∧ PTs (gCx X (A.deeper (gEnv X scope C code)) s H scope C code fp pn) ifs tt ∧ PE (gCx X (A.deeper (gEnv X scope C code)) s H scope C code fp pn) elt te) :
    PE X (.Call (.Name "all" p) [.GeneratorExp elt [⟨tg, iter, ifs, 0⟩] scope gpos] [] pos) (fun σ H Q => tGn Tb wi wg tt te (own.map (·.2)) (stB false (Q (.bl false))) () (fun _ => Q (.bl true)) σ H) := by
  refine ⟨fun pins s σ H Q I h => ?_⟩
  have he : starEach [.GeneratorExp elt [⟨tg, iter, ifs, 0⟩] scope gpos] X.env = (false, eval (.GeneratorExp elt [⟨tg, iter, ifs, 0⟩] scope gpos) X.env) :: starEach [] X.env := rfl
  refine wpAny_Call_Name_kw (ld_blt I hg hm (show bootBuiltins "all" = some (.builtin "all") by kernel_rfl) ?_ (by decide) (by decide))
  refine PyProof.Rows.callWith_builtin1 ?_ he (by rfl)
  rw [he]
  show wpAny _ _ (spliced ((false, eval (.GeneratorExp elt [⟨tg, iter, ifs, 0⟩] scope gpos) X.env) :: backTo pos (starEach [] X.env))) _ _ s
  refine Calls.spliced_cons (thn (run_gen G stB_mono hi hs hb I h) fun u s1 hG => ?_)
  refine Calls.spliced_nil (call_all_gx (k := k - 5) (G.rm.mono (by omega)) I.ok.frames hG fun b H' s' I' q => ⟨.bl b, H', I', rfl, ?_⟩)
  cases b with
  | true => rwa [if_neg (by decide)] at q
  | false => rwa [if_pos rfl] at q
end
end Mini

/-! Gx8 -/
set_option autoImplicit false
set_option Elab.async false
set_option linter.all false
set_option maxRecDepth 100000
set_option maxHeartbeats 2000000
namespace Mini
open PySem PySem.Spec PySem.Calls PyProof.Rows L2 GenW

/-- the elements of a generator expression -/
def Fam.gen (F : Fam) (m : Nat) (scope : Scope) : Fam where
  K := F.K
  P := fun Y => ∃ (X : Cx) (A : Around) (s : Shared) (H : Hp) (C : Addr) (code : Value) (fp : List Addr) (pn : List (Addr × Obj)), F.P X ∧ A.frames = some X.stack ∧ Room m A ∧ Y = gCx X (A.deeper (gEnv X scope C code)) s H scope C code fp pn
  hK := fun Y ⟨X, A, s, H, C, code, fp, pn, hX, _, _, e⟩ => by rw [e]; exact F.hK X hX
section
variable {Z : Wd} {F : Fam} {k : Nat} {N : List Str} {sc : Scope} {tp : Tp} {Wx : WX}
theorem FamG.gen (G : FamG Z F k N sc tp Wx) (m : Nat) {scope : Scope} (hk : scope.kind = .function) : FamG Z (F.gen (m + 1) scope) m N scope ⟨false, Str.empty, none⟩ (fun _ _ _ _ => False) where
  hK := G.hK
  prog := fun Y ⟨X, A, s, H, C, code, fp, pn, hX, _, _, e⟩ => by rw [e]; exact G.prog X hX
  hW := fun Y ⟨X, A, s, H, C, code, fp, pn, hX, _, _, e⟩ => by rw [e]; exact G.hW X hX
  mg := fun Y ⟨X, A, s, H, C, code, fp, pn, hX, _, _, e⟩ => by rw [e]; exact G.mg X hX
  base := fun Y ⟨X, A, s, H, C, code, fp, pn, hX, _, _, e⟩ => by rw [e]; exact G.base X hX
  calm := fun Y ⟨X, A, s, H, C, code, fp, pn, hX, _, _, e⟩ => by rw [e]; exact G.calm X hX
  room := fun Y ⟨X, A, s, H, C, code, fp, pn, hX, _, r, e⟩ => by rw [e]; exact r.deeper _
  hN := fun Y ⟨X, A, s, H, C, code, fp, pn, hX, _, _, e⟩ => by rw [e]; exact G.hN X hX
  nd := G.nd
  hSc := fun Y ⟨X, A, s, H, C, code, fp, pn, hX, _, _, e⟩ => by rw [e]; rfl
  kind := hk
  tk := fun Y ⟨X, A, s, H, C, code, fp, pn, hX, _, _, e⟩ => takes0
  own := fun Y ⟨X, A, s, H, C, code, fp, pn, hX, _, _, e⟩ => by rw [e]; exact PassesOwn.never
  fn := fun h => by cases h
  stk := fun h => by cases h
  cd := fun ca h => by cases h
  one := fun h => by cases h
end
/-- what stands ready for a generator expression -/
structure GenC (Tb : List (Addr × TabNm)) (C : Cl) (F : Fam) (W : WW) (k : Nat) (tg it elt : Expr) (ifs : List Expr) (scope : Scope) (own : List (Str × Nat)) (gpos : Pos) (t : T) (s : Src) (is : Es) (ic ie : E) : Prop where
  g : ∀ X, F.P X → GenOk Tb X k scope own gpos
  k5 : 5 ≤ k
  src : SI (tabSide Tb) C F W tg it s is
  tgt : SG (F.gen (k - 5 + 1) scope) tg t
  tst : STs (tabSide Tb) C (F.gen (k - 5 + 1) scope) W0 ifs ic
  elt : SE (tabSide Tb) C (F.gen (k - 5 + 1) scope) W0 elt ie
  slots : ∀ i ∈ t.slots, i ∈ own.map (·.2)
  frc : ∀ (L : Lk) (env : Env) (h : Hh), FrR L h (evE C L ic env h)
  fre : ∀ (L : Lk) (env : Env) (h : Hh), FrR L h (evE C L ie env h)
  fold : ∀ X : Cx, ∀ x, genFold it X.env x = pure x
section
variable {Tb : List (Addr × TabNm)} {C : Cl} {F : Fam} {W : WW} {k : Nat} {tg it elt : Expr} {ifs : List Expr} {scope : Scope} {own : List (Str × Nat)} {gpos p pos : Pos} {t : T} {s : Src} {is : Es} {ic ie : E}
theorem tup_new {D : Side} {K : PySem.W.Frag} {ρ : List Addr} {h : Hh} {H : Hp} {l : Addr} {ps : List PV} {vs : List V} (n : Now D K ρ h H) (nl : H l = none) (r : Reps K ρ H ps vs) : Nxt D K ρ H ρ h (upd H l (.tup vs)) ∧ Rep K ρ (upd H l (.tup vs)) (.tup ps) (.ref l) := by
  have m := n.new (o := .tup vs) nl
  exact ⟨m, .tup (.inl (.inl upd_same)) (r.mono m.grow (List.prefix_refl _))⟩
/-- tuple(e for ..) -/
theorem snd_tupG (c : GenC Tb C F W k tg it elt ifs scope own gpos t s is ic ie) (hg : ∀ X, F.P X → Gl X "tuple") (hm : ∀ X, F.P X → X.mg "tuple" = none) :
    SE (tabSide Tb) C F W (.Call (.Name "tuple" p) [.GeneratorExp elt [⟨tg, it, ifs, 0⟩] scope gpos] [] pos) (.gen .tuple (own.map (·.2)) t s is ic ie) := by
  obtain ⟨wi, pi, si⟩ := c.src
  obtain ⟨g, pg, sg⟩ := c.tgt
  obtain ⟨tt, pt, st⟩ := c.tst
  obtain ⟨te, pe, se⟩ := c.elt
  refine ⟨_, fun X hX => pe_tupG (c.g X hX) c.k5 (hg X hX) (hm X hX) (pi X hX) (c.fold X) (fun A s H C' code fp pn hfr hr => ⟨pg _ ⟨X, A, s, H, C', code, fp, pn, hX, hfr, hr, rfl⟩, pt _ ⟨X, A, s, H, C', code, fp, pn, hX, hfr, hr, rfl⟩, pe _ ⟨X, A, s, H, C', code, fp, pn, hX, hfr, hr, rfl⟩⟩), fun L σ H env h ρ Q n er w => ?_⟩
  refine gen_walkL (tg := tg) (it := it) (elt := elt) si sg st se c.slots c.frc c.fre L σ H env h ρ _ n er ?_
  unfold evE at w
  cases ea : evEs C L is env h with
  | bad => rw [ea] at w; exact w
  | exc c h1 => rw [ea] at w; exact w
  | ok ps h1 =>
    rw [ea] at w
    dsimp only at w ⊢
    cases ex : srcItems s ps h1 with
    | none => rw [ex] at w; exact w
    | some xs =>
      rw [ex] at w
      dsimp only at w ⊢
      cases ec : compL t (evE C { L with locked := refsOf ps ++ L.locked } ic) (evE C { L with locked := refsOf ps ++ L.locked } ie) (wipeE env (own.map (·.2))) xs h1 with
      | bad => rw [ec] at w; exact w
      | exc c h2 => rw [ec] at w; exact w.elim
      | ok ys h2 =>
        rw [ec] at w
        dsimp only at w ⊢
        by_cases z : ys.length ≤ lim
        · rw [if_pos z] at w
          refine ⟨z, fun H' ρ' acc mm r l hl => ?_⟩
          obtain ⟨q1, q2⟩ := tup_new mm.now hl r
          exact w _ _ _ (mm.trans q1) q2
        · rw [if_neg z] at w; exact w.elim
/-- any(e for ..) -/
theorem snd_anyG (c : GenC Tb C F W k tg it elt ifs scope own gpos t s is ic ie) (hg : ∀ X, F.P X → Gl X "any") (hm : ∀ X, F.P X → X.mg "any" = none) :
    SE (tabSide Tb) C F W (.Call (.Name "any" p) [.GeneratorExp elt [⟨tg, it, ifs, 0⟩] scope gpos] [] pos) (.gen .any (own.map (·.2)) t s is ic ie) := by
  obtain ⟨wi, pi, si⟩ := c.src
  obtain ⟨g, pg, sg⟩ := c.tgt
  obtain ⟨tt, pt, st⟩ := c.tst
  obtain ⟨te, pe, se⟩ := c.elt
  refine ⟨_, fun X hX => pe_anyG (c.g X hX) c.k5 (hg X hX) (hm X hX) (pi X hX) (c.fold X) (fun A s H C' code fp pn hfr hr => ⟨pg _ ⟨X, A, s, H, C', code, fp, pn, hX, hfr, hr, rfl⟩, pt _ ⟨X, A, s, H, C', code, fp, pn, hX, hfr, hr, rfl⟩, pe _ ⟨X, A, s, H, C', code, fp, pn, hX, hfr, hr, rfl⟩⟩), fun L σ H env h ρ Q n er w => ?_⟩
  refine gen_walkB (tg := tg) (it := it) (elt := elt) si sg st se c.slots c.frc c.fre true (fun c H' => W c σ H') L σ H env h ρ Q n er ?_
  unfold evE at w
  cases ea : evEs C L is env h with
  | bad => rw [ea] at w; exact w
  | exc c h1 => rw [ea] at w; exact w
  | ok ps h1 =>
    rw [ea] at w
    dsimp only at w ⊢
    cases ex : srcItems s ps h1 with
    | none => rw [ex] at w; exact w
    | some xs => rw [ex] at w; exact w
/-- all(e for ..) -/
theorem snd_allG (c : GenC Tb C F W k tg it elt ifs scope own gpos t s is ic ie) (hg : ∀ X, F.P X → Gl X "all") (hm : ∀ X, F.P X → X.mg "all" = none) :
    SE (tabSide Tb) C F W (.Call (.Name "all" p) [.GeneratorExp elt [⟨tg, it, ifs, 0⟩] scope gpos] [] pos) (.gen .all (own.map (·.2)) t s is ic ie) := by
  obtain ⟨wi, pi, si⟩ := c.src
  obtain ⟨g, pg, sg⟩ := c.tgt
  obtain ⟨tt, pt, st⟩ := c.tst
  obtain ⟨te, pe, se⟩ := c.elt
  refine ⟨_, fun X hX => pe_allG (c.g X hX) c.k5 (hg X hX) (hm X hX) (pi X hX) (c.fold X) (fun A s H C' code fp pn hfr hr => ⟨pg _ ⟨X, A, s, H, C', code, fp, pn, hX, hfr, hr, rfl⟩, pt _ ⟨X, A, s, H, C', code, fp, pn, hX, hfr, hr, rfl⟩, pe _ ⟨X, A, s, H, C', code, fp, pn, hX, hfr, hr, rfl⟩⟩), fun L σ H env h ρ Q n er w => ?_⟩
  refine gen_walkB (tg := tg) (it := it) (elt := elt) si sg st se c.slots c.frc c.fre false (fun c H' => W c σ H') L σ H env h ρ Q n er ?_
  unfold evE at w
  cases ea : evEs C L is env h with
  | bad => rw [ea] at w; exact w
  | exc c h1 => rw [ea] at w; exact w
  | ok ps h1 =>
    rw [ea] at w
    dsimp only at w ⊢
    cases ex : srcItems s ps h1 with
    | none => rw [ex] at w; exact w
    | some xs => rw [ex] at w; exact w
end
end Mini

/-! Snd21 -/
set_option autoImplicit false
set_option Elab.async false
set_option linter.all false
set_option maxRecDepth 100000
namespace Mini
open PySem PySem.Spec PySem.Calls PyProof.Rows L2

section
variable {Z : Wd} {d : Nat}
abbrev SBw (Z : Wd) (d : Nat) (F : Fam) (Wx : WX) (e : Expr) (ir : E) : Prop := SB Z.D (clN Z.I d) F (WofX Z.cls Wx) e ir
theorem op_ok {F : Fam} {k : Nat} {c : CC} {Wx : WX} (G : FamG Z F k c.N c.sc c.tp Wx) {op : Operator} {o : Bop} (h : opOf op = some o) : ∀ X, F.P X → OpR X (binaryOp op) (R2E Z.D F.K (binE o)) := fun X hX => by
  rw [← F.hK X hX]
  cases op <;> cases h
  · exact opr_add
  · exact opr_sub
  · exact opr_mul
  · exact opr_mod
  · exact opr_pow
  · exact opr_fdiv
theorem cop_ok {F : Fam} {k : Nat} {c : CC} {Wx : WX} (G : FamG Z F k c.N c.sc c.tp Wx) (op : CmpOp) : ∀ X, F.P X → OpR X (compareOp op) (R2E Z.D F.K (cmpE (copOf op))) := fun X hX => by
  have hu := G.hu X hX
  rw [← F.hK X hX]
  cases op
  · exact opr_eq hu
  · exact opr_ne hu
  · exact opr_lt
  · exact opr_le
  · exact opr_gt
  · exact opr_ge
  · exact opr_is
  · exact opr_isnot
  · exact opr_in hu
  · exact opr_notin hu
theorem own_ix {N : List Str} {scope : Scope} : ∀ p ∈ ownOf N scope, N[p.2]? = some p.1 := by
  intro p hp
  obtain ⟨y, _, hy⟩ := List.mem_filterMap.mp hp
  split at hy
  · obtain ⟨i, h1, rfl⟩ := Option.map_eq_some_iff.mp hy; exact slot_at h1
  · obtain ⟨i, h1, rfl⟩ := Option.map_eq_some_iff.mp hy; exact slot_at h1
  · cases hy
theorem gfold_not {it : Expr} (h1 : isSet it = false) (h2 : isList it = false) (env : PySem.Env) (x : Value) : genFold it env x = pure x := by
  unfold genFold
  cases it <;> first | (cases h2; done) | exact fold_not h1 env x
/-- THE COMPILER IS RIGHT: expressions -/
theorem comp_ok (O : Z.Ok d) : ∀ (n : Nat) (c : CC) (F : Fam) (k : Nat) (Wx : WX), FamG Z F k c.N c.sc c.tp Wx → GOk Z c.tx → lev d + c.rm ≤ k → ∀ (e : Expr) (ir : E), comp n c e = some ir → SBw Z d F Wx e ir
  | 0, c, F, k, Wx, G, T, hk, e, ir, h => by unfold comp at h; cases h
  | n + 1, c, F, k, Wx, G, T, hk, e, ir, h => by
    have ih : ∀ e i, comp n c e = some i → SBw Z d F Wx e i := fun e i h => comp_ok O n c F k Wx G T hk e i h
    have ihE : ∀ e i, comp n c e = some i → SEw Z d F Wx e i := fun e i h => (ih e i h).1
    unfold comp at h
    split at h
    · -- a name
      rename_i x p
      split at h
      · rename_i hp
        obtain ⟨p1, p2⟩ := plain_name hp
        split at h
        · rename_i hv
          obtain ⟨i, h1, rfl⟩ := Option.map_eq_some_iff.mp h
          exact .of (snd_var (G.at (slot_at h1)) (G.vis (vis_of hv)) p1 p2) fun _ _ => rfl
        · split at h
          · rename_i hg
            cases hl : c.tx.gt.lookup x with
            | none => rw [hl] at h; cases h
            | some g =>
              rw [hl] at h
              cases g with
              | con j =>
                cases h
                obtain ⟨u, v, q, m1, m2, m3, m4⟩ := T.con x j hl
                exact .of (snd_con G (gl_of hg) m1 m2 m3 m4 p1) fun _ _ => rfl
              | fn _ _ => cases h
              | exc _ => cases h
          · cases h
      · cases h
    · cases h; exact .of snd_int fun _ _ => rfl
    · cases h; exact .of snd_bl fun _ _ => rfl
    · cases h; exact .of snd_str fun _ _ => rfl
    · cases h; exact .of snd_non fun _ _ => rfl
    · -- a op b
      rename_i a op b p
      cases h1 : opOf op with
      | none => rw [h1] at h; cases h
      | some o =>
        cases h2 : comp n c a with
        | none => rw [h1, h2] at h; cases h
        | some i =>
          cases h3 : comp n c b with
          | none => rw [h1, h2, h3] at h; cases h
          | some j =>
            rw [h1, h2, h3] at h
            cases h
            exact .of (snd_op (op_ok G h1) (fun _ _ _ _ h => h) (nox_bin o) (ihE a i h2) (ihE b j h3)) fun _ _ => rfl
    · obtain ⟨i, h1, rfl⟩ := Option.map_eq_some_iff.mp h
      exact .of (snd_neg (ihE _ i h1)) fun _ _ => rfl
    · obtain ⟨i, h1, rfl⟩ := Option.map_eq_some_iff.mp h
      exact ⟨snd_notV (ihE _ i h1), snd_not (ih _ i h1).2⟩
    · obtain ⟨q1, q2⟩ := cBool_ok (fun e _ i h => ih e i h) h
      exact ⟨q1, SW.st q2⟩
    · -- a if t else b
      rename_i t a b p
      cases h1 : comp n c t with
      | none => rw [h1] at h; cases h
      | some i =>
        cases h2 : comp n c a with
        | none => rw [h1, h2] at h; cases h
        | some j =>
          cases h3 : comp n c b with
          | none => rw [h1, h2, h3] at h; cases h
          | some m =>
            rw [h1, h2, h3] at h
            cases h
            exact ⟨snd_ife (ih t i h1).2 (ihE a j h2) (ihE b m h3), snd_ifeT (ih t i h1).2 (ih a j h2).2 (ih b m h3).2⟩
    · -- a op b
      rename_i a op b p
      split at h
      · cases h
      · rename_i hs
        rw [Bool.not_eq_true] at hs
        cases h2 : comp n c a with
        | none => rw [h2] at h; cases h
        | some i =>
          cases h3 : comp n c b with
          | none => rw [h2, h3] at h; cases h
          | some j =>
            rw [h2, h3] at h
            cases h
            exact ⟨snd_cmp (cop_ok G op) (fun _ _ _ _ h => h) (nox_cmp _) (ihE a i h2) (ihE b j h3) (behind_not hs), snd_cmpT (cop_ok G op) (fun _ _ _ _ h => h) (nox_cmp _) (ihE a i h2) (ihE b j h3) (behind_not hs)⟩
    · rename_i a op op' b e p
      split at h
      · cases h
      · rename_i hs
        rw [Bool.not_eq_true] at hs
        cases h2 : comp n c a with
        | none => rw [h2] at h; cases h
        | some i =>
          cases h3 : comp n c b with
          | none => rw [h2, h3] at h; cases h
          | some j =>
            cases h4 : comp n c e with
            | none => rw [h2, h3, h4] at h; cases h
            | some m =>
              rw [h2, h3, h4] at h
              cases h
              exact ⟨snd_cmp2 (cop_ok G op) (cop_ok G op') (fun _ _ _ _ h => h) (fun _ _ _ _ h => h) (ihE a i h2) (ihE b j h3) (ihE e m h4) (last_not hs), snd_cmp2T (cop_ok G op) (cop_ok G op') (fun _ _ _ _ h => h) (fun _ _ _ _ h => h) (ihE a i h2) (ihE b j h3) (ihE e m h4) (last_not hs)⟩
    · obtain ⟨is, h1, rfl⟩ := Option.map_eq_some_iff.mp h
      exact .of (snd_tup (cEs_ok (fun e _ i h => ihE e i h) h1)) fun _ _ => rfl
    · obtain ⟨is, h1, rfl⟩ := Option.map_eq_some_iff.mp h
      exact .of (snd_lst (cEs_ok (fun e _ i h => ihE e i h) h1)) fun _ _ => rfl
    · -- a slice
      rename_i a l u p1 p2
      cases h2 : comp n c a with
      | none => rw [h2] at h; cases h
      | some i =>
        cases h3 : cOpt (comp n c) l with
        | none => rw [h2, h3] at h; cases h
        | some x =>
          cases h4 : cOpt (comp n c) u with
          | none => rw [h2, h3, h4] at h; cases h
          | some y =>
            rw [h2, h3, h4] at h
            obtain ⟨kl, j⟩ := x
            obtain ⟨ku, m⟩ := y
            cases h
            exact .of (snd_sli (ihE a i h2) (cOpt_ok (fun e i _ h => ihE e i h) h3) (cOpt_ok (fun e i _ h => ihE e i h) h4)) fun _ _ => rfl
    · rename_i a b p _
      split at h
      · cases h
      · rename_i hs
        rw [Bool.not_eq_true] at hs
        cases h2 : comp n c a with
        | none => rw [h2] at h; cases h
        | some i =>
          cases h3 : comp n c b with
          | none => rw [h2, h3] at h; cases h
          | some j =>
            rw [h2, h3] at h
            cases h
            refine .of (snd_idx (r := R2E Z.D F.K idxE) (fun X hX => ?_) (fun _ _ _ _ h => h) nox_idx (ihE a i h2) (ihE b j h3) (plain_ix hs)) fun _ _ => rfl
            rw [← F.hK X hX]
            exact ixr_idx
    · -- a comprehension
      rename_i elt tg it ifs scope p
      split at h
      · rename_i q
        rw [Bool.and_eq_true, Bool.not_eq_true'] at q
        have Gb := G.blk (scope := scope) (blkOk_by q.1).kind
        have ihb : ∀ e i, comp n (c.inner scope) e = some i → SBw Z d (F.blk scope) (fun _ _ _ _ => False) e i := fun e i h => comp_ok O n (c.inner scope) (F.blk scope) k (fun _ _ _ _ => False) Gb T hk e i h
        cases h1 : cSrc c (comp n c) tg it with
        | none => rw [h1] at h; cases h
        | some si =>
          obtain ⟨s, is⟩ := si
          cases h2 : cT n (c.inner scope) tg with
          | none => rw [h1, h2] at h; cases h
          | some t =>
            have tst : ∀ ic, cIfs (comp n (c.inner scope)) ifs = some ic → STs Z.D (clN Z.I d) (F.blk scope) W0 ifs ic := by
              intro ic hh
              unfold cIfs at hh
              split at hh
              · cases hh; exact snd_tests0
              · exact snd_tests1 (ihb _ ic hh).2
              · cases hh
            cases h3 : cIfs (comp n (c.inner scope)) ifs with
            | none => rw [h1, h2, h3] at h; cases h
            | some ic =>
              cases h4 : comp n (c.inner scope) elt with
              | none => rw [h1, h2, h3, h4] at h; cases h
              | some ie =>
                rw [h1, h2, h3, h4] at h
                dsimp only at h
                split at h
                · rename_i hsl
                  cases h
                  obtain ⟨t1, t2⟩ := (cT_ok (c := c.inner scope) Gb n).1 tg t h2
                  refine .of (snd_comp ⟨G.calm, G.hnd, cSrc_ok G T ihE h1, fun X hX => ?_, t1, tst ic h3, (ihb elt ie h4).1, fun i hi => ?_, fun L env h => fr_E (clN Z.I d) (frm_N Z.I d) ic L env h, fun L env h => fr_E (clN Z.I d) (frm_N Z.I d) ie L env h, fun X x => fold_not q.2 X.env x⟩) fun _ _ => rfl
                  · rw [G.hN X hX, G.hSc X hX]; exact blkOk_by q.1
                  · rw [t2] at hi
                    have := List.all_eq_true.mp hsl i hi
                    simpa using this
                · cases h
      · cases h
    · -- an f-string
      obtain ⟨is, h1, rfl⟩ := Option.map_eq_some_iff.mp h
      exact .of (snd_fstr (cParts_ok (fun e i h _ => ihE e i h) h1)) fun _ _ => rfl
    · -- a generator expression
      rename_i x p0 elt tg it ifs scope gp p
      split at h
      · rename_i q
        simp only [Bool.and_eq_true, Bool.not_eq_true'] at q
        obtain ⟨⟨⟨q1, q2⟩, q3⟩, q4⟩ := q
        unfold CC.genOk at q2
        simp only [Bool.and_eq_true, decide_eq_true_eq, Bool.not_eq_true', List.any_eq_true, List.all_eq_true, beq_iff_eq] at q2
        obtain ⟨⟨⟨⟨⟨q5, q6⟩, q7⟩, q8⟩, q9⟩, l, hl, ⟨l1, l2⟩, l3⟩ := q2
        obtain ⟨Tb, P, nm, t1, t2, t3, t4, _, t6⟩ := T.lam l hl
        obtain ⟨g1, g2⟩ := bt_of T q1
        have k5 : 5 ≤ k := by omega
        have Gb := G.gen (k - 5) (scope := scope) (blkOk_by q6).kind
        have ihb : ∀ e i, comp n (c.gen scope) e = some i → SBw Z d (F.gen (k - 5 + 1) scope) (fun _ _ _ _ => False) e i := fun e i h => comp_ok O n (c.gen scope) (F.gen (k - 5 + 1) scope) (k - 5) (fun _ _ _ _ => False) Gb T (by show lev d + (c.rm - 5) ≤ k - 5; omega) e i h
        cases h0 : genOf x with
        | none => rw [h0] at h; cases h
        | some f =>
        cases h1 : cSrc c (comp n c) tg it with
        | none => rw [h0, h1] at h; cases h
        | some si =>
          obtain ⟨s, is⟩ := si
          cases h2 : cT n (c.gen scope) tg with
          | none => rw [h0, h1, h2] at h; cases h
          | some t =>
            have tst : ∀ ic, cIfs (comp n (c.gen scope)) ifs = some ic → STs Z.D (clN Z.I d) (F.gen (k - 5 + 1) scope) W0 ifs ic := by
              intro ic hh
              unfold cIfs at hh
              split at hh
              · cases hh; exact snd_tests0
              · exact snd_tests1 (ihb _ ic hh).2
              · cases hh
            cases h3 : cIfs (comp n (c.gen scope)) ifs with
            | none => rw [h0, h1, h2, h3] at h; cases h
            | some ic =>
              cases h4 : comp n (c.gen scope) elt with
              | none => rw [h0, h1, h2, h3, h4] at h; cases h
              | some ie =>
                rw [h0, h1, h2, h3, h4] at h
                dsimp only at h
                split at h
                · rename_i hsl
                  cases h
                  obtain ⟨u1, u2⟩ := (cT_ok (c := c.gen scope) Gb n).1 tg t h2
                  have src := cSrc_ok G T ihE h1
                  have tst' := tst ic h3
                  have elt' := (ihb elt ie h4).1
                  unfold SEw at elt'
                  rw [t1] at src tst' elt'
                  have GC : GenC Tb (clN Z.I d) F (WofX Z.cls Wx) k tg it elt ifs scope (ownOf c.N scope) gp t s is ic ie := by
                    refine ⟨fun X hX => ⟨G.room X hX, G.calm X hX, G.hnd X hX, ⟨Z.cad l.1, P, nm, by rw [G.base X hX, G.mg X hX]; exact t2, (G.cd l.1 l1 X hX).1, t3, t4, t6 (gp.line, gp.col) (by simpa using l3)⟩, by rw [G.hN X hX, G.hSc X hX]; exact blkOk_by q6, fun y hy e => ?_, q8, q9⟩, k5, src, u1, tst', elt', fun i hi => ?_, fun L env h => fr_E (clN Z.I d) (frm_N Z.I d) ic L env h, fun L env h => fr_E (clN Z.I d) (frm_N Z.I d) ie L env h, fun X x => gfold_not q3 q4 X.env x⟩
                    · have := q7 y hy
                      rw [e] at this
                      simp at this
                    · rw [u2] at hi
                      have := List.all_eq_true.mp hsl i hi
                      simpa using this
                  refine .of ?_ fun _ _ => rfl
                  show SE Z.D _ _ _ _ _
                  rw [t1]
                  unfold genOf at h0
                  repeat' split at h0
                  all_goals first | (cases h0; done) | skip
                  all_goals (rename_i hq; obtain rfl := beq_iff_eq.mp hq; cases h0)
                  · exact snd_tupG GC (G.gl g1) (G.mgN g2)
                  · exact snd_anyG GC (G.gl g1) (G.mgN g2)
                  · exact snd_allG GC (G.gl g1) (G.mgN g2)
                · cases h
      · cases h
    · -- told(lambda: ..)
      rename_i x p0 ar b scope lp p
      split at h
      · rename_i q
        simp only [Bool.and_eq_true] at q
        obtain ⟨⟨q1, q2⟩, q3⟩ := q
        have q4 := q3
        unfold CC.lamOk at q4
        simp only [Bool.and_eq_true, decide_eq_true_eq] at q4
        have hkind := (LamX.lamS_by q4.1.2).kind
        cases h1 : c.tx.told.lookup x with
        | none => rw [h1] at h; cases h
        | some kr =>
          obtain ⟨j, ret⟩ := kr
          cases h2 : comp n (c.lam scope) b with
          | none => rw [h1, h2] at h; cases h
          | some i =>
            rw [h1, h2] at h
            cases h
            refine .of (snd_told G T hk (gl_of q1) q2 q3 h1 fun E => ?_) fun _ _ => rfl
            exact (comp_ok O n (c.lam scope) (F.lam (k - 2) E scope) (k - 2) (fun cls d _ H => E cls d H) (G.lam (k - 2) E hkind) T (by have := q4.1.1; show lev d + (c.rm - 2) ≤ k - 2; omega) b i h2).1
      · cases h
    · -- a call by a name
      rename_i x p0 es p _ _
      split at h
      · rename_i i opts hg hl
        rw [Bool.and_eq_true] at hg
        obtain ⟨p1, p2⟩ := plain_name hg.2
        obtain ⟨f1, f2, f3, f4⟩ := T.fn x i opts hl
        cases h1 : opts.lookup es.length with
        | none => rw [h1] at h; cases h
        | some qs =>
          cases h2 : cEs (comp n c) es with
          | none => rw [h1, h2] at h; cases h
          | some is =>
            rw [h1, h2] at h
            cases h
            obtain ⟨l1, dvs, ds, b1, b2, b3⟩ := f4 _ _ h1
            refine .of ?_ fun _ _ => rfl
            cases es with
            | nil =>
              unfold cEs at h2
              cases h2
              exact snd_call0 G O (Nat.le_trans (Nat.le_add_right _ _) hk) f1 (gl_of hg.1) f2 f3 b1 b2 b3 p1 (by rw [← l1]; simp)
            | cons e es =>
              exact snd_call G O (Nat.le_trans (Nat.le_add_right _ _) hk) f1 (gl_of hg.1) f2 f3 b1 b2 b3 p1 (fun ps C L env h h' he => by rw [List.length_append, evEs_len _ _ _ _ _ _ he, cEs_len h2, l1]) (cEs_ok (fun e _ i h => ihE e i h) h2)
                (fun X => star_each (no_stars h2 e (List.mem_cons_self ..)) _ _) fun X => stars_any (fun a ha => no_stars h2 a (List.mem_cons_of_mem _ ha)) _ _
      · split at h
        · rename_i hb
          cases h1 : primOf x es.length with
          | none => rw [h1] at h; cases h
          | some f =>
            cases h2 : cEs (comp n c) es with
            | none => rw [h1, h2] at h; cases h
            | some is =>
              rw [h1, h2] at h
              cases h
              exact .of (prim_ok G T hb h1 (no_stars h2) (cEs_ok (fun e _ i h => ihE e i h) h2)) fun _ _ => rfl
        · cases h
    · -- min(a, default=b)
      rename_i x p0 a kw e kp p
      split at h
      · rename_i q
        simp only [Bool.and_eq_true, Bool.not_eq_true'] at q
        obtain ⟨⟨⟨q1, q2⟩, q3⟩, q4⟩ := q
        obtain rfl := beq_iff_eq.mp q1
        obtain rfl := beq_iff_eq.mp q2
        obtain ⟨g1, g2⟩ := bt_of T q3
        cases h2 : comp n c a with
        | none => rw [h2] at h; cases h
        | some i =>
          cases h3 : comp n c e with
          | none => rw [h2, h3] at h; cases h
          | some j =>
            rw [h2, h3] at h
            cases h
            exact .of (snd_minD G.calm G.hu (G.gl g1) (G.mgN g2) (ihE a i h2) (ihE e j h3) (fun X => by rw [star_each q4]; rfl) (fun X => stars_any (fun b hb => by rw [List.mem_singleton.mp hb]; exact q4) _ _) (fun X => star_each q4 _ _) (fun X => rfl) (fun X => rfl) fun X => rfl) fun _ _ => rfl
      · cases h
    · -- o.m(a)
      rename_i o name ap a p
      split at h
      · rename_i q
        simp only [Bool.and_eq_true, Bool.not_eq_true'] at q
        obtain ⟨⟨q1, q2⟩, q3⟩ := q
        have mk : MethOk o a [] name ap p := ⟨fun X => base_not q2 name X.env, fun X => by rw [star_each q1]; rfl, q3, fun X => star_each q1 _ _, fun X => rfl⟩
        cases h1 : methOf name with
        | none => rw [h1] at h; cases h
        | some f =>
          cases h2 : comp n c o with
          | none => rw [h1, h2] at h; cases h
          | some i =>
            cases h3 : comp n c a with
            | none => rw [h1, h2, h3] at h; cases h
            | some j =>
              rw [h1, h2, h3] at h
              cases h
              have A : SA Z.D (clN Z.I d) F (WofX Z.cls Wx) [a] (.cons j .nil) := snd_cons (ihE a j h3) snd_nil fun X => star_each q1 _ _
              refine .of ?_ fun _ _ => rfl
              unfold methOf at h1
              repeat' split at h1
              all_goals first | (cases h1; done) | skip
              all_goals (rename_i hq; obtain rfl := beq_iff_eq.mp hq; cases h1)
              · exact snd_partition mk (ihE o i h2) A
              · exact snd_startswith mk (ihE o i h2) A
              · exact snd_index G.hu2 mk (ihE o i h2) A
              · exact snd_append mk (ihE o i h2) A
      · cases h
    · cases h
end
end Mini

/-! Snd22 -/
set_option autoImplicit false
set_option Elab.async false
set_option linter.all false
set_option maxRecDepth 100000
namespace Mini
open PySem PySem.Spec PySem.Calls PyProof.Rows L2

theorem sw_none {e : Expr} (h : isComp e = false) (t : Option Expr) (l : Nat) (env : PySem.Env) : swapsWith e t l env = pure false := by
  cases e <;> first | (simp [isComp] at h; done) | rfl
theorem blockK {env : PySem.Env} {sc : Scope} (h : env.scope = sc) (hk : sc.kind = .function) : env.blockKind = .function := by
  unfold Env.blockKind
  rw [h, hk]
  rfl
theorem sw_name {c : CC} {elt : Expr} {gs : List Comprehension} {scope : Scope} {p q : Pos} {y : Str} {l : Nat} {env : PySem.Env} (hs : env.scope = c.sc) (hk : c.sc.kind = .function) :
    swapsWith (.ListComp elt gs scope p) (some (.Name y q)) l env = pure (swapB c (.Name y q) (.ListComp elt gs scope p)) := by
  have hb := blockK hs hk
  unfold swapsWith swapB
  dsimp only
  rw [hb]
  show pure ((ScopeKind.function == ScopeKind.function) && env.kindOf y == some .local && q.line == p.line && !(scope.names.any fun (n, k) => n == y && (k == .local || k == .cell))) = _
  unfold Env.kindOf
  rw [hs]
  rfl
/-- no tuple on both sides -/
theorem stores_no {tg e : Expr} (h : isTup tg = false ∨ isTup e = false) (hl : ∀ es p, tg ≠ .List es p) (env : PySem.Env) : swappedStores [tg] e env = pure none := by
  unfold swappedStores
  rcases h with h | h
  · cases tg <;> first | (simp [isTup] at h; done) | (exfalso; exact hl _ _ rfl) | rfl
  · cases e <;> first | (simp [isTup] at h; done) | (cases tg <;> rfl)
theorem stores_eq {c : CC} {ts vs : List Expr} {k1 k2 : Nat} {p1 p2 : Pos} {env : PySem.Env} (hs : env.scope = c.sc) (hk : c.sc.kind = .function) : swappedStores [.Tuple ts k1 p1] (.Tuple vs k2 p2) env =
    (if (!(ts.length == 2 || ts.length == 3) || vs.length != ts.length) then pure none
    else if vs.any star then pure none
    else if ((namesOf c ts).length != ts.length || (namesOf c ts).eraseDups.length != (namesOf c ts).length) then pure none
    else if vs.all (foldedForSure 8) then pure none
    else if vs.all (constantsAlone 8) then (do unsupported "assign.tuple-of-constant-expressions:order-of-the-stores"; return some (namesOf c ts))
    else pure (some (namesOf c ts))) := by
  have hb := blockK hs hk
  unfold swappedStores
  dsimp only
  unfold Env.kindOf
  rw [hs, hb]
  rw [show (!(ts.length == 2 || ts.length == 3) || vs.length != ts.length || ScopeKind.function != ScopeKind.function) = (!(ts.length == 2 || ts.length == 3) || vs.length != ts.length) by simp]
  rfl
theorem stores_plain {c : CC} {ts vs : List Expr} {k1 k2 : Nat} {p1 p2 : Pos} {env : PySem.Env} (hs : env.scope = c.sc) (hk : c.sc.kind = .function) (h : storesOf c ts vs = .plain) : swappedStores [.Tuple ts k1 p1] (.Tuple vs k2 p2) env = pure none := by
  rw [stores_eq hs hk]
  unfold storesOf at h
  repeat' split at h
  all_goals first | (cases h; done) | skip
  all_goals simp_all
theorem stores_swap {c : CC} {ts vs : List Expr} {k1 k2 : Nat} {p1 p2 : Pos} {env : PySem.Env} (hs : env.scope = c.sc) (hk : c.sc.kind = .function) (h : storesOf c ts vs = .swapped) : swappedStores [.Tuple ts k1 p1] (.Tuple vs k2 p2) env = pure (some (namesOf c ts)) := by
  rw [stores_eq hs hk]
  unfold storesOf at h
  repeat' split at h
  all_goals first | (cases h; done) | skip
  rename_i q1 q2 q3 q4 q5
  rw [if_neg q1, if_neg q2, if_neg q3, if_neg q4, if_neg q5]
/-- both names are local -/
theorem names_two {c : CC} {x y : Str} {px py : Pos} (h : namesOf c [.Name x px, .Name y py] = [x, y]) : c.sc.names.lookup x = some .local ∧ c.sc.names.lookup y = some .local := by
  unfold namesOf at h
  rw [List.filterMap_cons, List.filterMap_cons, List.filterMap_nil] at h
  dsimp only at h
  by_cases h1 : (c.sc.names.lookup x == some .local && px.line == lineOf [.Name x px, .Name y py]) = true
  · rw [if_pos h1] at h
    by_cases h2 : (c.sc.names.lookup y == some .local && py.line == lineOf [.Name x px, .Name y py]) = true
    · rw [Bool.and_eq_true] at h1 h2
      exact ⟨eq_of_beq h1.1, eq_of_beq h2.1⟩
    · rw [if_neg h2] at h
      simp at h
  · rw [if_neg h1] at h
    dsimp only at h
    split at h
    · cases h
    · simp at h
end Mini

/-! Snd23 -/
set_option autoImplicit false
set_option Elab.async false
set_option linter.all false
set_option maxRecDepth 100000
namespace Mini
open PySem PySem.Spec PySem.Calls PyProof.Rows L2

section
variable {D : Side} {X : Cx}
theorem get_all : PGet X (R2E D X.K idxR) := by
  intro pins s σ H o i ov iv Q I ro ri hh
  obtain ⟨ρ, h, p, q, n, rp, rq, w⟩ := hh
  cases rp with
  | ref er =>
    rename_i r a
    cases rq with
    | int j =>
      unfold idxR idxE at w
      dsimp only at w
      cases e : seqOf h (.ref r) with
      | none => rw [e] at w; exact w.elim
      | some xs =>
        rw [e] at w
        dsimp only at w
        cases e2 : (ixOf xs.length j).bind (xs[·]?) with
        | none => rw [e2] at w; exact w.elim
        | some y =>
          rw [e2] at w
          have ev : view h (.ref r) = .lst xs := by
            unfold seqOf at e
            unfold view
            dsimp only at e ⊢
            cases eo : h[r]? with
            | none => rw [eo] at e; cases e
            | some ob => rw [eo] at e; cases ob <;> cases e; rfl
          obtain ⟨a', vs, e3, hq, rr⟩ := view_lst n (.ref er) ev
          cases e3
          cases ro
          obtain ⟨t, rfl⟩ := ri
          obtain ⟨its, rv, pl, hz⟩ := I.list hq
          obtain ⟨m, hm, hy⟩ := Option.bind_eq_some_iff.mp e2
          obtain ⟨v, hv, rvv⟩ := rr.get hy
          obtain ⟨u, hu, ru⟩ := rv.get hv
          obtain ⟨h1, h2, h3, h4⟩ := ixN_seq (n := xs.length) (i := j) (j := m) hm
          have hl := rv.length
          have hl2 := rr.length
          have hn := line63
          have fin : EP X pins σ Q u s := ⟨v, H, I, ru, want_ok n w rvv⟩
          by_cases h0 : 0 ≤ j
          · have hj : j.toNat = m := by
              rw [seqIndex_of h0 h4] at h1
              exact Option.some.inj h1
            exact wpAny_getItem_list pl.isList h0 (by omega) (by rw [hj]; simpa using hu) fin
          · have hj : (j + (its.toArray.size : Int)).toNat = m := by
              rw [seqIndex_neg (by omega) h3] at h1
              rw [List.size_toArray, ← hl, ← hl2]
              exact Option.some.inj h1
            exact wpAny_getItem_list_neg pl.isList (by omega) (by rw [List.size_toArray] <;> omega) (by omega) (by rw [hj]; simpa using hu) fin
    | _ => exact w.elim
  | _ => exact w.elim
theorem nox_idxR : NoX2 idxR := by
  intro p q h c h' e
  unfold idxR at e
  split at e
  · exact nox_idx _ q h c h' e
  · cases e
end
section
variable {D : Side} {C : Cl} {F : Fam} {W : WW}
/-- o[i] op= e -/
theorem snds_augx {o i e : Expr} {io ii ie : E} {b : Bop} {op : Operator} {tpos pos : Pos} (ho : SE D C F W o io) (hi : SE D C F W i ii) (he : SE D C F W e ie) (hp : ∀ X, F.P X → PIp X op (RgE D F.K b))
    (ha : ∀ ov iv new, augStore i ov iv new = (do holding [new, ov, iv] (setItem ov iv new); release [new, ov, iv] []; pure .next)) : SS D C F W (.AugAssign (.Subscript o i tpos) op e pos) (.augx io ii b ie) := by
  obtain ⟨to, po, so⟩ := ho
  obtain ⟨ti, pi, si⟩ := hi
  obtain ⟨te, pe, se⟩ := he
  refine ⟨tAugS to ti te (R2E D F.K idxR) (RgE D F.K b) (RsE D F.K), fun X hX => ps_augS (po X hX) (pi X hX) (F.hK X hX ▸ get_all) (pe X hX) (hp X hX) (F.hK X hX ▸ set_all) ha, fun L σ H env h ρ De n er w => ?_⟩
  unfold evS at w
  refine so L σ H env h ρ _ n er ?_
  cases ea : evE C L io env h with
  | bad => rw [ea] at w; exact w
  | exc c h1 => rw [ea] at w; exact fun H' ρ' m => w σ H' ρ' m
  | ok p h1 =>
    rw [ea] at w
    intro x H1 ρ1 n1 rp
    dsimp only at w
    refine si L σ H1 env h1 ρ1 _ n1.now (er.mono n1.grow n1.pre) ?_
    cases eb : evE C L ii env h1 with
    | bad => rw [eb] at w; exact w
    | exc c h2 => rw [eb] at w; exact fun H' ρ' m => w σ H' ρ' (n1.trans m)
    | ok q h2 =>
      rw [eb] at w
      intro y H2 ρ2 n2 rq
      dsimp only at w
      have n12 := n1.trans n2
      refine ⟨ρ2, h2, p, q, n2.now, rp.mono n2.grow n2.pre, rq, ?_⟩
      cases ec : idxR p q h2 with
      | bad => rw [ec] at w; exact w
      | exc c h3 => exact absurd ec (nox_idxR p q h2 c h3)
      | ok z h3 =>
        rw [ec] at w
        intro old H3 ρ3 n3 rz
        dsimp only at w
        have n13 := n12.trans n3
        refine se L σ H3 env h3 ρ3 _ n3.now (er.mono n13.grow n13.pre) ?_
        cases ed : evE C L ie env h3 with
        | bad => rw [ed] at w; exact w
        | exc c h4 => rw [ed] at w; exact fun H' ρ' m => w σ H' ρ' (n13.trans m)
        | ok u h4 =>
          rw [ed] at w
          intro uv H4 ρ4 n4 ru
          dsimp only at w
          have n14 := n13.trans n4
          refine ⟨ρ4, h4, z, u, L, n4.now, rz.mono n4.grow n4.pre, ru, ?_⟩
          cases ee : augE b z u L h4 with
          | bad => rw [ee] at w; exact w
          | exc c h5 => exact absurd ee (nox_aug b z u L h4 c h5)
          | ok r h5 =>
            rw [ee] at w
            intro rv H5 ρ5 n5 rr
            dsimp only at w
            have n15 := n14.trans n5
            have g25 := (n3.trans n4).trans n5
            cases ef : setE p q r L h5 with
            | none => rw [ef] at w; exact w.elim
            | some h6 =>
              rw [ef] at w
              exact ⟨ρ5, h5, p, q, r, L, n5.now, rp.mono (n2.trans g25).grow (n2.trans g25).pre, rq.mono g25.grow g25.pre, rr, h6, ef, fun H6 n6 => w σ H6 ρ5 (n15.trans n6) (er.mono (n15.trans n6).grow (n15.trans n6).pre)⟩
theorem cSs_ok {f : Stmt → Option S} : ∀ {ss : List Stmt} {is : Ss}, (∀ s ∈ ss, ∀ i, f s = some i → SS D C F W s i) → cSs f ss = some is → SSs D C F W ss is
  | [], is, _, h => by unfold cSs at h; cases h; exact sndss_nil
  | s :: ss, is, hf, h => by
    unfold cSs at h
    cases h1 : f s with
    | none => rw [h1] at h; cases h
    | some i =>
      cases h2 : cSs f ss with
      | none => rw [h1, h2] at h; cases h
      | some js =>
        rw [h1, h2] at h
        cases h
        exact sndss_cons (hf s (List.mem_cons_self ..) i h1) (cSs_ok (fun a ha => hf a (List.mem_cons_of_mem _ ha)) h2)
end

section
variable {Z : Wd} {d : Nat}
abbrev SSw (Z : Wd) (d : Nat) (F : Fam) (Wx : WX) (s : Stmt) (ir : S) : Prop := SS Z.D (clN Z.I d) F (WofX Z.cls Wx) s ir
theorem ip_ok {F : Fam} {op : Operator} {o : Bop} (h : ipOf op = some o) : ∀ X, F.P X → PIp X op (RgE Z.D F.K o) := fun X hX => by
  rw [← F.hK X hX]
  cases op <;> cases h
  · exact opr_iadd
  · exact opr_isub
  · exact opr_imul
theorem aug_plain {i : Expr} (h : isSlice i = false) (ov iv new : Value) : augStore i ov iv new = (do holding [new, ov, iv] (setItem ov iv new); release [new, ov, iv] []; pure .next) := by
  cases i <;> first | (simp [isSlice] at h; done) | rfl
theorem asg_sub (o i : Expr) (hsl : isSlice i = false) (p : Pos) (env : PySem.Env) (v : Value) : assign (.Subscript o i p) env v = (do
      let ov ← holding [v] (eval o env)
      let iv ← holding [v, ov] (eval i env)
      standAt p
      holding [v, ov, iv] (setItem ov iv v)
      release [v, ov, iv] []) := by
  rw [assign]
  cases i <;> first | (simp [isSlice] at hsl; done) | rfl
theorem sole {tg e : Expr} {l : Nat} {env : PySem.Env} : swapsWithSole [tg] e l env = swapsWith e (some tg) l env := rfl
theorem one_store {tg : Expr} (h : star tg = false) (env : PySem.Env) : (assignEach [tg] env).map (·.2) = [assign tg env] := by
  rw [asg_each h]
  rfl
theorem not_list {n : Nat} {c : CC} {tg : Expr} {t : T} (h : cT n c tg = some t) : star tg = false ∧ ∀ es p, tg ≠ .List es p := by
  cases n with
  | zero => unfold cT at h; cases h
  | succ n =>
    cases tg <;> first
      | (unfold cT at h; cases h; done)
      | exact ⟨rfl, fun _ _ q => by cases q⟩
/-- a comprehension's parts -/
theorem lc_parts (O : Z.Ok d) {n : Nat} {c : CC} {F : Fam} {k : Nat} {Wx : WX} (G : FamG Z F k c.N c.sc c.tp Wx) (T : GOk Z c.tx) (hk : lev d + c.rm ≤ k) {elt : Expr} {gs : List Comprehension} {scope : Scope} {p : Pos} {e : E} (h : comp n c (.ListComp elt gs scope p) = some e) :
    ∃ tg it ifs t s is ic ie, gs = [⟨tg, it, ifs, 0⟩] ∧ e = .comp (c.muts p) ((ownOf c.N scope).map (·.2)) t s is ic ie ∧ CompOk Z.D (clN Z.I d) F (WofX Z.cls Wx) tg it elt ifs scope (ownOf c.N scope) t s is ic ie := by
  cases n with
  | zero => unfold comp at h; cases h
  | succ n =>
    have ihE : ∀ e i, comp n c e = some i → SEw Z d F Wx e i := fun e i h => (comp_ok O n c F k Wx G T hk e i h).1
    unfold comp at h
    split at h <;> first | (rename_i q; cases q; done) | (rename_i q _; cases q; done) | (rename_i q _ _; cases q; done) | skip
    · rename_i elt' tg it ifs scope' p' q0
      cases q0
      split at h
      · rename_i q
        rw [Bool.and_eq_true, Bool.not_eq_true'] at q
        have Gb := G.blk (scope := scope) (blkOk_by q.1).kind
        have ihb : ∀ e i, comp n (c.inner scope) e = some i → SBw Z d (F.blk scope) (fun _ _ _ _ => False) e i := fun e i h => comp_ok O n (c.inner scope) (F.blk scope) k (fun _ _ _ _ => False) Gb T hk e i h
        cases h1 : cSrc c (comp n c) tg it with
        | none => rw [h1] at h; cases h
        | some si =>
          obtain ⟨s, is⟩ := si
          cases h2 : cT n (c.inner scope) tg with
          | none => rw [h1, h2] at h; cases h
          | some t =>
            have tst : ∀ ic, cIfs (comp n (c.inner scope)) ifs = some ic → STs Z.D (clN Z.I d) (F.blk scope) W0 ifs ic := by
              intro ic hh
              unfold cIfs at hh
              split at hh
              · cases hh; exact snd_tests0
              · exact snd_tests1 (ihb _ ic hh).2
              · cases hh
            cases h3 : cIfs (comp n (c.inner scope)) ifs with
            | none => rw [h1, h2, h3] at h; cases h
            | some ic =>
              cases h4 : comp n (c.inner scope) elt with
              | none => rw [h1, h2, h3, h4] at h; cases h
              | some ie =>
                rw [h1, h2, h3, h4] at h
                dsimp only at h
                split at h
                · rename_i hsl
                  cases h
                  obtain ⟨t1, t2⟩ := (cT_ok (c := c.inner scope) Gb n).1 tg t h2
                  refine ⟨tg, it, ifs, t, s, is, ic, ie, rfl, rfl, ⟨G.calm, G.hnd, cSrc_ok G T ihE h1, fun X hX => ?_, t1, tst ic h3, (ihb elt ie h4).1, fun i hi => ?_, fun L env h => fr_E (clN Z.I d) (frm_N Z.I d) ic L env h, fun L env h => fr_E (clN Z.I d) (frm_N Z.I d) ie L env h, fun X x => fold_not q.2 X.env x⟩⟩
                  · rw [G.hN X hX, G.hSc X hX]; exact blkOk_by q.1
                  · rw [t2] at hi
                    have := List.all_eq_true.mp hsl i hi
                    simpa using this
                · cases h
      · cases h
    · cases h
/-- THE COMPILER IS RIGHT: statements -/
theorem compS_ok (O : Z.Ok d) : ∀ (n : Nat) (c : CC) (F : Fam) (k : Nat) (Wx : WX), FamG Z F k c.N c.sc c.tp Wx → GOk Z c.tx → lev d + c.rm ≤ k → ∀ (s : Stmt) (ir : S), compS n c s = some ir → SSw Z d F Wx s ir
  | 0, c, F, k, Wx, G, T, hk, s, ir, h => by unfold compS at h; cases h
  | n + 1, c, F, k, Wx, G, T, hk, s, ir, h => by
    have ih : ∀ s i, compS n c s = some i → SSw Z d F Wx s i := fun s i h => compS_ok O n c F k Wx G T hk s i h
    have ihB : ∀ e i, comp n c e = some i → SBw Z d F Wx e i := fun e i h => comp_ok O n c F k Wx G T hk e i h
    have ihE : ∀ e i, comp n c e = some i → SEw Z d F Wx e i := fun e i h => (ihB e i h).1
    have ihS : ∀ ss is, cSs (compS n c) ss = some is → SSs Z.D (clN Z.I d) F (WofX Z.cls Wx) ss is := fun ss is h => cSs_ok (fun s _ i h => ih s i h) h
    have frS : ∀ (is : Ss) (L : Lk) (env : Env) (h : Hh), FrO L h (evSs (clN Z.I d) L is env h) := fun is L env h => fr_Ss (clN Z.I d) (frm_N Z.I d) is L env h
    unfold compS at h
    split at h
    · -- y = [.. for ..]
      rename_i y q elt gs scope p pos
      split at h
      · rename_i hsw
        cases h0 : (c.top && (c.sc.names.lookup y == some .local)) with
        | false => rw [h0] at h; cases h
        | true =>
          cases h1 : slotOf c.N y with
          | none => rw [h0, h1] at h; cases h
          | some i =>
            cases h2 : comp n c (.ListComp elt gs scope p) with
            | none => rw [h0, h1, h2] at h; cases h
            | some e =>
              rw [h0, h1, h2] at h
              cases h
              rw [Bool.and_eq_true] at h0
              obtain ⟨tg, it, ifs, t, s, is, ic, ie, rfl, rfl, ck⟩ := lc_parts O G T hk h2
              exact snds_setLc ck (G.at (slot_at h1)) (fun X hX => by rw [G.hSc X hX]; exact eq_of_beq h0.2) fun X hX => by rw [sw_name (G.hSc X hX) G.kind, hsw]
      · rename_i hsw
        rw [Bool.not_eq_true] at hsw
        cases h1 : cT n c (.Name y q) with
        | none => rw [h1] at h; cases h
        | some t =>
          cases h2 : comp n c (.ListComp elt gs scope p) with
          | none => rw [h1, h2] at h; cases h
          | some e =>
            rw [h1, h2] at h
            cases h
            exact snds_asg (ihE _ e h2) ((cT_ok G n).1 _ t h1).1 (fun X hX => by rw [sole, sw_name (G.hSc X hX) G.kind, hsw]) (fun X hX => stores_no (.inl rfl) (fun _ _ q => by cases q) _) (fun X => rfl)
    · -- a, b = x, y
      rename_i ts k1 tp vs k2 vp pos
      split at h
      · rename_i hst
        cases h1 : cT n c (.Tuple ts k1 tp) with
        | none => rw [h1] at h; cases h
        | some t =>
          cases h2 : comp n c (.Tuple vs k2 vp) with
          | none => rw [h1, h2] at h; cases h
          | some e =>
            rw [h1, h2] at h
            cases h
            exact snds_asg (ihE _ e h2) ((cT_ok G n).1 _ t h1).1 (fun X hX => rfl) (fun X hX => stores_plain (G.hSc X hX) G.kind hst) (fun X => rfl)
      · rename_i hst
        split at h
        · rename_i x px y py a b
          cases h1 : slotOf c.N x with
          | none => rw [h1] at h; cases h
          | some i =>
            cases h2 : slotOf c.N y with
            | none => rw [h1, h2] at h; cases h
            | some j =>
              cases h3 : cEs (comp n c) [a, b] with
              | none => rw [h1, h2, h3] at h; cases h
              | some is =>
                rw [h1, h2, h3] at h
                dsimp only at h
                split at h
                · cases h
                · rename_i hc
                  cases h
                  simp only [Bool.or_eq_true, not_or, Bool.not_eq_true', Bool.not_eq_false] at hc
                  have hij : i ≠ j := fun z => hc.1 (by rw [z]; simp)
                  have hn := eq_of_beq hc.2
                  obtain ⟨n1, n2⟩ := names_two hn
                  have A := cEs_ok (D := Z.D) (C := clN Z.I d) (W := WofX Z.cls Wx) (fun e _ i h => ihE e i h) h3
                  have hl := cEs_len h3
                  cases is with
                  | nil => cases hl
                  | cons ia js =>
                    cases js with
                    | nil => cases hl
                    | cons ib ks =>
                      cases ks with
                      | cons _ _ => simp [Es.len] at hl
                      | nil =>
                        exact snds_par G.calm G.hnd (G.at (slot_at h1)) (G.at (slot_at h2)) hij (fun X hX => by rw [G.hSc X hX]; exact n1) (fun X hX => by rw [G.hSc X hX]; exact n2) A
                          (fun X hX => by rw [stores_swap (G.hSc X hX) G.kind hst, hn]) fun X hX => rfl
        · cases h
      · cases h
    · -- o[i] = e
      rename_i o i p e pos
      split at h
      · cases h
      · rename_i hc
        simp only [Bool.or_eq_true, not_or, Bool.not_eq_true] at hc
        cases h1 : comp n c e with
        | none => rw [h1] at h; cases h
        | some x =>
          cases h2 : comp n c o with
          | none => rw [h1, h2] at h; cases h
          | some y =>
            cases h3 : comp n c i with
            | none => rw [h1, h2, h3] at h; cases h
            | some z =>
              rw [h1, h2, h3] at h
              cases h
              exact snds_set (ihE e x h1) (ihE o y h2) (ihE i z h3) (fun X v => asg_sub o i hc.2 p X.env v) (fun X hX => by rw [sole, sw_none hc.1]) (fun X hX => stores_no (.inl rfl) (fun _ _ q => by cases q) _) fun X => rfl
    · rename_i tg e pos xs xl xt
      split at h
      · cases h
      · rename_i hc
        simp only [Bool.or_eq_true, not_or, Bool.not_eq_true] at hc
        cases h1 : cT n c tg with
        | none => rw [h1] at h; cases h
        | some t =>
          cases h2 : comp n c e with
          | none => rw [h1, h2] at h; cases h
          | some i =>
            rw [h1, h2] at h
            cases h
            refine snds_asg (ihE e i h2) ((cT_ok G n).1 _ t h1).1 (fun X hX => by rw [sole, sw_none hc.1]) (fun X hX => stores_no ?_ (not_list h1).2 _) fun X => one_store hc.2 X.env
            by_cases z : isTup tg = true
            · obtain ⟨es, k1, p1, rfl⟩ := is_tup z
              by_cases z2 : isTup e = true
              · obtain ⟨es2, k2, p2, rfl⟩ := is_tup z2
                first | exact (xt _ _ _ _ _ _ rfl rfl).elim | exact (xl _ _ _ _ _ _ rfl rfl).elim | exact (xs _ _ _ _ _ _ rfl rfl).elim
              · exact .inr (by simpa using z2)
            · exact .inl (by simpa using z)
    · -- x op= e
      rename_i x p op e pos
      cases h1 : ipOf op with
      | none => rw [h1] at h; cases h
      | some o =>
        cases h2 : c.loc x with
        | false => rw [h1, h2] at h; cases h
        | true =>
          cases h3 : slotOf c.N x with
          | none => rw [h1, h2, h3] at h; cases h
          | some i =>
            cases h4 : comp n c e with
            | none => rw [h1, h2, h3, h4] at h; cases h
            | some v =>
              rw [h1, h2, h3, h4] at h
              cases h
              obtain ⟨l1, l2⟩ := loc_of h2
              exact snds_aug G.hnd (G.at (slot_at h3)) (G.loc l1) (fun X hX => l2.elim (fun ht => .inl (G.fn ht X hX x)) fun hn => .inr (by rw [G.hSc X hX]; exact hn)) (ip_ok h1) (ihE e v h4)
    · -- o[i] op= e
      rename_i o i p op e pos
      split at h
      · cases h
      · rename_i hs
        rw [Bool.not_eq_true] at hs
        cases h1 : ipOf op with
        | none => rw [h1] at h; cases h
        | some q =>
          cases h2 : comp n c o with
          | none => rw [h1, h2] at h; cases h
          | some x =>
            cases h3 : comp n c i with
            | none => rw [h1, h2, h3] at h; cases h
            | some y =>
              cases h4 : comp n c e with
              | none => rw [h1, h2, h3, h4] at h; cases h
              | some v =>
                rw [h1, h2, h3, h4] at h
                cases h
                exact snds_augx (ihE o x h2) (ihE i y h3) (ihE e v h4) (ip_ok h1) (aug_plain hs)
    · rename_i e pos
      split at h
      · cases h
      · rename_i hc
        rw [Bool.not_eq_true] at hc
        obtain ⟨i, h1, rfl⟩ := Option.map_eq_some_iff.mp h
        exact snds_expr (ihE e i h1) fun X hX => sw_none hc _ _ _
    · -- if
      rename_i t a b pos
      cases h1 : comp n c t with
      | none => rw [h1] at h; cases h
      | some i =>
        cases h2 : cSs (compS n c) a with
        | none => rw [h1, h2] at h; cases h
        | some x =>
          cases h3 : cSs (compS n c) b with
          | none => rw [h1, h2, h3] at h; cases h
          | some y =>
            rw [h1, h2, h3] at h
            cases h
            exact snds_ife (ihB t i h1).2 (ihS a x h2) (ihS b y h3)
    · -- for
      rename_i tg it b pos
      split at h
      · cases h
      · rename_i hs
        rw [Bool.not_eq_true] at hs
        cases h1 : cSrc c (comp n c) tg it with
        | none => rw [h1] at h; cases h
        | some si =>
          obtain ⟨s, is⟩ := si
          cases h2 : cT n c tg with
          | none => rw [h1, h2] at h; cases h
          | some t =>
            cases h3 : cSs (compS n c) b with
            | none => rw [h1, h2, h3] at h; cases h
            | some x =>
              rw [h1, h2, h3] at h
              cases h
              exact snds_for G.own G.calm (cSrc_ok G T ihE h1) ((cT_ok G n).1 tg t h2).1 (ihS b x h3) (fun X x => fold_not hs X.env x) fun L env h => frS x L env h
    · -- while
      rename_i t b pos
      cases h1 : comp n c t with
      | none => rw [h1] at h; cases h
      | some i =>
        cases h2 : cSs (compS n c) b with
        | none => rw [h1, h2] at h; cases h
        | some x =>
          rw [h1, h2] at h
          cases h
          exact snds_whl G.own (ihB t i h1).2 (ihS b x h2)
    · cases h; exact snds_retN
    · obtain ⟨i, h1, rfl⟩ := Option.map_eq_some_iff.mp h
      exact snds_ret (ihE _ i h1)
    · -- raise
      rename_i x p1 m j p2 p3 pos
      split at h
      · rename_i hc
        rw [Bool.and_eq_true] at hc
        cases hl : c.tx.gt.lookup x with
        | none => rw [hl] at h; cases h
        | some g =>
          rw [hl] at h
          cases g with
          | exc i =>
            cases h
            obtain ⟨m1, m2, ⟨B, newId, initId, bmB, m3, m4⟩, m5, m6⟩ := T.exc x i hl
            refine snds_raise G.calm G.tk (fun σ H => rfl) fun X hX => ?_
            have hK : X.K = Z.K := (F.hK X hX).trans G.hK
            exact pmk_own m3 (by rw [hK]; exact m4) (G.mgS m1 X hX) (by rw [hK]; exact m2) (raises_own (by rw [hK]; exact m5) (by rw [hK]; exact m6)) (G.gl (gl_of hc.1) X hX) (plain_name hc.2).1
          | fn _ _ => cases h
          | con _ => cases h
      · cases h
    · cases h; exact snds_brk
    · cases h; exact snds_cnt
    · cases h; exact snds_pass
    · cases h
end
end Mini

/-! Bd7 -/
set_option autoImplicit false
set_option Elab.async false
set_option linter.all false
set_option maxRecDepth 100000
set_option maxHeartbeats 2000000
namespace Mini
open PySem PySem.Spec PySem.Calls PyProof.Rows L2

/-! ### bad = [lambda: .., ..], all of them told to be refused -/
def badE : E := .idx (.lit .non) (.lit .non)
def oneE (k : Nat) (ret : List Nat) (e : E) : E := .cmp .eq (.told k ret e) (.lit (.str ret))
def chainS (k : Nat) (ret : List Nat) : List E → Ss → Ss
  | [], r => r
  | e :: es, r => .cons (.ife (oneE k ret e) .nil (.cons (.expr badE) .nil)) (chainS k ret es r)
def chainE (C : Cl) (L : Lk) (k : Nat) (ret : List Nat) (env : Env) : List E → Hh → Option Hh
  | [], h => some h
  | e :: es, h => match evE C L (oneE k ret e) env h with
    | .ok (.bl true) h => chainE C L k ret env es h
    | _ => none
theorem one_noexc (C : Cl) (L : Lk) (k : Nat) (ret : List Nat) (e : E) (env : Env) (h : Hh) : ∀ c h', evE C L (oneE k ret e) env h ≠ .exc c h' := by
  intro c h' z
  unfold oneE at z
  simp only [evE] at z
  cases ea : evE C L e env h with
  | bad => rw [ea] at z; cases z
  | ok p h1 => rw [ea] at z; exact nox_cmp .eq p _ h1 c h' z
  | exc i h1 =>
    rw [ea] at z
    dsimp only at z
    by_cases q : C.isa i k = true
    · rw [if_pos q] at z; exact nox_cmp .eq _ _ h1 c h' z
    · rw [if_neg q] at z; cases z
theorem chain_ev (C : Cl) (L : Lk) (k : Nat) (ret : List Nat) (env : Env) (r : Ss) : ∀ (es : List E) (h : Hh), evSs C L (chainS k ret es r) env h = (match chainE C L k ret env es h with
    | some h => evSs C L r env h
    | none => .bad)
  | [], h => rfl
  | e :: es, h => by
    have nx := one_noexc C L k ret e env h
    rw [chainS, chainE]
    simp only [evSs, evS]
    cases ea : evE C L (oneE k ret e) env h with
    | bad => rfl
    | exc c h1 => exact absurd ea (nx c h1)
    | ok p h1 =>
      cases p with
      | bl b =>
        cases b with
        | true => exact chain_ev C L k ret env r es h1
        | false => simp only [badE, evE, evSs, evS, idxE, seqOf]
      | _ => rfl
/-- how an item of the chain ends well -/
theorem one_true {C : Cl} {L : Lk} {k : Nat} {ret : List Nat} {e : E} {env : Env} {h h1 : Hh} (z : evE C L (oneE k ret e) env h = .ok (.bl true) h1) :
    (∃ p, evE C L e env h = .ok p h1 ∧ cmpE .eq p (.str ret) h1 = .ok (.bl true) h1) ∨ ∃ c, evE C L e env h = .exc c h1 ∧ C.isa c k = true := by
  unfold oneE at z
  simp only [evE] at z
  have same : ∀ p q h2 h3 v, cmpE .eq p q h2 = .ok v h3 → h2 = h3 := by
    intro p q h2 h3 v z
    unfold cmpE at z
    dsimp only at z
    split at z <;> cases z
    rfl
  cases ea : evE C L e env h with
  | bad => rw [ea] at z; cases z
  | ok p h2 =>
    rw [ea] at z
    obtain rfl := same _ _ _ _ _ z
    exact .inl ⟨p, rfl, z⟩
  | exc i h2 =>
    rw [ea] at z
    dsimp only at z
    by_cases q : C.isa i k = true
    · rw [if_pos q] at z
      obtain rfl := same _ _ _ _ _ z
      exact .inr ⟨i, rfl, q⟩
    · rw [if_neg q] at z; cases z
/-- a list that is locked as soon as it is there -/
def tLk (t : TE) : TE := fun σ H Q => t σ H fun v H1 => ∃ p vs, v = .ref p ∧ H1 p = some (.lst vs) ∧ ∀ o, Q v (upd H1 p (.frz o (.lst vs)))
theorem pe_lk {X : Cx} {e : Expr} {t : TE} (h : PE X e t) : PE X e (tLk t) := by
  refine ⟨fun pins s σ H Q I hw => thn (h.run pins s σ H _ I hw) fun u s1 hq => ?_⟩
  obtain ⟨x, H1, I1, r1, p, vs, rfl, hp, q⟩ := hq
  obtain ⟨od, I2⟩ := I1.lock hp trivial
  exact ⟨.ref p, _, I2, r1, q od⟩
theorem off_rho {D : Side} {K : PySem.W.Frag} {ρ : List Addr} {h : Hh} {H : Hp} (n : Now D K ρ h H) {a : Addr} {o : HO} (e : H a = some o) (ne : ∀ vs, o ≠ .lst vs) : a ∉ ρ := fun hm => by
  obtain ⟨i, hi, ei⟩ := List.getElem_of_mem hm
  have hl : i < h.length := by rw [← n.rep.len]; exact hi
  obtain ⟨b, eb, ob⟩ := n.rep.at_ i _ (List.getElem?_eq_getElem hl)
  rw [List.getElem?_eq_getElem hi, ei] at eb
  cases eb
  cases eo : h[i] with
  | lst ps =>
    rw [eo] at ob
    obtain ⟨vs, q, _⟩ := ob
    rw [e] at q
    cases q
    exact ne _ rfl
  | dic _ => rw [eo] at ob; exact ob.elim
  | ins _ _ => rw [eo] at ob; exact ob.elim
theorem off_none {D : Side} {K : PySem.W.Frag} {ρ : List Addr} {h : Hh} {H : Hp} (n : Now D K ρ h H) {a : Addr} (e : H a = none) : a ∉ ρ := fun hm => by
  obtain ⟨i, hi, ei⟩ := List.getElem_of_mem hm
  have hl : i < h.length := by rw [← n.rep.len]; exact hi
  obtain ⟨b, eb, ob⟩ := n.rep.at_ i _ (List.getElem?_eq_getElem hl)
  rw [List.getElem?_eq_getElem hi, ei] at eb
  cases eb
  exact ob.ne e rfl

section
variable {Z : Wd} {d : Nat} {F : Fam} {k : Nat}
structure LamB (Z : Wd) (d : Nat) (F : Fam) (k : Nat) where
  body : Expr
  scope : Scope
  pos : Pos
  ir : E
  hb : ∀ E : XK, SE Z.D (clN Z.I d) (F.lam (k - 2) E scope) (WofX Z.cls (fun cls dd _ H => E cls dd H)) body ir
noncomputable def LamB.le (l : LamB Z d F k) : LamE := ⟨l.body, l.scope, fun E => Classical.choose (l.hb E)⟩
def LamB.tr (l : LamB Z d F k) : Expr × Scope × Pos := (l.body, l.scope, l.pos)
/-- one is held -/
def Held1 (env : PySem.Env) (H : Hp) (l : LamB Z d F k) (p : Addr × Addr) : Prop := H p.1 = some (.ext (LamF env l.body l.scope p.1 p.2)) ∧ H p.2 = some (LamX.CodeO p.2 (env.qual ++ "<lambda>"))
theorem held_on {env : PySem.Env} {H H' : Hp} {l : LamB Z d F k} {p : Addr × Addr} (h : Held1 env H l p) (g : ∀ a o, H a = some o → (∀ ps, o ≠ .tbl ps) → (∀ vs, o ≠ .lst vs) → H' a = some o) : Held1 env H' l p :=
  ⟨g _ _ h.1 (fun _ z => nomatch z) (fun _ z => nomatch z), g _ _ h.2 LamX.codeO_ne (fun vs z => by unfold LamX.CodeO at z; cases z)⟩
theorem ext_not_tbl {o : HO} (h : ∀ ps, o ≠ .tbl ps) : ¬ IsTbl o := fun z => by
  cases o <;> first | exact z.elim | exact h _ rfl
/-- a held fact that is new since H is no longer told of -/
theorem nxt_del2 {D : Side} {K : PySem.W.Frag} {ρ ρ1 : List Addr} {H H1 : Hp} {h1 : Hh} {f : Addr} {φ : Heap → Prop} (n : Nxt D K ρ H ρ1 h1 H1) (nf : ∀ u, H f = some u → IsTbl u) (hf : H1 f = some (.ext φ)) (sd : D.T (delH H1 f)) : Nxt D K ρ H ρ1 h1 (delH H1 f) := by
  refine ⟨n.grow.trans (grow_del hf), n.pre, ⟨n.rep.len, n.rep.nd, fun i o ei => ?_⟩, sd, fun a o e m t => ?_, fun a o e t => ?_, n.fresh⟩
  · obtain ⟨a, ea, ob⟩ := n.rep.at_ i o ei
    refine ⟨a, ea, ob.mono (grow_del hf) (List.prefix_refl _) (delH_ne fun z => ?_)⟩
    cases o with
    | lst ps =>
      obtain ⟨vs, q, _⟩ := ob
      rw [z, hf] at q
      cases q
    | _ => exact ob.elim
  · rw [delH_ne (fun z => t (nf o (by rw [← z]; exact e)))]; exact n.off a o e m t
  · rw [delH_ne (fun z => t (nf o (by rw [← z]; exact e)))]; exact n.dom a o e t
/-- a code object is no function -/
theorem code_ne_lam {env : PySem.Env} {body : Expr} {scope : Scope} {f c' a : Addr} {q : Str} (z : HO.ext (LamF env body scope f c') = LamX.CodeO a q) : f ≠ a := by
  rintro rfl
  unfold LamX.CodeO at z
  injection z with z
  let o : Obj := { cls := .none, data := .fields #[.none, .str q 0] }
  have hg : (⟨Array.replicate (f + 1) o, {}⟩ : Heap).get? f = some o := by
    show (match (Array.replicate (f + 1) o)[f]? with | some ⟨_, _, .freed, _⟩ => none | o => o) = some o
    rw [Array.getElem?_replicate, if_pos (Nat.lt_succ_self f)]
  have y := congrFun z (⟨Array.replicate (f + 1) o, {}⟩ : Heap)
  have : LamF env body scope f c' (⟨Array.replicate (f + 1) o, {}⟩ : Heap) := by
    rw [y]
    exact ⟨o, _, 0, hg, rfl, rfl⟩
  obtain ⟨pm, ctv, e⟩ := this
  rw [hg] at e
  have := congrArg (fun x => x.map Obj.data) e
  cases this
/-- the list is made -/
theorem lams_made {T : List (Addr × TabNm)} {env : PySem.Env} {σ : L2.St} {h : Hh} {ρ : List Addr} {H0 : Hp} (hD : Z.D = tabSide T) : ∀ (ls : List (LamB Z d F k)) (Q : List V → Hp → Prop) (H : Hp), Nxt Z.D F.K ρ H0 ρ h H →
    (∀ (fs : List (Addr × Addr)) (H1 : Hp), Nxt Z.D F.K ρ H0 ρ h H1 → (∀ a o, H a = some o → (∀ ps, o ≠ .tbl ps) → H1 a = some o) → fs.length = ls.length → (∀ (j : Nat) l p, ls[j]? = some l → fs[j]? = some p → Held1 env H1 l p ∧ ∀ u, H p.1 = some u → IsTbl u) → (fs.map (·.1)).Nodup → Q (fs.map fun p => .ref p.1) H1) →
    tLams T env (ls.map LamB.tr) σ H Q
  | [], Q, H, n, w => w [] H n (fun _ _ e _ => e) rfl (fun j l p e => by simp at e) (by simp)
  | l :: ls, Q, H, n, w => by
    refine ⟨by have := n.side; rw [hD] at this; exact this, fun H1 f c' ext tab nf co => ?_⟩
    have n1 : Nxt Z.D F.K ρ H0 ρ h H1 := n.trans (ext_nxt n.now ext (by rw [hD]; exact tab))
    have nHf : ∀ u, H f = some u → IsTbl u := fun u e => Classical.byContradiction fun t => by
      have := ext f u e (fun ps z => t (by rw [z]; trivial))
      rw [nf] at this; cases this
    obtain ⟨H2, e2⟩ : ∃ H2, upd H1 f (.ext (LamF env l.body l.scope f c')) = H2 := ⟨_, rfl⟩
    have n2 : Nxt Z.D F.K ρ H0 ρ h H2 := by rw [← e2]; exact n1.trans (n1.now.new nf)
    have e02 : ∀ a o, H a = some o → (∀ ps, o ≠ .tbl ps) → H2 a = some o := fun a o e ne => by
      have z := ext a o e ne
      rw [← e2, upd_ne (ne_of_none z nf)]; exact z
    have held2 : Held1 env H2 l (f, c') := by
      refine ⟨by rw [← e2]; exact upd_same, ?_⟩
      rw [← e2, upd_ne (ne_of_none co nf)]; exact co
    have step := lams_made (σ := σ) (env := env) (T := T) hD ls (fun xs H' => Q (.ref f :: xs) H') H2 n2 fun fs H3 n3 g3 l3 hh3 nd3 => ?_
    · show tLams T env (ls.map LamB.tr) σ (upd H1 f (.ext (LamF env l.body l.scope f c'))) _
      rw [e2]; exact step
    · refine w ((f, c') :: fs) H3 n3 (fun a o e ne => g3 a o (e02 a o e ne) ne) (by simp [l3]) (fun j l' p el ep => ?_) ?_
      · cases j with
        | zero =>
          simp at el ep
          subst el ep
          exact ⟨held_on held2 fun a o e n1 _ => g3 a o e n1, nHf⟩
        | succ j =>
          simp at el ep
          obtain ⟨a1, a2⟩ := hh3 j l' p el ep
          refine ⟨a1, fun u e => Classical.byContradiction fun t => t ?_⟩
          exact a2 u (e02 _ _ e fun ps z => t (by rw [z]; trivial))
      · rw [List.map_cons, List.nodup_cons]
        refine ⟨fun hm => ?_, nd3⟩
        obtain ⟨p, hp, ef⟩ := List.mem_map.mp hm
        obtain ⟨j, hj, ej⟩ := List.getElem_of_mem hp
        have hl : j < ls.length := by rw [← l3]; exact hj
        obtain ⟨_, a2⟩ := hh3 j _ p (List.getElem?_eq_getElem hl) (by rw [List.getElem?_eq_getElem hj, ej])
        exact (show False from a2 (.ext (LamF env l.body l.scope f c')) (by rw [ef]; exact held2.1))

/-! ### the test -/
variable {Tb : List (Addr × TabNm)} {e0 : PySem.Env} {i j : Nat} {vs : List Nat} {kk : Nat} {rt : Str} {tE : TE} {co : Cop}
noncomputable def tBadO (Z : Wd) (F : Fam) (co : Cop) (Tb : List (Addr × TabNm)) (e0 : PySem.Env) (ls : List (LamB Z d F k)) (i j : Nat) (vs : List Nat) (kk : Nat) (rt : Str) (tE : TE) : TE :=
  tOp (R2E Z.D F.K (cmpE co)) (tLk (fun σ H Q => tLc (iAny F.K (tVar i)) (gName j) (tTest (tOp (R2E Z.D F.K (cmpE .ne)) (tToldB Tb e0 (LamX.TTold F.K (Z.cls kk) rt) (ls.map LamB.le) j σ) (tC (.str rt)))) (tC (.int 1)) vs σ H Q)) tE
/-- what the test reads: every lambda is refused as it should be -/
theorem bad_read {c : CC} {h hE : Hh} {ρ0 ρ : List Addr} {H0 H : Hp} {σ : L2.St} {env : Env} {L : Lk} {ls : List (LamB Z d F k)} {fs : List (Addr × Addr)} {p : Addr} {b : Bool} (T : GOk Z c.tx) (hK : F.K = Z.K) (hD : Z.D = tabSide Tb)
    (tEr : ∀ (L : Lk) (σ : L2.St) (H : Hp) (env : Env) (h : Hh) (ρ : List Addr) (Q : VK), Now Z.D F.K ρ h H → EnvR F.K ρ H env σ → (∀ v H' ρ', Nxt Z.D F.K ρ H ρ' h H' → Rep F.K ρ' H' (.lst []) v → Q v H') → tE σ H Q)
    (hco : ∀ h, cmpE co (.lst []) (.lst []) h = .ok (.bl b) h) (hjs : j ∈ vs) (hjl : j < σ.length)
    (n : Nxt Z.D F.K ρ0 H0 ρ h H) (er : EnvR F.K ρ0 H0 env σ) (hp : H p = some (.lst (fs.map fun q => .ref q.1))) (np : p ∉ ρ) (hi : σ[i]? = some (some (.ref p))) (hl : fs.length = ls.length)
    (held : ∀ (j : Nat) l q, ls[j]? = some l → fs[j]? = some q → Held1 e0 H l q ∧ ∀ u, H0 q.1 = some u → IsTbl u) (nd : (fs.map (·.1)).Nodup)
    (w : chainE (clN Z.I d) L kk rt.cps.toList env (ls.map (·.ir)) h = some hE) (Q : VK) (hQ : ∀ H' ρ', Nxt Z.D F.K ρ0 H0 ρ' hE H' → Q (.bl b) H') : tBadO Z F co Tb e0 ls i j vs kk rt tE σ H Q := by
  have sd : ∀ {H : Hp}, Z.D.T H → TabsM Tb H := fun q => by rw [hD] at q; exact q
  have sd' : ∀ {H : Hp}, TabsM Tb H → Z.D.T H := fun q => by rw [hD]; exact q
  refine ⟨.ref p, hi, .inl ⟨p, rfl, ⟨_, SqL.of hp⟩, fun A nA => ?_⟩⟩
  have neA : ∀ {H' : Hp} {a o}, H a = some o → a ≠ A := fun e => ne_of_none e nA
  refine ⟨fun m cnt H' => cnt + m = ls.length ∧ ∃ ρ' h', Nxt Z.D F.K ρ0 H0 ρ' h' H' ∧ (∀ (j : Nat) l q, m ≤ j → ls[j]? = some l → fs[j]? = some q → Held1 e0 H' l q) ∧ H' p = some (.lst (fs.map fun q => .ref q.1)) ∧ p ∉ ρ' ∧ H' A = some (.lst []) ∧ A ∉ ρ' ∧
    chainE (clN Z.I d) L kk rt.cps.toList env ((ls.map (·.ir)).drop m) h' = some hE, ⟨ls.length, by simp, ρ, h, n.trans (n.now.new nA), ?_, ?_, np, upd_same, off_none n.now nA, w⟩, ?_⟩
  · intro j l q _ el eq
    refine held_on (held j l q el eq).1 fun a o e _ _ => ?_
    rw [upd_ne (ne_of_none e nA)]; exact e
  · rw [upd_ne (ne_of_none hp nA)]; exact hp
  rintro m cnt H' ⟨hc, ρ', h', n', hh', hp', np', hA', nA', w'⟩
  have hfl : (fs.map fun q => V.ref q.1).length = ls.length := by simp [hl]
  by_cases hm : m < ls.length
  · -- one more lambda
    obtain ⟨l, el⟩ : ∃ l, ls[m]? = some l := ⟨_, List.getElem?_eq_getElem hm⟩
    obtain ⟨q, eq⟩ : ∃ q, fs[m]? = some q := ⟨_, List.getElem?_eq_getElem (by rw [hl]; exact hm)⟩
    have eqm : (fs.map fun q => V.ref q.1)[m]? = some (.ref q.1) := by rw [List.getElem?_map, eq]; rfl
    refine .inr ⟨⟨_, _, SqL.of hp', eqm⟩, fun H'' => ∃ ρ' h', Nxt Z.D F.K ρ0 H0 ρ' h' H'' ∧ (∀ (j : Nat) l q, m + 1 ≤ j → ls[j]? = some l → fs[j]? = some q → Held1 e0 H'' l q) ∧ H'' p = some (.lst (fs.map fun q => .ref q.1)) ∧ p ∉ ρ' ∧ H'' A = some (.lst []) ∧ A ∉ ρ' ∧
      chainE (clN Z.I d) L kk rt.cps.toList env ((ls.map (·.ir)).drop (m + 1)) h' = some hE, fun H'' q => ⟨cnt - 1, by omega, by omega, q⟩, ?_⟩
    rintro x H'' ⟨rfl, hx⟩
    have ex := hx _ (SqL.of hp')
    rw [eqm] at ex
    cases ex
    refine ⟨(wipe_set hjs).trans wipe_twice, ?_⟩
    obtain ⟨hd1, hd2⟩ := hh' m l q (Nat.le_refl _) el eq
    have hjw : ((L2.wipe σ vs).set j (some (.ref q.1)))[j]? = some (some (.ref q.1)) := List.getElem?_set_self (by rw [wipe_length]; exact hjl)
    refine ⟨q.1, q.2, l.le, List.mem_map.mpr ⟨l, List.mem_of_getElem? el, rfl⟩, hjw, hd1, hd2, sd n'.side, fun tab => ?_⟩
    have n1 := nxt_del2 n' (held m l q el eq).2 hd1 (sd' tab)
    -- the lambda runs
    have edrop : (ls.map (·.ir)).drop m = l.ir :: (ls.map (·.ir)).drop (m + 1) := by
      rw [List.drop_eq_getElem_cons (by simpa using hm)]
      congr 1
      rw [List.getElem_map]
      rw [List.getElem?_eq_getElem hm] at el
      cases el; rfl
    rw [edrop, chainE] at w'
    have nodupf : ∀ (j : Nat) q', j ≠ m → fs[j]? = some q' → q'.1 ≠ q.1 := fun j q' hj ej z => hj (by
      have h1 : (fs.map (·.1))[j]? = some q'.1 := by rw [List.getElem?_map, ej]; rfl
      have h2 : (fs.map (·.1))[m]? = some q.1 := by rw [List.getElem?_map, eq]; rfl
      obtain ⟨l1, g1⟩ := List.getElem?_eq_some_iff.mp h1
      obtain ⟨l2, g2⟩ := List.getElem?_eq_some_iff.mp h2
      exact (List.getElem_inj nd).mp (g1.trans (z.trans g2.symm)))
    have keep : ∀ {ρ2 : List Addr} {h2 : Hh} {H2 : Hp}, Nxt Z.D F.K ρ' (delH H'' q.1) ρ2 h2 H2 → chainE (clN Z.I d) L kk rt.cps.toList env ((ls.map (·.ir)).drop (m + 1)) h2 = some hE → ∃ ρ' h', Nxt Z.D F.K ρ0 H0 ρ' h' H2 ∧ (∀ (j : Nat) l q, m + 1 ≤ j → ls[j]? = some l → fs[j]? = some q → Held1 e0 H2 l q) ∧ H2 p = some (.lst (fs.map fun q => .ref q.1)) ∧ p ∉ ρ' ∧ H2 A = some (.lst []) ∧ A ∉ ρ' ∧
      chainE (clN Z.I d) L kk rt.cps.toList env ((ls.map (·.ir)).drop (m + 1)) h' = some hE := fun {ρ2 h2 H2} m2 ww => by
      have nq : ∀ {a o}, H'' a = some o → (∀ φ, o ≠ .ext φ) → delH H'' q.1 a = some o := fun {a o} e ne => by
        rw [delH_ne (fun z => by rw [z, hd1] at e; cases e; exact ne _ rfl)]; exact e
      have on : ∀ {a o}, H'' a = some o → a ≠ q.1 → a ∉ ρ' → (¬ IsTbl o) → H2 a = some o := fun {a o} e ne nr nt => m2.off a o (by rw [delH_ne ne]; exact e) nr nt
      have fr : ∀ {a o}, H'' a = some o → a ≠ q.1 → a ∉ ρ' → (¬ IsTbl o) → a ∉ ρ2 := fun {a o} e ne nr nt hm => (m2.fresh a hm).elim nr fun z => nt (z o (by rw [delH_ne ne]; exact e))
      have neq : ∀ {a xs}, H'' a = some (.lst xs) → a ≠ q.1 := fun {a xs} e z => by rw [z, hd1] at e; cases e
      refine ⟨ρ2, h2, n1.trans m2, fun j' l' q' hj el' eq' => ?_, on hp' (neq hp') np' id, fr hp' (neq hp') np' id, on hA' (neq hA') nA' id, fr hA' (neq hA') nA' id, ww⟩
      have hq' := hh' j' l' q' (by omega) el' eq'
      refine ⟨on hq'.1 (nodupf j' q' (by omega) eq') (off_rho n'.now hq'.1 fun _ z => nomatch z) (fun z => z), ?_⟩
      refine on hq'.2 (fun z => ?_) (off_rho n'.now hq'.2 fun vs z => by unfold LamX.CodeO at z; cases z) (ext_not_tbl LamX.codeO_ne)
      have z2 := hq'.2
      rw [z, hd1] at z2
      exact code_ne_lam (Option.some.inj z2) rfl
    cases ea : evE (clN Z.I d) L (oneE kk rt.cps.toList l.ir) env h' with
    | bad => rw [ea] at w'; cases w'
    | exc c1 h1 => rw [ea] at w'; cases w'
    | ok v1 h1 =>
      rw [ea] at w'
      have hv1 : v1 = .bl true := by
        cases v1 with
        | bl b => cases b with
          | true => rfl
          | false => cases w'
        | _ => cases w'
      subst hv1
      dsimp only at w'
      refine (Classical.choose_spec (l.hb _)).2 L σ _ env h' ρ' _ n1.now (er.mono n1.grow n1.pre) ?_
      rcases one_true ea with ⟨pv, e1, e2⟩ | ⟨ci, e1, e2⟩
      · rw [e1]
        intro v H2 ρ2 m2 rp
        have e3 : cmpE .ne pv (.str rt.cps.toList) h1 = .ok (.bl false) h1 := by
          unfold cmpE at e2 ⊢
          dsimp only at e2 ⊢
          split at e2
          · rename_i hf
            rw [if_pos hf]
            have : eqv (view h1 pv) (view h1 (.str rt.cps.toList)) = true := by simpa using e2
            rw [this]; rfl
          · cases e2
        refine ⟨ρ2, h1, pv, .str rt.cps.toList, m2.now, rp, rep_str rt, ?_⟩
        rw [e3]
        intro v3 H3 ρ3 m3 r3
        cases r3
        exact ⟨false, rfl, keep (m2.trans m3) w'⟩
      · rw [e1]
        intro H2 ρ2 m2
        refine ⟨Z.I.isa ci kk, by rw [hK]; exact T.isa kk ci, fun _ => ?_, fun hi => ?_⟩
        · have e3 : cmpE .ne (.str rt.cps.toList) (.str rt.cps.toList) h1 = .ok (.bl false) h1 := by
            unfold cmpE
            dsimp only [view]
            have : eqv (.str rt.cps.toList) (.str rt.cps.toList) = true := by simp [eqv]
            rw [this]
            simp [flat, flatN]
          refine ⟨ρ2, h1, .str rt.cps.toList, .str rt.cps.toList, m2.now, rep_str rt, rep_str rt, ?_⟩
          rw [e3]
          intro v3 H3 ρ3 m3 r3
          cases r3
          exact ⟨false, rfl, keep (m2.trans m3) w'⟩
        · have : Z.I.isa ci kk = true := e2
          rw [this] at hi; cases hi
  · -- all were refused
    have hm' : ls.length ≤ m := by omega
    have : (ls.map (·.ir)).drop m = [] := List.drop_eq_nil_of_le (by simpa using hm')
    rw [this, chainE] at w'
    cases w'
    refine .inl ⟨⟨_, SqL.of hp', by rw [hfl]; exact hm'⟩, A, [], rfl, hA', fun o => ?_⟩
    have nA0 : ∀ u, H0 A = some u → IsTbl u := fun u e => Classical.byContradiction fun t => by
      obtain ⟨o', e', _⟩ := n.dom A u e t
      rw [nA] at e'; cases e'
    have m1 := n'.lock hA' nA' nA0 o
    have r1 : Rep F.K ρ' (upd H' A (.frz o (.lst []))) (.lst []) (.ref A) := n'.lock_rep hA' .nil o
    refine tEr L σ _ env hE ρ' _ m1.now (er.mono m1.grow m1.pre) fun v2 H2 ρ2 m2 r2 => ?_
    refine ⟨ρ2, hE, .lst [], .lst [], m2.now, r1.mono m2.grow m2.pre, r2, ?_⟩
    rw [hco]
    intro v3 H3 ρ3 m3 r3
    cases r3
    exact hQ H3 ρ3 ((m1.trans m2).trans m3)
end
end Mini

/-! Bd8 -/
set_option autoImplicit false
set_option Elab.async false
set_option linter.all false
set_option maxRecDepth 100000
set_option maxHeartbeats 2000000
namespace Mini
open PySem PySem.Spec PySem.Calls PyProof.Rows L2

section
variable {Z : Wd} {d : Nat} {F : Fam} {k : Nat} {c : CC} {Wx : WX}
/-- what the second statement makes of the test -/
def BadNext (Z : Wd) (d : Nat) (F : Fam) (W : WW) (b : Bool) (tb : TE) (t2 : TS) (last : S) : Prop :=
  ∀ (L : Lk) (σ : L2.St) (H H0 : Hp) (env : Env) (hE : Hh) (ρ0 : List Addr) (De : Ends), (∀ Q : VK, (∀ H' ρ', Nxt Z.D F.K ρ0 H0 ρ' hE H' → Q (.bl b) H') → tb σ H Q) → EnvR F.K ρ0 H0 env σ →
    WantS Z.D F.K ρ0 H0 W De (evS (clN Z.I d) L last env hE) → t2 De σ H
theorem bad_if {a b : List Stmt} {W : WW} {tb : TE} {ia ib : Ss} (ha : SSs Z.D (clN Z.I d) F W a ia) (hb : SSs Z.D (clN Z.I d) F W b ib) :
    ∃ (ta tc : TS), (∀ X, F.P X → PSs X a ta) ∧ (∀ X, F.P X → PSs X b tc) ∧ BadNext Z d F W false tb (tIfS (tTest tb) ta tc) (.ife (.lit (.bl false)) ia ib) := by
  obtain ⟨ta, pa, sa⟩ := ha
  obtain ⟨tc, pc, sc⟩ := hb
  refine ⟨ta, tc, pa, pc, fun L σ H H0 env hE ρ0 De q er w => ?_⟩
  refine q _ fun H' ρ' m => ⟨false, rfl, ?_⟩
  dsimp only
  rw [if_neg Bool.false_ne_true]
  simp only [evS, evE] at w
  exact sc L σ H' env hE ρ' De m.now (er.mono m.grow m.pre) (WantS.at w m)
theorem bad_ifOr {e : Expr} {es : List Expr} {p : Pos} {a b : List Stmt} {W : WW} {tb : TE} {ic : E} {ia ib : Ss} (hc : SW Z.D (clN Z.I d) F W (.BoolOp .Or (e :: es) p) ic) (ha : SSs Z.D (clN Z.I d) F W a ia) (hb : SSs Z.D (clN Z.I d) F W b ib) :
    ∃ (tm : TT) (ta tc : TS), (∀ X, F.P X → PW X (.BoolOp .Or (e :: es) p) tm) ∧ (∀ X, F.P X → PSs X a ta) ∧ (∀ X, F.P X → PSs X b tc) ∧ BadNext Z d F W false tb (tIfS (tOr (tTest tb) tm) ta tc) (.ife ic ia ib) := by
  obtain ⟨tm, pm, sm⟩ := hc
  obtain ⟨ta, pa, sa⟩ := ha
  obtain ⟨tc, pc, sc⟩ := hb
  refine ⟨tm, ta, tc, pm, pa, pc, fun L σ H H0 env hE ρ0 De q er w => ?_⟩
  refine q _ fun H' ρ' m => ⟨false, rfl, ?_⟩
  dsimp only
  rw [if_neg Bool.false_ne_true]
  unfold evS at w
  have w := WantS.at w m
  have er := er.mono m.grow m.pre
  refine sm L σ H' env hE ρ' _ m.now er ?_
  cases e : evE (clN Z.I d) L ic env hE with
  | bad => rw [e] at w; exact w
  | exc c h1 => rw [e] at w; exact fun H2 ρ2 m2 => w σ H2 ρ2 m2
  | ok q h1 =>
    rw [e] at w
    cases q <;> first
      | exact False.elim w
      | (rename_i k
         intro v H2 ρ2 m2 rp
         cases rp
         refine ⟨k, rfl, ?_⟩
         cases k with
         | true => rw [if_pos rfl]; exact sa L σ H2 env h1 ρ2 De m2.now (er.mono m2.grow m2.pre) (WantS.at w m2)
         | false => rw [if_neg Bool.false_ne_true]; exact sc L σ H2 env h1 ρ2 De m2.now (er.mono m2.grow m2.pre) (WantS.at w m2))
theorem bad_ret {W : WW} {tb : TE} : BadNext Z d F W true tb (tRet tb) (.ret (.lit (.bl true))) := by
  intro L σ H H0 env hE ρ0 De q er w
  refine q _ fun H' ρ' m => ?_
  simp only [evS, evE] at w
  exact w (.bl true) H' ρ' m (.bl _)
theorem env_del {K : PySem.W.Frag} {ρ : List Addr} {H : Hp} {env : Env} {σ : L2.St} (e : EnvR K ρ H env σ) (i : Nat) (v : Option V) : EnvR K ρ H (env.set i none) (σ.set i v) := by
  refine ⟨by simpa using e.1, fun j q h => ?_⟩
  by_cases z : i = j
  · subst z
    by_cases l : i < env.length
    · rw [List.getElem?_set_self l] at h; cases h
    · rw [List.getElem?_eq_none (by simpa using l)] at h; cases h
  · rw [List.getElem?_set_ne z] at h
    obtain ⟨v', h1, h2⟩ := e.2 j q h
    exact ⟨v', by rw [List.getElem?_set_ne z]; exact h1, h2⟩
/-- a slot that is there is forgotten -/
def gone (i : Nat) (r : Ss) : Ss := .cons (.asg (.name i) (.lit .non)) (.cons (.expr (.var i)) (.cons (.del i) r))
theorem gone_ev (C : Cl) (L : Lk) (i : Nat) (r : Ss) (env : Env) (h : Hh) : evSs C L (gone i r) env h = if i < env.length then evSs C L r (env.set i none) h else .bad := by
  simp only [gone, evSs, evS, evE, asgT]
  by_cases l : i < env.length
  · rw [if_pos l, List.getElem?_set_self l]
    simp only [List.set_set]
  · rw [if_neg l, List.getElem?_eq_none (by simpa using l)]
/-- the pair of statements and what follows -/
theorem bad_pair {y : Str} {yp lp ap : Pos} {s2 : Stmt} {ss : List Stmt} {i j : Nat} {vs : List Nat} {kk : Nat} {rt : Str} {tE : TE} {co : Cop} {b : Bool} {Tb : List (Addr × TabNm)} {P : Addr} {ca : Addr} {nm : TabNm} {e0 : PySem.Env} {ls : List (LamB Z d F k)} {t2 : TS} {last : S} {rest : Ss}
    (G : FamG Z F k c.N c.sc c.tp Wx) (T : GOk Z c.tx) (hD : Z.D = tabSide Tb) (TB : LamX.TabB Z.base Z.mg ca P) (hm : (P, nm) ∈ Tb) (hu : ∀ q ∈ Tb, q.1 = P → q.2 = nm) (h0 : ∀ X, F.P X → X.env = e0 ∧ X.env.code = .ref ca)
    (hls : ∀ l ∈ ls, nm l.pos.line l.pos.col = some (e0.qual ++ "<lambda>") ∧ LamX.LamS c.sc l.scope) (hn : ls.length ≤ lim) (hi : c.N[i]? = some y) (hyl : c.sc.names.lookup y = some .local) (hjs : j ∈ vs)
    (tEr : ∀ (L : Lk) (σ : L2.St) (H : Hp) (env : Env) (h : Hh) (ρ : List Addr) (Q : VK), Now Z.D F.K ρ h H → EnvR F.K ρ H env σ → (∀ v H' ρ', Nxt Z.D F.K ρ H ρ' h H' → Rep F.K ρ' H' (.lst []) v → Q v H') → tE σ H Q)
    (hco : ∀ h, cmpE co (.lst []) (.lst []) h = .ok (.bl b) h)
    (p2 : ∀ X, F.P X → PS X s2 t2) (n2 : BadNext Z d F (WofX Z.cls Wx) b (tBadO Z F co Tb e0 ls i j vs kk rt tE) t2 last) (hr : SSs Z.D (clN Z.I d) F (WofX Z.cls Wx) ss rest) :
    SSs Z.D (clN Z.I d) F (WofX Z.cls Wx) (.Assign [.Name y yp] (.List ((ls.map LamB.tr).map lamX) lp) ap :: s2 :: ss) (gone i (gone j (chainS kk rt.cps.toList (ls.map (·.ir)) (.cons last rest)))) := by
  obtain ⟨tr, pr, sr⟩ := hr
  refine ⟨tSeq (tAsg (tLst (tLams Tb e0 (ls.map LamB.tr))) (gName i)) (tSeq t2 tr), fun X hX => ?_, fun L σ H env h ρ De n er w => ?_⟩
  · have hX0 := (h0 X hX).1
    refine pss_cons (ps_asg (pe_lst ?_) (pg_name (G.hnd X hX) (G.at hi X hX) (.inl (by rw [G.hSc X hX]; exact hyl)) (.inr (by rw [G.hSc X hX]; exact hyl))) (by rw [sole, sw_none rfl]) (stores_no (.inl rfl) (fun _ _ q => by cases q) _) rfl) (pss_cons (p2 X hX) (pr X hX))
    rw [← hX0]
    refine pa_lams (by rw [G.base X hX, G.mg X hX]; exact TB) (h0 X hX).2 hm hu _ fun l hl => ?_
    obtain ⟨q, hq, rfl⟩ := List.mem_map.mp hl
    rw [hX0]
    refine ⟨(hls q hq).1, ?_⟩
    have := G.hSc X hX
    rw [hX0] at this
    rw [this]
    exact (hls q hq).2
  · rw [gone_ev, gone_ev] at w
    by_cases li : i < env.length
    · rw [if_pos li] at w
      by_cases lj : j < (env.set i none).length
      · rw [if_pos lj, chain_ev] at w
        cases ec : chainE (clN Z.I d) L kk rt.cps.toList ((env.set i none).set j none) (ls.map (·.ir)) h with
        | none => rw [ec] at w; exact w.elim
        | some hE =>
          rw [ec] at w
          refine lams_made hD ls _ H n.nxt fun fs H1 n1 _ hl hh nd => ⟨?_, fun p np => ?_⟩
          · rw [List.length_map, hl]; exact Nat.le_trans hn lim_size
          have n2' := n1.trans (n1.now.new (o := .lst (fs.map fun p => .ref p.1)) np)
          have er0 : EnvR F.K ρ H ((env.set i none).set j none) (σ.set i (some (.ref p))) := by
            have e1 := env_del er i (some (V.ref p))
            have e2 := env_del e1 j ((σ.set i (some (.ref p)))[j]?.join)
            refine ⟨by simpa using e1.1, fun a q ha => ?_⟩
            by_cases z : j = a
            · subst z
              by_cases l : j < (env.set i none).length
              · rw [List.getElem?_set_self l] at ha; cases ha
              · rw [List.getElem?_eq_none (by simpa using l)] at ha; cases ha
            · rw [List.getElem?_set_ne z] at ha
              exact e1.2 a q ha
          have ls1 : i < σ.length := Nat.lt_of_lt_of_le li er.1
          have lj1 : j < (σ.set i (some (V.ref p))).length := by
            have := er0.1
            simp at this lj ⊢
            omega
          have wS : WantS Z.D F.K ρ H (WofX Z.cls Wx) De (match evS (clN Z.I d) L last ((env.set i none).set j none) hE with
            | .nx env h => evSs (clN Z.I d) L rest env h
            | r => r) := by
            have w := w
            dsimp only at w
            rw [evSs] at w
            exact w
          have held : ∀ (j : Nat) l q, ls[j]? = some l → fs[j]? = some q → Held1 e0 (upd H1 p (.lst (fs.map fun p => .ref p.1))) l q ∧ ∀ u, H q.1 = some u → IsTbl u := fun j l q el eq => by
            obtain ⟨a1, a2⟩ := hh j l q el eq
            refine ⟨held_on a1 fun a o e _ _ => ?_, a2⟩
            rw [upd_ne (ne_of_none e np)]; exact e
          refine n2 L (σ.set i (some (.ref p))) _ H ((env.set i none).set j none) hE ρ { De with nx := tr De } (fun Q hQ => ?_) er0 ?_
          · exact bad_read (c := c) (L := L) T G.hK hD tEr hco hjs lj1 n2' er0 upd_same (off_none n1.now np) (List.getElem?_set_self ls1) hl held nd ec Q hQ
          · cases el : evS (clN Z.I d) L last ((env.set i none).set j none) hE with
            | nx env1 h1 =>
              rw [el] at wS
              exact fun σ1 H2 ρ1 m1 er1 => sr L σ1 H2 env1 h1 ρ1 De m1.now er1 (WantS.at wS m1)
            | _ => rw [el] at wS; exact wS
      · rw [if_neg lj] at w; exact w.elim
    · rw [if_neg li] at w; exact w.elim
end
end Mini

/-! Bd9 -/
set_option autoImplicit false
set_option Elab.async false
set_option linter.all false
set_option maxRecDepth 100000
set_option maxHeartbeats 2000000
namespace Mini
open PySem PySem.Spec PySem.Calls PyProof.Rows L2

/-! ### the compiler: a def's body, with the pair of statements about bad -/
def cLams (n : Nat) (c : CC) (ps : List (Nat × Nat)) : List Expr → Option (List E)
  | [] => some []
  | .Lambda ar b sc lp :: es => if noArgs ar && LamX.lamSB c.sc sc && ps.contains (lp.line, lp.col) then (match comp n (c.lam sc) b, cLams n c ps es with
    | some i, some is => some (i :: is)
    | _, _ => none) else none
  | _ => none
/-- [1 for f in bad if told(f) != "X"]: the slots, the class, the text -/
def cTst (c : CC) (y : Str) : Expr → Option (Nat × Nat × List Nat)
  | .ListComp (.Constant (.int 1) _ _) [⟨.Name f _, .Name y2 _, [.Compare (.Call (.Name x _) [.Name f2 _] [] _) [.NotEq] [.Constant (.str rt) _ _] _], 0⟩] scope _ =>
    if y2 == y && f2 == f && plainName y && plainName f && L2.blkC c.N c.sc scope (ownOf c.N scope) && (c.inner scope).vis f && (c.inner scope).loc f && (c.inner scope).gl x then
      (match slotOf c.N f, c.tx.told.lookup x with
      | some j, some (k, ret) => if ((ownOf c.N scope).map (·.2)).contains j && ret == rt.cps.toList then some (j, k, ret) else none
      | _, _ => none) else none
  | _ => none
def cIt (n : Nat) (c : CC) (y : Str) : Stmt → Option ((Nat × Nat × List Nat) × S)
  | .If (.Compare t [.NotEq] [.List [] _] _) a b _ => (match cTst c y t, cSs (compS n c) a, cSs (compS n c) b with
    | some q, some i, some j => some (q, .ife (.lit (.bl false)) i j)
    | _, _, _ => none)
  | .If (.BoolOp .Or (.Compare t [.NotEq] [.List [] _] _ :: e :: es) _) a b _ => (match cTst c y t, cBool (comp n c) .Or (e :: es), cSs (compS n c) a, cSs (compS n c) b with
    | some q, some m, some i, some j => some (q, .ife m i j)
    | _, _, _, _ => none)
  | .Return (some (.Compare t [.Eq] [.List [] _] _)) _ => (cTst c y t).map fun q => (q, .ret (.lit (.bl true)))
  | _ => none
def cBad (n : Nat) (c : CC) : Stmt → Stmt → Option (Ss → Ss)
  | .Assign [.Name y _] (.List es _) _, s2 => if c.top && c.sc.names.lookup y == some .local && decide (2 ≤ c.rm) && decide (es.length ≤ lim) then
      (match slotOf c.N y, c.tx.lams.find? (fun l => c.tp.cd == some l.1 && c.tp.ql == l.2.1), cIt n c y s2 with
      | some i, some l, some (q, last) => (match cLams n c l.2.2 es with
        | some is => some fun rest => gone i (gone q.1 (chainS q.2.1 q.2.2 is (.cons last rest)))
        | none => none)
      | _, _, _ => none) else none
  | _, _ => none
def cBody (n : Nat) (c : CC) : List Stmt → Option Ss
  | [] => some .nil
  | [s] => (compS n c s).map fun i => .cons i .nil
  | s1 :: s2 :: ss => match cBad n c s1 s2 with
    | some f => (cBody n c ss).map f
    | none => match compS n c s1, cBody n c (s2 :: ss) with
      | some i, some is => some (.cons i is)
      | _, _ => none

section
variable {Z : Wd} {d : Nat} {F : Fam} {k : Nat} {c : CC} {Wx : WX}
theorem cLams_ok (O : Z.Ok d) (G : FamG Z F k c.N c.sc c.tp Wx) (T : GOk Z c.tx) (hk : lev d + c.rm ≤ k) (h2 : 2 ≤ c.rm) {n : Nat} {ps : List (Nat × Nat)} : ∀ {es : List Expr} {is : List E}, cLams n c ps es = some is →
    ∃ ls : List (LamB Z d F k), es = (ls.map LamB.tr).map lamX ∧ ls.map (·.ir) = is ∧ ∀ l ∈ ls, (l.pos.line, l.pos.col) ∈ ps ∧ LamX.LamS c.sc l.scope
  | [], is, h => by
    unfold cLams at h
    cases h
    exact ⟨[], rfl, rfl, fun l hl => by cases hl⟩
  | e :: es, is, h => by
    unfold cLams at h
    split at h
    · rename_i q; cases q
    · rename_i ar b sc lp es' q
      cases q
      split at h
      · rename_i q
        simp only [Bool.and_eq_true] at q
        obtain ⟨⟨q1, q2⟩, q3⟩ := q
        cases h1 : comp n (c.lam sc) b with
        | none => rw [h1] at h; cases h
        | some i =>
          cases h3 : cLams n c ps es with
          | none => rw [h1, h3] at h; cases h
          | some js =>
            rw [h1, h3] at h
            cases h
            obtain ⟨ls, e1, e2, e3⟩ := cLams_ok O G T hk h2 h3
            have hLS := LamX.lamS_by q2
            have ars : ar = ⟨[], [], none, [], [], none, []⟩ := by
              have hq := q1
              obtain ⟨r1, r2, r3, r4, r5, r6, r7⟩ := ar
              simp only [noArgs, Bool.and_eq_true, List.isEmpty_iff, Option.isNone_iff_eq_none] at hq
              obtain ⟨⟨⟨⟨⟨⟨rfl, rfl⟩, rfl⟩, rfl⟩, rfl⟩, rfl⟩, rfl⟩ := hq
              rfl
            subst ars
            refine ⟨⟨b, sc, lp, i, fun E => (comp_ok O n (c.lam sc) (F.lam (k - 2) E sc) (k - 2) (fun cls d _ H => E cls d H) (G.lam (k - 2) E hLS.kind) T (by show lev d + (c.rm - 2) ≤ k - 2; omega) b i h1).1⟩ :: ls, ?_, ?_, ?_⟩
            · rw [e1]; rfl
            · rw [List.map_cons, e2]
            · intro l hl
              rcases List.mem_cons.mp hl with rfl | hl
              · exact ⟨by simpa using q3, hLS⟩
              · exact e3 l hl
      · cases h
    · cases h
/-- the test, as a reading of all contexts -/
theorem cTst_ok (O : Z.Ok d) (G : FamG Z F k c.N c.sc c.tp Wx) (T : GOk Z c.tx) (hk : lev d + c.rm ≤ k) (h2 : 2 ≤ c.rm) (ht : c.top = true) {y : Str} {i : Nat} (hi : c.N[i]? = some y) (hy : c.sc.names.lookup y = some .local) {t : Expr} {q : Nat × Nat × List Nat} (h : cTst c y t = some q)
    {e0 : PySem.Env} (h0 : ∀ X, F.P X → X.env = e0) {Tb : List (Addr × TabNm)} {ls : List (LamB Z d F k)} (hls : ∀ l ∈ ls, LamX.LamS c.sc l.scope) {tE : TE} {lp p : Pos} (pE : ∀ X, F.P X → PE X (.List [] lp) tE) (op : CmpOp) :
    ∃ (vs : List Nat) (rt : Str), q.2.2 = rt.cps.toList ∧ q.1 ∈ vs ∧ (∀ X, F.P X → PE X (.Compare t [op] [.List [] lp] p) (tBadO Z F (copOf op) Tb e0 ls i q.1 vs q.2.1 rt tE)) ∧
      (∀ X, F.P X → PT X (.Compare t [op] [.List [] lp] p) (tTest (tBadO Z F (copOf op) Tb e0 ls i q.1 vs q.2.1 rt tE))) := by
  unfold cTst at h
  split at h
  · rename_i o1 o2 f o3 y2 o4 x o5 f2 o6 o7 rt o8 o9 o10 scope o11
    split at h
    · rename_i hc
      simp only [Bool.and_eq_true, beq_iff_eq] at hc
      obtain ⟨⟨⟨⟨⟨⟨⟨rfl, rfl⟩, c3⟩, c4⟩, c5⟩, c6⟩, c7⟩, c8⟩ := hc
      cases h1 : slotOf c.N f2 with
      | none => rw [h1] at h; cases h
      | some j =>
        cases h3 : c.tx.told.lookup x with
        | none => rw [h1, h3] at h; cases h
        | some kr =>
          obtain ⟨kk, ret⟩ := kr
          rw [h1, h3] at h
          dsimp only at h
          split at h
          · rename_i hd
            cases h
            simp only [Bool.and_eq_true, beq_iff_eq] at hd
            obtain ⟨d1, rfl⟩ := hd
            obtain ⟨g, Ng, a, e, r, sg, cdv, jj, p1, p2, p3, p4, p5, p6, p7, p8, gv, ge, gm, gd, er⟩ := T.told x kk _ h3
            obtain rfl : rt = r := by
              have := er
              cases rt with | mk a1 => cases r with | mk b1 =>
                simp at this
                cases this; rfl
            have blk := blkOk_by c5
            have Gb := G.blk (scope := scope) blk.kind
            have hkk : k - 2 + 2 = k := by omega
            refine ⟨(ownOf c.N scope).map (·.2), rt, rfl, by simpa using d1, ?_⟩
            have body : ∀ X, F.P X → PE X (.ListComp (.Constant (.int 1) o1 o2) [⟨.Name f2 o3, .Name y2 o4, [.Compare (.Call (.Name x o5) [.Name f2 o6] [] o7) [.NotEq] [.Constant (.str rt) o8 o9] o10], 0⟩] scope o11)
                (tLk (fun σ H Q => tLc (iAny F.K (tVar i)) (gName j) (tTest (tOp (R2E Z.D F.K (cmpE .ne)) (tToldB Tb e0 (LamX.TTold F.K (Z.cls kk) rt) (ls.map LamB.le) j σ) (tC (.str rt)))) (tC (.int 1)) ((ownOf c.N scope).map (·.2)) σ H Q)) := by
              intro X hX
              have hKX : X.K = Z.K := (F.hK X hX).trans G.hK
              refine pe_lk ?_
              rw [← F.hK X hX, ← h0 X hX]
              refine pe_lcB (g := gName j) (te := tC (.int 1)) (tt := fun σ => tTest (tOp (R2E Z.D X.K (cmpE .ne)) (tToldB Tb X.env (LamX.TTold X.K (Z.cls kk) rt) (ls.map LamB.le) j σ) (tC (.str rt)))) (G.calm X hX) (G.hnd X hX) (pi_any (pe_var (G.at hi X hX) (.inl (by rw [G.hSc X hX]; exact hy)) (plain_name c3).1 (plain_name c3).2))
                (by rw [G.hN X hX, G.hSc X hX]; exact blk) (fun s H C cl fp => ?_) (fun pins σ s H C cl fp I3 hfp => ?_) (fun s H C cl fp => pe_int) (fun x => fold_not rfl _ _)
              · have hY : (F.blk scope).P (X.blk s H scope (compEnvC scope cl C X.env) fp) := ⟨X, s, H, C, cl, fp, hX, rfl⟩
                obtain ⟨l1, l2⟩ := loc_of c7
                exact pg_name (Gb.hnd _ hY) (Gb.at (slot_at h1) _ hY) (Gb.loc l1 _ hY) (l2.elim (fun z => by cases z) fun z => .inr (by rw [Gb.hSc _ hY]; exact z))
              · have hY : (F.blk scope).P (X.blk s H scope (compEnvC scope cl C X.env) fp) := ⟨X, s, H, C, cl, fp, hX, rfl⟩
                refine pts_toldB (k := k - 2) I3 hfp (Gb.gl (gl_of c8) _ hY) (by rw [hKX, G.mg X hX]; exact gv) (LamX.told_gives ge (G.mgS gm X hX) gd fun f => by
                    have := gv.at0
                    cases Ng with
                    | nil => cases this
                    | cons y ys => rfl) (by rw [hkk]; exact G.room X hX) (fun e' he' => ?_) (by rw [G.hN X hX]; exact slot_at h1) (Gb.vis (vis_of c6) _ hY) (plain_name c4).1 (plain_name c4).2 ?_
                · obtain ⟨l, hl, rfl⟩ := List.mem_map.mp he'
                  have hLS : LamX.LamS X.env.scope l.scope := by rw [G.hSc X hX]; exact hls l hl
                  exact ⟨hLS, fun A outer s H E f c' hr => (Classical.choose_spec (l.hb E)).1 _ ⟨X, A, outer, s, H, f, c', hX, hLS, hr, rfl⟩⟩
                · have := cop_ok (c := c.inner scope) Gb .NotEq _ hY
                  have e2 : (F.blk scope).K = X.K := ((F.blk scope).hK _ hY).symm
                  rw [e2] at this
                  exact this
            have hop : ∀ X, F.P X → OpR X (compareOp op) (R2E Z.D F.K (cmpE (copOf op))) := cop_ok G op
            exact ⟨fun X hX => pe_cmpR (hop X hX) (body X hX) (pE X hX) (behind_not rfl), fun X hX => pt_cmpR (hop X hX) (body X hX) (pE X hX) (behind_not rfl)⟩
          · cases h
    · cases h
  · cases h
/-- the reading of [] -/
theorem nil_read (W : WW) : ∃ tE : TE, (∀ (lp : Pos) X, F.P X → PE X (.List [] lp) tE) ∧ ∀ (L : Lk) (σ : L2.St) (H : Hp) (env : Env) (h : Hh) (ρ : List Addr) (Q : VK), Now Z.D F.K ρ h H → EnvR F.K ρ H env σ → (∀ v H' ρ', Nxt Z.D F.K ρ H ρ' h H' → Rep F.K ρ' H' (.lst []) v → Q v H') → tE σ H Q := by
  refine ⟨tLk (tLst tNil), fun lp X hX => pe_lk (pe_lst pa_nil), fun L σ H env h ρ Q n er w => ?_⟩
  refine ⟨Nat.zero_le _, fun p np => ⟨p, [], rfl, upd_same, fun o => ?_⟩⟩
  rw [upd_upd]
  exact w _ _ ρ (n.new np) (.lst (.inl ⟨o, upd_same⟩) .nil)
theorem cBad_ok (O : Z.Ok d) (G : FamG Z F k c.N c.sc c.tp Wx) (T : GOk Z c.tx) (hk : lev d + c.rm ≤ k) {n : Nat} {s1 s2 : Stmt} {f : Ss → Ss} (h : cBad n c s1 s2 = some f) {ss : List Stmt} {is : Ss} (hr : SSs Z.D (clN Z.I d) F (WofX Z.cls Wx) ss is) :
    SSs Z.D (clN Z.I d) F (WofX Z.cls Wx) (s1 :: s2 :: ss) (f is) := by
  have cS : ∀ ss is, cSs (compS n c) ss = some is → SSs Z.D (clN Z.I d) F (WofX Z.cls Wx) ss is := fun ss is h => cSs_ok (fun s _ i h => compS_ok O n c F k Wx G T hk s i h) h
  have cB : ∀ e i, comp n c e = some i → SBw Z d F Wx e i := fun e i h => comp_ok O n c F k Wx G T hk e i h
  unfold cBad at h
  split at h
  · rename_i y yp es lp ap
    split at h
    · rename_i hc
      simp only [Bool.and_eq_true, beq_iff_eq, decide_eq_true_eq] at hc
      obtain ⟨⟨⟨q1, q2⟩, q3⟩, q4⟩ := hc
      cases h1 : slotOf c.N y with
      | none => rw [h1] at h; cases h
      | some i =>
        cases h2 : c.tx.lams.find? (fun l => c.tp.cd == some l.1 && c.tp.ql == l.2.1) with
        | none => rw [h1, h2] at h; cases h
        | some l =>
          cases h3 : cIt n c y s2 with
          | none => rw [h1, h2, h3] at h; cases h
          | some ql =>
            obtain ⟨q, last⟩ := ql
            rw [h1, h2, h3] at h
            dsimp only at h
            cases h4 : cLams n c l.2.2 es with
            | none => rw [h4] at h; cases h
            | some ls0 =>
              rw [h4] at h
              cases h
              have hl := List.mem_of_find?_eq_some h2
              have hlp := List.find?_some h2
              simp only [Bool.and_eq_true, beq_iff_eq] at hlp
              obtain ⟨l1, l2⟩ := hlp
              obtain ⟨Tb, P, nm, t1, t2, t3, t4, t5, _⟩ := T.lam l hl
              obtain ⟨e0, he0⟩ := G.one q1
              obtain ⟨ls, e1, e2, e3⟩ := cLams_ok O G T hk q3 h4
              subst e1
              subst e2
              obtain ⟨tE, pE, rE⟩ := nil_read (Z := Z) (F := F) (WofX Z.cls Wx)
              have hlen : ls.length ≤ lim := by simpa using q4
              by_cases hF : ∃ X, F.P X
              · obtain ⟨X0, hX0⟩ := hF
                have hql : e0.qual = l.2.1 := by rw [← he0 X0 hX0, (G.cd l.1 l1 X0 hX0).2, l2]
                have hlsP : ∀ l' ∈ ls, nm l'.pos.line l'.pos.col = some (e0.qual ++ "<lambda>") ∧ LamX.LamS c.sc l'.scope := fun l' hl' => ⟨by rw [hql]; exact t5 (l'.pos.line, l'.pos.col) (e3 l' hl').1, (e3 l' hl').2⟩
                have hcode : ∀ X, F.P X → X.env = e0 ∧ X.env.code = .ref (Z.cad l.1) := fun X hX => ⟨he0 X hX, (G.cd l.1 l1 X hX).1⟩
                have go : ∀ {vs : List Nat} {rt : Str} {co : Cop} {b : Bool} {s2 : Stmt} {t2' : TS} {last : S}, q.2.2 = rt.cps.toList → q.1 ∈ vs → (∀ h, cmpE co (.lst []) (.lst []) h = .ok (.bl b) h) → (∀ X, F.P X → PS X s2 t2') →
                    BadNext Z d F (WofX Z.cls Wx) b (tBadO Z F co Tb e0 ls i q.1 vs q.2.1 rt tE) t2' last →
                    SSs Z.D (clN Z.I d) F (WofX Z.cls Wx) (.Assign [.Name y yp] (.List ((ls.map LamB.tr).map lamX) lp) ap :: s2 :: ss) (gone i (gone q.1 (chainS q.2.1 q.2.2 (ls.map (·.ir)) (.cons last is)))) := by
                  intro vs rt co b s2 t2' last er hv hco p2 n2
                  rw [er]
                  exact bad_pair G T t1 t2 t3 t4 hcode hlsP hlen (slot_at h1) q2 hv rE hco p2 n2 hr
                have tst : ∀ {t : Expr} {lp p : Pos} (op : CmpOp), cTst c y t = some q → ∃ (vs : List Nat) (rt : Str), q.2.2 = rt.cps.toList ∧ q.1 ∈ vs ∧ (∀ X, F.P X → PE X (.Compare t [op] [.List [] lp] p) (tBadO Z F (copOf op) Tb e0 ls i q.1 vs q.2.1 rt tE)) ∧
                    (∀ X, F.P X → PT X (.Compare t [op] [.List [] lp] p) (tTest (tBadO Z F (copOf op) Tb e0 ls i q.1 vs q.2.1 rt tE))) := fun {t lp p} op ht =>
                  cTst_ok O G T hk q3 q1 (slot_at h1) q2 ht he0 (fun l' hl' => (e3 l' hl').2) (pE lp) op
                unfold cIt at h3
                split at h3
                · rename_i t lp2 p a b p2
                  cases m1 : cTst c y t with
                  | none => rw [m1] at h3; cases h3
                  | some q' =>
                    cases m2 : cSs (compS n c) a with
                    | none => rw [m1, m2] at h3; cases h3
                    | some ia =>
                      cases m3 : cSs (compS n c) b with
                      | none => rw [m1, m2, m3] at h3; cases h3
                      | some ib =>
                        rw [m1, m2, m3] at h3
                        cases h3
                        obtain ⟨vs, rt, er, hv, _, pt⟩ := tst (lp := lp2) (p := p) .NotEq m1
                        obtain ⟨ta, tc, pa, pc, nx⟩ := bad_if (tb := tBadO Z F .ne Tb e0 ls i q.1 vs q.2.1 rt tE) (cS a ia m2) (cS b ib m3)
                        exact go er hv (fun _ => rfl) (fun X hX => ps_if (pt X hX) (pa X hX) (pc X hX)) nx
                · rename_i t lp2 p e es p1 a b p2
                  cases m1 : cTst c y t with
                  | none => rw [m1] at h3; cases h3
                  | some q' =>
                    cases m0 : cBool (comp n c) .Or (e :: es) with
                    | none => rw [m1, m0] at h3; cases h3
                    | some im =>
                      cases m2 : cSs (compS n c) a with
                      | none => rw [m1, m0, m2] at h3; cases h3
                      | some ia =>
                        cases m3 : cSs (compS n c) b with
                        | none => rw [m1, m0, m2, m3] at h3; cases h3
                        | some ib =>
                          rw [m1, m0, m2, m3] at h3
                          cases h3
                          obtain ⟨vs, rt, er, hv, _, pt⟩ := tst (lp := lp2) (p := p) .NotEq m1
                          obtain ⟨tm, ta, tc, pm, pa, pc, nx⟩ := bad_ifOr (p := p1) (tb := tBadO Z F .ne Tb e0 ls i q.1 vs q.2.1 rt tE) (cBool_ok (pos := p1) (fun e _ i h => cB e i h) m0).2 (cS a ia m2) (cS b ib m3)
                          exact go er hv (fun _ => rfl) (fun X hX => ps_if (pw_or (pt X hX) (pm X hX)).pt (pa X hX) (pc X hX)) nx
                · rename_i t lp2 p p2
                  obtain ⟨q', m1, m2⟩ := Option.map_eq_some_iff.mp h3
                  cases m2
                  obtain ⟨vs, rt, er, hv, pe, _⟩ := tst (lp := lp2) (p := p) .Eq m1
                  exact go er hv (fun _ => rfl) (fun X hX => ps_ret (pe X hX)) bad_ret
                · cases h3
              · refine ⟨fun _ _ _ => True, fun X hX => absurd ⟨X, hX⟩ hF, fun _ _ _ _ _ _ _ _ _ _ => trivial⟩
    · cases h
  · cases h
/-- THE COMPILER IS RIGHT: a def's body -/
theorem cBody_ok (O : Z.Ok d) (G : FamG Z F k c.N c.sc c.tp Wx) (T : GOk Z c.tx) (hk : lev d + c.rm ≤ k) {n : Nat} : ∀ {ss : List Stmt} {is : Ss}, cBody n c ss = some is → SSs Z.D (clN Z.I d) F (WofX Z.cls Wx) ss is
  | [], is, h => by unfold cBody at h; cases h; exact sndss_nil
  | [s], is, h => by
    unfold cBody at h
    obtain ⟨i, h1, rfl⟩ := Option.map_eq_some_iff.mp h
    exact sndss_cons (compS_ok O n c F k Wx G T hk s i h1) sndss_nil
  | s1 :: s2 :: ss, is, h => by
    unfold cBody at h
    cases h1 : cBad n c s1 s2 with
    | some f =>
      rw [h1] at h
      obtain ⟨js, h2, rfl⟩ := Option.map_eq_some_iff.mp h
      exact cBad_ok O G T hk h1 (cBody_ok O G T hk h2)
    | none =>
      rw [h1] at h
      dsimp only at h
      cases h2 : compS n c s1 with
      | none => rw [h2] at h; cases h
      | some i =>
        cases h3 : cBody n c (s2 :: ss) with
        | none => rw [h2, h3] at h; cases h
        | some js =>
          rw [h2, h3] at h
          cases h
          exact sndss_cons (compS_ok O n c F k Wx G T hk s1 i h2) (cBody_ok O G T hk h3)
end
end Mini

/-! Lk1 -/
set_option autoImplicit false
set_option Elab.async false
set_option linter.all false
set_option maxRecDepth 100000
set_option maxHeartbeats 2000000
namespace Mini
open PySem PySem.Spec PySem.Calls PyProof.Rows L2

/-! ### binding -/
theorem look_zip : ∀ {ps : List Str} {us : List Value}, ps.Nodup → us.length = ps.length → (ps.filterMap fun n => ((ps.zip us).lookup n).map fun v => (n, v)) = ps.zip us := by
  intro ps us
  have key : ∀ (qs : List Str) (ws : List Value) (acc : List (Str × Value)), qs.Nodup → (∀ x ∈ qs, ∀ y ∈ acc, y.1 ≠ x) → ws.length = qs.length → (qs.filterMap fun n => ((acc ++ qs.zip ws).lookup n).map fun v => (n, v)) = qs.zip ws := by
    intro qs
    induction qs with
    | nil => intro ws acc _ _ _; rfl
    | cons q qs ih =>
      intro ws acc nd hn hl
      cases ws with
      | nil => simp at hl
      | cons w ws =>
        have lk : (acc ++ (q :: qs).zip (w :: ws)).lookup q = some w := by
          have : ∀ a : List (Str × Value), (∀ y ∈ a, y.1 ≠ q) → (a ++ (q :: qs).zip (w :: ws)).lookup q = some w := by
            intro a
            induction a with
            | nil => intro _; simp [List.lookup]
            | cons y a iha =>
              intro hy
              have ne : y.1 ≠ q := hy y (List.mem_cons_self ..)
              obtain ⟨y1, y2⟩ := y
              rw [List.cons_append, List.lookup]
              have : (q == y1) = false := by simpa using fun z => ne z.symm
              rw [this]
              exact iha fun z hz => hy z (List.mem_cons_of_mem _ hz)
          exact this acc (hn q (List.mem_cons_self ..))
        rw [List.filterMap_cons, lk]
        have nd' := List.nodup_cons.mp nd
        have := ih ws (acc ++ [(q, w)]) nd'.2 (fun x hx y hy => by
          rcases List.mem_append.mp hy with h | h
          · exact hn x (List.mem_cons_of_mem _ hx) y h
          · rw [List.mem_singleton.mp h]
            intro z
            exact nd'.1 (by rw [show q = x from z]; exact hx)) (by simpa using hl)
        rw [List.append_assoc] at this
        simp only [List.singleton_append] at this
        show (q, w) :: _ = (q, w) :: qs.zip ws
        rw [← this]
        rfl
  intro nd hl
  have := key ps us [] nd (fun _ _ _ h => by cases h) hl
  simpa using this
theorem look_some : ∀ {ps : List Str} {us : List Value} {n : Str}, n ∈ ps → us.length = ps.length → ((ps.zip us).lookup n).isSome = true
  | p :: ps, u :: us, n, hn, hl => by
    rw [List.zip_cons_cons, List.lookup]
    cases e : (n == p) with
    | true => rfl
    | false =>
      rcases List.mem_cons.mp hn with h | h
      · rw [h] at e; simp at e
      · exact look_some h (by simpa using hl)
  | [], _, _, hn, _ => by cases hn
  | _ :: _, [], _, _, hl => by simp at hl
/-- plain parameters -/
structure PlainArgs (a : Arguments) (ps : List Str) : Prop where
  po : a.posonlyargs = []
  ko : a.kwonlyargs = []
  va : a.vararg = none
  ka : a.kwarg = none
  ar : a.args.map (·.arg) = ps
  nd : ps.Nodup
theorem bind_plain {fd : FuncData} {ps : List Str} (h : PlainArgs fd.params ps) (hd : fd.defaults = .none) {us : List Value} (hl : us.length = ps.length) : bindArgs fd ⟨us, []⟩ = pure (ps.zip us) := by
  unfold bindArgs
  have e1 : (List.map (fun x => x.arg) fd.params.args) = ps := h.ar
  have e2 : ¬ (us.length > ps.length) := by omega
  have e3 : (ps.filter fun n => ((ps.zip us).lookup n).isNone) = [] := by
    rw [List.filter_eq_nil_iff]
    intro n hn
    have := look_some hn hl
    cases e : (ps.zip us).lookup n <;> simp_all
  simp only [h.po, h.ko, h.va, h.ka, hd, e1, seqItems?, notAStandIn]
  simp [e2, e3]
  rw [look_zip h.nd hl]

/-! ### a module's defs, constants, exception classes -/
structure Dn where
  at_ : Str × Option Str
  name : Str
  qual : Str
  st : Stmt
  N : List Str
  ps : List Str
  pure : Bool
  dfl : List He.Dv
def Dn.toD (d : Dn) : He.DefD := ⟨d.at_, d.name, d.qual, defArgs d.st, defBody d.st, defScope d.st, d.dfl, []⟩
def Dn.ql (d : Dn) : Str := d.qual ++ ".<locals>."
def pvD : He.Dv → PV
  | .bl b => .bl b
  | .int i => .int i
  | .str x => .str x.cps.toList
  | _ => .non
def Dn.opts (d : Dn) : List (Nat × List PV) := (List.range (d.dfl.length + 1)).map fun m => (d.ps.length - m, (d.dfl.drop (d.dfl.length - m)).map pvD)
/-- a constant of the module -/
inductive Cv where
  | int (i : Int) | tup (xs : List He.Dv)
def Cv.pv : Cv → PV
  | .int i => .int i
  | .tup xs => .tup (xs.map pvD)
structure Md where
  dns : List Dn
  cons : List (Str × Cv)
  excs : List Str
  isT : List (List Bool)
  free : List Str
  chg : List (Nat × Nat)
  told : List (Str × Nat × Nat × List Nat)
  lams : List (Nat × List (Nat × Nat))
  fuel : Nat
def Md.gt (m : Md) : List (Str × Gn) :=
  (m.dns.zipIdx.filterMap fun p => match p.1.at_.2 with | none => some (p.1.at_.1, .fn p.2 p.1.opts) | some _ => none) ++
  (m.cons.zipIdx.map fun p => (p.1.1, .con p.2)) ++ m.excs.zipIdx.map fun p => (p.1, .exc p.2)
def Md.qlOf (m : Md) (i : Nat) : Str := match m.dns[i]? with
  | some d => d.ql
  | none => Str.empty
def Md.tx (m : Md) : Tx := ⟨m.gt, m.free, m.chg, m.told.map fun t => (t.1, t.2.2.1, t.2.2.2), m.lams.map fun l => (l.1, m.qlOf l.1, l.2)⟩
def Md.cc (m : Md) (i : Nat) (d : Dn) : CC := ⟨m.tx, d.N, defScope d.st, ⟨true, d.ql, some i⟩, 7⟩
/-- what cannot be put into the small language stays bad -/
def Md.bodyOf? (m : Md) (i : Nat) (d : Dn) : Option Ss := cBody m.fuel (m.cc i d) (defBody d.st)
def Md.bodyOf (m : Md) (i : Nat) (d : Dn) : Ss := (m.bodyOf? i d).getD (.cons (.expr badE) .nil)
def Md.fn (m : Md) (p : Dn × Nat) : Fn := ⟨p.1.ps.length, p.1.N.length, m.bodyOf p.2 p.1, p.1.pure⟩
def Md.nrm (m : Md) (c : Nat) : Nat := if c < m.excs.length then c else 0
def Md.isa (m : Md) (c' c : Nat) : Bool := (m.isT.getD (m.nrm c') []).getD (m.nrm c) false
def Md.I (m : Md) : Prg := ⟨m.dns.zipIdx.map m.fn, [], m.cons.map fun p => p.2.pv, m.isa⟩
/-- the head's facts -/
def Md.fa (m : Md) : List He.Fa := (m.dns.filterMap fun d => match d.at_.2 with | none => some (.glo d.at_.1) | some _ => none) ++ m.excs.map .glo ++ m.excs.map .exc ++ m.free.map .free ++ m.cons.filterMap fun p => match p.2 with | .int i => some (.int p.1 i) | _ => none
def Md.tf (m : Md) : List He.Defn := m.lams.map fun l => match m.dns[l.1]? with
  | some d => d.at_
  | none => ("", none)
def Md.ex (m : Md) (K : PySem.W.Frag) : Bool :=
  (m.cons.all fun p => match p.2 with | .tup xs => (match PySem.W.nsIn K mainGlobals p.1 with | some (some (.ref _)) => true | _ => false) && He.eqO (PySem.W.nsIn K mainGlobals p.1) (some (some (.ref (He.ga K p.1)))) && He.tupB K p.1 xs | _ => true) &&
  (decide (m.tf.map fun p => (He.cT K p).2).Nodup) &&
  m.excs.zipIdx.all fun x => m.excs.zipIdx.all fun y => decide (PySem.W.exmOne K (.ref (He.ga K x.1)) (.ref (He.ga K y.1)) = some (m.isa x.2 y.2))
/-- what the text itself must be -/
def plainB (a : Arguments) (ps : List Str) : Bool := a.posonlyargs.isEmpty && a.kwonlyargs.isEmpty && a.vararg.isNone && a.kwarg.isNone && decide (a.args.map (·.arg) = ps) && decide ps.Nodup
def scopeB (N ps : List Str) (sc : Scope) : Bool := sc.kind == .function && !sc.isCoroutine && !sc.isGenerator && decide N.Nodup && decide (N.take ps.length = ps) && (ps.all fun x => match sc.names.lookup x with | some .local => true | some .cell => true | _ => false) && sc.names.all fun y => !(y.2 == .free)
def toldB (d : Dn) (ret : List Nat) (e : Str) : Bool := match defBody d.st with
  | [.Try [.Return (some (.Call (.Name a _) [] [] _)) _] [.ExceptHandler (some (.Name e2 _)) none [.Return (some (.Constant (.str r) _ _)) _] _] [] [] _] =>
    e2 == e && d.ps == [a] && decide (ret = r.cps.toList) && (match (defScope d.st).names.lookup e with | some .globalImplicit => true | _ => false) && (match (defScope d.st).names.lookup a with | some .local => true | some .cell => true | some .free => true | _ => false) &&
      !(d.name == ("__debug__" : Str)) && !(a == ("__debug__" : Str)) && !(a == ("__classdict__" : Str)) && !(e == ("__debug__" : Str)) && d.dfl.isEmpty && d.at_ == (d.name, none) && d.name == d.qual
  | _ => false
def Md.okB (m : Md) : Bool :=
  (m.dns.zipIdx.all fun p => plainB (defArgs p.1.st) p.1.ps && scopeB p.1.N p.1.ps (defScope p.1.st) && decide (p.1.dfl.length ≤ p.1.ps.length)) &&
  (m.told.all fun t => (match m.dns[t.2.1]? with | some d => d.name == t.1 && toldB d t.2.2.2 (m.excs.getD (m.nrm t.2.2.1) Str.empty) | none => false) && decide (t.2.2.1 < m.excs.length)) &&
  (m.lams.all fun l => decide (l.1 < m.dns.length)) && !m.excs.isEmpty
end Mini

/-! Lk2 -/
set_option autoImplicit false
set_option Elab.async false
set_option linter.all false
set_option maxRecDepth 100000
set_option maxHeartbeats 2000000
namespace Mini
open PySem PySem.Spec PySem.Calls PyProof.Rows L2

def fdOf (K : PySem.W.Frag) (p : He.Defn) : FuncData := match K.lookup (He.fAd K p) with
  | some ⟨_, _, .func fd, _⟩ => fd
  | _ => PySem.W.fnOf Str.empty Str.empty ⟨[], [], none, [], [], none, []⟩ [] ⟨.function, [], false, false, []⟩ .none .none .none .none none .none .none
def Md.at_ (m : Md) (i : Nat) : He.Defn := match m.dns[i]? with
  | some d => d.at_
  | none => (Str.empty, none)
def Md.nm (m : Md) (l : Nat × List (Nat × Nat)) : TabNm := fun a b => if l.2.contains (a, b) then some (m.qlOf l.1 ++ "<lambda>") else none
def Md.tabs (m : Md) (K : PySem.W.Frag) : List (Addr × TabNm) := m.lams.map fun l => ((He.cT K (m.at_ l.1)).2, m.nm l)
def Md.wd (m : Md) (P : Program) (w : World) (K : PySem.W.Frag) (mg : Str → Option Value) (base : Heap) : Wd where
  P := P
  w := w
  K := K
  mg := mg
  base := base
  D := tabSide (m.tabs K)
  I := m.I
  cls := fun c => He.ga K (m.excs.getD (m.nrm c) Str.empty)
  cad := fun i => He.codeOf K (m.at_ i)
  fa := fun i => He.fAd K (m.at_ i)
  fd := fun i => fdOf K (m.at_ i)
  ps := fun i => match m.dns[i]? with
    | some d => d.ps
    | none => []
theorem lookup_memS {α : Type} {x : Str} {v : α} : ∀ {l : List (Str × α)}, l.lookup x = some v → (x, v) ∈ l
  | [], h => by cases h
  | (y, u) :: r, h => by
    rw [List.lookup] at h
    cases e : (x == y) with
    | true =>
      rw [e] at h
      cases h
      rw [beq_iff_eq.mp e]
      exact List.mem_cons_self ..
    | false =>
      rw [e] at h
      exact List.mem_cons_of_mem _ (lookup_memS h)
theorem lookup_memN {α : Type} {x : Nat} {v : α} : ∀ {l : List (Nat × α)}, l.lookup x = some v → (x, v) ∈ l
  | [], h => by cases h
  | (y, u) :: r, h => by
    rw [List.lookup] at h
    cases e : (x == y) with
    | true =>
      rw [e] at h
      cases h
      rw [beq_iff_eq.mp e]
      exact List.mem_cons_self ..
    | false =>
      rw [e] at h
      exact List.mem_cons_of_mem _ (lookup_memN h)
theorem zipIdx_mem {α : Type} {l : List α} {p : α × Nat} (h : p ∈ l.zipIdx) : l[p.2]? = some p.1 := by
  have := List.mk_mem_zipIdx_iff_getElem? (x := p.1) (i := p.2) (l := l)
  exact this.mp h
theorem mem_zipIdx {α : Type} {l : List α} {i : Nat} {a : α} (h : l[i]? = some a) : (a, i) ∈ l.zipIdx := List.mk_mem_zipIdx_iff_getElem?.mpr h
theorem plain_of {a : Arguments} {ps : List Str} (h : plainB a ps = true) : PlainArgs a ps := by
  unfold plainB at h
  simp only [Bool.and_eq_true, List.isEmpty_iff, Option.isNone_iff_eq_none, decide_eq_true_eq] at h
  obtain ⟨⟨⟨⟨⟨h1, h2⟩, h3⟩, h4⟩, h5⟩, h6⟩ := h
  exact ⟨h1, h2, h3, h4, h5, h6⟩
theorem scope_of {N ps : List Str} {sc : Scope} (h : scopeB N ps sc = true) : FnScope N ps sc := by
  unfold scopeB at h
  simp only [Bool.and_eq_true, Bool.not_eq_true', decide_eq_true_eq, List.all_eq_true] at h
  obtain ⟨⟨⟨⟨⟨⟨h1, h2⟩, h3⟩, h4⟩, h5⟩, h6⟩, h7⟩ := h
  refine ⟨eq_of_beq h1, h2, h3, h4, h5, fun x hx => ?_, fun y hy e => ?_⟩
  · have := h6 x hx
    split at this
    · exact .inl (by assumption)
    · exact .inr (by assumption)
    · cases this
  · have := h7 y hy
    rw [e] at this
    simp at this
theorem take_len {N ps : List Str} (h : N.take ps.length = ps) : ps.length ≤ N.length := by
  have := congrArg List.length h
  rw [List.length_take] at this
  omega
/-- a value that a def's default or a table's item shows -/
theorem pvD_rep {K K' : PySem.W.Frag} {ρ : List Addr} {H : Hp} : ∀ (v : He.Dv), (match v with | .non => true | .bl _ => true | .int _ => true | .str _ => true | _ => false) = true → Rep K' ρ H (pvD v) (v.v K)
  | .non, _ => .non
  | .bl b, _ => .bl b
  | .int i, _ => .int i
  | .str x, _ => rep_str x
  | .byt _, h => by cases h
  | .flt _, h => by cases h
  | .ty _, h => by cases h
  | .glo _, h => by cases h
  | .adr _, h => by cases h
def simpleD : He.Dv → Bool
  | .non => true
  | .bl _ => true
  | .int _ => true
  | .str _ => true
  | _ => false
theorem pvDs_rep {K K' : PySem.W.Frag} {ρ : List Addr} {H : Hp} : ∀ {vs : List He.Dv}, vs.all simpleD = true → Reps K' ρ H (vs.map pvD) (vs.map (He.Dv.v K))
  | [], _ => .nil
  | v :: vs, h => by
    rw [List.all_cons, Bool.and_eq_true] at h
    exact .cons (pvD_rep v (by have := h.1; unfold simpleD at this; exact this)) (pvDs_rep h.2)
section
variable {m : Md} {P : Program} {w : World} {K : PySem.W.Frag} {h : Heap} {mg : Str → Option Value} {base : Heap}
abbrev Md.Says (m : Md) (w : World) (h : Heap) (K : PySem.W.Frag) : Prop := He.SaysX m.fa (m.dns.map Dn.toD) [] m.tf m.ex w h K
theorem ok_dn (ok : m.okB = true) {i : Nat} {d : Dn} (e : m.dns[i]? = some d) : PlainArgs (defArgs d.st) d.ps ∧ FnScope d.N d.ps (defScope d.st) ∧ d.dfl.length ≤ d.ps.length := by
  unfold Md.okB at ok
  simp only [Bool.and_eq_true, List.all_eq_true, decide_eq_true_eq] at ok
  obtain ⟨⟨⟨h1, _⟩, _⟩, _⟩ := ok
  obtain ⟨⟨q1, q2⟩, q4⟩ := h1 _ (mem_zipIdx e)
  exact ⟨plain_of q1, scope_of q2, q4⟩
theorem at_eq {i : Nat} {d : Dn} (e : m.dns[i]? = some d) : m.at_ i = d.at_ := by unfold Md.at_; rw [e]
theorem fd_eq {x q : Str} {a : Arguments} {b : List Stmt} {sc : Scope} {dvs : List V} {kws : List (Str × V)} {p : He.Defn} {fd : FuncData} (F : FunD K x q a b sc dvs kws (He.fAd K p) fd) : fdOf K p = fd := by
  obtain ⟨oc, od, dV, kV, doc, pm, an, cdv, ct, osl, e, lk, _⟩ := F.ex
  unfold fdOf
  rw [lk]
theorem funD_of (c : m.Says w h K) {i : Nat} {d : Dn} (e : m.dns[i]? = some d) : FunD K d.name d.qual (defArgs d.st) (defBody d.st) (defScope d.st) (d.dfl.map (He.Dv.v K)) [] (He.fAd K (m.at_ i)) (fdOf K (m.at_ i)) := by
  obtain ⟨fd, F⟩ := c.t.d.defs (List.mem_map.mpr ⟨d, List.mem_of_getElem? e, rfl⟩)
  rw [at_eq e]
  have := fd_eq (p := d.at_) F
  rw [this]
  exact F
theorem funC_of (c : m.Says w h K) {i : Nat} {d : Dn} (e : m.dns[i]? = some d) : FunC K d.name d.qual (defArgs d.st) (defBody d.st) (defScope d.st) (d.dfl.map (He.Dv.v K)) (He.fAd K (m.at_ i)) (fdOf K (m.at_ i)) (.ref (He.codeOf K (m.at_ i))) := by
  have F := funD_of c e
  obtain ⟨oc, od, dV, kV, doc, pm, an, cdv, ct, osl, e1, lk, hcd, hdf, _⟩ := F.ex
  obtain ⟨ca, rfl⟩ := He.codeIn_ref hcd
  have : He.codeOf K (m.at_ i) = ca := He.codeOf_eq lk (by rw [e1])
  rw [this]
  exact ⟨⟨oc, od, dV, kV, doc, pm, an, ct, osl, e1, lk, hcd, hdf⟩, F.kp⟩
theorem wd_fns {i : Nat} (hi : i < m.I.fns.length) : ∃ d, m.dns[i]? = some d ∧ m.I.fns[i]? = some (m.fn (d, i)) := by
  have l : i < m.dns.length := by
    have : m.I.fns.length = m.dns.length := by unfold Md.I; simp
    omega
  refine ⟨m.dns[i], List.getElem?_eq_getElem l, ?_⟩
  unfold Md.I
  dsimp only
  rw [List.getElem?_map, List.getElem?_zipIdx, List.getElem?_eq_getElem l]
  simp
/-- at every depth the defs keep what the evaluator says -/
theorem wd_ok (ok : m.okB = true) (c : m.Says w h K) (T : GOk (m.wd P w K mg base) m.tx) : ∀ d, (m.wd P w K mg base).Ok d := by
  refine ok_all (ok_zero fun i hi => ?_) fun d O i hi => ?_
  · obtain ⟨dn, e, _⟩ := wd_fns hi
    obtain ⟨_, S, _⟩ := ok_dn ok e
    refine ⟨_, _, _, _, _, _, _, dn.N, funD_of c e, ?_⟩
    show FnScope dn.N (match m.dns[i]? with | some d => d.ps | none => []) _
    rw [e]; exact S
  · obtain ⟨dn, e, ef⟩ := wd_fns hi
    obtain ⟨_, S, _⟩ := ok_dn ok e
    have eps : (m.wd P w K mg base).ps i = dn.ps := by
      show (match m.dns[i]? with | some d => d.ps | none => []) = _
      rw [e]
    refine fn_step (ca := some i) (Fd := m.fn (dn, i)) (funC_of c e) (fun a ha => by cases ha; rfl) (by rw [eps]; exact S) ef (by rw [eps] <;> rfl) rfl (by rw [eps]; exact take_len S.pre) fun F Wx k G hk => ?_
    show SSs _ _ _ _ _ (m.bodyOf i dn)
    unfold Md.bodyOf
    cases hb : m.bodyOf? i dn with
    | some b => exact cBody_ok (c := m.cc i dn) O G T hk hb
    | none =>
      refine ⟨_, fun X hX => pss_never, fun L σ H env h ρ De n er w => ?_⟩
      simp only [Option.getD, badE, evSs, evS, evE, idxE, seqOf] at w
      exact w.elim
end
end Mini

/-! Lk3 -/
set_option autoImplicit false
set_option Elab.async false
set_option linter.all false
set_option maxRecDepth 100000
set_option maxHeartbeats 2000000
namespace Mini
open PySem PySem.Spec PySem.Calls PyProof.Rows L2

/-- binding where defaults fill up: n values are written, the defaults behind the first j fill up -/
def DflBind (d : Dn) (n j : Nat) : Prop := ∀ (T : Addr) (kV doc pm : Value) (an : Option Addr) (cdv ct : Value) (us its : List Value), us.length = n → its.length = d.dfl.length →
  ∃ k, bindArgs (PySem.W.fnOf d.name d.qual (defArgs d.st) (defBody d.st) (defScope d.st) (.ref T) kV doc pm an cdv ct) ⟨us, []⟩ = seqItems? (.ref T) >>= k ∧ k (some its.toArray) = pure (d.ps.zip (us ++ its.drop j))
def Md.Dfl (m : Md) : Prop := ∀ d ∈ m.dns, d.dfl ≠ [] → d.dfl.all simpleD = true ∧ ∀ t, t ≤ d.dfl.length → DflBind d (d.ps.length - t) (d.dfl.length - t)
section
variable {m : Md} {P : Program} {w : World} {K : PySem.W.Frag} {h : Heap} {mg : Str → Option Value} {base : Heap}
theorem says_fact (c : m.Says w h K) {f : He.Fa} (hf : f ∈ m.fa) : f.ok K = true := c.t.d.facts hf
theorem gt_fn {x : Str} {i : Nat} {opts : List (Nat × List PV)} (hm : (x, Gn.fn i opts) ∈ m.gt) : ∃ d, m.dns[i]? = some d ∧ d.at_ = (x, none) ∧ opts = d.opts := by
  unfold Md.gt at hm
  rcases List.mem_append.mp hm with hm | hm
  · rcases List.mem_append.mp hm with hm | hm
    · obtain ⟨p, hp, e⟩ := List.mem_filterMap.mp hm
      split at e
      · rename_i e2
        cases e
        exact ⟨p.1, zipIdx_mem hp, by rw [← e2], rfl⟩
      · cases e
    · obtain ⟨p, hp, e⟩ := List.mem_map.mp hm
      cases e
  · obtain ⟨p, hp, e⟩ := List.mem_map.mp hm
    cases e
theorem gt_con {x : Str} {j : Nat} (hm : (x, Gn.con j) ∈ m.gt) : ∃ v, m.cons[j]? = some (x, v) := by
  unfold Md.gt at hm
  rcases List.mem_append.mp hm with hm | hm
  · rcases List.mem_append.mp hm with hm | hm
    · obtain ⟨p, hp, e⟩ := List.mem_filterMap.mp hm
      split at e <;> cases e
    · obtain ⟨p, hp, e⟩ := List.mem_map.mp hm
      cases e
      exact ⟨p.1.2, zipIdx_mem hp⟩
  · obtain ⟨p, hp, e⟩ := List.mem_map.mp hm
    cases e
theorem gt_exc {x : Str} {j : Nat} (hm : (x, Gn.exc j) ∈ m.gt) : m.excs[j]? = some x := by
  unfold Md.gt at hm
  rcases List.mem_append.mp hm with hm | hm
  · rcases List.mem_append.mp hm with hm | hm
    · obtain ⟨p, hp, e⟩ := List.mem_filterMap.mp hm
      split at e <;> cases e
    · obtain ⟨p, hp, e⟩ := List.mem_map.mp hm
      cases e
  · obtain ⟨p, hp, e⟩ := List.mem_map.mp hm
    cases e
    exact zipIdx_mem hp
theorem fa_glo {d : Dn} (hd : d ∈ m.dns) {x : Str} (e : d.at_ = (x, none)) : He.Fa.glo x ∈ m.fa := by
  unfold Md.fa
  simp only [List.mem_append, List.mem_filterMap]
  refine .inl (.inl (.inl (.inl ⟨d, hd, ?_⟩)))
  rw [e]
theorem fa_exc {x : Str} (hx : x ∈ m.excs) : He.Fa.glo x ∈ m.fa ∧ He.Fa.exc x ∈ m.fa := by
  unfold Md.fa
  simp only [List.mem_append, List.mem_map]
  exact ⟨.inl (.inl (.inl (.inr ⟨x, hx, rfl⟩))), .inl (.inl (.inr ⟨x, hx, rfl⟩))⟩
theorem fa_free {x : Str} (hx : x ∈ m.free) : He.Fa.free x ∈ m.fa := by
  unfold Md.fa
  simp only [List.mem_append, List.mem_map]
  exact .inl (.inr ⟨x, hx, rfl⟩)
theorem fa_int {x : Str} {i : Int} (hx : (x, Cv.int i) ∈ m.cons) : He.Fa.int x i ∈ m.fa := by
  unfold Md.fa
  simp only [List.mem_append, List.mem_filterMap]
  exact .inr ⟨_, hx, rfl⟩
theorem nrm_lt (he : m.excs ≠ []) (c : Nat) : m.nrm c < m.excs.length := by
  unfold Md.nrm
  split
  · assumption
  · exact List.length_pos_iff.mpr he
theorem nrm_nrm (c : Nat) : m.nrm (m.nrm c) = m.nrm c := by
  unfold Md.nrm
  by_cases z : c < m.excs.length
  · simp [z]
  · simp [z]
theorem says_ex (c : m.Says w h K) : (∀ p ∈ m.cons, ∀ xs, p.2 = .tup xs → PySem.W.nsIn K mainGlobals p.1 = some (some (.ref (He.ga K p.1))) ∧ He.tupB K p.1 xs = true) ∧ (m.tf.map fun p => (He.cT K p).2).Nodup ∧
    ∀ i j x y, m.excs[i]? = some x → m.excs[j]? = some y → PySem.W.exmOne K (.ref (He.ga K x)) (.ref (He.ga K y)) = some (m.isa i j) := by
  have ex := c.more
  unfold Md.ex at ex
  simp only [Bool.and_eq_true, List.all_eq_true, decide_eq_true_eq] at ex
  obtain ⟨⟨e1, e2⟩, e3⟩ := ex
  refine ⟨fun p hp xs e => ?_, e2, fun i j x y hx hy => e3 _ (mem_zipIdx hx) _ (mem_zipIdx hy)⟩
  have := e1 p hp
  rw [e] at this
  simp only [Bool.and_eq_true] at this
  exact ⟨He.eqO_ok this.1.2, this.2⟩
/-- what the tables tell -/
theorem wd_gok (ok : m.okB = true) (hc : m.cons.all (fun p => match p.2 with | .int _ => true | .tup xs => xs.all simpleD) = true) (hdf : m.Dfl) (c : m.Says w h K) (X : K.In h) (G : h.Ns mainGlobals mg) (TB : ∀ p ∈ m.tf.map (He.cT K), LamX.TabB base mg p.1 p.2) : GOk (m.wd P w K mg base) m.tx := by
  have ok0 := ok
  unfold Md.okB at ok
  simp only [Bool.and_eq_true, List.all_eq_true, decide_eq_true_eq] at ok
  obtain ⟨⟨⟨_, oktold⟩, oklam⟩, okexc⟩ := ok
  have hexc : m.excs ≠ [] := by
    intro z
    rw [z] at okexc
    simp at okexc
  have glo : ∀ {x : Str}, He.Fa.glo x ∈ m.fa → mg x = some (.ref (He.ga K x)) := fun hx => He.glo_ok X G (says_fact c hx)
  have clsE : ∀ (i : Nat) (x : Str), m.excs[i]? = some x → (m.wd P w K mg base).cls i = He.ga K x := fun i x e => by
    show He.ga K (m.excs.getD (m.nrm i) Str.empty) = _
    have hi := (List.getElem?_eq_some_iff.mp e).1
    have : m.nrm i = i := by unfold Md.nrm; rw [if_pos hi]
    rw [this, List.getD_eq_getElem?_getD, e]
    rfl
  refine ⟨fun x i opts hl => ?_, fun x j hl => ?_, fun x j hl => ?_, fun x hx => ?_, fun x k ret hl => ?_, fun l hl => ?_, fun cc cc' => ?_⟩
  · -- defs
    obtain ⟨d, e, ea, rfl⟩ := gt_fn (lookup_memS hl)
    have ei : i < m.I.fns.length := by
      have : m.I.fns.length = m.dns.length := by unfold Md.I; simp
      rw [this]
      exact (List.getElem?_eq_some_iff.mp e).1
    have efa : (m.wd P w K mg base).fa i = He.ga K x := by
      show He.fAd K (m.at_ i) = _
      rw [at_eq e, ea]; rfl
    have F := funD_of c e
    have eps : (m.wd P w K mg base).ps i = d.ps := by
      show (match m.dns[i]? with | some d => d.ps | none => []) = _
      rw [e]
    obtain ⟨PA, S, hdl⟩ := ok_dn ok0 e
    refine ⟨ei, ?_, F.kp, fun n qs hn => ?_⟩
    · rw [efa]
      exact glo (fa_glo (List.mem_of_getElem? e) ea)
    · obtain ⟨t, ht, et⟩ := List.mem_map.mp (lookup_memN hn)
      cases et
      have ht : t ≤ d.dfl.length := by have := List.mem_range.mp ht; omega
      rw [eps]
      by_cases hz : d.dfl = []
      · have t0 : t = 0 := by rw [hz] at ht; simpa using ht
        subst t0
        refine ⟨by simp [hz], [], [], ?_, .nil, fun ρ H => by rw [hz]; exact .nil⟩
        have F' := F
        rw [hz] at F'
        refine Binds.all fun us hl => ?_
        obtain ⟨oc, od, dV, kV, doc, pm, an, cdv, ct, osl, e1, lk, hcd, hD, _⟩ := F'.ex
        show bindArgs (fdOf K (m.at_ i)) ⟨us, []⟩ = _
        rw [e1]
        rcases hD with ⟨_, rfl⟩ | ⟨e, _⟩
        · exact bind_plain PA rfl hl
        · exact absurd rfl e
      · obtain ⟨hs, hb⟩ := hdf d (List.mem_of_getElem? e) hz
        have hz' : d.dfl.map (He.Dv.v K) ≠ [] := by simpa using hz
        obtain ⟨ds, r, b⟩ := FunD.binds1 (ps := d.ps) F (d.ps.length - t) (d.dfl.length - t) hz' (by rw [List.length_map]; omega) (fun T kV doc pm an cdv ct us its h1 h2 => hb t ht T kV doc pm an cdv ct us its h1 (by rw [h2, List.length_map]))
        refine ⟨by rw [List.length_map, List.length_drop]; omega, _, ds, b, r, fun ρ H => ?_⟩
        rw [← List.map_drop]
        exact pvDs_rep (by
          rw [List.all_eq_true] at hs ⊢
          exact fun v hv => hs v (List.mem_of_mem_drop hv))
  · -- constants
    obtain ⟨v, e⟩ := gt_con (lookup_memS hl)
    have hm := List.mem_of_getElem? e
    have ei : (m.wd P w K mg base).I.cons[j]? = some v.pv := by
      show (m.cons.map fun p => p.2.pv)[j]? = _
      rw [List.getElem?_map, e]; rfl
    cases v with
    | int i =>
      obtain ⟨t, q⟩ := He.int_ok X G (says_fact c (fa_int hm))
      exact ⟨_, .int i, _, q, ⟨t, rfl⟩, ei, fun ρ H => .int i⟩
    | tup xs =>
      obtain ⟨q1, q2⟩ := (says_ex c).1 _ hm xs rfl
      have hs := List.all_eq_true.mp hc _ hm
      exact ⟨_, .ref (He.ga K x), _, PySem.W.mg_of X G q1, rfl, ei, fun ρ H => .tup (He.tupB_ok q2 H) (pvDs_rep hs)⟩
  · -- exceptions
    have e := gt_exc (lookup_memS hl)
    have hx := List.mem_of_getElem? e
    obtain ⟨f1, f2⟩ := fa_exc hx
    obtain ⟨q1, q2, q3, q4⟩ := He.exc_ok (says_fact c f2)
    rw [clsE j x e]
    exact ⟨glo f1, q2, ⟨"ValueError", "ValueError.__new__", "ValueError.__init__", He.veBase, PySem.F.excBase_ValueError, q1⟩, q3, q4⟩
  · -- free names
    have hx' : x ∈ m.tx.no := by simpa using hx
    exact He.free_ok X G (says_fact c (fa_free hx'))
  · -- told
    obtain ⟨t, ht, et⟩ := List.mem_map.mp (lookup_memS hl)
    cases et
    obtain ⟨q, hk⟩ := oktold t ht
    cases e : m.dns[t.2.1]? with
    | none => rw [e] at q; cases q
    | some d =>
      rw [e] at q
      dsimp only at q
      rw [Bool.and_eq_true] at q
      obtain ⟨q1, q2⟩ := q
      have en := beq_iff_eq.mp q1
      unfold toldB at q2
      split at q2
      · rename_i a p1 p2 p3 e2 p4 r j5 p5 p6 p7 p8 hbody
        simp only [Bool.and_eq_true, Bool.not_eq_true', decide_eq_true_eq] at q2
        obtain ⟨⟨⟨⟨⟨⟨⟨⟨⟨⟨⟨b1, b2⟩, b3⟩, b4⟩, b5⟩, b6⟩, b7⟩, b8⟩, b9⟩, b10⟩, b11⟩, b12⟩ := q2
        have b1 := beq_iff_eq.mp b1
        have b2 := beq_iff_eq.mp b2
        have b11 := beq_iff_eq.mp b11
        have b12 := beq_iff_eq.mp b12
        have F := funD_of c e
        obtain ⟨PA, S, _⟩ := ok_dn ok0 e
        obtain ⟨oc, od, dV, kV, doc, pm, an, cdv, ct, osl, e1, lk, hcd, hD, _⟩ := F.ex
        have dz : d.dfl = [] := by simpa using b10
        have dV0 : dV = .none := by
          rcases hD with ⟨_, z⟩ | ⟨z, _⟩
          · exact z
          · rw [dz] at z; exact absurd rfl z
        subst dV0
        have aeq : He.fAd K (m.at_ t.2.1) = He.ga K t.1 := by
          rw [at_eq e, b11, en]; rfl
        have lk' : K.lookup (He.ga K t.1) = some ⟨oc, od, .func (PySem.W.fnOf t.1 t.1 (defArgs d.st) [.Try [.Return (some (.Call (.Name a p1) [] [] p2)) p3] [.ExceptHandler (some (.Name e2 p4)) none [.Return (some (.Constant (.str r) j5 p5)) p6] p7] [] [] p8] (defScope d.st) .none kV doc pm an cdv ct), osl⟩ := by
          have := lk
          rw [e1, aeq, hbody, ← b12, en] at this
          exact this
        have gl : mg t.1 = some (.ref (He.ga K t.1)) := glo (fa_glo (List.mem_of_getElem? e) (by rw [b11, en]))
        have hk2 : m.excs[t.2.2.1]? = some (m.excs.getD (m.nrm t.2.2.1) Str.empty) := by
          have : m.nrm t.2.2.1 = t.2.2.1 := by unfold Md.nrm; rw [if_pos hk]
          rw [this, List.getD_eq_getElem?_getD, List.getElem?_eq_getElem hk]
          rfl
        have kp := F.kp
        rw [aeq] at kp
        refine ⟨He.ga K t.1, d.N, a, e2, r, defScope d.st, cdv, j5, p1, p2, p3, p4, p5, p6, p7, p8, ⟨gl, kp, ⟨oc, od, defArgs d.st, .none, kV, doc, pm, an, ct, osl, lk', Binds.all fun us hl => bind_plain (by rw [← b2]; exact PA) rfl hl⟩, ?_, by rw [← b2]; exact S, ?_, ?_, by rw [← en]; exact b6, b7, b8⟩, ?_, ?_, by rw [b1]; exact b9, b3⟩
        · rw [← b12, en] at hcd
          exact hcd
        · have := S.pre
          rw [b2] at this
          cases hN : d.N with
          | nil => rw [hN] at this; simp at this
          | cons y ys => rw [hN] at this; simp at this; rw [this]; rfl
        · split at b5
          · exact .inl (by assumption)
          · exact .inr (.inl (by assumption))
          · exact .inr (.inr (by assumption))
          · cases b5
        · rw [b1]
          split at b4
          · assumption
          · cases b4
        · rw [clsE _ _ hk2, b1]
          exact glo (fa_exc (List.mem_of_getElem? hk2)).1
      · cases q2
  · -- tables
    obtain ⟨l0, hl0, rfl⟩ := List.mem_map.mp hl
    have hlt := oklam l0 hl0
    have ed : m.dns[l0.1]? = some (m.dns[l0.1]'hlt) := List.getElem?_eq_getElem hlt
    have emem : m.at_ l0.1 ∈ m.tf := by
      unfold Md.tf
      refine List.mem_map.mpr ⟨l0, hl0, ?_⟩
      unfold Md.at_
      rfl
    refine ⟨m.tabs K, (He.cT K (m.at_ l0.1)).2, m.nm l0, rfl, TB _ (List.mem_map.mpr ⟨_, emem, rfl⟩), List.mem_map.mpr ⟨l0, hl0, rfl⟩, fun q hq e => ?_, fun pl hpl => ?_, fun pl hpl => ?_⟩
    · obtain ⟨l1, hl1, rfl⟩ := List.mem_map.mp hq
      have nd := (says_ex c).2.1
      -- the same table: the same entry
      have e2 : m.tf.map (fun p => (He.cT K p).2) = m.lams.map fun l => (He.cT K (m.at_ l.1)).2 := by
        unfold Md.tf
        rw [List.map_map]
        rfl
      rw [e2] at nd
      obtain ⟨i1, h1, g1⟩ := List.getElem_of_mem hl1
      obtain ⟨i0, h0, g0⟩ := List.getElem_of_mem hl0
      have a1 : (m.lams.map fun l => (He.cT K (m.at_ l.1)).2)[i1]'(by simpa using h1) = (He.cT K (m.at_ l1.1)).2 := by rw [List.getElem_map, g1]
      have a0 : (m.lams.map fun l => (He.cT K (m.at_ l.1)).2)[i0]'(by simpa using h0) = (He.cT K (m.at_ l0.1)).2 := by rw [List.getElem_map, g0]
      have : i1 = i0 := (List.getElem_inj nd).mp (a1.trans ((show (He.cT K (m.at_ l1.1)).2 = _ from e).trans a0.symm))
      subst this
      rw [g1] at g0
      rw [g0]
    · show m.nm l0 pl.1 pl.2 = _
      unfold Md.nm
      rw [if_pos (by simpa using hpl)]
    · show m.nm l0 pl.1 pl.2 = _
      unfold Md.nm
      rw [if_neg (by simpa using hpl)]
  · -- exception classes
    have l1 := nrm_lt hexc cc'
    have l2 := nrm_lt hexc cc
    have g := (says_ex c).2.2 (m.nrm cc') (m.nrm cc) _ _ (List.getElem?_eq_getElem l1) (List.getElem?_eq_getElem l2)
    have ei : m.isa (m.nrm cc') (m.nrm cc) = m.isa cc' cc := by
      unfold Md.isa
      rw [nrm_nrm, nrm_nrm]
    rw [ei] at g
    show PySem.W.exmOne K (.ref (He.ga K (m.excs.getD (m.nrm cc') Str.empty))) (.ref (He.ga K (m.excs.getD (m.nrm cc) Str.empty))) = some (m.isa cc' cc)
    rw [List.getD_eq_getElem?_getD, List.getD_eq_getElem?_getD, List.getElem?_eq_getElem l1, List.getElem?_eq_getElem l2]
    exact g
end
end Mini

/-! Lk4 -/
set_option autoImplicit false
set_option Elab.async false
set_option linter.all false
set_option maxRecDepth 100000
set_option maxHeartbeats 2000000
namespace Mini
open PySem PySem.Spec PySem.Calls PyProof.Rows L2

/-- what is left to be shown of the law, in plain Lean -/
def Md.Law (m : Md) (i d n : Nat) : Prop := ∀ ns : List Int, ns.length ≤ n → (∀ z ∈ ns, Builtin.Int.intBits z ≤ 1048576) →
  (∃ h', callN m.I d i [.lst (ns.map .int)] ⟨0, []⟩ [] = .ok (.bl true) h') ∧ ∃ h', callN m.I d i [.ref 0] ⟨0, []⟩ [.lst (ns.map .int)] = .ok (.bl true) h'
theorem ints_reps {K : PySem.W.Frag} {ρ : List Addr} {H : Hp} : ∀ ns : List Int, Reps K ρ H (ns.map .int) (ns.map V.int)
  | [] => .nil
  | z :: ns => .cons (.int z) (ints_reps ns)
theorem cx_none {P : Program} {w : World} {H : Hp} {s s' : Shared} {e : Value} (h : L2.CX P w [] H s (fun _ _ _ => False) e s') : False := by
  obtain ⟨a, B, H', cls, d, _, _, _, _, _, _, _, z⟩ := h
  exact z
/-- the law's own call -/
theorem law_at {m : Md} {l : PySem.W.OpenLaw} {w : World} {K : PySem.W.Frag} {h : Heap} {mg : Str → Option Value} {fa : Addr} {i d n : Nat} {dn : Dn} {x : Str} (ok : m.okB = true) (hc : m.cons.all (fun p => match p.2 with | .int _ => true | .tup xs => xs.all simpleD) = true) (hdf : m.Dfl)
    (X : K.In h) (c : m.Says w h K) (G : h.Ns mainGlobals mg) (e : m.dns[i]? = some dn) (ea : dn.at_ = (("law" : Str), none)) (eps : dn.ps = [x]) (edf : dn.dfl = []) (hmg : mg ("law" : Str) = some (.ref fa)) (law : m.Law i d n) : LamX.LawAtS l w K (L2.CX l.prog w) (lev d) n x mg fa h := by
  have F := funD_of c e
  obtain ⟨PA, S, _⟩ := ok_dn ok e
  have efa : He.fAd K (m.at_ i) = fa := by
    have g := He.glo_ok X G (says_fact c (fa_glo (List.mem_of_getElem? e) ea))
    rw [hmg] at g
    rw [at_eq e, ea]
    show He.ga K "law" = fa
    injection g with g
    injection g with g
    exact g.symm
  have hps : (m.wd l.prog w K mg { objs := #[] }).ps i = [x] := by
    show (match m.dns[i]? with | some d => d.ps | none => []) = _
    rw [e]; exact eps
  refine ⟨fdOf K (m.at_ i), m.tf.map (He.cT K), (m.wd l.prog w K mg { objs := #[] }).sp d i, fun p hp => ?_, fun p hp => ?_, fun p hp => ?_, fun s u => ?_, fun H a ns hl hb hT hS => ?_, fun base KB GB TB => ?_⟩
  · obtain ⟨q, hq, rfl⟩ := List.mem_map.mp hp
    exact c.empty q hq
  · obtain ⟨q, hq, rfl⟩ := List.mem_map.mp hp
    exact c.out q hq
  · obtain ⟨q, hq, rfl⟩ := List.mem_map.mp hp
    exact PySem.W.codeHd_of_K X (c.hd q hq)
  · obtain ⟨oc, od, dV, kV, doc, pm, an, cdv, ct, osl, e1, lk, hcd, hD, _⟩ := F.ex
    rw [e1]
    have dV0 : dV = .none := by
      rcases hD with ⟨_, z⟩ | ⟨z, _⟩
      · exact z
      · rw [edf] at z; exact absurd rfl z
    subst dV0
    exact .of_eq (bind_plain (ps := [x]) (by rw [← eps]; exact PA) rfl rfl)
  · have hside : (tabSide (m.tabs K)).T H := by
      intro p hp
      obtain ⟨l0, hl0, rfl⟩ := List.mem_map.mp hp
      refine .nil (hT (He.cT K (m.at_ l0.1)) (List.mem_map.mpr ⟨m.at_ l0.1, ?_, rfl⟩))
      unfold Md.tf
      refine List.mem_map.mpr ⟨l0, hl0, ?_⟩
      unfold Md.at_
      rfl
    obtain ⟨⟨h1, r1⟩, h2, r2⟩ := law ns hl hb
    refine ⟨by rw [hps]; rfl, ?_⟩
    have fz : Fz K H a (ns.map V.int) → ∃ (ρ : List Addr) (h : Hh) (args : List PV) (L : Lk), Now (tabSide (m.tabs K)) K ρ h H ∧ Reps K ρ H args [.ref a] ∧ WantE (tabSide (m.tabs K)) K ρ H (fun _ _ => False) (fun v _ => v = .bl true) (callN m.I d i args L h) := fun hz => by
      refine ⟨[], [], [.lst (ns.map .int)], ⟨0, []⟩, ⟨⟨rfl, List.nodup_nil, fun j o ej => by simp at ej⟩, hside⟩, .cons (.lst hz (ints_reps ns)) .nil, ?_⟩
      rw [r1]
      intro v H' ρ' _ rp
      cases rp
      rfl
    rcases hS with (hS | hS) | hS
    · refine ⟨[a], [.lst (ns.map .int)], [.ref 0], ⟨0, []⟩, ⟨⟨rfl, by simp, fun j o ej => ?_⟩, hside⟩, .cons (.ref rfl) .nil, ?_⟩
      · cases j with
        | zero => simp at ej; subst ej; exact ⟨a, rfl, ns.map V.int, hS, ints_reps ns⟩
        | succ j => simp at ej
      · show WantE (tabSide (m.tabs K)) K [a] H (fun _ _ => False) (fun v _ => v = .bl true) (callN m.I d i [.ref 0] ⟨0, []⟩ [.lst (ns.map .int)])
        rw [r2]
        intro v H' ρ' _ rp
        cases rp
        rfl
    · exact fz (.inl hS)
    · exact fz (.inr hS)
  · have T := wd_gok (P := l.prog) (w := w) (base := base) ok hc hdf c X G TB
    have O := wd_ok ok c T d
    have := O i (by
      show i < m.I.fns.length
      have z : m.I.fns.length = m.dns.length := by unfold Md.I; simp
      rw [z]
      exact (List.getElem?_eq_some_iff.mp e).1)
    have q1 : (m.wd l.prog w K mg base).ps i = [x] := hps
    rw [q1] at this
    have q2 : (m.wd l.prog w K mg base).fa i = fa := efa
    rw [q2] at this
    exact this
end Mini

/-! Mk01 -/
set_option autoImplicit false
set_option Elab.async false
set_option linter.all false
set_option maxRecDepth 100000
set_option maxHeartbeats 2000000
namespace Mini
namespace k01
open PySem PySem.Spec PySem.Calls PyProof.Rows L2
def top (i : Nat) : Stmt := PySem.Challenge.pw_chancestack_k01_ratios_in_least_terms.main.body.getD i (.Pass ⟨0, 0, 0, 0⟩)
def dns : List Dn := [
  ⟨("ratio", none), "ratio", "ratio", top 6, ["top", "bottom", "one", "other"], ["top", "bottom"], true, [.int 1]⟩,
  ⟨("plus", none), "plus", "plus", top 7, ["one", "other"], ["one", "other"], true, []⟩,
  ⟨("minus", none), "minus", "minus", top 8, ["one", "other"], ["one", "other"], true, []⟩,
  ⟨("times", none), "times", "times", top 9, ["one", "other"], ["one", "other"], true, []⟩,
  ⟨("divided", none), "divided", "divided", top 10, ["one", "other"], ["one", "other"], true, []⟩,
  ⟨("sum_of", none), "sum_of", "sum_of", top 11, ["rows", "found", "row"], ["rows"], true, []⟩,
  ⟨("product_of", none), "product_of", "product_of", top 12, ["rows", "found", "row"], ["rows"], true, []⟩,
  ⟨("power", none), "power", "power", top 13, ["one", "many", "found", "turn"], ["one", "many"], true, []⟩,
  ⟨("is_less", none), "is_less", "is_less", top 14, ["one", "other"], ["one", "other"], true, []⟩,
  ⟨("least_of", none), "least_of", "least_of", top 15, ["rows", "found", "row"], ["rows"], true, []⟩,
  ⟨("most_of", none), "most_of", "most_of", top 16, ["rows", "found", "row"], ["rows"], true, []⟩,
  ⟨("check_part", none), "check_part", "check_part", top 17, ["one"], ["one"], true, []⟩,
  ⟨("ratio_text", none), "ratio_text", "ratio_text", top 18, ["one"], ["one"], true, []⟩,
  ⟨("read_ratio", none), "read_ratio", "read_ratio", top 19, ["text", "head", "sign", "tail", "body", "part", "one"], ["text"], true, []⟩,
  ⟨("in_hundredths", none), "in_hundredths", "in_hundredths", top 20, ["one"], ["one"], true, []⟩,
  ⟨("evened", none), "evened", "evened", top 21, ["weights", "weight"], ["weights"], true, []⟩,
  ⟨("shares_of", none), "shares_of", "shares_of", top 22, ["whole", "parts", "part", "found", "lost", "turn", "place", "top", "bottom", "down"], ["whole", "parts"], true, []⟩,
  ⟨("_law_dice", none), "_law_dice", "_law_dice", top 24, ["cell"], ["cell"], false, []⟩,
  ⟨("_law_roll", none), "_law_roll", "_law_roll", top 25, ["dice", "many", "found"], ["dice", "many"], false, []⟩,
  ⟨("_law_rounds", none), "_law_rounds", "_law_rounds", top 26, ["script", "most", "cells", "cell"], ["script", "most"], false, []⟩,
  ⟨("_law_told", none), "_law_told", "_law_told", top 27, ["what"], ["what"], true, []⟩,
  ⟨("_law_low", none), "_law_low", "_law_low", top 28, ["top", "bottom", "a", "b"], ["top", "bottom"], true, []⟩,
  ⟨("_law_sum", none), "_law_sum", "_law_sum", top 29, ["rows", "found", "top", "bottom"], ["rows"], true, []⟩,
  ⟨("_law_times", none), "_law_times", "_law_times", top 30, ["one", "other"], ["one", "other"], true, []⟩,
  ⟨("_law_drawn", none), "_law_drawn", "_law_drawn", top 31, ["dice"], ["dice"], false, []⟩,
  ⟨("_law_less", none), "_law_less", "_law_less", top 32, ["one", "other"], ["one", "other"], true, []⟩,
  ⟨("_law_plain", none), "_law_plain", "_law_plain", top 33, ["bad", "f"], [], true, []⟩,
  ⟨("law", none), "law", "law", top 34, ["script", "dice", "one", "other", "top", "bottom", "rows", "many", "product", "raised", "row", "turn", "text", "near", "weights", "whole", "parts", "shares", "lost", "more", "k", "weight", "less", "share"], ["script"], true, []⟩]
def md : Md where
  dns := dns
  cons := [("NOTHING", .tup [.int 0, .int 1]), ("ONE", .tup [.int 1, .int 1])]
  excs := ["ChanceError", "RatioError"]
  isT := [[true, false], [true, true]]
  free := ["len", "abs", "int", "str", "sum", "sorted", "tuple", "list", "min", "max", "range", "zip", "enumerate", "any"]
  chg := [(84, 12), (85, 11), (94, 15), (95, 11)]
  told := [("_law_told", 20, 1, [82, 97, 116, 105, 111, 69, 114, 114, 111, 114])]
  lams := [(13, []), (15, []), (26, [(135, 0), (136, 0), (137, 0), (138, 0), (139, 0), (140, 0), (141, 0), (142, 0), (143, 0), (144, 0), (145, 0), (146, 0), (147, 0), (148, 0), (149, 0), (150, 0), (151, 0), (152, 0), (153, 0), (154, 0), (155, 0), (156, 0), (157, 0), (158, 0)]), (27, [(212, 22)])]
  fuel := 60
end k01
end Mini
namespace Mini.k01
open PySem
theorem okB : md.okB = true := by decide +kernel
end Mini.k01

/-! H01 -/
set_option autoImplicit false
set_option Elab.async false
set_option linter.all false
set_option maxRecDepth 100000
set_option maxHeartbeats 0
namespace Mini.k01
open PySem PySem.Spec PyProof.Rows L2
abbrev R : PySem.W.OpenRow := PySem.W.OpenLaw.row PySem.Challenge.rw_chancestack_k01_ratios_in_least_terms
abbrev hk : PySem.W.Hook := He.hookX 4 md.fa (md.dns.map Dn.toD) [] md.tf md.ex
def ob (s : PySem.W.SharedT) : He.AlX := He.obsX 4 md.fa (md.dns.map Dn.toD) [] md.tf md.ex (HandSHeadRun.getT s)
theorem ob_eq (s : PySem.W.SharedT) : ob s = hk.obs s.abs := He.obsX_eq (HandSHeadRun.getT_eq s)
def loose : List PySem.Str := ["ChanceError", "RatioError", "NOTHING", "ONE", "ratio", "plus", "minus", "times", "divided", "sum_of", "product_of", "power", "is_less", "least_of", "most_of", "check_part", "ratio_text", "read_ratio", "in_hundredths", "evened", "shares_of", "_law_dice", "_law_roll", "_law_rounds", "_law_told", "_law_low", "_law_sum", "_law_times", "_law_drawn", "_law_less", "_law_plain"]
theorem run (w : World) : HandSHeadRun.RunEq R (PySem.W.view R.prog [34]) hk ob 3000 loose w := by
  intro os
  kernel_rfl
end Mini.k01

/-! W01 -/
set_option autoImplicit false
set_option Elab.async false
set_option linter.all false
set_option maxRecDepth 100000
set_option maxHeartbeats 0
namespace Mini.k01
open PySem PySem.Spec PyProof.Rows L2
theorem dfl : md.Dfl := by
  intro d hd hne
  have key : d = ⟨("ratio", none), "ratio", "ratio", top 6, ["top", "bottom", "one", "other"], ["top", "bottom"], true, [.int 1]⟩ := by
    have : d ∈ dns := hd
    simp only [dns, List.mem_cons, List.not_mem_nil, or_false] at this
    rcases this with h | h | h | h | h | h | h | h | h | h | h | h | h | h | h | h | h | h | h | h | h | h | h | h | h | h | h | h
    · exact h
    all_goals (rw [h] at hne; exact absurd rfl hne)
  subst key
  refine ⟨rfl, fun t ht => ?_⟩
  have : t = 0 ∨ t = 1 := by simp at ht; omega
  rcases this with rfl | rfl
  · intro T kV doc pm an cdv ct us its h1 h2
    match us, its, h1, h2 with
    | [_, _], [_], _, _ => exact ⟨_, rfl, rfl⟩
  · intro T kV doc pm an cdv ct us its h1 h2
    match us, its, h1, h2 with
    | [_], [_], _, _ => exact ⟨_, rfl, rfl⟩
end Mini.k01
open PySem PySem.W PySem.Calls PyProof.Rows
theorem k01_holds_of (law : Mini.k01.md.Law 27 20 63) : PySem.Challenge.rw_chancestack_k01_ratios_in_least_terms.Holds := by
  w_on; o_law
  refine HandSHeadRun.head_any (r := OpenLaw.row PySem.Challenge.rw_chancestack_k01_ratios_in_least_terms) (q := PySem.W.view (OpenLaw.row PySem.Challenge.rw_chancestack_k01_ratios_in_least_terms).prog [34]) (H := Mini.k01.hk) (ob := Mini.k01.ob) (M := 3000) (loose := Mini.k01.loose) (d := HandSHeadRun.topDef (OpenLaw.row PySem.Challenge.rw_chancestack_k01_ratios_in_least_terms).prog 34) (kwd := []) Mini.k01.ob_eq
    (by kernel_rfl) (fun s => by kernel_rfl) Mini.k01.run (by kernel_rfl) (by kernel_rfl) (by kernel_rfl) (by rfl) (by first | assumption | decide +kernel) (by decide +kernel) ⟨rfl, rfl, rfl, rfl, rfl, by decide +kernel⟩ ?hw ?hc
  case hw => w_witness2
  case hc =>
    refine LamX.walk_ofTsE (l := PySem.Challenge.rw_chancestack_k01_ratios_in_least_terms) (n := 63) (k := Mini.lev 20) (x := "script") (CX := fun w => L2.CX PySem.Challenge.rw_chancestack_k01_ratios_in_least_terms.prog w) rfl (by decide) (by kernel_rfl) ⟨rfl, by decide, by decide⟩ ?F (fun _ _ _ _ _ z => Mini.cx_none z)
    intro w mg fa h Y G hmg0
    obtain ⟨K, KX, c⟩ := Y
    have hmg : mg ("law" : PySem.Str) = some (.ref fa) := by
      have e : (HandSHeadRun.topDef (OpenLaw.row PySem.Challenge.rw_chancestack_k01_ratios_in_least_terms).prog 34).name = ("law" : PySem.Str) := by kernel_rfl
      rw [← e]
      exact hmg0
    exact ⟨K, KX, Mini.law_at (m := Mini.k01.md) Mini.k01.okB rfl Mini.k01.dfl KX c G rfl rfl rfl rfl hmg law⟩

/-! Ev -/
set_option autoImplicit false
set_option linter.all false
set_option maxRecDepth 100000
namespace Mini

/-! ### how calls and statements go -/
theorem cl_call (P : Prg) (d : Nat) : (clN P d).call = callN P d := rfl
theorem cl_con (P : Prg) (d : Nat) (i : Nat) : (clN P d).con i = P.cons[i]? := rfl
theorem cl_isa (P : Prg) (d : Nat) : (clN P d).isa = P.isa := rfl
theorem call_pure {P : Prg} {f : Nat} {F : Fn} (hf : P.fns[f]? = some F) (hp : F.pure = true) {d : Nat} {args : List PV} (hn : args.length = F.npar) (L : Lk) (h : Hh) :
    callN P (d + 1) f args L h = endPure h.length h (evSs (clN P d) ⟨h.length, []⟩ F.body (entry F.nslot args) h) := by
  rw [callN, hf]
  dsimp only
  rw [if_pos hn, hp, if_pos rfl]
  rfl
theorem call_raw {P : Prg} {f : Nat} {F : Fn} (hf : P.fns[f]? = some F) (hp : F.pure = false) {d : Nat} {args : List PV} (hn : args.length = F.npar) (L : Lk) (h : Hh) :
    callN P (d + 1) f args L h = endRaw (evSs (clN P d) L F.body (entry F.nslot args) h) := by
  rw [callN, hf]
  dsimp only
  rw [if_pos hn, hp, if_neg Bool.false_ne_true]
  rfl
section
variable {C : Cl} {L : Lk} {s : S} {ss : Ss} {env env' : Env} {h h' : Hh}
theorem ss_nx (e : evS C L s env h = .nx env' h') : evSs C L (.cons s ss) env h = evSs C L ss env' h' := by rw [evSs, e]
theorem ss_rt {p : PV} (e : evS C L s env h = .rt p h') : evSs C L (.cons s ss) env h = .rt p h' := by rw [evSs, e]
theorem ss_ex {c : Nat} (e : evS C L s env h = .ex c h') : evSs C L (.cons s ss) env h = .ex c h' := by rw [evSs, e]
theorem if_t {c : E} {a b : Ss} (e : evE C L c env h = .ok (.bl true) h') : evS C L (.ife c a b) env h = evSs C L a env h' := by rw [evS, e]
theorem if_f {c : E} {a b : Ss} (e : evE C L c env h = .ok (.bl false) h') : evS C L (.ife c a b) env h = evSs C L b env h' := by rw [evS, e]
/-- if c: .. (no else), not so -/
theorem skip {c : E} {a : Ss} (e : evE C L c env h = .ok (.bl false) h') : evSs C L (.cons (.ife c a .nil) ss) env h = evSs C L ss env h' := by
  rw [evSs, if_f e, evSs]
theorem take {c : E} {a b : Ss} (e : evE C L c env h = .ok (.bl true) h') : evSs C L (.cons (.ife c a b) ss) env h = (match evSs C L a env h' with | .nx env h => evSs C L ss env h | r => r) := by
  rw [evSs, if_t e]
  all_goals (cases evSs C L a env h' <;> rfl)
theorem set1 {i : Nat} {e : E} {p : PV} (x : evE C L e env h = .ok p h') : evSs C L (.cons (.asg (.name i) e) ss) env h = evSs C L ss (env.set i (some p)) h' := by
  rw [evSs, evS, x]
  simp only [asgT]
theorem ret1 {e : E} {p : PV} (x : evE C L e env h = .ok p h') : evSs C L (.cons (.ret e) ss) env h = .rt p h' := by
  rw [evSs, evS, x]
end
theorem for_ev {C : Cl} {L : Lk} {t : T} {s : Src} {es : Es} {b : Ss} {env : Env} {h h' : Hh} {ps xs : List PV} (e1 : evEs C L es env h = .ok ps h') (e2 : srcItems s ps h' = some xs) :
    evS C L (.for_ t s es b) env h = forL t (evSs C { L with locked := refsOf ps ++ L.locked } b) xs env h' := by
  rw [evS, e1]
  dsimp only
  rw [e2]
theorem comp_ev {C : Cl} {L : Lk} {m : Bool} {ws : List Nat} {t : T} {s : Src} {es : Es} {c e : E} {env : Env} {h h' h'' : Hh} {ps xs vs : List PV} (e1 : evEs C L es env h = .ok ps h') (e2 : srcItems s ps h' = some xs)
    (e3 : compL t (evE C { L with locked := refsOf ps ++ L.locked } c) (evE C { L with locked := refsOf ps ++ L.locked } e) (wipeE env ws) xs h' = .ok vs h'') (hl : vs.length ≤ lim) :
    evE C L (.comp m ws t s es c e) env h = if m then .ok (.ref h''.length) (h'' ++ [.lst vs]) else .ok (.lst vs) h'' := by
  rw [evE, e1]
  dsimp only
  rw [e2]
  dsimp only
  rw [e3]
  dsimp only
  rw [if_pos hl]
/-- tuple(.. for ..) -/
theorem gen_tuple {C : Cl} {L : Lk} {ws : List Nat} {t : T} {s : Src} {es : Es} {c e : E} {env : Env} {h h' h'' : Hh} {ps xs vs : List PV} (e1 : evEs C L es env h = .ok ps h') (e2 : srcItems s ps h' = some xs)
    (e3 : compL t (evE C { L with locked := refsOf ps ++ L.locked } c) (evE C { L with locked := refsOf ps ++ L.locked } e) (wipeE env ws) xs h' = .ok vs h'') (hl : vs.length ≤ lim) :
    evE C L (.gen .tuple ws t s es c e) env h = .ok (.tup vs) h'' := by
  rw [evE, e1]
  dsimp only
  rw [e2]
  dsimp only
  rw [e3]
  dsimp only
  rw [if_pos hl]
  rfl
theorem gen_any {C : Cl} {L : Lk} {ws : List Nat} {t : T} {s : Src} {es : Es} {c e : E} {env : Env} {h h' : Hh} {ps xs : List PV} {r : Rs PV} (e1 : evEs C L es env h = .ok ps h') (e2 : srcItems s ps h' = some xs)
    (e3 : anyL true t (evE C { L with locked := refsOf ps ++ L.locked } c) (evE C { L with locked := refsOf ps ++ L.locked } e) (wipeE env ws) xs h' = r) : evE C L (.gen .any ws t s es c e) env h = r := by
  rw [evE, e1]
  dsimp only
  rw [e2]
  dsimp only
  exact e3
theorem gen_all {C : Cl} {L : Lk} {ws : List Nat} {t : T} {s : Src} {es : Es} {c e : E} {env : Env} {h h' : Hh} {ps xs : List PV} {r : Rs PV} (e1 : evEs C L es env h = .ok ps h') (e2 : srcItems s ps h' = some xs)
    (e3 : anyL false t (evE C { L with locked := refsOf ps ++ L.locked } c) (evE C { L with locked := refsOf ps ++ L.locked } e) (wipeE env ws) xs h' = r) : evE C L (.gen .all ws t s es c e) env h = r := by
  rw [evE, e1]
  dsimp only
  rw [e2]
  dsimp only
  exact e3
/-! ### loops -/
/-- the turns of a while, as a function -/
def runW {α : Type} (test : α → Bool) (step : α → α) : Nat → α → Option α
  | 0, _ => none
  | n + 1, s => if test s then runW test step n (step s) else some s
theorem runW_more {α : Type} {test : α → Bool} {step : α → α} : ∀ {n m : Nat} {s s' : α}, n ≤ m → runW test step n s = some s' → runW test step m s = some s'
  | 0, _, _, _, _, e => by cases e
  | n + 1, 0, _, _, l, _ => by omega
  | n + 1, m + 1, s, s', l, e => by
    unfold runW at e ⊢
    split
    · rename_i t; rw [if_pos t] at e; exact runW_more (by omega) e
    · rename_i t; rw [if_neg t] at e; exact e
theorem while_run {α : Type} {c : Env → Hh → Rs PV} {b : Env → Hh → O} {V : α → Env} {h : Hh} {test : α → Bool} {step : α → α} {I : α → Prop} (hc : ∀ s, I s → c (V s) h = .ok (.bl (test s)) h)
    (hb : ∀ s, I s → test s = true → b (V s) h = .nx (V (step s)) h ∧ I (step s)) : ∀ (n : Nat) (s s' : α), I s → runW test step n s = some s' → whileL c b n (V s) h = .nx (V s') h
  | 0, _, _, _, e => by cases e
  | n + 1, s, s', hi, e => by
    unfold runW at e
    rw [whileL, hc s hi]
    cases t : test s with
    | true =>
      rw [t, if_pos rfl] at e
      obtain ⟨e1, e2⟩ := hb s hi t
      dsimp only
      rw [e1]
      exact while_run hc hb n _ _ e2 e
    | false =>
      rw [t, if_neg Bool.false_ne_true] at e
      cases e
      rfl
/-- for x in ..: each turn goes on -/
theorem for_fold {α β : Type} {t : T} {b : Env → Hh → O} {V : α → Env} {en : β → PV} {f : α → β → α} {h : Hh} {I : α → List β → Prop}
    (hb : ∀ s x xs, I s (x :: xs) → (∃ env', asgT t (en x) (V s) = some env' ∧ b env' h = .nx (V (f s x)) h) ∧ I (f s x) xs) : ∀ (xs : List β) (s : α), I s xs → forL t b (xs.map en) (V s) h = .nx (V (xs.foldl f s)) h
  | [], s, _ => rfl
  | x :: xs, s, hi => by
    obtain ⟨⟨env', e1, e2⟩, e3⟩ := hb s x xs hi
    rw [List.map_cons, forL, e1]
    dsimp only
    rw [e2]
    exact for_fold hb xs _ e3
/-- .. the loop's own name shows the last item -/
theorem for_last {α β : Type} {t : T} {b : Env → Hh → O} {V : α → Option PV → Env} {en : β → PV} {f : α → β → α} {h : Hh} {I : α → List β → Prop}
    (hb : ∀ s l x xs, I s (x :: xs) → (∃ env', asgT t (en x) (V s l) = some env' ∧ b env' h = .nx (V (f s x) (some (en x))) h) ∧ I (f s x) xs) : ∀ (xs : List β) (s : α) (l : Option PV), I s xs → ∃ l', forL t b (xs.map en) (V s l) h = .nx (V (xs.foldl f s) l') h
  | [], s, l, _ => ⟨l, rfl⟩
  | x :: xs, s, l, hi => by
    obtain ⟨⟨env', e1, e2⟩, e3⟩ := hb s l x xs hi
    rw [List.map_cons, forL, e1]
    dsimp only
    rw [e2]
    exact for_last hb xs _ _ e3
/-- .. the heap changes with the state -/
theorem for_foldH {α β : Type} {t : T} {b : Env → Hh → O} {V : α → Env} {G : α → Hh} {en : β → PV} {f : α → β → α} {I : α → List β → Prop}
    (hb : ∀ s x xs, I s (x :: xs) → (∃ env', asgT t (en x) (V s) = some env' ∧ b env' (G s) = .nx (V (f s x)) (G (f s x))) ∧ I (f s x) xs) : ∀ (xs : List β) (s : α), I s xs → forL t b (xs.map en) (V s) (G s) = .nx (V (xs.foldl f s)) (G (xs.foldl f s))
  | [], s, _ => rfl
  | x :: xs, s, hi => by
    obtain ⟨⟨env', e1, e2⟩, e3⟩ := hb s x xs hi
    rw [List.map_cons, forL, e1]
    dsimp only
    rw [e2]
    exact for_foldH hb xs _ e3
/-- [e for x in .. if c], nothing changed -/
theorem comp_map {α : Type} {t : T} {c e : Env → Hh → Rs PV} {env : Env} {en : α → PV} {f : α → PV} {h : Hh} : ∀ (xs : List α), (∀ x ∈ xs, ∃ env', asgT t (en x) env = some env' ∧ c env' h = .ok (.bl true) h ∧ e env' h = .ok (f x) h) → compL t c e env (xs.map en) h = .ok (xs.map f) h
  | [], _ => rfl
  | x :: xs, hx => by
    obtain ⟨env', e1, e2, e3⟩ := hx x (List.mem_cons_self ..)
    rw [List.map_cons, compL, e1]
    dsimp only
    rw [e2]
    dsimp only
    rw [e3]
    dsimp only
    rw [comp_map xs fun y hy => hx y (List.mem_cons_of_mem _ hy)]
    rfl
theorem comp_filter {α : Type} {t : T} {c e : Env → Hh → Rs PV} {env : Env} {en : α → PV} {p : α → Bool} {f : α → PV} {h : Hh} : ∀ (xs : List α), (∀ x ∈ xs, ∃ env', asgT t (en x) env = some env' ∧ c env' h = .ok (.bl (p x)) h ∧ (p x = true → e env' h = .ok (f x) h)) → compL t c e env (xs.map en) h = .ok ((xs.filter p).map f) h
  | [], _ => rfl
  | x :: xs, hx => by
    obtain ⟨env', e1, e2, e3⟩ := hx x (List.mem_cons_self ..)
    rw [List.map_cons, compL, e1]
    dsimp only
    rw [e2]
    have ih := comp_filter xs fun y hy => hx y (List.mem_cons_of_mem _ hy)
    cases hp : p x with
    | true =>
      dsimp only
      rw [e3 hp]
      dsimp only
      rw [ih, List.filter_cons_of_pos hp]
      rfl
    | false =>
      dsimp only
      rw [ih, List.filter_cons_of_neg (by rw [hp]; exact Bool.false_ne_true)]
/-- any, all -/
theorem any_any {α : Type} {t : T} {c e : Env → Hh → Rs PV} {env : Env} {en : α → PV} {p : α → Bool} {h : Hh} : ∀ (xs : List α), (∀ x ∈ xs, ∃ env', asgT t (en x) env = some env' ∧ c env' h = .ok (.bl true) h ∧ e env' h = .ok (.bl (p x)) h) → anyL true t c e env (xs.map en) h = .ok (.bl (xs.any p)) h
  | [], _ => rfl
  | x :: xs, hx => by
    obtain ⟨env', e1, e2, e3⟩ := hx x (List.mem_cons_self ..)
    rw [List.map_cons, anyL, e1]
    dsimp only
    rw [e2]
    dsimp only
    rw [e3]
    dsimp only
    cases hp : p x with
    | true => simp [hp]
    | false =>
      rw [if_neg Bool.false_ne_true, any_any xs fun y hy => hx y (List.mem_cons_of_mem _ hy)]
      simp [hp]
theorem any_all {α : Type} {t : T} {c e : Env → Hh → Rs PV} {env : Env} {en : α → PV} {p : α → Bool} {h : Hh} : ∀ (xs : List α), (∀ x ∈ xs, ∃ env', asgT t (en x) env = some env' ∧ c env' h = .ok (.bl true) h ∧ e env' h = .ok (.bl (p x)) h) → anyL false t c e env (xs.map en) h = .ok (.bl (xs.all p)) h
  | [], _ => rfl
  | x :: xs, hx => by
    obtain ⟨env', e1, e2, e3⟩ := hx x (List.mem_cons_self ..)
    rw [List.map_cons, anyL, e1]
    dsimp only
    rw [e2]
    dsimp only
    rw [e3]
    dsimp only
    cases hp : p x with
    | false => simp [hp]
    | true =>
      rw [if_neg (by decide), any_all xs fun y hy => hx y (List.mem_cons_of_mem _ hy)]
      simp [hp]
/-! ### numbers -/
theorem mul_ok {i j : Int} (h : i.natAbs < 2 ^ 64 ∨ j.natAbs < 2 ^ 64) : mulOk i j = true := by
  unfold mulOk
  rcases h with h | h
  · simp [h]
  · simp [h]
theorem mul_okW {i j : Int} {a b : Nat} (ha : i.natAbs < 2 ^ a) (hb : j.natAbs < 2 ^ b) (h : a + b ≤ 1000000) : mulOk i j = true := by
  unfold mulOk
  have l1 : i.natAbs.log2 ≤ a := by
    by_cases z : i.natAbs = 0
    · rw [z]; simp
    · exact Nat.le_of_lt ((Nat.log2_lt z).mpr ha)
  have l2 : j.natAbs.log2 ≤ b := by
    by_cases z : j.natAbs = 0
    · rw [z]; simp
    · exact Nat.le_of_lt ((Nat.log2_lt z).mpr hb)
  by_cases z : i.natAbs = 0
  · simp [z]
  · by_cases z2 : j.natAbs = 0
    · simp [z2]
    · have l1 := (Nat.log2_lt z).mpr ha
      have l2 := (Nat.log2_lt z2).mpr hb
      have : i.natAbs.log2 + j.natAbs.log2 < 1000000 := by omega
      simp [this]
theorem bin_add (i j : Int) (h : Hh) : binE .add (.int i) (.int j) h = .ok (.int (i + j)) h := rfl
theorem bin_sub (i j : Int) (h : Hh) : binE .sub (.int i) (.int j) h = .ok (.int (i - j)) h := rfl
theorem bin_mul {i j : Int} (q : mulOk i j = true) (h : Hh) : binE .mul (.int i) (.int j) h = .ok (.int (i * j)) h := by simp [binE, q]
theorem bin_fdiv {i j : Int} (q : j ≠ 0) (l : j.natAbs.log2 < 9000) (h : Hh) : binE .fdiv (.int i) (.int j) h = .ok (.int (i.fdiv j)) h := by simp [binE, q, l]
theorem bin_mod {i j : Int} (q : j ≠ 0) (h : Hh) : binE .mod (.int i) (.int j) h = .ok (.int (i.fmod j)) h := by simp [binE, q]
theorem log2_small {n b : Nat} (h : n < 2 ^ b) (hb : 0 < b) : n.log2 < b := by
  by_cases z : n = 0
  · rw [z]; simpa using hb
  · exact (Nat.log2_lt z).mpr h
/-- Euclid: some turns are enough -/
def eucT : Nat × Nat → Bool := fun s => s.2 != 0
def eucS : Nat × Nat → Nat × Nat := fun s => (s.2, s.1 % s.2)
theorem mod_half {a b : Nat} (hb : 0 < b) (h : b ≤ a) : 2 * (a % b) < a + 1 ∧ 2 * (a % b) ≤ a := by
  have h1 := Nat.mod_lt a hb
  have h2 := Nat.div_add_mod a b
  have h3 : 1 ≤ a / b := (Nat.one_le_div_iff hb).mpr h
  have h4 : b * 1 ≤ b * (a / b) := Nat.mul_le_mul_left b h3
  omega
theorem euclid_run : ∀ (k x y : Nat), y < 2 ^ k → runW eucT eucS (2 * k + 1) (x, y) = some (Nat.gcd x y, 0)
  | 0, x, y, h => by
    have : y = 0 := by simpa using h
    subst this
    simp [runW, eucT]
  | k + 1, x, y, h => by
    rw [show 2 * (k + 1) + 1 = (2 * k + 1) + 1 + 1 by omega]
    unfold runW
    by_cases hy : y = 0
    · subst hy; simp [eucT]
    · have t : eucT (x, y) = true := by simp [eucT, hy]
      rw [if_pos t]
      unfold runW
      show (if eucT (y, x % y) = true then _ else _) = _
      by_cases hz : x % y = 0
      · have t2 : ¬ eucT (y, x % y) = true := by simp [eucT, hz]
        rw [if_neg t2]
        show some (y, x % y) = _
        rw [hz]
        have : Nat.gcd x y = y := by rw [Nat.gcd_comm, Nat.gcd_rec, hz, Nat.gcd_zero_left]
        rw [this]
      · have t2 : eucT (y, x % y) = true := by simp [eucT, hz]
        rw [if_pos t2]
        have hlt : x % y < y := Nat.mod_lt _ (Nat.pos_of_ne_zero hy)
        have hh := (mod_half (a := y) (b := x % y) (Nat.pos_of_ne_zero hz) (Nat.le_of_lt hlt)).2
        have := euclid_run k (x % y) (y % (x % y)) (by rw [Nat.pow_succ] at h; omega)
        show runW eucT eucS (2 * k + 1) (x % y, y % (x % y)) = _
        rw [this]
        congr 1
        have e1 : Nat.gcd x y = Nat.gcd (x % y) y := by rw [Nat.gcd_comm x y, Nat.gcd_rec y x]
        have e2 : Nat.gcd (x % y) y = Nat.gcd (y % (x % y)) (x % y) := Nat.gcd_rec _ _
        rw [e1, e2, Nat.gcd_comm]
end Mini

/-! Rt -/
set_option autoImplicit false
set_option linter.all false
set_option maxRecDepth 100000
namespace Mini

/-! ### the package's ratios, as rational numbers -/
def prq (r : Rat) : PV := .tup [.int r.num, .int r.den]
def fnRatio (x : Nat) : Fn := ⟨2, 4, (.cons (.ife (.cmp .eq (.var 1) (.lit (.int 0))) (.cons (.raise x)
  .nil) .nil)
  (.cons (.ife (.cmp .lt (.var 1) (.lit (.int 0))) (.cons (.asg (.tup (.cons (.name 0) (.cons (.name 1) .nil))) (.tup (.cons (.bin .sub (.lit (.int 0)) (.var 0)) (.cons (.bin .sub (.lit (.int 0)) (.var 1)) .nil))))
  .nil) .nil)
  (.cons (.asg (.tup (.cons (.name 2) (.cons (.name 3) .nil))) (.tup (.cons (.prim .abs (.cons (.var 0) .nil)) (.cons (.var 1) .nil))))
  (.cons (.whl (.cmp .ne (.var 3) (.lit (.int 0))) (.cons (.asg (.tup (.cons (.name 2) (.cons (.name 3) .nil))) (.tup (.cons (.var 3) (.cons (.bin .mod (.var 2) (.var 3)) .nil))))
  .nil))
  (.cons (.ret (.tup (.cons (.bin .fdiv (.var 0) (.var 2)) (.cons (.bin .fdiv (.var 1) (.var 2)) .nil))))
  .nil))))), true⟩
theorem turns_ok {k : Nat} (h : k ≤ 9000) : 2 * k + 1 ≤ turns := by unfold turns; omega
theorem prq_frz (r : Rat) (rd : Nat → Option PV) : frz rd (prq r) = some (prq r) := by simp [prq, frz, frzs]
theorem gcd_div_num (a : Int) (b : Nat) (hb : b ≠ 0) : (Rat.divInt a b).num = a.fdiv (Nat.gcd a.natAbs b : Nat) ∧ ((Rat.divInt a b).den : Int) = (b : Int).fdiv (Nat.gcd a.natAbs b : Nat) := by
  rw [Rat.divInt_ofNat, Rat.num_mkRat, Rat.den_mkRat, if_neg hb, if_neg hb, Nat.gcd_comm]
  rw [Int.fdiv_eq_ediv_of_nonneg _ (by omega), Int.fdiv_eq_ediv_of_nonneg _ (by omega)]
  exact ⟨rfl, by rw [Int.natCast_ediv]⟩
/-- Euclid by the small language: the names in slots i (kept), the two in 2 and 3 -/
theorem gcd_loop {C : Cl} {L : Lk} {h : Hh} {p q : PV} (x y : Nat) (k : Nat) (hy : y < 2 ^ k) (hk : k ≤ 9000) :
    evS C L (.whl (.cmp .ne (.var 3) (.lit (.int 0))) (.cons (.asg (.tup (.cons (.name 2) (.cons (.name 3) .nil))) (.tup (.cons (.var 3) (.cons (.bin .mod (.var 2) (.var 3)) .nil)))) .nil)) [some p, some q, some (.int x), some (.int y)] h = .nx [some p, some q, some (.int (Nat.gcd x y : Nat)), some (.int 0)] h := by
  rw [evS]
  have := while_run (c := evE C L (.cmp .ne (.var 3) (.lit (.int 0)))) (b := evSs C L (.cons (.asg (.tup (.cons (.name 2) (.cons (.name 3) .nil))) (.tup (.cons (.var 3) (.cons (.bin .mod (.var 2) (.var 3)) .nil)))) .nil))
    (V := fun s : Nat × Nat => [some p, some q, some (.int s.1), some (.int s.2)]) (h := h) (test := eucT) (step := eucS) (I := fun _ => True) (fun s _ => ?_) (fun s _ t => ⟨?_, trivial⟩) turns (x, y) _ trivial (runW_more (turns_ok hk) (euclid_run k x y hy))
  · exact this
  · simp [evE, cmpE, view, flat, flatN, eqv, eucT, bne]
    rw [Bool.eq_iff_iff]; simp
  · have hs : s.2 ≠ 0 := by simpa [eucT] using t
    simp [evSs, evS, evE, evEs, binE, asgT, asgTs, lim, eucS, hs, Int.fmod_eq_emod_of_nonneg]
theorem ratio_zero {P : Prg} {f x : Nat} (hf : P.fns[f]? = some (fnRatio x)) (d : Nat) (L : Lk) (h : Hh) (a : Int) : callN P (d + 1) f [.int a, .int 0] L h = .exc x h := by
  rw [call_pure hf rfl rfl]
  simp [fnRatio, entry, evSs, evS, evE, cmpE, view, flat, flatN, eqv, endPure]
theorem ratio_ok {P : Prg} {f x : Nat} (hf : P.fns[f]? = some (fnRatio x)) (d : Nat) (L : Lk) (h : Hh) (a b : Int) (hb : b ≠ 0) (hl : b.natAbs < 2 ^ 9000) : callN P (d + 1) f [.int a, .int b] L h = .ok (prq (Rat.divInt a b)) h := by
  rw [call_pure hf rfl rfl]
  show endPure _ _ (evSs (clN P d) ⟨h.length, []⟩ (fnRatio x).body [some (.int a), some (.int b), none, none] h) = _
  unfold fnRatio
  dsimp only
  rw [skip (h' := h) (by simp [evE, cmpE, view, flat, flatN, eqv, hb])]
  -- the signs
  obtain ⟨a', b', e1, e2, hb'⟩ : ∃ (a' : Int) (b' : Nat), evSs (clN P d) ⟨h.length, []⟩ (.cons (.ife (.cmp .lt (.var 1) (.lit (.int 0))) (.cons (.asg (.tup (.cons (.name 0) (.cons (.name 1) .nil))) (.tup (.cons (.bin .sub (.lit (.int 0)) (.var 0)) (.cons (.bin .sub (.lit (.int 0)) (.var 1)) .nil))))
      .nil) .nil) .nil) [some (.int a), some (.int b), none, none] h = .nx [some (.int a'), some (.int b'), none, none] h ∧ Rat.divInt a b = Rat.divInt a' b' ∧ b' = b.natAbs := by
    by_cases hn : b < 0
    · refine ⟨-a, b.natAbs, ?_, ?_, rfl⟩
      · simp [evSs, evS, evE, evEs, cmpE, hn, binE, asgT, asgTs, lim]
        omega
      · rw [← Rat.neg_divInt_neg]
        congr 1
        omega
    · refine ⟨a, b.natAbs, ?_, ?_, rfl⟩
      · simp [evSs, evS, evE, evEs, cmpE, hn]
        omega
      · congr 1
        omega
  have split : ∀ (s : S) (ss : Ss) (env env' : Env) (h h' : Hh), evSs (clN P d) ⟨h.length, []⟩ (.cons s .nil) env h = .nx env' h' → evSs (clN P d) ⟨h.length, []⟩ (.cons s ss) env h = evSs (clN P d) ⟨h.length, []⟩ ss env' h' := by
    intro s ss env env' h h' e
    rw [evSs] at e ⊢
    cases e1 : evS (clN P d) ⟨h.length, []⟩ s env h with
    | nx env2 h2 => rw [e1] at e; simp only [evSs] at e; cases e; rfl
    | _ => rw [e1] at e; cases e
  rw [split _ _ _ _ _ _ e1]
  rw [ss_nx (env' := [some (.int a'), some (.int b'), some (.int a'.natAbs), some (.int b')]) (h' := h) (by
    simp [evS, evE, evEs, primE, asgT, asgTs, lim]
    split <;> omega)]
  rw [ss_nx (gcd_loop a'.natAbs b' 9000 (by rw [hb']; exact hl) (Nat.le_refl _))]
  have hb0 : b' ≠ 0 := by omega
  have hg : Nat.gcd a'.natAbs b' ≠ 0 := fun z => hb0 (Nat.eq_zero_of_gcd_eq_zero_right z)
  have hgl : (Nat.gcd a'.natAbs b').log2 < 9000 := log2_small (Nat.lt_of_le_of_lt (Nat.gcd_le_right _ (Nat.pos_of_ne_zero hb0)) (by rw [hb']; exact hl)) (by decide)
  rw [ret1 (p := prq (Rat.divInt a b)) (h' := h)]
  · simp [endPure, prq_frz]
  · obtain ⟨n1, n2⟩ := gcd_div_num a' b' hb0
    have c1 : ((Nat.gcd a'.natAbs b' : Nat) : Int) ≠ 0 ∧ ((Nat.gcd a'.natAbs b' : Nat) : Int).natAbs.log2 < 9000 := ⟨by omega, hgl⟩
    rw [e2, prq, n1, n2]
    simp only [evE, evEs, List.getElem?_cons_zero, List.getElem?_cons_succ, binE]
    rw [if_pos c1]
    dsimp only
    rw [if_pos c1]
    rfl
end Mini

/-! Rt2 -/
set_option autoImplicit false
set_option linter.all false
set_option maxRecDepth 100000
namespace Mini

def Bd (n : Nat) (r : Rat) : Prop := r.num.natAbs < 2 ^ n ∧ r.den < 2 ^ n
theorem Bd.mono {n m : Nat} {r : Rat} (h : Bd n r) (l : n ≤ m) : Bd m r := ⟨Nat.lt_of_lt_of_le h.1 (Nat.pow_le_pow_right (by decide) l), Nat.lt_of_lt_of_le h.2 (Nat.pow_le_pow_right (by decide) l)⟩
theorem mkRat_le (p : Int) (q : Nat) (hq : q ≠ 0) : (mkRat p q).num.natAbs ≤ p.natAbs ∧ (mkRat p q).den ≤ q := by
  rw [Rat.num_mkRat, Rat.den_mkRat, if_neg hq, if_neg hq]
  refine ⟨?_, Nat.div_le_self ..⟩
  have hg : q.gcd p.natAbs ≠ 0 := fun z => hq (Nat.eq_zero_of_gcd_eq_zero_left z)
  have h1 : ((q.gcd p.natAbs : Nat) : Int) ∣ p := by
    rw [← Int.dvd_natAbs, Int.ofNat_dvd]
    exact Nat.gcd_dvd_right ..
  rw [Int.natAbs_ediv_of_dvd h1]
  exact Nat.div_le_self ..
theorem divInt_le (p q : Int) (hq : q ≠ 0) : (Rat.divInt p q).num.natAbs ≤ p.natAbs ∧ (Rat.divInt p q).den ≤ q.natAbs := by
  by_cases h : 0 ≤ q
  · obtain ⟨k, rfl⟩ := Int.eq_ofNat_of_zero_le h
    rw [Rat.divInt_ofNat]
    exact mkRat_le p k (by omega)
  · rw [← Rat.neg_divInt_neg]
    obtain ⟨k, hk⟩ := Int.eq_ofNat_of_zero_le (show 0 ≤ -q by omega)
    rw [hk, Rat.divInt_ofNat]
    have := mkRat_le (-p) k (by omega)
    omega
theorem Bd.divInt {n : Nat} {p q : Int} (hq : q ≠ 0) (h1 : p.natAbs < 2 ^ n) (h2 : q.natAbs < 2 ^ n) : Bd n (Rat.divInt p q) :=
  ⟨Nat.lt_of_le_of_lt (divInt_le p q hq).1 h1, Nat.lt_of_le_of_lt (divInt_le p q hq).2 h2⟩
theorem mul_lt_pow {a b n m : Nat} (ha : a < 2 ^ n) (hb : b < 2 ^ m) : a * b < 2 ^ (n + m) := by
  rw [Nat.pow_add]
  exact Nat.mul_lt_mul'' ha hb
theorem add_expr (a b : Rat) : Rat.divInt (a.num * b.den + b.num * a.den) ((a.den : Int) * b.den) = a + b := by
  rw [Rat.add_def', ← Int.natCast_mul, Rat.divInt_ofNat]
theorem sub_expr (a b : Rat) : Rat.divInt (a.num * b.den - b.num * a.den) ((a.den : Int) * b.den) = a - b := by
  rw [Rat.sub_def', ← Int.natCast_mul, Rat.divInt_ofNat]
theorem mul_expr (a b : Rat) : Rat.divInt (a.num * b.num) ((a.den : Int) * b.den) = a * b := by
  rw [Rat.mul_def', ← Int.natCast_mul, Rat.divInt_ofNat]
theorem div_expr (a b : Rat) : Rat.divInt (a.num * b.den) ((a.den : Int) * b.num) = a / b := by
  rw [Rat.div_def, Rat.inv_def, ← Rat.divInt_mul_divInt, Rat.num_divInt_den]
theorem den_ne (a b : Rat) : ((a.den : Int) * b.den) ≠ 0 := by
  have h1 := a.den_pos
  have h2 := b.den_pos
  exact Int.ne_of_gt (Int.mul_pos (by omega) (by omega))
theorem nat_mul_lt {a b : Int} {n m : Nat} (ha : a.natAbs < 2 ^ n) (hb : b.natAbs < 2 ^ m) : (a * b).natAbs < 2 ^ (n + m) := by
  rw [Int.natAbs_mul]; exact mul_lt_pow ha hb
theorem Bd.num {n : Nat} {a : Rat} (h : Bd n a) : a.num.natAbs < 2 ^ n := h.1
theorem Bd.dn {n : Nat} {a : Rat} (h : Bd n a) : (a.den : Int).natAbs < 2 ^ n := h.2
theorem Bd.add {n m : Nat} {a b : Rat} (ha : Bd n a) (hb : Bd m b) : Bd (n + m + 1) (a + b) := by
  rw [← add_expr]
  have h1 := nat_mul_lt ha.num hb.dn
  have h2 := nat_mul_lt hb.num ha.dn
  have h3 := nat_mul_lt ha.dn hb.dn
  rw [Nat.add_comm m n] at h2
  refine Bd.divInt (den_ne a b) ?_ ?_
  · rw [Nat.pow_succ]; omega
  · rw [Nat.pow_succ]; omega
theorem Bd.neg {n : Nat} {a : Rat} (ha : Bd n a) : Bd n (-a) := ⟨by rw [Rat.neg_num, Int.natAbs_neg]; exact ha.1, ha.2⟩
theorem Bd.sub {n m : Nat} {a b : Rat} (ha : Bd n a) (hb : Bd m b) : Bd (n + m + 1) (a - b) := by
  rw [Rat.sub_eq_add_neg]; exact ha.add hb.neg
theorem Bd.mul {n m : Nat} {a b : Rat} (ha : Bd n a) (hb : Bd m b) : Bd (n + m) (a * b) := by
  rw [← mul_expr]
  exact Bd.divInt (den_ne a b) (nat_mul_lt ha.num hb.num) (nat_mul_lt ha.dn hb.dn)
theorem Bd.inv {n : Nat} {a : Rat} (ha : Bd n a) : Bd n a⁻¹ := by
  have h2 := ha.2
  refine ⟨?_, ?_⟩
  · rw [Rat.num_inv, Int.natAbs_mul]
    have h1 : a.num.sign.natAbs ≤ 1 := by
      rcases Int.lt_trichotomy a.num 0 with h | h | h
      · rw [Int.sign_eq_neg_one_of_neg h]; decide
      · rw [h]; decide
      · rw [Int.sign_eq_one_of_pos h]; decide
    have : a.num.sign.natAbs * (a.den : Int).natAbs ≤ 1 * a.den := Nat.mul_le_mul h1 (Nat.le_refl _)
    omega
  · rw [Rat.den_inv]
    split
    · have := a.den_pos; omega
    · exact ha.1
theorem Bd.div {n m : Nat} {a b : Rat} (ha : Bd n a) (hb : Bd m b) : Bd (n + m) (a / b) := by
  rw [Rat.div_def]; exact ha.mul hb.inv
theorem Bd.zero : Bd 1 0 := ⟨by decide, by decide⟩
theorem Bd.one : Bd 1 1 := ⟨by decide, by decide⟩
theorem okm_nd {n m : Nat} {a b : Rat} (ha : Bd n a) (hb : Bd m b) (h : n + m ≤ 9000) : mulOk a.num b.den = true := mul_okW ha.num hb.dn (by omega)
theorem okm_dd {n m : Nat} {a b : Rat} (ha : Bd n a) (hb : Bd m b) (h : n + m ≤ 9000) : mulOk a.den b.den = true := mul_okW ha.dn hb.dn (by omega)
theorem okm_nn {n m : Nat} {a b : Rat} (ha : Bd n a) (hb : Bd m b) (h : n + m ≤ 9000) : mulOk a.num b.num = true := mul_okW ha.num hb.num (by omega)
theorem okm_dn {n m : Nat} {a b : Rat} (ha : Bd n a) (hb : Bd m b) (h : n + m ≤ 9000) : mulOk a.den b.num = true := mul_okW ha.dn hb.num (by omega)
set_option exponentiation.threshold 10000 in
theorem pow9 {n m : Nat} {x : Nat} (h : x < 2 ^ (n + m)) (l : n + m ≤ 9000) : x < 2 ^ 9000 := Nat.lt_of_lt_of_le h (Nat.pow_le_pow_right (by decide) l)

abbrev ix0 (i : Nat) : E := .idx (.var i) (.lit (.int 0))
abbrev ix1 (i : Nat) : E := .idx (.var i) (.lit (.int 1))
abbrev es2 (a b : E) : Es := .cons a (.cons b .nil)
abbrev ret (e : E) : Ss := .cons (.ret e) .nil
def fnPlus (r : Nat) : Fn := ⟨2, 2, ret (.call r (es2 (.bin .add (.bin .mul (ix0 0) (ix1 1)) (.bin .mul (ix0 1) (ix1 0))) (.bin .mul (ix1 0) (ix1 1)))), true⟩
def fnMinus (r : Nat) : Fn := ⟨2, 2, ret (.call r (es2 (.bin .sub (.bin .mul (ix0 0) (ix1 1)) (.bin .mul (ix0 1) (ix1 0))) (.bin .mul (ix1 0) (ix1 1)))), true⟩
def fnTimes (r : Nat) : Fn := ⟨2, 2, ret (.call r (es2 (.bin .mul (ix0 0) (ix0 1)) (.bin .mul (ix1 0) (ix1 1)))), true⟩
def fnDivided (r : Nat) : Fn := ⟨2, 2, ret (.call r (es2 (.bin .mul (ix0 0) (ix1 1)) (.bin .mul (ix1 0) (ix0 1)))), true⟩
def fnIsLess : Fn := ⟨2, 2, ret (.cmp .lt (.bin .mul (ix0 0) (ix1 1)) (.bin .mul (ix0 1) (ix1 0))), true⟩
section
variable {P : Prg} {f r x : Nat} {n m : Nat} {a b : Rat}
theorem ix_prq0 (a : Rat) (h : Hh) : idxE (prq a) (.int 0) h = .ok (.int a.num) h := by simp [prq, idxE, seqOf, ixOf]
theorem ix_prq1 (a : Rat) (h : Hh) : idxE (prq a) (.int 1) h = .ok (.int a.den) h := by simp [prq, idxE, seqOf, ixOf]
theorem mul_go {i j : Int} (h : mulOk i j = true) (hh : Hh) : binE .mul (.int i) (.int j) hh = .ok (.int (i * j)) hh := by simp [binE, h]
theorem plus_ok (hf : P.fns[f]? = some (fnPlus r)) (hr : P.fns[r]? = some (fnRatio x)) (d : Nat) (L : Lk) (h : Hh) (ha : Bd n a) (hb : Bd m b) (hn : n + m ≤ 9000) : callN P (d + 2) f [prq a, prq b] L h = .ok (prq (a + b)) h := by
  rw [call_pure hf rfl rfl]
  have e := ratio_ok hr d ⟨h.length, []⟩ h (a.num * b.den + b.num * a.den) ((a.den : Int) * b.den) (den_ne a b) (pow9 (nat_mul_lt ha.dn hb.dn) hn)
  rw [add_expr] at e
  simp only [fnPlus, entry, ret, ix0, ix1, es2, evSs, evS, evE, evEs, List.map, List.append, List.cons_append, List.nil_append, List.getElem?_cons_zero, List.getElem?_cons_succ, ix_prq0, ix_prq1, binE, ↓reduceIte, okm_nd ha hb hn, okm_nd hb ha (by omega), okm_dd ha hb hn, cl_call, e, endPure, prq_frz]
theorem minus_ok (hf : P.fns[f]? = some (fnMinus r)) (hr : P.fns[r]? = some (fnRatio x)) (d : Nat) (L : Lk) (h : Hh) (ha : Bd n a) (hb : Bd m b) (hn : n + m ≤ 9000) : callN P (d + 2) f [prq a, prq b] L h = .ok (prq (a - b)) h := by
  rw [call_pure hf rfl rfl]
  have e := ratio_ok hr d ⟨h.length, []⟩ h (a.num * b.den - b.num * a.den) ((a.den : Int) * b.den) (den_ne a b) (pow9 (nat_mul_lt ha.dn hb.dn) hn)
  rw [sub_expr] at e
  simp only [fnMinus, entry, ret, ix0, ix1, es2, evSs, evS, evE, evEs, List.map, List.append, List.cons_append, List.nil_append, List.getElem?_cons_zero, List.getElem?_cons_succ, ix_prq0, ix_prq1, binE, ↓reduceIte, okm_nd ha hb hn, okm_nd hb ha (by omega), okm_dd ha hb hn, cl_call, e, endPure, prq_frz]
theorem times_ok (hf : P.fns[f]? = some (fnTimes r)) (hr : P.fns[r]? = some (fnRatio x)) (d : Nat) (L : Lk) (h : Hh) (ha : Bd n a) (hb : Bd m b) (hn : n + m ≤ 9000) : callN P (d + 2) f [prq a, prq b] L h = .ok (prq (a * b)) h := by
  rw [call_pure hf rfl rfl]
  have e := ratio_ok hr d ⟨h.length, []⟩ h (a.num * b.num) ((a.den : Int) * b.den) (den_ne a b) (pow9 (nat_mul_lt ha.dn hb.dn) hn)
  rw [mul_expr] at e
  simp only [fnTimes, entry, ret, ix0, ix1, es2, evSs, evS, evE, evEs, List.map, List.append, List.cons_append, List.nil_append, List.getElem?_cons_zero, List.getElem?_cons_succ, ix_prq0, ix_prq1, binE, ↓reduceIte, okm_nn ha hb hn, okm_dd ha hb hn, cl_call, e, endPure, prq_frz]
theorem divided_ok (hf : P.fns[f]? = some (fnDivided r)) (hr : P.fns[r]? = some (fnRatio x)) (d : Nat) (L : Lk) (h : Hh) (ha : Bd n a) (hb : Bd m b) (hn : n + m ≤ 9000) (h0 : b ≠ 0) : callN P (d + 2) f [prq a, prq b] L h = .ok (prq (a / b)) h := by
  rw [call_pure hf rfl rfl]
  have hb0 : b.num ≠ 0 := fun z => h0 (Rat.num_eq_zero.mp z)
  have e := ratio_ok hr d ⟨h.length, []⟩ h (a.num * b.den) ((a.den : Int) * b.num) (Int.mul_ne_zero (by have := a.den_pos; omega) hb0) (pow9 (nat_mul_lt ha.dn hb.num) hn)
  rw [div_expr] at e
  simp only [fnDivided, entry, ret, ix0, ix1, es2, evSs, evS, evE, evEs, List.map, List.append, List.cons_append, List.nil_append, List.getElem?_cons_zero, List.getElem?_cons_succ, ix_prq0, ix_prq1, binE, ↓reduceIte, okm_nd ha hb hn, okm_dn ha hb hn, cl_call, e, endPure, prq_frz]
theorem isless_ok (hf : P.fns[f]? = some fnIsLess) (d : Nat) (L : Lk) (h : Hh) (ha : Bd n a) (hb : Bd m b) (hn : n + m ≤ 9000) : callN P (d + 1) f [prq a, prq b] L h = .ok (.bl (decide (a < b))) h := by
  rw [call_pure hf rfl rfl]
  have e : decide (a.num * (b.den : Int) < b.num * a.den) = decide (a < b) := by
    rw [Bool.eq_iff_iff]; simp [Rat.lt_iff]
  simp only [fnIsLess, entry, ret, ix0, ix1, es2, evSs, evS, evE, evEs, List.map, List.append, List.cons_append, List.nil_append, List.getElem?_cons_zero, List.getElem?_cons_succ, ix_prq0, ix_prq1, binE, ↓reduceIte, okm_nd ha hb hn, okm_nd hb ha (by omega), cmpE, e, endPure, frz]
end
end Mini

/-! Rt3 -/
set_option autoImplicit false
set_option linter.all false
set_option maxRecDepth 100000
namespace Mini

/-! ### sums, products -/
def rsum (rs : List Rat) : Rat := rs.foldl (· + ·) 0
def rprod (rs : List Rat) : Rat := rs.foldl (· * ·) 1
theorem foldl_add (rs : List Rat) (a : Rat) : rs.foldl (· + ·) a = a + rsum rs := by
  induction rs generalizing a with
  | nil => simp [rsum, Rat.add_zero]
  | cons r rs ih =>
    unfold rsum
    rw [List.foldl_cons, List.foldl_cons, ih, ih, Rat.zero_add, Rat.add_assoc]
theorem rsum_nil : rsum [] = 0 := rfl
theorem rsum_cons (r : Rat) (rs : List Rat) : rsum (r :: rs) = r + rsum rs := by
  unfold rsum
  rw [List.foldl_cons, foldl_add, Rat.zero_add]
  rfl
theorem rsum_append (a b : List Rat) : rsum (a ++ b) = rsum a + rsum b := by
  unfold rsum
  rw [List.foldl_append, foldl_add]
  rfl
theorem foldl_mul (rs : List Rat) (a : Rat) : rs.foldl (· * ·) a = a * rprod rs := by
  induction rs generalizing a with
  | nil => simp [rprod, Rat.mul_one]
  | cons r rs ih =>
    unfold rprod
    rw [List.foldl_cons, List.foldl_cons, ih, ih, Rat.one_mul, Rat.mul_assoc]
theorem rprod_cons (r : Rat) (rs : List Rat) : rprod (r :: rs) = r * rprod rs := by
  unfold rprod
  rw [List.foldl_cons, foldl_mul, Rat.one_mul]
  rfl
theorem rsum_take (rs : List Rat) {k : Nat} {x : Rat} (h : rs[k]? = some x) : rsum (rs.take (k + 1)) = rsum (rs.take k) + x := by
  rw [List.take_add_one, h, rsum_append]
  simp [rsum_cons, rsum_nil, Rat.add_zero]
theorem rprod_take (rs : List Rat) {k : Nat} {x : Rat} (h : rs[k]? = some x) : rprod (rs.take (k + 1)) = rprod (rs.take k) * x := by
  rw [List.take_add_one, h]
  unfold rprod
  rw [List.foldl_append]
  simp
def sumBody (g : Nat) : Ss := .cons (.asg (.name 1) (.call g (es2 (.var 1) (.var 2)))) .nil
def fnSum (g : Nat) : Fn := ⟨1, 3, .cons (.asg (.name 1) (.tup (es2 (.lit (.int 0)) (.lit (.int 1))))) (.cons (.for_ (.name 2) .seq (.cons (.var 0) .nil) (sumBody g)) (ret (.var 1))), true⟩
def fnProd (g : Nat) : Fn := ⟨1, 3, .cons (.asg (.name 1) (.tup (es2 (.lit (.int 1)) (.lit (.int 1))))) (.cons (.for_ (.name 2) .seq (.cons (.var 0) .nil) (sumBody g)) (ret (.var 1))), true⟩
def fnPower (g x : Nat) : Fn := ⟨2, 4, .cons (.ife (.cmp .lt (.var 1) (.lit (.int 0))) (.cons (.raise x) .nil) .nil)
  (.cons (.asg (.name 2) (.tup (es2 (.lit (.int 1)) (.lit (.int 1))))) (.cons (.for_ (.name 3) .range (.cons (.var 1) .nil) (.cons (.asg (.name 2) (.call g (es2 (.var 2) (.var 0)))) .nil)) (ret (.var 2)))), true⟩
section
variable {P : Prg} {f g r x : Nat} {n m : Nat} {a b : Rat}
theorem drop_cons_get {α : Type} {xs ys : List α} {y : α} {k : Nat} (h : xs.drop k = y :: ys) : xs[k]? = some y ∧ xs.drop (k + 1) = ys := by
  refine ⟨?_, ?_⟩
  · have := congrArg (fun l => l[0]?) h
    simpa using this
  · rw [← List.drop_drop, h]; rfl
theorem for_sum {C : Cl} {L : Lk} {h : Hh} {p : PV} {rs : List Rat} {op : Rat → Rat → Rat} {acc : Nat → Rat} (h1 : ∀ k y, rs[k]? = some y → acc (k + 1) = op (acc k) y)
    (hc : ∀ (L : Lk) k y, rs[k]? = some y → C.call g [prq (acc k), prq y] L h = .ok (prq (op (acc k) y)) h) (hs : srcItems .seq [p] h = some (rs.map prq)) :
    ∃ q, evS C L (.for_ (.name 2) .seq (.cons (.var 0) .nil) (sumBody g)) [some p, some (prq (acc 0)), none] h = .nx [some p, some (prq (acc rs.length)), q] h := by
  have key := for_fold (t := .name 2) (b := evSs C { L with locked := refsOf [p] ++ L.locked } (sumBody g)) (V := fun s : Nat × Option PV => [some p, some (prq (acc s.1)), s.2]) (en := prq) (f := fun s y => (s.1 + 1, some (prq y))) (h := h) (I := fun s xs => rs.drop s.1 = xs)
    (fun s y xs hi => by
      obtain ⟨e1, e2⟩ := drop_cons_get hi
      refine ⟨⟨_, rfl, ?_⟩, e2⟩
      simp only [sumBody, es2, evSs, evS, evE, evEs, List.set_cons_succ, List.set_cons_zero, List.getElem?_cons_zero, List.getElem?_cons_succ, hc _ _ _ e1, asgT, h1 _ _ e1]) rs (0, none) rfl
  have hfl : ∀ (ys : List Rat) (s : Nat × Option PV), (ys.foldl (fun s y => (s.1 + 1, some (prq y))) s).1 = s.1 + ys.length := by
    intro ys
    induction ys with
    | nil => intro s; rfl
    | cons y ys ih => intro s; rw [List.foldl_cons, ih, List.length_cons]; omega
  refine ⟨(rs.foldl (fun s y => (s.1 + 1, some (prq y))) ((0, none) : Nat × Option PV)).2, ?_⟩
  simp only [evS, evEs, evE, List.getElem?_cons_zero, hs]
  rw [key]
  show O.nx [some p, some (prq (acc _)), _] h = _
  rw [hfl rs (0, none)]
  simp
/-- added up: each sum on the way is bounded -/
theorem sum_gen (hf : P.fns[f]? = some (fnSum g)) (hg : P.fns[g]? = some (fnPlus r)) (hr : P.fns[r]? = some (fnRatio x)) (d : Nat) (L : Lk) (h : Hh) {p : PV} {rs : List Rat} (hs : srcItems .seq [p] h = some (rs.map prq))
    (h1 : ∀ y ∈ rs, Bd n y) (h2 : ∀ k, k < rs.length → Bd m (rsum (rs.take k))) (hn : m + n ≤ 9000) : callN P (d + 3) f [p] L h = .ok (prq (rsum rs)) h := by
  rw [call_pure hf rfl rfl]
  obtain ⟨q, e⟩ := for_sum (g := g) (C := clN P (d + 2)) (L := ⟨h.length, []⟩) (h := h) (p := p) (rs := rs) (op := (· + ·)) (acc := fun k => rsum (rs.take k)) (fun k y hk => rsum_take rs hk)
    (fun L k y hk => plus_ok hg hr d L h (h2 k (List.getElem?_eq_some_iff.mp hk).1) (h1 y (List.mem_of_getElem? hk)) hn) hs
  have e0 : evE (clN P (d + 2)) ⟨h.length, []⟩ (.tup (es2 (.lit (.int 0)) (.lit (.int 1)))) [some p, none, none] h = .ok (prq (rsum (rs.take 0))) h := by simp [es2, evE, evEs, lim, prq, rsum]
  show endPure _ _ (evSs (clN P (d + 2)) ⟨h.length, []⟩ (fnSum g).body [some p, none, none] h) = _
  unfold fnSum
  dsimp only
  rw [set1 e0]
  simp only [List.set_cons_succ, List.set_cons_zero]
  rw [ss_nx e, List.take_length]
  simp [ret, evSs, evS, evE, endPure, prq_frz]
theorem prod_gen (hf : P.fns[f]? = some (fnProd g)) (hg : P.fns[g]? = some (fnTimes r)) (hr : P.fns[r]? = some (fnRatio x)) (d : Nat) (L : Lk) (h : Hh) {p : PV} {rs : List Rat} (hs : srcItems .seq [p] h = some (rs.map prq))
    (h1 : ∀ y ∈ rs, Bd n y) (h2 : ∀ k, k < rs.length → Bd m (rprod (rs.take k))) (hn : m + n ≤ 9000) : callN P (d + 3) f [p] L h = .ok (prq (rprod rs)) h := by
  rw [call_pure hf rfl rfl]
  obtain ⟨q, e⟩ := for_sum (g := g) (C := clN P (d + 2)) (L := ⟨h.length, []⟩) (h := h) (p := p) (rs := rs) (op := (· * ·)) (acc := fun k => rprod (rs.take k)) (fun k y hk => rprod_take rs hk)
    (fun L k y hk => times_ok hg hr d L h (h2 k (List.getElem?_eq_some_iff.mp hk).1) (h1 y (List.mem_of_getElem? hk)) hn) hs
  have e0 : evE (clN P (d + 2)) ⟨h.length, []⟩ (.tup (es2 (.lit (.int 1)) (.lit (.int 1)))) [some p, none, none] h = .ok (prq (rprod (rs.take 0))) h := by simp [es2, evE, evEs, lim, prq, rprod]
  show endPure _ _ (evSs (clN P (d + 2)) ⟨h.length, []⟩ (fnProd g).body [some p, none, none] h) = _
  unfold fnProd
  dsimp only
  rw [set1 e0]
  simp only [List.set_cons_succ, List.set_cons_zero]
  rw [ss_nx e, List.take_length]
  simp [ret, evSs, evS, evE, endPure, prq_frz]
theorem bd_rsum : ∀ (rs : List Rat), (∀ y ∈ rs, Bd n y) → Bd (rs.length * (n + 1) + 1) (rsum rs)
  | [], _ => by simpa [rsum_nil] using Bd.zero
  | y :: rs, h => by
    rw [rsum_cons]
    have := (h y (List.mem_cons_self ..)).add (bd_rsum rs fun z hz => h z (List.mem_cons_of_mem _ hz))
    refine this.mono ?_
    rw [List.length_cons, Nat.add_mul]; omega
theorem bd_rprod : ∀ (rs : List Rat), (∀ y ∈ rs, Bd n y) → Bd (rs.length * n + 1) (rprod rs)
  | [], _ => by simpa [rprod] using Bd.one
  | y :: rs, h => by
    rw [rprod_cons]
    have := (h y (List.mem_cons_self ..)).mul (bd_rprod rs fun z hz => h z (List.mem_cons_of_mem _ hz))
    refine this.mono ?_
    rw [List.length_cons, Nat.add_mul]; omega
theorem sum_ok (hf : P.fns[f]? = some (fnSum g)) (hg : P.fns[g]? = some (fnPlus r)) (hr : P.fns[r]? = some (fnRatio x)) (d : Nat) (L : Lk) (h : Hh) {p : PV} {rs : List Rat} (hs : srcItems .seq [p] h = some (rs.map prq))
    (h1 : ∀ y ∈ rs, Bd n y) (hn : (rs.length + 1) * (n + 1) + 1 ≤ 9000) : callN P (d + 3) f [p] L h = .ok (prq (rsum rs)) h := by
  refine sum_gen (m := rs.length * (n + 1) + 1) hf hg hr d L h hs h1 (fun k hk => ?_) (by rw [Nat.add_mul] at hn; omega)
  refine (bd_rsum (n := n) (rs.take k) fun y hy => h1 y (List.mem_of_mem_take hy)).mono ?_
  rw [List.length_take]
  have : min k rs.length * (n + 1) ≤ rs.length * (n + 1) := Nat.mul_le_mul_right _ (Nat.min_le_right ..)
  omega
theorem prod_ok (hf : P.fns[f]? = some (fnProd g)) (hg : P.fns[g]? = some (fnTimes r)) (hr : P.fns[r]? = some (fnRatio x)) (d : Nat) (L : Lk) (h : Hh) {p : PV} {rs : List Rat} (hs : srcItems .seq [p] h = some (rs.map prq))
    (h1 : ∀ y ∈ rs, Bd n y) (hn : (rs.length + 1) * (n + 1) + 1 ≤ 9000) : callN P (d + 3) f [p] L h = .ok (prq (rprod rs)) h := by
  refine prod_gen (m := rs.length * n + 1) hf hg hr d L h hs h1 (fun k hk => ?_) (by rw [Nat.add_mul, Nat.mul_add] at hn; omega)
  refine (bd_rprod (n := n) (rs.take k) fun y hy => h1 y (List.mem_of_mem_take hy)).mono ?_
  rw [List.length_take]
  have : min k rs.length * n ≤ rs.length * n := Nat.mul_le_mul_right _ (Nat.min_le_right ..)
  omega
/-! ### powers -/
theorem rangeP_map (k : Nat) : ∀ (lo : Int), rangeP lo k = (List.range k).map fun i : Nat => PV.int (lo + (i : Int)) := by
  induction k with
  | zero => intro lo; rfl
  | succ k ih =>
    intro lo
    rw [rangeP, ih, List.range_succ_eq_map, List.map_cons, List.map_map]
    congr 1
    · simp
    · apply List.map_congr_left
      intro i _
      simp
      omega
theorem bd_pow (h : Bd n a) : ∀ k : Nat, Bd (k * n + 1) (a ^ k)
  | 0 => by rw [Rat.pow_zero]; simpa using Bd.one
  | k + 1 => by
    rw [Rat.pow_succ]
    refine ((bd_pow h k).mul h).mono ?_
    rw [Nat.add_mul]; omega
theorem small_of {i : Int} (h1 : -1000000 ≤ i) (h2 : i ≤ 1000000) : small i = true := by
  unfold small
  rw [Bool.and_eq_true]
  exact ⟨decide_eq_true (Int.le_trans (by decide) h1), decide_eq_true (Int.lt_of_le_of_lt h2 (by decide))⟩
theorem src_range {k : Nat} (hk : k ≤ 1000000) (h : Hh) : srcItems .range [.int (k : Int)] h = some ((List.range k).map fun i : Nat => PV.int (0 + (i : Int))) := by
  have sm : small (k : Int) = true := small_of (by omega) (by omega)
  rw [srcItems, if_pos sm, Int.toNat_natCast, rangeP_map]
theorem power_neg (hf : P.fns[f]? = some (fnPower g x)) (d : Nat) (L : Lk) (h : Hh) (p : PV) (k : Int) (hk : k < 0) : callN P (d + 1) f [p, .int k] L h = .exc x h := by
  rw [call_pure hf rfl rfl]
  simp [fnPower, entry, evSs, evS, evE, cmpE, hk, endPure]
theorem for_pow {C : Cl} {L : Lk} {h : Hh} {k : Nat} (hk : k ≤ 1000000) (hc : ∀ (L : Lk) i, i < k → C.call g [prq (a ^ i), prq a] L h = .ok (prq (a ^ (i + 1))) h) :
    ∃ q, evS C L (.for_ (.name 3) .range (.cons (.var 1) .nil) (.cons (.asg (.name 2) (.call g (es2 (.var 2) (.var 0)))) .nil)) [some (prq a), some (.int k), some (prq (a ^ 0)), none] h = .nx [some (prq a), some (.int k), some (prq (a ^ k)), q] h := by
  have key := for_fold (t := .name 3) (b := evSs C { L with locked := refsOf [.int k] ++ L.locked } (.cons (.asg (.name 2) (.call g (es2 (.var 2) (.var 0)))) .nil)) (V := fun s : Nat × Option PV => [some (prq a), some (.int k), some (prq (a ^ s.1)), s.2]) (en := fun i : Nat => PV.int (0 + (i : Int))) (f := fun s (i : Nat) => (s.1 + 1, some (.int (0 + (i : Int))))) (h := h) (I := fun s xs => s.1 + xs.length = k)
    (fun s y xs hi => by
      refine ⟨⟨_, rfl, ?_⟩, by simp at hi ⊢; omega⟩
      have e := hc { L with locked := refsOf [.int k] ++ L.locked } s.1 (by simp at hi; omega)
      simp only [es2, evSs, evS, evE, evEs, List.set_cons_succ, List.set_cons_zero, List.getElem?_cons_zero, List.getElem?_cons_succ, e, asgT]) (List.range k) (0, none) (by simp)
  have hfl : ∀ (ys : List Nat) (s : Nat × Option PV), (ys.foldl (fun s (i : Nat) => (s.1 + 1, some (PV.int (0 + (i : Int))))) s).1 = s.1 + ys.length := by
    intro ys
    induction ys with
    | nil => intro s; rfl
    | cons y ys ih => intro s; rw [List.foldl_cons, ih, List.length_cons]; omega
  have e1 := hfl (List.range k) (0, none)
  generalize (List.range k).foldl (fun s (i : Nat) => (s.1 + 1, some (PV.int (0 + (i : Int))))) ((0, none) : Nat × Option PV) = z at key e1
  refine ⟨z.2, ?_⟩
  have e2 : z.1 = k := by simpa using e1
  rw [for_ev (ps := [.int k]) (h' := h) rfl (src_range hk h)]
  rw [e2] at key
  exact key
theorem power_ok (hf : P.fns[f]? = some (fnPower g x)) {x' : Nat} (hg : P.fns[g]? = some (fnTimes r)) (hr : P.fns[r]? = some (fnRatio x')) (d : Nat) (L : Lk) (h : Hh) (k : Nat) (ha : Bd n a) (hk : (k + 1) * (n + 1) ≤ 9000) : callN P (d + 3) f [prq a, .int k] L h = .ok (prq (a ^ k)) h := by
  rw [call_pure hf rfl rfl]
  show endPure _ _ (evSs (clN P (d + 2)) ⟨h.length, []⟩ (fnPower g x).body [some (prq a), some (.int k), none, none] h) = _
  unfold fnPower
  dsimp only
  rw [skip (h' := h) (by simp [evE, cmpE])]
  have e0 : evE (clN P (d + 2)) ⟨h.length, []⟩ (.tup (es2 (.lit (.int 1)) (.lit (.int 1)))) [some (prq a), some (.int k), none, none] h = .ok (prq (a ^ 0)) h := by simp [es2, evE, evEs, lim, prq]
  rw [set1 e0]
  have hk9 : k ≤ 9000 := by
    have : (k + 1) * 1 ≤ (k + 1) * (n + 1) := Nat.mul_le_mul_left _ (by omega)
    omega
  obtain ⟨q, e⟩ := for_pow (a := a) (g := g) (C := clN P (d + 2)) (L := ⟨h.length, []⟩) (h := h) (k := k) (Nat.le_trans hk9 (by decide)) (fun L i hi => by
    have hl : i * n + 1 + n ≤ 9000 := by
      have : (i + 2) * (n + 1) ≤ (k + 1) * (n + 1) := Nat.mul_le_mul_right _ (by omega)
      rw [Nat.add_mul, Nat.mul_add] at this
      omega
    rw [Rat.pow_succ]
    exact times_ok hg hr d L h (bd_pow ha i) ha hl)
  simp only [List.set_cons_succ, List.set_cons_zero]
  rw [ss_nx e]
  simp [ret, evSs, evS, evE, endPure, prq_frz]
end
end Mini

/-! Lw -/
set_option autoImplicit false
set_option linter.all false
set_option maxRecDepth 100000
namespace Mini

/-! ### the laws' own helpers -/
def fnLow : Fn := ⟨2, 4, (.cons (.asg (.tup (.cons (.name 2) (.cons (.name 3) .nil))) (.tup (es2 (.prim .max2 (es2 (.var 0) (.neg (.var 0)))) (.var 1))))
  (.cons (.whl (.cmp .ne (.var 3) (.lit (.int 0))) (.cons (.asg (.tup (.cons (.name 2) (.cons (.name 3) .nil))) (.tup (es2 (.var 3) (.bin .sub (.var 2) (.bin .mul (.bin .fdiv (.var 2) (.var 3)) (.var 3)))))) .nil))
  (ret (.tup (es2 (.bin .fdiv (.var 0) (.var 2)) (.bin .fdiv (.var 1) (.var 2))))))), true⟩
def fnLawSum (l : Nat) : Fn := ⟨1, 4, (.cons (.asg (.name 1) (.tup (es2 (.lit (.int 0)) (.lit (.int 1)))))
  (.cons (.for_ (.tup (.cons (.name 2) (.cons (.name 3) .nil))) .seq (.cons (.var 0) .nil) (.cons (.asg (.name 1) (.call l (es2 (.bin .add (.bin .mul (ix0 1) (.var 3)) (.bin .mul (.var 2) (ix1 1))) (.bin .mul (ix1 1) (.var 3))))) .nil))
  (ret (.var 1)))), true⟩
def fnLawTimes (l : Nat) : Fn := ⟨2, 2, ret (.call l (es2 (.bin .mul (ix0 0) (ix0 1)) (.bin .mul (ix1 0) (ix1 1)))), true⟩
def fnLawLess : Fn := ⟨2, 2, ret (.cmp .lt (.bin .sub (.bin .mul (ix0 0) (ix1 1)) (.bin .mul (ix0 1) (ix1 0))) (.lit (.int 0))), true⟩
set_option exponentiation.threshold 10000
theorem quot_small {x y k : Nat} (h : x < 2 ^ k) : (x / y) < 2 ^ k := Nat.lt_of_le_of_lt (Nat.div_le_self ..) h
/-- Euclid as the laws write it: both numbers bounded -/
theorem low_loop {C : Cl} {L : Lk} {h : Hh} {p q : PV} (x y : Nat) (hx : x < 2 ^ 9000) (hy : y < 2 ^ 9000) :
    evS C L (.whl (.cmp .ne (.var 3) (.lit (.int 0))) (.cons (.asg (.tup (.cons (.name 2) (.cons (.name 3) .nil))) (.tup (es2 (.var 3) (.bin .sub (.var 2) (.bin .mul (.bin .fdiv (.var 2) (.var 3)) (.var 3)))))) .nil)) [some p, some q, some (.int x), some (.int y)] h = .nx [some p, some q, some (.int (Nat.gcd x y : Nat)), some (.int 0)] h := by
  rw [evS]
  have := while_run (c := evE C L (.cmp .ne (.var 3) (.lit (.int 0)))) (b := evSs C L (.cons (.asg (.tup (.cons (.name 2) (.cons (.name 3) .nil))) (.tup (es2 (.var 3) (.bin .sub (.var 2) (.bin .mul (.bin .fdiv (.var 2) (.var 3)) (.var 3)))))) .nil))
    (V := fun s : Nat × Nat => [some p, some q, some (.int s.1), some (.int s.2)]) (h := h) (test := eucT) (step := eucS) (I := fun s => s.1 < 2 ^ 9000 ∧ s.2 < 2 ^ 9000) (fun s _ => ?_) (fun s hi t => ?_) turns (x, y) _ ⟨hx, hy⟩ (runW_more (turns_ok (Nat.le_refl _)) (euclid_run 9000 x y hy))
  · exact this
  · simp [evE, cmpE, view, flat, flatN, eqv, eucT, bne]
    rw [Bool.eq_iff_iff]; simp
  · have hs : s.2 ≠ 0 := by simpa [eucT] using t
    have hl : s.2.log2 < 9000 := log2_small hi.2 (by decide)
    have hm : mulOk ((s.1 / s.2 : Nat) : Int) (s.2 : Int) = true := mul_okW (a := 9000) (b := 9000) (quot_small hi.1) hi.2 (by decide)
    refine ⟨?_, hi.2, Nat.lt_of_lt_of_le (Nat.mod_lt _ (Nat.pos_of_ne_zero hs)) (Nat.le_of_lt hi.2)⟩
    have e1 : (s.1 : Int).fdiv (s.2 : Int) = ((s.1 / s.2 : Nat) : Int) := by rw [Int.fdiv_eq_ediv_of_nonneg _ (by omega), Int.natCast_ediv]
    have e2 : (s.1 : Int) - ((s.1 / s.2 : Nat) : Int) * (s.2 : Int) = ((s.1 % s.2 : Nat) : Int) := by
      have := Nat.div_add_mod s.1 s.2
      rw [← Int.natCast_mul, Nat.mul_comm]
      omega
    have s2 : (s.2 : Int) ≠ 0 := by omega
    simp only [es2, evSs, evS, evE, evEs, List.getElem?_cons_zero, List.getElem?_cons_succ, bin_fdiv s2 hl, e1, bin_mul hm, bin_sub, e2]
    simp [asgT, asgTs, lim, eucS]
theorem low_ok {P : Prg} {f : Nat} (hf : P.fns[f]? = some fnLow) (d : Nat) (L : Lk) (h : Hh) (a : Int) (b : Nat) (hb : b ≠ 0) (ha : a.natAbs < 2 ^ 9000) (hl : b < 2 ^ 9000) : callN P (d + 1) f [.int a, .int b] L h = .ok (prq (mkRat a b)) h := by
  rw [call_pure hf rfl rfl]
  show endPure _ _ (evSs (clN P d) ⟨h.length, []⟩ fnLow.body [some (.int a), some (.int b), none, none] h) = _
  unfold fnLow
  dsimp only
  have e0 : (if -a > a then -a else a) = (a.natAbs : Int) := by split <;> omega
  rw [ss_nx (env' := [some (.int a), some (.int b), some (.int a.natAbs), some (.int b)]) (h' := h) (by
    simp only [es2, evS, evE, evEs, negE, primE, List.getElem?_cons_zero, List.getElem?_cons_succ, e0]
    simp [asgT, asgTs, lim])]
  rw [ss_nx (low_loop a.natAbs b ha hl)]
  have hg : Nat.gcd a.natAbs b ≠ 0 := fun z => hb (Nat.eq_zero_of_gcd_eq_zero_right z)
  have hgl : (Nat.gcd a.natAbs b).log2 < 9000 := log2_small (Nat.lt_of_le_of_lt (Nat.gcd_le_right _ (Nat.pos_of_ne_zero hb)) hl) (by decide)
  rw [show ret (.tup (es2 (.bin .fdiv (.var 0) (.var 2)) (.bin .fdiv (.var 1) (.var 2)))) = .cons (.ret (.tup (es2 (.bin .fdiv (.var 0) (.var 2)) (.bin .fdiv (.var 1) (.var 2))))) .nil from rfl]
  rw [ret1 (p := prq (mkRat a b)) (h' := h)]
  · simp [endPure, prq_frz]
  · obtain ⟨n1, n2⟩ := gcd_div_num a b hb
    rw [Rat.divInt_ofNat] at n1 n2
    have c1 : ((Nat.gcd a.natAbs b : Nat) : Int) ≠ 0 ∧ ((Nat.gcd a.natAbs b : Nat) : Int).natAbs.log2 < 9000 := ⟨by omega, hgl⟩
    rw [prq, n1, n2]
    simp only [es2, evE, evEs, List.getElem?_cons_zero, List.getElem?_cons_succ, binE]
    rw [if_pos c1]
    dsimp only
    rw [if_pos c1]
    rfl
section
variable {P : Prg} {f l : Nat} {n m : Nat} {a b : Rat}
theorem lt9 {k x : Nat} (h : x < 2 ^ k) (hk : k ≤ 9000) : x < 2 ^ 9000 := Nat.lt_of_lt_of_le h (Nat.pow_le_pow_right (by decide) hk)
theorem ltimes_ok (hf : P.fns[f]? = some (fnLawTimes l)) (hl : P.fns[l]? = some fnLow) (d : Nat) (L : Lk) (h : Hh) (ha : Bd n a) (hb : Bd m b) (hn : n + m ≤ 9000) : callN P (d + 2) f [prq a, prq b] L h = .ok (prq (a * b)) h := by
  rw [call_pure hf rfl rfl]
  have hd : a.den * b.den ≠ 0 := Nat.mul_ne_zero a.den_nz b.den_nz
  have e := low_ok hl d ⟨h.length, []⟩ h (a.num * b.num) (a.den * b.den) hd (lt9 (nat_mul_lt ha.num hb.num) hn) (lt9 (mul_lt_pow ha.2 hb.2) hn)
  rw [← Rat.mul_def', Int.natCast_mul] at e
  simp only [fnLawTimes, entry, ret, ix0, ix1, es2, evSs, evS, evE, evEs, List.map, List.append, List.cons_append, List.nil_append, List.getElem?_cons_zero, List.getElem?_cons_succ, ix_prq0, ix_prq1, binE, ↓reduceIte, okm_nn ha hb hn, okm_dd ha hb hn, cl_call, e, endPure, prq_frz]
theorem lless_ok (hf : P.fns[f]? = some fnLawLess) (d : Nat) (L : Lk) (h : Hh) (ha : Bd n a) (hb : Bd m b) (hn : n + m ≤ 9000) : callN P (d + 1) f [prq a, prq b] L h = .ok (.bl (decide (a < b))) h := by
  rw [call_pure hf rfl rfl]
  have e : decide (a.num * (b.den : Int) - b.num * a.den < 0) = decide (a < b) := by
    rw [Bool.eq_iff_iff]; simp [Rat.lt_iff]; omega
  simp only [fnLawLess, entry, ret, ix0, ix1, es2, evSs, evS, evE, evEs, List.map, List.append, List.cons_append, List.nil_append, List.getElem?_cons_zero, List.getElem?_cons_succ, ix_prq0, ix_prq1, binE, ↓reduceIte, okm_nd ha hb hn, okm_nd hb ha (Nat.add_comm n m ▸ hn), cmpE, e, endPure, frz]
/-- the law's sum: rows of ratios -/
theorem for_lsum {C : Cl} {L : Lk} {h : Hh} {p : PV} {rs : List Rat} {acc : Nat → Rat} (h1 : ∀ k y, rs[k]? = some y → acc (k + 1) = acc k + y) (hb : ∀ k y, rs[k]? = some y → Bd m (acc k) ∧ Bd n y) (hn : m + n ≤ 8990)
    (hl : P.fns[l]? = some fnLow) (d : Nat) (hC : C.call = callN P (d + 1)) (hs : srcItems .seq [p] h = some (rs.map prq)) :
    ∃ q1 q2, evS C L (.for_ (.tup (.cons (.name 2) (.cons (.name 3) .nil))) .seq (.cons (.var 0) .nil) (.cons (.asg (.name 1) (.call l (es2 (.bin .add (.bin .mul (ix0 1) (.var 3)) (.bin .mul (.var 2) (ix1 1))) (.bin .mul (ix1 1) (.var 3))))) .nil)) [some p, some (prq (acc 0)), none, none] h = .nx [some p, some (prq (acc rs.length)), q1, q2] h := by
  have key := for_fold (t := .tup (.cons (.name 2) (.cons (.name 3) .nil))) (b := evSs C { L with locked := refsOf [p] ++ L.locked } (.cons (.asg (.name 1) (.call l (es2 (.bin .add (.bin .mul (ix0 1) (.var 3)) (.bin .mul (.var 2) (ix1 1))) (.bin .mul (ix1 1) (.var 3))))) .nil)) (V := fun s : Nat × Option PV × Option PV => [some p, some (prq (acc s.1)), s.2.1, s.2.2]) (en := prq) (f := fun s y => (s.1 + 1, some (.int y.num), some (.int y.den))) (h := h) (I := fun s xs => rs.drop s.1 = xs)
    (fun s y xs hi => by
      obtain ⟨e1, e2⟩ := drop_cons_get hi
      refine ⟨⟨[some p, some (prq (acc s.1)), some (.int y.num), some (.int y.den)], rfl, ?_⟩, e2⟩
      obtain ⟨b1, b2⟩ := hb _ _ e1
      have hd : (acc s.1).den * y.den ≠ 0 := Nat.mul_ne_zero (acc s.1).den_nz y.den_nz
      have x1 := nat_mul_lt b1.num b2.dn
      have x2 := nat_mul_lt b2.num b1.dn
      rw [Nat.add_comm n m] at x2
      have x3 : ((acc s.1).num * (y.den : Int) + y.num * (acc s.1).den).natAbs < 2 ^ (m + n + 1) := by rw [Nat.pow_succ]; omega
      have e := low_ok hl d { L with locked := refsOf [p] ++ L.locked } h ((acc s.1).num * y.den + y.num * (acc s.1).den) ((acc s.1).den * y.den) hd (lt9 x3 (by omega)) (lt9 (mul_lt_pow b1.2 b2.2) (by omega))
      rw [← Rat.add_def', Int.natCast_mul, ← h1 _ _ e1] at e
      simp only [es2, ix0, ix1, evSs, evS, evE, evEs, List.set_cons_succ, List.set_cons_zero, List.getElem?_cons_zero, List.getElem?_cons_succ, ix_prq0, ix_prq1, binE, ↓reduceIte, okm_nd b1 b2 (by omega), okm_nd b2 b1 (by omega), okm_dd b1 b2 (by omega), hC, e, asgT]) rs (0, none, none) rfl
  have hfl : ∀ (ys : List Rat) (s : Nat × Option PV × Option PV), (ys.foldl (fun s y => (s.1 + 1, some (PV.int y.num), some (PV.int (y.den : Int)))) s).1 = s.1 + ys.length := by
    intro ys
    induction ys with
    | nil => intro s; rfl
    | cons y ys ih => intro s; rw [List.foldl_cons, ih, List.length_cons]; omega
  have e1 := hfl rs (0, none, none)
  generalize rs.foldl (fun s y => (s.1 + 1, some (PV.int y.num), some (PV.int (y.den : Int)))) ((0, none, none) : Nat × Option PV × Option PV) = z at key e1
  refine ⟨z.2.1, z.2.2, ?_⟩
  have e2 : z.1 = rs.length := by simpa using e1
  rw [for_ev (ps := [p]) (h' := h) rfl hs]
  rw [e2] at key
  exact key
theorem lsum_gen (hf : P.fns[f]? = some (fnLawSum l)) (hl : P.fns[l]? = some fnLow) (d : Nat) (L : Lk) (h : Hh) {p : PV} {rs : List Rat} (hs : srcItems .seq [p] h = some (rs.map prq))
    (h1 : ∀ y ∈ rs, Bd n y) (h2 : ∀ k, k < rs.length → Bd m (rsum (rs.take k))) (hn : m + n ≤ 8990) : callN P (d + 2) f [p] L h = .ok (prq (rsum rs)) h := by
  rw [call_pure hf rfl rfl]
  obtain ⟨q1, q2, e⟩ := for_lsum (l := l) (C := clN P (d + 1)) (L := ⟨h.length, []⟩) (h := h) (p := p) (rs := rs) (acc := fun k => rsum (rs.take k)) (fun k y hk => rsum_take rs hk) (fun k y hk => ⟨h2 k (List.getElem?_eq_some_iff.mp hk).1, h1 y (List.mem_of_getElem? hk)⟩) hn hl d rfl hs
  have e0 : evE (clN P (d + 1)) ⟨h.length, []⟩ (.tup (es2 (.lit (.int 0)) (.lit (.int 1)))) [some p, none, none, none] h = .ok (prq (rsum (rs.take 0))) h := by simp [es2, evE, evEs, lim, prq, rsum]
  show endPure _ _ (evSs (clN P (d + 1)) ⟨h.length, []⟩ (fnLawSum l).body [some p, none, none, none] h) = _
  unfold fnLawSum
  dsimp only
  rw [set1 e0]
  simp only [List.set_cons_succ, List.set_cons_zero]
  rw [ss_nx e, List.take_length]
  simp [ret, evSs, evS, evE, endPure, prq_frz]
theorem lsum_ok (hf : P.fns[f]? = some (fnLawSum l)) (hl : P.fns[l]? = some fnLow) (d : Nat) (L : Lk) (h : Hh) {p : PV} {rs : List Rat} (hs : srcItems .seq [p] h = some (rs.map prq))
    (h1 : ∀ y ∈ rs, Bd n y) (hn : (rs.length + 1) * (n + 1) + 1 ≤ 8990) : callN P (d + 2) f [p] L h = .ok (prq (rsum rs)) h := by
  refine lsum_gen (m := rs.length * (n + 1) + 1) hf hl d L h hs h1 (fun k hk => ?_) (by rw [Nat.add_mul] at hn; omega)
  refine (bd_rsum (n := n) (rs.take k) fun y hy => h1 y (List.mem_of_mem_take hy)).mono ?_
  rw [List.length_take]
  have : min k rs.length * (n + 1) ≤ rs.length * (n + 1) := Nat.mul_le_mul_right _ (Nat.min_le_right ..)
  omega
end
end Mini

/-! Rt4 -/
set_option autoImplicit false
set_option linter.all false
set_option maxRecDepth 100000
namespace Mini

theorem src_seq {h : Hh} {p : PV} {xs : List PV} (e : seqOf h p = some xs) : srcItems .seq [p] h = some xs := by
  cases p <;> first | (simp [seqOf] at e; done) | (simp only [srcItems]; exact e)
theorem idx_seq {h : Hh} {p : PV} {xs : List PV} (e : seqOf h p = some xs) (i : Int) {j : Nat} {v : PV} (hj : ixOf xs.length i = some j) (hv : xs[j]? = some v) : idxE p (.int i) h = .ok v h := by
  cases p <;> first | (simp [seqOf] at e; done) | (simp only [idxE, e, hj, Option.bind_some, hv])
theorem len_seq {h : Hh} {p : PV} {xs : List PV} {L : Lk} (e : seqOf h p = some xs) : primE .len [p] L h = .ok (.int xs.length) h := by
  cases p <;> first | (simp [seqOf] at e; done) | (simp only [primE, e])
theorem tuple_seq {h : Hh} {p : PV} {xs : List PV} {L : Lk} (e : seqOf h p = some xs) : primE .tuple [p] L h = .ok (.tup xs) h := by
  cases p <;> first | (simp [seqOf] at e; done) | (simp only [primE, e]; done) | (simp only [seqOf] at e; cases e; simp only [primE])
theorem list_seq {h : Hh} {p : PV} {xs : List PV} {L : Lk} (e : seqOf h p = some xs) : primE .list [p] L h = .ok (.lst xs) h := by
  cases p <;> first | (simp [seqOf] at e; done) | (simp only [primE, e])
theorem asInts_map (is : List Int) : asInts (is.map .int) = some is := by
  induction is with
  | nil => rfl
  | cons i is ih => rw [List.map_cons, asInts, ih]; rfl
theorem sum_seq {h : Hh} {p : PV} {is : List Int} {L : Lk} (e : seqOf h p = some (is.map .int)) : primE .sum [p] L h = .ok (.int is.sum) h := by
  cases p <;> first | (simp [seqOf] at e; done) | (simp only [primE, e, asInts_map])
/-- the best of rows so far: better r f -/
def best (lt : Rat → Rat → Bool) (rs : List Rat) (f : Rat) : Rat := rs.foldl (fun f r => if lt r f then r else f) f
theorem best_mem (lt : Rat → Rat → Bool) : ∀ (rs : List Rat) (f : Rat), best lt rs f = f ∨ best lt rs f ∈ rs
  | [], f => .inl rfl
  | r :: rs, f => by
    show best lt rs (if lt r f then r else f) = f ∨ best lt rs (if lt r f then r else f) ∈ r :: rs
    rcases best_mem lt rs (if lt r f then r else f) with e | e
    · rw [e]
      by_cases q : lt r f = true
      · rw [if_pos q]; exact .inr (List.mem_cons_self ..)
      · rw [if_neg q]; exact .inl rfl
    · exact .inr (List.mem_cons_of_mem _ e)
theorem lmin_le : ∀ (rs : List Rat) (f : Rat), best (fun r f => decide (r < f)) rs f ≤ f ∧ ∀ r ∈ rs, best (fun r f => decide (r < f)) rs f ≤ r
  | [], f => ⟨Rat.le_refl, fun r hr => by cases hr⟩
  | r :: rs, f => by
    show best (fun r f => decide (r < f)) rs (if decide (r < f) then r else f) ≤ f ∧ ∀ x ∈ r :: rs, best (fun r f => decide (r < f)) rs (if decide (r < f) then r else f) ≤ x
    obtain ⟨h1, h2⟩ := lmin_le rs (if decide (r < f) then r else f)
    by_cases q : r < f
    · rw [if_pos (decide_eq_true q)] at h1 h2 ⊢
      exact ⟨Rat.le_trans h1 (Rat.le_of_lt q), fun x hx => by
        rcases List.mem_cons.mp hx with rfl | hx
        · exact h1
        · exact h2 x hx⟩
    · rw [if_neg (by simpa using q)] at h1 h2 ⊢
      exact ⟨h1, fun x hx => by
        rcases List.mem_cons.mp hx with rfl | hx
        · exact Rat.le_trans h1 (Rat.not_lt.mp q)
        · exact h2 x hx⟩
theorem lmax_le : ∀ (rs : List Rat) (f : Rat), f ≤ best (fun r f => decide (f < r)) rs f ∧ ∀ r ∈ rs, r ≤ best (fun r f => decide (f < r)) rs f
  | [], f => ⟨Rat.le_refl, fun r hr => by cases hr⟩
  | r :: rs, f => by
    show f ≤ best (fun r f => decide (f < r)) rs (if decide (f < r) then r else f) ∧ ∀ x ∈ r :: rs, x ≤ best (fun r f => decide (f < r)) rs (if decide (f < r) then r else f)
    obtain ⟨h1, h2⟩ := lmax_le rs (if decide (f < r) then r else f)
    by_cases q : f < r
    · rw [if_pos (decide_eq_true q)] at h1 h2 ⊢
      exact ⟨Rat.le_trans (Rat.le_of_lt q) h1, fun x hx => by
        rcases List.mem_cons.mp hx with rfl | hx
        · exact h1
        · exact h2 x hx⟩
    · rw [if_neg (by simpa using q)] at h1 h2 ⊢
      exact ⟨h1, fun x hx => by
        rcases List.mem_cons.mp hx with rfl | hx
        · exact Rat.le_trans (Rat.not_lt.mp q) h1
        · exact h2 x hx⟩
abbrev es1 (a : E) : Es := .cons a .nil
def bestBody (c : E) : Ss := .cons (.asg (.name 1) (.ife c (.var 2) (.var 1))) .nil
def fnBest (c : E) (x : Nat) : Fn := ⟨1, 3, .cons (.ife (.cmp .eq (.prim .len (es1 (.var 0))) (.lit (.int 0))) (.cons (.raise x) .nil) .nil)
  (.cons (.asg (.name 1) (.idx (.var 0) (.lit (.int 0)))) (.cons (.for_ (.name 2) .seq (es1 (.var 0)) (bestBody c)) (ret (.prim .tuple (es1 (.var 1)))))), true⟩
def fnLeast (l x : Nat) : Fn := fnBest (.call l (es2 (.var 2) (.var 1))) x
def fnMost (l x : Nat) : Fn := fnBest (.call l (es2 (.var 1) (.var 2))) x
section
variable {P : Prg} {f g l x : Nat} {n m : Nat}
theorem eq_ii (i j : Int) (h : Hh) : cmpE .eq (.int i) (.int j) h = .ok (.bl (i == j)) h := by simp [cmpE, view, flat, flatN, eqv]
theorem ne_ii (i j : Int) (h : Hh) : cmpE .ne (.int i) (.int j) h = .ok (.bl (i != j)) h := by simp [cmpE, view, flat, flatN, eqv, bne]
theorem lt_ii (i j : Int) (h : Hh) : cmpE .lt (.int i) (.int j) h = .ok (.bl (decide (i < j))) h := rfl
theorem le_ii (i j : Int) (h : Hh) : cmpE .le (.int i) (.int j) h = .ok (.bl (decide (i ≤ j))) h := rfl
theorem gt_ii (i j : Int) (h : Hh) : cmpE .gt (.int i) (.int j) h = .ok (.bl (decide (j < i))) h := rfl
theorem ge_ii (i j : Int) (h : Hh) : cmpE .ge (.int i) (.int j) h = .ok (.bl (decide (j ≤ i))) h := rfl
theorem best_ok {c : E} {lt : Rat → Rat → Bool} (hf : P.fns[f]? = some (fnBest c x)) (d : Nat) (L : Lk) (h : Hh) {p : PV} {r0 : Rat} {rs : List Rat} (hs : seqOf h p = some ((r0 :: rs).map prq))
    (hc : ∀ (L : Lk) (r f : Rat), r ∈ r0 :: rs → f ∈ r0 :: rs → evE (clN P d) L c [some p, some (prq f), some (prq r)] h = .ok (.bl (lt r f)) h) : callN P (d + 1) f [p] L h = .ok (prq (best lt (r0 :: rs) r0)) h := by
  rw [call_pure hf rfl rfl]
  show endPure _ _ (evSs (clN P d) ⟨h.length, []⟩ (fnBest c x).body [some p, none, none] h) = _
  unfold fnBest
  dsimp only
  rw [skip (h' := h) (by
    simp only [es1, evE, evEs, List.getElem?_cons_zero, len_seq hs, eq_ii]
    congr 2)]
  have e0 : evE (clN P d) ⟨h.length, []⟩ (.idx (.var 0) (.lit (.int 0))) [some p, none, none] h = .ok (prq r0) h := by
    simp only [evE, List.getElem?_cons_zero]
    exact idx_seq hs 0 (j := 0) (by simp [ixOf]) rfl
  rw [set1 e0]
  simp only [List.set_cons_succ, List.set_cons_zero]
  have key := for_fold (t := .name 2) (b := evSs (clN P d) { (⟨h.length, []⟩ : Lk) with locked := refsOf [p] ++ [] } (bestBody c)) (V := fun s : Rat × Option PV => [some p, some (prq s.1), s.2]) (en := prq) (f := fun s r => (if lt r s.1 then r else s.1, some (prq r))) (h := h) (I := fun s xs => s.1 ∈ r0 :: rs ∧ ∀ y ∈ xs, y ∈ r0 :: rs)
    (fun s y xs hi => by
      have hy := hi.2 y (List.mem_cons_self ..)
      refine ⟨⟨_, rfl, ?_⟩, ?_, fun z hz => hi.2 z (List.mem_cons_of_mem _ hz)⟩
      · simp only [bestBody, evSs, evS, evE, List.set_cons_succ, List.set_cons_zero, hc _ y s.1 hy hi.1]
        cases lt y s.1 <;> rfl
      · dsimp only
        split
        · exact hy
        · exact hi.1) (r0 :: rs) (r0, none) ⟨List.mem_cons_self .., fun y hy => hy⟩
  have hfl : ∀ (ys : List Rat) (s : Rat × Option PV), (ys.foldl (fun s r => (if lt r s.1 then r else s.1, some (prq r))) s).1 = best lt ys s.1 := by
    intro ys
    induction ys with
    | nil => intro s; rfl
    | cons y ys ih => intro s; rw [List.foldl_cons, ih]; rfl
  have e1 := hfl (r0 :: rs) (r0, none)
  generalize (r0 :: rs).foldl (fun s r => (if lt r s.1 then r else s.1, some (prq r))) ((r0, none) : Rat × Option PV) = z at key e1
  rw [ss_nx (env' := [some p, some (prq z.1), z.2]) (h' := h) (by rw [for_ev (ps := [p]) (h' := h) rfl (src_seq hs)]; exact key), e1]
  have e2 : ∀ r : Rat, seqOf h (prq r) = some [.int r.num, .int r.den] := fun r => rfl
  simp only [ret, es1, evSs, evS, evE, evEs, List.getElem?_cons_succ, List.getElem?_cons_zero, tuple_seq (e2 _), endPure]
  rw [show PV.tup [.int (best lt (r0 :: rs) r0).num, .int (best lt (r0 :: rs) r0).den] = prq (best lt (r0 :: rs) r0) from rfl, prq_frz]
theorem least_ok (hf : P.fns[f]? = some (fnLeast l x)) (hl : P.fns[l]? = some fnIsLess) (d : Nat) (L : Lk) (h : Hh) {p : PV} {r0 : Rat} {rs : List Rat} (hs : seqOf h p = some ((r0 :: rs).map prq)) (hb : ∀ r ∈ r0 :: rs, Bd n r) (hn : n + n ≤ 9000) :
    callN P (d + 2) f [p] L h = .ok (prq (best (fun r f => decide (r < f)) (r0 :: rs) r0)) h := by
  refine best_ok (lt := fun r f => decide (r < f)) hf (d + 1) L h hs fun L r f hr hf' => ?_
  simp only [es2, evE, evEs, List.getElem?_cons_succ, List.getElem?_cons_zero, cl_call, isless_ok hl d _ h (hb r hr) (hb f hf') hn]
theorem most_ok (hf : P.fns[f]? = some (fnMost l x)) (hl : P.fns[l]? = some fnIsLess) (d : Nat) (L : Lk) (h : Hh) {p : PV} {r0 : Rat} {rs : List Rat} (hs : seqOf h p = some ((r0 :: rs).map prq)) (hb : ∀ r ∈ r0 :: rs, Bd n r) (hn : n + n ≤ 9000) :
    callN P (d + 2) f [p] L h = .ok (prq (best (fun r f => decide (f < r)) (r0 :: rs) r0)) h := by
  refine best_ok (lt := fun r f => decide (f < r)) hf (d + 1) L h hs fun L r f hr hf' => ?_
  simp only [es2, evE, evEs, List.getElem?_cons_succ, List.getElem?_cons_zero, cl_call, isless_ok hl d _ h (hb f hf') (hb r hr) hn]
end
end Mini

/-! Dc -/
set_option autoImplicit false
set_option linter.all false
set_option maxRecDepth 100000
namespace Mini

/-! ### the laws' dice -/
def dl (a b c : Int) : Ob := .lst [.int a, .int b, .int c]
abbrev ixd (i : Nat) (k : Int) : E := .idx (.var i) (.lit (.int k))
def diceA : E := .bin .add (.lit (.int 1)) (.bin .mod (.prim .int_ (es1 (.var 0))) (.lit (.int 1009)))
def diceB : E := .prim .int_ (es1 (.cmp .ge (.var 0) (.bin .pow (.lit (.int 10)) (.lit (.int 18)))))
def diceT : E := .cmp2 .lt .lt (.bin .sub (.lit (.int 0)) (.lit (.int 10))) (.var 0) (.lit (.int 10))
def fnDice : Fn := ⟨1, 1, .cons (.ife diceT (ret (.lst true (.cons (.prim .abs (es1 (.var 0))) (es2 (.lit (.int 0)) (.lit (.int 2)))))) .nil) (ret (.lst true (.cons (.var 0) (es2 diceA diceB)))), false⟩
def fnRoll (r : Nat) : Fn := ⟨2, 3, (.cons (.ife (.or_ (.cmp .eq (ixd 0 2) (.lit (.int 2))) (.and_ (.cmp .eq (ixd 0 2) (.lit (.int 1))) (.cmp .gt (ixd 0 0) (.lit (.int 0))))) (.cons (.asg (.name 2) (.bin .mod (.prim .int_ (es1 (ixd 0 0))) (.var 1)))
  (.cons (.set (.var 0) (.lit (.int 0)) (.bin .fdiv (ixd 0 0) (.var 1))) (ret (.var 2)))) .nil)
  (.cons (.set (.var 0) (.lit (.int 2)) (.lit (.int 0)))
  (.cons (.ife (.cmp .gt (.var 1) (.lit (.int 100000000))) (ret (.bin .mod (.prim .int_ (es1 (.bin .add (.bin .mul (.call r (es2 (.var 0) (.bin .add (.bin .fdiv (.var 1) (.lit (.int 100000000))) (.lit (.int 1))))) (.lit (.int 100000000))) (.call r (es2 (.var 0) (.lit (.int 100000000))))))) (.var 1))) .nil)
  (.cons (.set (.var 0) (.lit (.int 0)) (.bin .mod (.prim .int_ (es1 (.bin .add (.bin .add (.bin .mul (ixd 0 0) (.lit (.int 48271))) (.bin .mul (ixd 0 1) (.lit (.int 69621)))) (.lit (.int 11))))) (.lit (.int 2147483647))))
  (.cons (.set (.var 0) (.lit (.int 1)) (.bin .add (ixd 0 1) (.lit (.int 1))))
  (ret (.bin .mod (.prim .int_ (es1 (.bin .fdiv (ixd 0 0) (.lit (.int 7))))) (.var 1)))))))), false⟩
def fnRounds (k : Nat) : Fn := ⟨2, 4, (.cons (.asg (.name 2) (.sli false true (.var 0) (.lit .non) (.var 1)))
  (.cons (.ife (.cmp .eq (.var 2) (.lst false .nil)) (.cons (.asg (.name 2) (.lst false (es1 (.lit (.int 0))))) .nil) .nil)
  (ret (.comp false [3] (.name 3) .seq (es1 (.var 2)) (.lit (.bl true)) (.call k (es1 (.var 3))))))), false⟩

section
variable {r : Nat} {h : Hh} {a b c : Int}
theorem at_dl (hr : r < h.length) : (h.set r (dl a b c))[r]? = some (dl a b c) := List.getElem?_set_self hr
theorem ix_dl0 (hr : r < h.length) : idxE (.ref r) (.int 0) (h.set r (dl a b c)) = .ok (.int a) (h.set r (dl a b c)) := by simp [idxE, seqOf, at_dl hr, ixOf, dl, hr]
theorem ix_dl1 (hr : r < h.length) : idxE (.ref r) (.int 1) (h.set r (dl a b c)) = .ok (.int b) (h.set r (dl a b c)) := by simp [idxE, seqOf, at_dl hr, ixOf, dl, hr]
theorem ix_dl2 (hr : r < h.length) : idxE (.ref r) (.int 2) (h.set r (dl a b c)) = .ok (.int c) (h.set r (dl a b c)) := by simp [idxE, seqOf, at_dl hr, ixOf, dl, hr]
variable {L : Lk} {v : Int}
theorem st_dl0 (hr : r < h.length) (hl : L.ok r = true) : setE (.ref r) (.int 0) (.int v) L (h.set r (dl a b c)) = some (h.set r (dl v b c)) := by simp [setE, at_dl hr, hl, dl, ixOf, hr]
theorem st_dl1 (hr : r < h.length) (hl : L.ok r = true) : setE (.ref r) (.int 1) (.int v) L (h.set r (dl a b c)) = some (h.set r (dl a v c)) := by simp [setE, at_dl hr, hl, dl, ixOf, hr]
theorem st_dl2 (hr : r < h.length) (hl : L.ok r = true) : setE (.ref r) (.int 2) (.int v) L (h.set r (dl a b c)) = some (h.set r (dl a b v)) := by simp [setE, at_dl hr, hl, dl, ixOf, hr]
theorem fmod_range (x : Int) {m : Int} (hm : 0 < m) : 0 ≤ x.fmod m ∧ x.fmod m < m := by
  rw [Int.fmod_eq_emod_of_nonneg _ (by omega)]
  exact ⟨Int.emod_nonneg _ (by omega), Int.emod_lt_of_pos _ hm⟩
/-- a roll: some number below many; what the dice are behind is anything -/
theorem roll_ok {P : Prg} {f g : Nat} (hf : P.fns[f]? = some (fnRoll g)) (d : Nat) (L : Lk) (h : Hh) (r : Nat) (hr : r < h.length) (hl : L.ok r = true) (a b c : Int) (m : Int) (hm : 0 < m) (hm2 : m ≤ 100000000) :
    ∃ v a' b' c', 0 ≤ v ∧ v < m ∧ callN P (d + 1) f [.ref r, .int m] L (h.set r (dl a b c)) = .ok (.int v) (h.set r (dl a' b' c')) := by
  have m0 : m ≠ 0 := by omega
  have ml : m.natAbs.log2 < 9000 := by
    have q : m.natAbs < 2 ^ 27 := by omega
    have := log2_small q (by decide)
    omega
  have eqi : ∀ (i j : Int) (h : Hh), cmpE .eq (.int i) (.int j) h = .ok (.bl (i == j)) h := fun i j h => by simp [cmpE, view, flat, flatN, eqv]
  have gti : ∀ (i j : Int) (h : Hh), cmpE .gt (.int i) (.int j) h = .ok (.bl (decide (j < i))) h := fun i j h => rfl
  have k1 : ∀ x : Int, mulOk x 48271 = true := fun x => mul_ok (.inr (by decide))
  have k2 : ∀ x : Int, mulOk x 69621 = true := fun x => mul_ok (.inr (by decide))
  have pI : ∀ (i : Int) (L : Lk) (h : Hh), primE .int_ [.int i] L h = .ok (.int i) h := fun i L h => rfl
  rw [call_raw hf rfl rfl]
  show ∃ v a' b' c', 0 ≤ v ∧ v < m ∧ endRaw (evSs (clN P d) L (fnRoll g).body [some (.ref r), some (.int m), none] _) = _
  unfold fnRoll
  dsimp only
  have second : ∃ v a' b' c', 0 ≤ v ∧ v < m ∧ endRaw (evSs (clN P d) L (.cons (.set (.var 0) (.lit (.int 2)) (.lit (.int 0)))
      (.cons (.ife (.cmp .gt (.var 1) (.lit (.int 100000000))) (ret (.bin .mod (.prim .int_ (es1 (.bin .add (.bin .mul (.call g (es2 (.var 0) (.bin .add (.bin .fdiv (.var 1) (.lit (.int 100000000))) (.lit (.int 1))))) (.lit (.int 100000000))) (.call g (es2 (.var 0) (.lit (.int 100000000))))))) (.var 1))) .nil)
      (.cons (.set (.var 0) (.lit (.int 0)) (.bin .mod (.prim .int_ (es1 (.bin .add (.bin .add (.bin .mul (ixd 0 0) (.lit (.int 48271))) (.bin .mul (ixd 0 1) (.lit (.int 69621)))) (.lit (.int 11))))) (.lit (.int 2147483647))))
      (.cons (.set (.var 0) (.lit (.int 1)) (.bin .add (ixd 0 1) (.lit (.int 1))))
      (ret (.bin .mod (.prim .int_ (es1 (.bin .fdiv (ixd 0 0) (.lit (.int 7))))) (.var 1))))))) [some (.ref r), some (.int m), none] (h.set r (dl a b c))) = .ok (.int v) (h.set r (dl a' b' c')) := by
    obtain ⟨g1, g2⟩ := fmod_range (Int.fdiv ((a * 48271 + b * 69621 + 11).fmod 2147483647) 7) hm
    have gm : decide (100000000 < m) = false := decide_eq_false (by omega)
    refine ⟨_, (a * 48271 + b * 69621 + 11).fmod 2147483647, b + 1, 0, g1, g2, ?_⟩
    simp only [es1, ret, ixd, evSs, evS, evE, evEs, List.getElem?_cons_zero, List.getElem?_cons_succ, st_dl2 hr hl, gti, gm, ix_dl0 hr, ix_dl1 hr, bin_mul (k1 a), bin_mul (k2 b), bin_add, pI,
      bin_mod (show (2147483647 : Int) ≠ 0 by decide), st_dl0 hr hl, st_dl1 hr hl, bin_fdiv (show (7 : Int) ≠ 0 by decide) (show (7 : Int).natAbs.log2 < 9000 by decide), bin_mod m0, endRaw]
  have first : ∃ v a' b' c', 0 ≤ v ∧ v < m ∧ endRaw (evSs (clN P d) L (.cons (.asg (.name 2) (.bin .mod (.prim .int_ (es1 (ixd 0 0))) (.var 1)))
      (.cons (.set (.var 0) (.lit (.int 0)) (.bin .fdiv (ixd 0 0) (.var 1))) (ret (.var 2)))) [some (.ref r), some (.int m), none] (h.set r (dl a b c))) = .ok (.int v) (h.set r (dl a' b' c')) := by
    obtain ⟨g1, g2⟩ := fmod_range a hm
    refine ⟨_, a.fdiv m, b, c, g1, g2, ?_⟩
    simp only [es1, ret, ixd, evSs, evS, evE, evEs, List.getElem?_cons_zero, List.getElem?_cons_succ, ix_dl0 hr, pI, bin_mod m0, bin_fdiv m0 ml, st_dl0 hr hl, asgT, List.set_cons_succ, List.set_cons_zero, endRaw]
  have test : evE (clN P d) L (.or_ (.cmp .eq (ixd 0 2) (.lit (.int 2))) (.and_ (.cmp .eq (ixd 0 2) (.lit (.int 1))) (.cmp .gt (ixd 0 0) (.lit (.int 0))))) [some (.ref r), some (.int m), none] (h.set r (dl a b c)) = .ok (.bl (c == 2 || (c == 1 && decide (0 < a)))) (h.set r (dl a b c)) := by
    cases h1 : c == 2 <;> cases h2 : c == 1 <;> simp only [ixd, evE, List.getElem?_cons_zero, ix_dl2 hr, ix_dl0 hr, eqi, gti, h1, h2, Bool.true_or, Bool.false_or, Bool.true_and, Bool.false_and]
  cases ht : (c == 2 || (c == 1 && decide (0 < a))) with
  | true =>
    rw [ht] at test
    obtain ⟨v, a', b', c', q1, q2, q3⟩ := first
    refine ⟨v, a', b', c', q1, q2, ?_⟩
    rw [take test]
    have : ∀ o : O, endRaw o = .ok (.int v) (h.set r (dl a' b' c')) → (∀ env h, o ≠ .nx env h) → ∀ k : Env → Hh → O, endRaw (match o with | .nx env h => k env h | r => r) = .ok (.int v) (h.set r (dl a' b' c')) := fun o e ne k => by
      cases o with
      | nx env h => exact absurd rfl (ne env h)
      | _ => exact e
    refine this _ q3 (fun env h1 z => ?_) _
    rw [z] at q3
    simp [endRaw] at q3
  | false =>
    rw [ht] at test
    rw [skip test]
    exact second
theorem dice_ok {P : Prg} {f : Nat} (hf : P.fns[f]? = some fnDice) (d : Nat) (L : Lk) (h : Hh) (z : Int) : ∃ a b c, callN P (d + 1) f [.int z] L h = .ok (.ref h.length) (h ++ [dl a b c]) := by
  have lti : ∀ (i j : Int) (h : Hh), cmpE .lt (.int i) (.int j) h = .ok (.bl (decide (i < j))) h := fun i j h => rfl
  have gei : ∀ (i j : Int) (h : Hh), cmpE .ge (.int i) (.int j) h = .ok (.bl (decide (j ≤ i))) h := fun i j h => rfl
  rw [call_raw hf rfl rfl]
  show ∃ a b c, endRaw (evSs (clN P d) L fnDice.body [some (.int z)] h) = _
  unfold fnDice
  dsimp only
  by_cases t : -10 < z ∧ z < 10
  · have e : evE (clN P d) L diceT [some (.int z)] h = .ok (.bl true) h := by
      simp only [diceT, evE, List.getElem?_cons_zero, bin_sub, lti]
      rw [show decide ((0 : Int) - 10 < z) = true from decide_eq_true (by omega), show decide (z < 10) = true from decide_eq_true (by omega)]
    refine ⟨(if z < 0 then -z else z), 0, 2, ?_⟩
    rw [take e]
    simp only [ret, es1, es2, evSs, evS, evE, evEs, List.getElem?_cons_zero, primE]
    rfl
  · have e : evE (clN P d) L diceT [some (.int z)] h = .ok (.bl false) h := by
      simp only [diceT, evE, List.getElem?_cons_zero, bin_sub, lti]
      by_cases q : -10 < z
      · rw [show decide ((0 : Int) - 10 < z) = true from decide_eq_true (by omega), show decide (z < 10) = false from decide_eq_false (by omega)]
      · rw [show decide ((0 : Int) - 10 < z) = false from decide_eq_false (by omega)]
    refine ⟨z, 1 + z.fmod 1009, (if decide ((10 : Int) ^ (18 : Int).toNat ≤ z) then 1 else 0), ?_⟩
    rw [skip e]
    have pw : ∀ h : Hh, binE .pow (.int 10) (.int 18) h = .ok (.int ((10 : Int) ^ (18 : Int).toNat)) h := fun h => by
      simp only [binE]
      rw [if_pos (by decide)]
    simp only [ret, es1, es2, diceA, diceB, evSs, evS, evE, evEs, List.getElem?_cons_zero, primE, bin_mod (show (1009 : Int) ≠ 0 by decide), bin_add, pw, gei]
    rfl
/-- the rounds: one, at the first cell -/
theorem rounds_ok {P : Prg} {f k : Nat} (hf : P.fns[f]? = some (fnRounds k)) (hk : P.fns[k]? = some fnDice) (d : Nat) (L : Lk) (h : Hh) (p : PV) (ns : List Int) (hv : view h p = .lst (ns.map .int)) (hp : ∀ s, p ≠ .str s) (ht : ∀ s, p ≠ .tup s) :
    ∃ a b c, callN P (d + 2) f [p, .int 1] L h = .ok (.lst [.ref h.length]) (h ++ [dl a b c]) := by
  rw [call_raw hf rfl rfl]
  show ∃ a b c, endRaw (evSs (clN P (d + 1)) L (fnRounds k).body [some p, some (.int 1), none, none] h) = _
  unfold fnRounds
  dsimp only
  have sl : sliE p .non (.int 1) h = .ok (.lst ((ns.take 1).map .int)) h := by
    have e : cut (ns.map PV.int) 0 (min (1 : Int).toNat (ns.map PV.int).length) = (ns.take 1).map .int := by
      unfold cut
      rw [List.drop_zero, List.map_take, List.length_map]
      have e1 : (1 : Int).toNat = 1 := rfl
      rw [e1]
      cases ns with
      | nil => rfl
      | cons z ns =>
        have : min 1 (z :: ns).length - 0 = 1 := by simp
        rw [this]
    have b0 : bnd (ns.map PV.int).length 0 .non = some 0 := rfl
    have b1 : bnd (ns.map PV.int).length (ns.map PV.int).length (.int 1) = some (min (1 : Int).toNat (ns.map PV.int).length) := by simp [bnd]
    cases p with
    | str s => exact absurd rfl (hp s)
    | tup s => exact absurd rfl (ht s)
    | _ => simp only [sliE, hv, b0, b1, e]
  have e0 : evE (clN P (d + 1)) L (.sli false true (.var 0) (.lit .non) (.var 1)) [some p, some (.int 1), none, none] h = .ok (.lst ((ns.take 1).map .int)) h := by
    simp only [evE, List.getElem?_cons_zero, List.getElem?_cons_succ, isPart, Bool.not_false, if_true, sl]
  rw [set1 e0]
  simp only [List.set_cons_succ, List.set_cons_zero]
  have last : ∀ z : Int, ∃ a b c, endRaw (evSs (clN P (d + 1)) L (ret (.comp false [3] (.name 3) .seq (es1 (.var 2)) (.lit (.bl true)) (.call k (es1 (.var 3))))) [some p, some (.int 1), some (.lst [.int z]), none] h) = .ok (.lst [.ref h.length]) (h ++ [dl a b c]) := by
    intro z
    obtain ⟨a, b, c, e⟩ := dice_ok hk d L h z
    refine ⟨a, b, c, ?_⟩
    simp only [ret, es1, evSs, evS, evE, evEs, List.getElem?_cons_zero, List.getElem?_cons_succ, srcItems, seqOf, compL, wipeE, asgT, List.set_cons_succ, List.set_cons_zero, refsOf, List.nil_append, cl_call, e, endRaw]
    rfl
  have q0 : evE (clN P (d + 1)) L (.cmp .eq (.var 2) (.lst false .nil)) [some p, some (.int 1), some (.lst ((ns.take 1).map .int)), none] h = .ok (.bl ns.isEmpty) h := by
    cases ns with
    | nil => rfl
    | cons z ns => simp [evE, evEs, cmpE, view, flat, flatN, eqv, eqvs, lim]
  cases ns with
  | nil =>
    have q1 : evSs (clN P (d + 1)) L (.cons (.asg (.name 2) (.lst false (es1 (.lit (.int 0))))) .nil) [some p, some (.int 1), some (.lst ((([] : List Int).take 1).map .int)), none] h = .nx [some p, some (.int 1), some (.lst [.int 0]), none] h := by
      simp [es1, evSs, evS, evE, evEs, asgT, lim]
    rw [take q0, q1]
    exact last 0
  | cons z ns =>
    rw [skip q0]
    exact last z
end
end Mini

/-! Rt5 -/
set_option autoImplicit false
set_option linter.all false
set_option maxRecDepth 100000
set_option exponentiation.threshold 10000
namespace Mini

/-! ### weights as parts, shares of a whole -/
def fnEvened (r x : Nat) : Fn := ⟨1, 2, .cons (.ife (.or_ (.cmp .lt (.prim .minD (es2 (.var 0) (.lit (.int 0)))) (.lit (.int 0))) (.cmp .eq (.prim .sum (es1 (.var 0))) (.lit (.int 0)))) (.cons (.raise x) .nil) .nil)
  (ret (.gen .tuple [1] (.name 1) .seq (es1 (.var 0)) (.lit (.bl true)) (.call r (es2 (.var 1) (.prim .sum (es1 (.var 0))))))), true⟩
def fnCheck (r x : Nat) : Fn := ⟨1, 1, .cons (.ife (.or_ (.cmp .lt (ix1 0) (.lit (.int 1))) (.or_ (.cmp .ne (.call r (es2 (ix0 0) (ix1 0))) (.prim .tuple (es1 (.var 0)))) (.not_ (.cmp2 .le .le (.lit (.int 0)) (ix0 0) (ix1 0))))) (.cons (.raise x) .nil) .nil) .nil, true⟩
section
variable {P : Prg} {f g l r x : Nat} {n m : Nat}
theorem minD_seq {h : Hh} {p : PV} {i : Int} {is : List Int} {L : Lk} {d : PV} (e : seqOf h p = some ((i :: is).map .int)) : primE .minD [p, d] L h = .ok (.int (is.foldl min i)) h := by
  have q : asInts (PV.int i :: is.map PV.int) = some (i :: is) := asInts_map (i :: is)
  cases p <;> first | (simp [seqOf] at e; done) | (rw [List.map_cons] at e; simp only [primE, e, q])
theorem foldl_min_nn : ∀ (is : List Int) (i : Int), 0 ≤ i → (∀ z ∈ is, 0 ≤ z) → 0 ≤ is.foldl min i
  | [], i, h, _ => h
  | z :: is, i, h, hz => by
    rw [List.foldl_cons]
    have := hz z (List.mem_cons_self ..)
    exact foldl_min_nn is _ (by omega) fun y hy => hz y (List.mem_cons_of_mem _ hy)
theorem evened_ok {x' : Nat} (hf : P.fns[f]? = some (fnEvened r x)) (hr : P.fns[r]? = some (fnRatio x')) (d : Nat) (L : Lk) (h : Hh) {p : PV} {w0 : Int} {ws : List Int} (hs : seqOf h p = some ((w0 :: ws).map .int)) (hn : ∀ w ∈ w0 :: ws, 0 ≤ w) (hp : 0 < (w0 :: ws).sum) (hl : (w0 :: ws).sum.natAbs < 2 ^ 9000) (hz : (w0 :: ws).length ≤ lim) :
    callN P (d + 2) f [p] L h = .ok (.tup ((w0 :: ws).map fun w => prq (Rat.divInt w (w0 :: ws).sum))) h := by
  rw [call_pure hf rfl rfl]
  show endPure _ _ (evSs (clN P (d + 1)) ⟨h.length, []⟩ (fnEvened r x).body [some p, none] h) = _
  unfold fnEvened
  dsimp only
  have q1 : decide (ws.foldl min w0 < 0) = false := decide_eq_false (by
    have := foldl_min_nn ws w0 (hn w0 (List.mem_cons_self ..)) fun z hz => hn z (List.mem_cons_of_mem _ hz)
    omega)
  have q2 : ((w0 :: ws).sum == 0) = false := by
    have : (w0 :: ws).sum ≠ 0 := by omega
    simpa using this
  rw [skip (h' := h) (by simp only [es1, es2, evE, evEs, List.getElem?_cons_zero, minD_seq hs, lt_ii, q1, sum_seq hs, eq_ii, q2])]
  have key := comp_map (t := .name 1) (c := evE (clN P (d + 1)) { (⟨h.length, []⟩ : Lk) with locked := refsOf [p] ++ [] } (.lit (.bl true))) (e := evE (clN P (d + 1)) { (⟨h.length, []⟩ : Lk) with locked := refsOf [p] ++ [] } (.call r (es2 (.var 1) (.prim .sum (es1 (.var 0)))))) (env := wipeE [some p, none] [1]) (en := PV.int) (f := fun w => prq (Rat.divInt w (w0 :: ws).sum)) (h := h) (w0 :: ws) (fun w hw => ⟨[some p, some (.int w)], rfl, rfl, by
    simp only [es1, es2, evE, evEs, List.getElem?_cons_zero, List.getElem?_cons_succ, sum_seq hs, cl_call]
    exact ratio_ok hr d _ h w _ (by omega) hl⟩)
  rw [show ret (.gen .tuple [1] (.name 1) .seq (es1 (.var 0)) (.lit (.bl true)) (.call r (es2 (.var 1) (.prim .sum (es1 (.var 0)))))) = .cons (.ret (.gen .tuple [1] (.name 1) .seq (es1 (.var 0)) (.lit (.bl true)) (.call r (es2 (.var 1) (.prim .sum (es1 (.var 0))))))) .nil from rfl]
  rw [ret1 (gen_tuple (ps := [p]) (h' := h) rfl (src_seq hs) key (by simpa using hz))]
  have fz : ∀ (rd : Nat → Option PV) (ws : List Int) (g : Int → Rat), frzs rd (ws.map fun w => prq (g w)) = some (ws.map fun w => prq (g w)) := by
    intro rd ws g
    induction ws with
    | nil => rfl
    | cons w ws ih => rw [List.map_cons, frzs, prq_frz, ih]
  simp only [endPure, frz, fz, Option.map_some]
theorem eqv_int (i j : Int) : eqv (.int i) (.int j) = (i == j) := by simp [eqv]
theorem eqv_prq (a b : Rat) : eqv (prq a) (prq b) = decide (a = b) := by
  simp only [prq, eqv, eqvs, Bool.and_true]
  rw [Bool.eq_iff_iff]
  simp
  constructor
  · rintro ⟨h1, h2⟩; exact Rat.ext h1 (by omega)
  · rintro rfl; exact ⟨rfl, rfl⟩
theorem flat_prq (a : Rat) : flat (prq a) = true := by simp [flat, flatN, prq]
theorem ne_prq (a b : Rat) (h : Hh) : cmpE .ne (prq a) (prq b) h = .ok (.bl (!decide (a = b))) h := by
  have v : ∀ r, view h (prq r) = prq r := fun r => rfl
  simp only [cmpE, v, flat_prq, Bool.and_true, if_true, eqv_prq]
theorem ne_same (a : Rat) (h : Hh) : cmpE .ne (prq a) (prq a) h = .ok (.bl false) h := by rw [ne_prq]; simp
theorem eq_prq (a b : Rat) (h : Hh) : cmpE .eq (prq a) (prq b) h = .ok (.bl (decide (a = b))) h := by
  have v : ∀ r, view h (prq r) = prq r := fun r => rfl
  simp only [cmpE, v, flat_prq, Bool.and_true, if_true, eqv_prq]
theorem check_ok {x' : Nat} (hf : P.fns[f]? = some (fnCheck r x)) (hr : P.fns[r]? = some (fnRatio x')) (d : Nat) (L : Lk) (h : Hh) {a : Rat} (ha : Bd n a) (hn : n ≤ 9000) (h0 : 0 ≤ a) (h1 : a ≤ 1) : callN P (d + 2) f [prq a] L h = .ok .non h := by
  rw [call_pure hf rfl rfl]
  have e := ratio_ok hr d ⟨h.length, []⟩ h a.num a.den (by have := a.den_pos; omega) (Nat.lt_of_lt_of_le ha.dn (Nat.pow_le_pow_right (by decide) hn))
  rw [Rat.num_divInt_den] at e
  have c1 : decide ((a.den : Int) < 1) = false := decide_eq_false (by have := a.den_pos; omega)
  have c2 : decide ((0 : Int) ≤ a.num) = true := decide_eq_true (Rat.num_nonneg.mpr h0)
  have c3 : decide (a.num ≤ (a.den : Int)) = true := decide_eq_true (by
    have := (Rat.le_iff a 1).mp h1
    simpa using this)
  have t : ∀ L : Lk, primE .tuple [prq a] L h = .ok (prq a) h := fun L => rfl
  simp only [fnCheck, entry, ix0, ix1, es1, es2, evSs, evS, evE, evEs, List.map, List.append, List.cons_append, List.nil_append, List.getElem?_cons_zero, List.getElem?_cons_succ, ix_prq0, ix_prq1, lt_ii, le_ii, c1, c2, c3, cl_call, e, t, ne_same, Bool.not_true, Bool.not_false, endPure]
theorem check_no {x' : Nat} (hf : P.fns[f]? = some (fnCheck r x)) (hr : P.fns[r]? = some (fnRatio x')) (d : Nat) (L : Lk) (h : Hh) {a : Rat} (ha : Bd n a) (hn : n ≤ 9000) (h0 : ¬ (0 ≤ a ∧ a ≤ 1)) : callN P (d + 2) f [prq a] L h = .exc x h := by
  rw [call_pure hf rfl rfl]
  have e := ratio_ok hr d ⟨h.length, []⟩ h a.num a.den (by have := a.den_pos; omega) (Nat.lt_of_lt_of_le ha.dn (Nat.pow_le_pow_right (by decide) hn))
  rw [Rat.num_divInt_den] at e
  have c1 : decide ((a.den : Int) < 1) = false := decide_eq_false (by have := a.den_pos; omega)
  have t : ∀ L : Lk, primE .tuple [prq a] L h = .ok (prq a) h := fun L => rfl
  by_cases q : 0 ≤ a
  · have c2 : decide ((0 : Int) ≤ a.num) = true := decide_eq_true (Rat.num_nonneg.mpr q)
    have c3 : decide (a.num ≤ (a.den : Int)) = false := decide_eq_false (fun z => h0 ⟨q, by
      rw [Rat.le_iff]
      simpa using z⟩)
    simp only [fnCheck, entry, ix0, ix1, es1, es2, evSs, evS, evE, evEs, List.map, List.append, List.cons_append, List.nil_append, List.getElem?_cons_zero, List.getElem?_cons_succ, ix_prq0, ix_prq1, lt_ii, le_ii, c1, c2, c3, cl_call, e, t, ne_same, Bool.not_true, Bool.not_false, endPure]
  · have c2 : decide ((0 : Int) ≤ a.num) = false := decide_eq_false (fun z => q (Rat.num_nonneg.mp z))
    simp only [fnCheck, entry, ix0, ix1, es1, es2, evSs, evS, evE, evEs, List.map, List.append, List.cons_append, List.nil_append, List.getElem?_cons_zero, List.getElem?_cons_succ, ix_prq0, ix_prq1, lt_ii, le_ii, c1, c2, cl_call, e, t, ne_same, Bool.not_true, Bool.not_false, endPure]
end
end Mini

/-! Rt6 -/
set_option autoImplicit false
set_option linter.all false
set_option maxRecDepth 100000
set_option exponentiation.threshold 10000
namespace Mini

/-! ### shares of a whole -/
def shE1 : E := .comp true [7, 8] (.tup (.cons (.name 7) (.cons (.name 8) .nil))) .seq (es1 (.var 1)) (.lit (.bl true)) (.bin .fdiv (.bin .mul (.var 0) (.var 7)) (.var 8))
def shE2 (mi : Nat) : E := .comp true [7, 8, 9] (.tup (.cons (.tup (.cons (.name 7) (.cons (.name 8) .nil))) (.cons (.name 9) .nil))) .zip (es2 (.var 1) (.var 3)) (.lit (.bl true)) (.call mi (es2 (.tup (es2 (.bin .mul (.var 0) (.var 7)) (.var 8))) (.tup (es2 (.var 9) (.lit (.int 1))))))
def shB (mo : Nat) : Ss := .cons (.asg (.name 6) (.meth .index (.var 4) (es1 (.call mo (es1 (.var 4))))))
  (.cons (.augx (.var 3) (.var 6) .add (.lit (.int 1))) (.cons (.set (.var 4) (.var 6) (.tup (es2 (.bin .sub (.lit (.int 0)) (.lit (.int 1))) (.lit (.int 1))))) .nil))
def fnShares (ch su x mi mo : Nat) : Fn := ⟨2, 10, .cons (.for_ (.name 2) .seq (es1 (.var 1)) (.cons (.expr (.call ch (es1 (.var 2)))) .nil))
  (.cons (.ife (.or_ (.cmp .lt (.var 0) (.lit (.int 0))) (.cmp .ne (.call su (es1 (.var 1))) (.tup (es2 (.lit (.int 1)) (.lit (.int 1)))))) (.cons (.raise x) .nil) .nil)
  (.cons (.asg (.name 3) shE1) (.cons (.asg (.name 4) (shE2 mi))
  (.cons (.for_ (.name 5) .range (es1 (.bin .sub (.var 0) (.prim .sum (es1 (.var 3))))) (shB mo)) (ret (.prim .tuple (es1 (.var 3)))))))), true⟩
theorem ev_tup2 {C : Cl} {L : Lk} {a b : E} {env : Env} {p q : PV} {h h1 h2 : Hh} (e1 : evE C L a env h = .ok p h1) (e2 : evE C L b env h1 = .ok q h2) : evE C L (.tup (es2 a b)) env h = .ok (.tup [p, q]) h2 := by
  simp only [es2, evE, evEs, e1, e2]
  rw [if_pos (show [p, q].length ≤ lim from (by decide : 2 ≤ lim))]
/-- the first place of the greatest -/
def ixMax (ls : List Rat) : Nat := ls.findIdx (· == best (fun r f => decide (f < r)) ls (ls.headD 0))
def shStep (s : List Int × List Rat) : List Int × List Rat := (s.1.set (ixMax s.2) (s.1.getD (ixMax s.2) 0 + 1), s.2.set (ixMax s.2) (-1))
def shRun : Nat → List Int × List Rat → List Int × List Rat
  | 0, s => s
  | n + 1, s => shRun n (shStep s)
theorem ixMax_lt {ls : List Rat} (h : ls ≠ []) : ixMax ls < ls.length := by
  cases ls with
  | nil => exact absurd rfl h
  | cons r0 rs =>
    unfold ixMax
    rw [List.findIdx_lt_length]
    have m := best_mem (fun r f => decide (f < r)) (r0 :: rs) r0
    show ∃ x ∈ r0 :: rs, (x == best (fun r f => decide (f < r)) (r0 :: rs) r0) = true
    rcases m with e | e
    · exact ⟨r0, List.mem_cons_self .., by rw [e]; simp⟩
    · exact ⟨_, e, by simp⟩
theorem place_prq (M : Rat) : ∀ (ls : List Rat), M ∈ ls → placeOf (prq M) (ls.map prq) = some (ls.findIdx (· == M))
  | [], h => by cases h
  | r :: ls, h => by
    rw [List.map_cons, placeOf, eqv_prq, List.findIdx_cons]
    by_cases q : r = M
    · rw [if_pos (by simp [q])]
      simp [q]
    · rw [if_neg (by simp [q])]
      have hm : M ∈ ls := by
        rcases List.mem_cons.mp h with e | e
        · exact absurd e.symm q
        · exact e
      rw [place_prq M ls hm]
      have : (r == M) = false := by simpa using q
      rw [this]
      rfl
section
variable {P : Prg} {f ch su x mi mo lt pl r : Nat} {n m : Nat}
theorem zipP_map {α β : Type} (f : α → PV) (g : β → PV) : ∀ (xs : List α) (ys : List β), zipP (xs.map f) (ys.map g) = (xs.zip ys).map fun q => .tup [f q.1, g q.2]
  | [], _ => rfl
  | x :: xs, [] => rfl
  | x :: xs, y :: ys => by rw [List.map_cons, List.map_cons, zipP, zipP_map f g xs ys]; rfl
theorem minus_raw {x' : Nat} (hf : P.fns[f]? = some (fnMinus r)) (hr : P.fns[r]? = some (fnRatio x')) (d : Nat) (L : Lk) (h : Hh) {a b c e : Int} (k1 : mulOk a e = true) (k2 : mulOk c b = true) (k3 : mulOk b e = true) (h0 : b * e ≠ 0) (h9 : (b * e).natAbs < 2 ^ 9000) :
    callN P (d + 2) f [.tup [.int a, .int b], .tup [.int c, .int e]] L h = .ok (prq (Rat.divInt (a * e - c * b) (b * e))) h := by
  rw [call_pure hf rfl rfl]
  have q := ratio_ok hr d ⟨h.length, []⟩ h (a * e - c * b) (b * e) h0 h9
  have i0 : ∀ (i j : Int) (h : Hh), idxE (.tup [.int i, .int j]) (.int 0) h = .ok (.int i) h := fun i j h => by simp [idxE, seqOf, ixOf]
  have i1 : ∀ (i j : Int) (h : Hh), idxE (.tup [.int i, .int j]) (.int 1) h = .ok (.int j) h := fun i j h => by simp [idxE, seqOf, ixOf]
  simp only [fnMinus, entry, ret, ix0, ix1, es2, evSs, evS, evE, evEs, List.map, List.append, List.cons_append, List.nil_append, List.getElem?_cons_zero, List.getElem?_cons_succ, i0, i1, bin_mul k1, bin_mul k2, bin_mul k3, bin_sub, cl_call, q, endPure, prq_frz]
def fl (W : Int) (a : Rat) : Int := (W * a.num).fdiv a.den
def lo (W : Int) (a : Rat) : Rat := Rat.divInt (W * a.num * 1 - fl W a * a.den) ((a.den : Int) * 1)
theorem hp0 (h : Hh) (A B : Ob) : (h ++ [A, B])[h.length]? = some A := by simp
theorem hp1 (h : Hh) (A B : Ob) : (h ++ [A, B])[h.length + 1]? = some B := by simp
theorem hs0 (h : Hh) (A B C : Ob) : (h ++ [A, B]).set h.length C = h ++ [C, B] := by simp
theorem hs1 (h : Hh) (A B C : Ob) : (h ++ [A, B]).set (h.length + 1) C = h ++ [A, C] := by
  rw [List.set_append_right _ _ (by omega)]
  simp
/-- the two lists of the def -/
def shH (h : Hh) (s : List Int × List Rat) : Hh := h ++ [.lst (s.1.map .int), .lst (s.2.map prq)]
theorem ixOf_nat {n k : Nat} (h : k < n) : ixOf n (k : Int) = some k := by
  unfold ixOf
  rw [if_pos (by omega), if_pos (by omega)]
  simp
/-- a turn of the last loop -/
theorem sh_turn {x1 : Nat} (hmo : P.fns[mo]? = some (fnMost lt x1)) (hlt : P.fns[lt]? = some fnIsLess) (d : Nat) (h : Hh) (s : List Int × List Rat) (p q0 q1 q2 q3 q5 q6 q7 q8 q9 : Option PV) (hl : s.1.length = s.2.length) (he : s.2 ≠ []) (hb : ∀ y ∈ s.2, Bd n y) (hn : n + n ≤ 9000) (Lb : List Nat) (hL : Lb = []) :
    evSs (clN P (d + 2)) ⟨h.length, Lb⟩ (shB mo) [q0, q1, q2, some (.ref h.length), some (.ref (h.length + 1)), q5, q6, q7, q8, q9] (shH h s) = .nx [q0, q1, q2, some (.ref h.length), some (.ref (h.length + 1)), q5, some (.int (ixMax s.2)), q7, q8, q9] (shH h (shStep s)) := by
  subst hL
  obtain ⟨fs, ls⟩ := s
  dsimp only at hl he hb
  have hk := ixMax_lt he
  obtain ⟨r0, rs, rfl⟩ : ∃ r0 rs, ls = r0 :: rs := by
    cases ls with
    | nil => exact absurd rfl he
    | cons r0 rs => exact ⟨r0, rs, rfl⟩
  have sq : seqOf (shH h (fs, r0 :: rs)) (.ref (h.length + 1)) = some ((r0 :: rs).map prq) := by simp only [seqOf, shH, hp1]
  have vw : view (shH h (fs, r0 :: rs)) (.ref (h.length + 1)) = .lst ((r0 :: rs).map prq) := by simp only [view, shH, hp1]
  have fls : flats ((r0 :: rs).map prq) = true := by
    unfold flats
    rw [List.all_map, List.all_eq_true]
    exact fun y _ => flat_prq y
  have hm : best (fun r f => decide (f < r)) (r0 :: rs) r0 ∈ r0 :: rs := by
    rcases best_mem (fun r f => decide (f < r)) (r0 :: rs) r0 with e | e
    · rw [e]; exact List.mem_cons_self ..
    · exact e
  have e1 : evE (clN P (d + 2)) ⟨h.length, []⟩ (.meth .index (.var 4) (es1 (.call mo (es1 (.var 4))))) [q0, q1, q2, some (.ref h.length), some (.ref (h.length + 1)), q5, q6, q7, q8, q9] (shH h (fs, r0 :: rs)) = .ok (.int (ixMax (r0 :: rs))) (shH h (fs, r0 :: rs)) := by
    have c := most_ok (n := n) hmo hlt d ⟨h.length, []⟩ (shH h (fs, r0 :: rs)) sq hb hn
    have rc : recv .index (.ref (h.length + 1)) (shH h (fs, r0 :: rs)) = true := by simp only [recv, vw]
    simp only [es1, evE, evEs, List.getElem?_cons_zero, List.getElem?_cons_succ, rc, if_true, cl_call, c, primE, vw, flat_prq, fls, Bool.and_true, place_prq _ _ hm]
    rfl
  unfold shB
  rw [set1 e1]
  simp only [List.set_cons_succ, List.set_cons_zero]
  have hkf : ixMax (r0 :: rs) < fs.length := by rw [hl]; exact hk
  have okL : ∀ r, h.length ≤ r → Lk.ok ⟨h.length, []⟩ r = true := fun r hr => by simp [Lk.ok, hr]
  have e2 : evS (clN P (d + 2)) ⟨h.length, []⟩ (.augx (.var 3) (.var 6) .add (.lit (.int 1))) [q0, q1, q2, some (.ref h.length), some (.ref (h.length + 1)), q5, some (.int (ixMax (r0 :: rs))), q7, q8, q9] (shH h (fs, r0 :: rs)) = .nx [q0, q1, q2, some (.ref h.length), some (.ref (h.length + 1)), q5, some (.int (ixMax (r0 :: rs))), q7, q8, q9] (shH h (fs.set (ixMax (r0 :: rs)) (fs.getD (ixMax (r0 :: rs)) 0 + 1), r0 :: rs)) := by
    have i1 : idxE (.ref h.length) (.int (ixMax (r0 :: rs))) (shH h (fs, r0 :: rs)) = .ok (.int (fs.getD (ixMax (r0 :: rs)) 0)) (shH h (fs, r0 :: rs)) := by
      refine idx_seq (xs := fs.map .int) (by simp only [seqOf, shH, hp0]) _ (ixOf_nat (by simpa using hkf)) ?_
      rw [List.getElem?_map, List.getElem?_eq_getElem hkf, List.getD_eq_getElem?_getD, List.getElem?_eq_getElem hkf]
      rfl
    have s1 : setE (.ref h.length) (.int (ixMax (r0 :: rs))) (.int (fs.getD (ixMax (r0 :: rs)) 0 + 1)) ⟨h.length, []⟩ (shH h (fs, r0 :: rs)) = some (shH h (fs.set (ixMax (r0 :: rs)) (fs.getD (ixMax (r0 :: rs)) 0 + 1), r0 :: rs)) := by
      simp only [setE, shH, hp0, okL _ (Nat.le_refl _), if_true, ixOf_nat (show ixMax (r0 :: rs) < (fs.map PV.int).length by simpa using hkf), hs0, List.map_set]
    simp only [evS, evE, List.getElem?_cons_zero, List.getElem?_cons_succ, idxR, i1, augE, s1]
  rw [ss_nx e2]
  have e3 : evE (clN P (d + 2)) ⟨h.length, []⟩ (.tup (es2 (.bin .sub (.lit (.int 0)) (.lit (.int 1))) (.lit (.int 1)))) [q0, q1, q2, some (.ref h.length), some (.ref (h.length + 1)), q5, some (.int (ixMax (r0 :: rs))), q7, q8, q9] (shH h (fs.set (ixMax (r0 :: rs)) (fs.getD (ixMax (r0 :: rs)) 0 + 1), r0 :: rs)) = .ok (prq (-1)) (shH h (fs.set (ixMax (r0 :: rs)) (fs.getD (ixMax (r0 :: rs)) 0 + 1), r0 :: rs)) := by
    exact ev_tup2 (p := .int (-1)) (q := .int 1) (by simp only [evE, bin_sub]; rfl) rfl
  have s2 : setE (.ref (h.length + 1)) (.int (ixMax (r0 :: rs))) (prq (-1)) ⟨h.length, []⟩ (shH h (fs.set (ixMax (r0 :: rs)) (fs.getD (ixMax (r0 :: rs)) 0 + 1), r0 :: rs)) = some (shH h (shStep (fs, r0 :: rs))) := by
    simp only [setE, shH, hp1, okL _ (Nat.le_succ _), if_true, ixOf_nat (show ixMax (r0 :: rs) < ((r0 :: rs).map prq).length by simpa using hk), hs1, shStep, List.map_set]
  have e4 : evS (clN P (d + 2)) ⟨h.length, []⟩ (.set (.var 4) (.var 6) (.tup (es2 (.bin .sub (.lit (.int 0)) (.lit (.int 1))) (.lit (.int 1))))) [q0, q1, q2, some (.ref h.length), some (.ref (h.length + 1)), q5, some (.int (ixMax (r0 :: rs))), q7, q8, q9] (shH h (fs.set (ixMax (r0 :: rs)) (fs.getD (ixMax (r0 :: rs)) 0 + 1), r0 :: rs)) = .nx [q0, q1, q2, some (.ref h.length), some (.ref (h.length + 1)), q5, some (.int (ixMax (r0 :: rs))), q7, q8, q9] (shH h (shStep (fs, r0 :: rs))) := by
    rw [evS, e3]
    simp only [evE, List.getElem?_cons_zero, List.getElem?_cons_succ, s2]
  rw [ss_nx e4, evSs]
end
end Mini

/-! Rt7 -/
set_option autoImplicit false
set_option linter.all false
set_option maxRecDepth 100000
set_option exponentiation.threshold 10000
namespace Mini

section
variable {P : Prg} {f ch su x mi mo lt pl r : Nat} {n m : Nat}
theorem shStep_len (s : List Int × List Rat) : (shStep s).1.length = s.1.length ∧ (shStep s).2.length = s.2.length := by simp [shStep]
theorem shRun_len : ∀ (k : Nat) (s : List Int × List Rat), (shRun k s).1.length = s.1.length ∧ (shRun k s).2.length = s.2.length
  | 0, s => ⟨rfl, rfl⟩
  | k + 1, s => by
    obtain ⟨a, b⟩ := shRun_len k (shStep s)
    obtain ⟨c, e⟩ := shStep_len s
    exact ⟨a.trans c, b.trans e⟩
theorem bd_m1 : Bd 1 (-1) := ⟨by decide, by decide⟩
theorem shStep_bd {s : List Int × List Rat} (h1 : 1 ≤ n) (hb : ∀ y ∈ s.2, Bd n y) : ∀ y ∈ (shStep s).2, Bd n y := by
  intro y hy
  rcases List.mem_or_eq_of_mem_set hy with h | h
  · exact hb y h
  · rw [h]; exact bd_m1.mono h1
theorem fl_bd {W : Int} {a : Rat} {w : Nat} (hW : W.natAbs < 2 ^ w) (ha : Bd n a) : (fl W a).natAbs ≤ 2 ^ (w + n) := by
  have h1 := nat_mul_lt hW ha.num
  unfold fl
  have h2 : (0 : Int) < a.den := by have := a.den_pos; omega
  rw [Int.fdiv_eq_ediv_of_nonneg _ (by omega)]
  have := Int.natAbs_ediv_le_natAbs (W * a.num) a.den
  omega
/-- the whole of the def -/
theorem shares_ok {x1 x2 x3 x4 pl : Nat} (hf : P.fns[f]? = some (fnShares ch su x mi mo)) (hch : P.fns[ch]? = some (fnCheck r x1)) (hr : P.fns[r]? = some (fnRatio x2)) (hsu : P.fns[su]? = some (fnSum pl)) (hpl : P.fns[pl]? = some (fnPlus r)) (hmi : P.fns[mi]? = some (fnMinus r)) (hmo : P.fns[mo]? = some (fnMost lt x3)) (hlt : P.fns[lt]? = some fnIsLess)
    (d : Nat) (L : Lk) (h : Hh) {p : PV} {a0 : Rat} {as : List Rat} (hs : seqOf h p = some ((a0 :: as).map prq)) (hseq : ∀ A B : Ob, seqOf (h ++ [A]) p = some ((a0 :: as).map prq)) {W : Int} {w : Nat} (hW0 : 0 ≤ W) (hW : W.natAbs < 2 ^ w) (hb : ∀ a ∈ a0 :: as, Bd n a ∧ 0 ≤ a ∧ a ≤ 1) (h1 : rsum (a0 :: as) = 1) (hn : ((a0 :: as).length + 1) * (n + 1) + 1 ≤ 9000) (hnw : 2 * (w + n + n + 2) ≤ 9000) (hz : (a0 :: as).length ≤ 1000) (hn1 : 1 ≤ n)
    {c : Nat} (hc : W - ((a0 :: as).map (fl W)).sum = c) (hc2 : c ≤ 1000000) :
    callN P (d + 4) f [.int W, p] L h = .ok (.tup ((shRun c ((a0 :: as).map (fl W), (a0 :: as).map (lo W))).1.map .int)) h := by
  have n9 : n ≤ 9000 := by omega
  rw [call_pure hf rfl rfl]
  show endPure _ _ (evSs (clN P (d + 3)) ⟨h.length, []⟩ (fnShares ch su x mi mo).body [some (.int W), some p, none, none, none, none, none, none, none, none] h) = _
  unfold fnShares
  dsimp only
  -- each is a part
  have k1 := for_fold (t := .name 2) (b := evSs (clN P (d + 3)) { (⟨h.length, []⟩ : Lk) with locked := refsOf [p] ++ [] } (.cons (.expr (.call ch (es1 (.var 2)))) .nil)) (V := fun s : Option PV => [some (.int W), some p, s, none, none, none, none, none, none, none]) (en := prq) (f := fun s r => some (prq r)) (h := h) (I := fun s xs => ∀ y ∈ xs, y ∈ a0 :: as)
    (fun s y xs hi => ⟨⟨_, rfl, by
      obtain ⟨b1, b2, b3⟩ := hb y (hi y (List.mem_cons_self ..))
      have e := check_ok hch hr (d + 1) { (⟨h.length, []⟩ : Lk) with locked := refsOf [p] ++ [] } h b1 n9 b2 b3
      simp only [es1, evSs, evS, evE, evEs, List.set_cons_succ, List.set_cons_zero, List.getElem?_cons_zero, List.getElem?_cons_succ, cl_call, e]⟩, fun z hz => hi z (List.mem_cons_of_mem _ hz)⟩) (a0 :: as) none (fun y hy => hy)
  generalize (a0 :: as).foldl (fun (s : Option PV) r => some (prq r)) none = q2 at k1
  rw [ss_nx (env' := [some (.int W), some p, q2, none, none, none, none, none, none, none]) (h' := h) (by rw [for_ev (ps := [p]) (h' := h) rfl (src_seq hs)]; exact k1)]
  -- all of them come to one
  have e1 := sum_ok (n := n) hsu hpl hr d ⟨h.length, []⟩ h (src_seq hs) (fun y hy => (hb y hy).1) hn
  rw [h1] at e1
  have t1 : evE (clN P (d + 3)) ⟨h.length, []⟩ (.tup (es2 (.lit (.int 1)) (.lit (.int 1)))) [some (.int W), some p, q2, none, none, none, none, none, none, none] h = .ok (prq 1) h := ev_tup2 rfl rfl
  rw [skip (h' := h) (by
    have w0 : decide (W < 0) = false := decide_eq_false (by omega)
    simp only [evE, List.getElem?_cons_zero, lt_ii, w0]
    simp only [es1, evEs, evE, List.getElem?_cons_succ, List.getElem?_cons_zero, cl_call, e1]
    rw [if_pos (show [PV.int 1, PV.int 1].length ≤ lim from (by decide : 2 ≤ lim))]
    exact ne_same 1 h)]
  -- rounded down
  have lenz : ((a0 :: as).map (fl W)).length ≤ lim := by rw [List.length_map]; unfold lim; omega
  have bounds : ∀ a ∈ a0 :: as, mulOk W a.num = true ∧ ((a.den : Int) ≠ 0 ∧ (a.den : Int).natAbs.log2 < 9000) := fun a ha => by
    have b := (hb a ha).1
    refine ⟨mul_okW hW b.num (by omega), by have := a.den_pos; omega, ?_⟩
    have := log2_small b.dn (by omega)
    omega
  have c1 := comp_map (t := .tup (.cons (.name 7) (.cons (.name 8) .nil))) (c := evE (clN P (d + 3)) { (⟨h.length, []⟩ : Lk) with locked := refsOf [p] ++ [] } (.lit (.bl true))) (e := evE (clN P (d + 3)) { (⟨h.length, []⟩ : Lk) with locked := refsOf [p] ++ [] } (.bin .fdiv (.bin .mul (.var 0) (.var 7)) (.var 8))) (env := [some (.int W), some p, q2, none, none, none, none, none, none, none]) (en := prq) (f := fun a => .int (fl W a)) (h := h) (a0 :: as) (fun a ha => by
    obtain ⟨m1, m2, m3⟩ := bounds a ha
    refine ⟨[some (.int W), some p, q2, none, none, none, none, some (.int a.num), some (.int a.den), none], rfl, rfl, ?_⟩
    simp only [evE, List.getElem?_cons_zero, List.getElem?_cons_succ, bin_mul m1, bin_fdiv m2 m3, fl])
  have c1' : compL (.tup (.cons (.name 7) (.cons (.name 8) .nil))) (evE (clN P (d + 3)) { (⟨h.length, []⟩ : Lk) with locked := refsOf [p] ++ [] } (.lit (.bl true))) (evE (clN P (d + 3)) { (⟨h.length, []⟩ : Lk) with locked := refsOf [p] ++ [] } (.bin .fdiv (.bin .mul (.var 0) (.var 7)) (.var 8))) (wipeE [some (.int W), some p, q2, none, none, none, none, none, none, none] [7, 8]) ((a0 :: as).map prq) h = .ok (((a0 :: as).map (fl W)).map .int) h := by
    rw [List.map_map]; exact c1
  have e3 : evE (clN P (d + 3)) ⟨h.length, []⟩ shE1 [some (.int W), some p, q2, none, none, none, none, none, none, none] h = .ok (.ref h.length) (h ++ [.lst (((a0 :: as).map (fl W)).map .int)]) := by
    unfold shE1
    rw [comp_ev (ps := [p]) (h' := h) rfl (src_seq hs) c1' (by rw [List.length_map]; exact lenz), if_pos rfl]
  rw [set1 e3]
  simp only [List.set_cons_succ, List.set_cons_zero]
  -- what was lost
  obtain ⟨h3, eh3⟩ : ∃ h3, h ++ [Ob.lst (((a0 :: as).map (fl W)).map .int)] = h3 := ⟨_, rfl⟩
  have sf : seqOf h3 (.ref h.length) = some (((a0 :: as).map (fl W)).map .int) := by simp only [seqOf, ← eh3]; simp
  have sp : seqOf h3 p = some ((a0 :: as).map prq) := by rw [← eh3]; exact hseq _ (.lst [])
  rw [eh3]
  have zipA : srcItems .zip [p, .ref h.length] h3 = some ((a0 :: as).map fun a => .tup [prq a, .int (fl W a)]) := by
    simp only [srcItems, sp, sf]
    rw [zipP_map prq PV.int]
    congr 1
    rw [List.zip_map_right, List.map_map]
    have : ∀ l : List Rat, (l.zip l).map ((fun q : Rat × Int => PV.tup [prq q.1, .int q.2]) ∘ Prod.map id (fl W)) = l.map fun a => .tup [prq a, .int (fl W a)] := by
      intro l
      induction l with
      | nil => rfl
      | cons a l ih => rw [List.zip_cons_cons, List.map_cons, ih]; rfl
    exact this _
  have c2 := comp_map (t := .tup (.cons (.tup (.cons (.name 7) (.cons (.name 8) .nil))) (.cons (.name 9) .nil))) (c := evE (clN P (d + 3)) { (⟨h.length, []⟩ : Lk) with locked := refsOf [p, .ref h.length] ++ [] } (.lit (.bl true))) (e := evE (clN P (d + 3)) { (⟨h.length, []⟩ : Lk) with locked := refsOf [p, .ref h.length] ++ [] } (.call mi (es2 (.tup (es2 (.bin .mul (.var 0) (.var 7)) (.var 8))) (.tup (es2 (.var 9) (.lit (.int 1))))))) (env := [some (.int W), some p, q2, some (.ref h.length), none, none, none, none, none, none]) (en := fun a => .tup [prq a, .int (fl W a)]) (f := fun a => prq (lo W a)) (h := h3) (a0 :: as) (fun a ha => by
    obtain ⟨m1, m2, m3⟩ := bounds a ha
    have b := (hb a ha).1
    refine ⟨[some (.int W), some p, q2, some (.ref h.length), none, none, none, some (.int a.num), some (.int a.den), some (.int (fl W a))], rfl, rfl, ?_⟩
    have t1 : evE (clN P (d + 3)) { (⟨h.length, []⟩ : Lk) with locked := refsOf [p, .ref h.length] ++ [] } (.tup (es2 (.bin .mul (.var 0) (.var 7)) (.var 8))) [some (.int W), some p, q2, some (.ref h.length), none, none, none, some (.int a.num), some (.int a.den), some (.int (fl W a))] h3 = .ok (.tup [.int (W * a.num), .int a.den]) h3 := ev_tup2 (by simp only [evE, List.getElem?_cons_zero, List.getElem?_cons_succ, bin_mul m1]) rfl
    have t2 : evE (clN P (d + 3)) { (⟨h.length, []⟩ : Lk) with locked := refsOf [p, .ref h.length] ++ [] } (.tup (es2 (.var 9) (.lit (.int 1)))) [some (.int W), some p, q2, some (.ref h.length), none, none, none, some (.int a.num), some (.int a.den), some (.int (fl W a))] h3 = .ok (.tup [.int (fl W a), .int 1]) h3 := ev_tup2 rfl rfl
    have flb := fl_bd hW b
    have fb : (fl W a).natAbs < 2 ^ (w + n + 1) := by rw [Nat.pow_succ]; have := Nat.pow_pos (n := w + n) (show 0 < 2 by decide); omega
    have mr := minus_raw hmi hr (d + 1) { (⟨h.length, []⟩ : Lk) with locked := refsOf [p, .ref h.length] ++ [] } h3 (a := W * a.num) (b := a.den) (c := fl W a) (e := 1) (mul_ok (.inr (by decide))) (mul_okW fb b.dn (by omega)) (mul_ok (.inr (by decide))) (by omega) (by rw [Int.mul_one]; exact Nat.lt_of_lt_of_le b.dn (Nat.pow_le_pow_right (by decide) n9))
    simp only [es2] at t1 t2 ⊢
    simp only [evE, evEs, cl_call] at t1 t2 ⊢
    rw [t1]
    dsimp only
    rw [t2]
    exact mr)
  have c2' : compL (.tup (.cons (.tup (.cons (.name 7) (.cons (.name 8) .nil))) (.cons (.name 9) .nil))) (evE (clN P (d + 3)) { (⟨h.length, []⟩ : Lk) with locked := refsOf [p, .ref h.length] ++ [] } (.lit (.bl true))) (evE (clN P (d + 3)) { (⟨h.length, []⟩ : Lk) with locked := refsOf [p, .ref h.length] ++ [] } (.call mi (es2 (.tup (es2 (.bin .mul (.var 0) (.var 7)) (.var 8))) (.tup (es2 (.var 9) (.lit (.int 1))))))) (wipeE [some (.int W), some p, q2, some (.ref h.length), none, none, none, none, none, none] [7, 8, 9]) ((a0 :: as).map fun a => .tup [prq a, .int (fl W a)]) h3 = .ok (((a0 :: as).map (lo W)).map prq) h3 := by
    rw [List.map_map]; exact c2
  have e4 : evE (clN P (d + 3)) ⟨h.length, []⟩ (shE2 mi) [some (.int W), some p, q2, some (.ref h.length), none, none, none, none, none, none] h3 = .ok (.ref (h.length + 1)) (shH h ((a0 :: as).map (fl W), (a0 :: as).map (lo W))) := by
    unfold shE2
    rw [comp_ev (ps := [p, .ref h.length]) (h' := h3) rfl zipA c2' (by rw [List.length_map, List.length_map]; unfold lim; omega), if_pos rfl]
    rw [← eh3]
    simp [shH]
  rw [set1 e4]
  simp only [List.set_cons_succ, List.set_cons_zero]
  -- what is left, one by one
  obtain ⟨s0, es0⟩ : ∃ s0, ((a0 :: as).map (fl W), (a0 :: as).map (lo W)) = s0 := ⟨_, rfl⟩
  have hs0 : s0.1.length = s0.2.length ∧ s0.2 ≠ [] := by rw [← es0]; simp
  have hb0 : ∀ y ∈ s0.2, Bd (w + n + n + 2) y := by
    rw [← es0]
    intro y hy
    obtain ⟨a, ha, rfl⟩ := List.mem_map.mp hy
    have b := (hb a ha).1
    have flb := fl_bd hW b
    have x1 := nat_mul_lt hW b.num
    have fb : (fl W a).natAbs < 2 ^ (w + n + 1) := by rw [Nat.pow_succ]; have := Nat.pow_pos (n := w + n) (show 0 < 2 by decide); omega
    have x2 := nat_mul_lt fb b.dn
    refine Bd.divInt (by have := a.den_pos; omega) ?_ ?_
    · have y1 : 2 ^ (w + n) ≤ 2 ^ (w + n + 1 + n) := Nat.pow_le_pow_right (by decide) (by omega)
      have y2 : 2 ^ (w + n + n + 2) = 2 * 2 ^ (w + n + 1 + n) := by rw [show w + n + n + 2 = (w + n + 1 + n) + 1 by omega, Nat.pow_succ]; omega
      omega
    · rw [Int.mul_one]
      exact Nat.lt_of_lt_of_le b.dn (Nat.pow_le_pow_right (by decide) (by omega))
  rw [es0]
  have loop : ∀ (xs : List Nat) (s : List Int × List Rat) (q5 q6 : Option PV), s.1.length = s.2.length → s.2 ≠ [] → (∀ y ∈ s.2, Bd (w + n + n + 2) y) →
      ∃ q5' q6', forL (.name 5) (evSs (clN P (d + 3)) ⟨h.length, []⟩ (shB mo)) (xs.map fun i : Nat => PV.int (0 + (i : Int))) [some (.int W), some p, q2, some (.ref h.length), some (.ref (h.length + 1)), q5, q6, none, none, none] (shH h s) = .nx [some (.int W), some p, q2, some (.ref h.length), some (.ref (h.length + 1)), q5', q6', none, none, none] (shH h (shRun xs.length s)) := by
    intro xs
    induction xs with
    | nil => intro s q5 q6 _ _ _; exact ⟨q5, q6, rfl⟩
    | cons i xs ih =>
      intro s q5 q6 g1 g2 g3
      have t := sh_turn (n := w + n + n + 2) hmo hlt (d + 1) h s none (some (.int W)) (some p) q2 none (some (.int (0 + (i : Int)))) q6 none none none g1 g2 g3 (by omega) [] rfl
      obtain ⟨l1, l2⟩ := shStep_len s
      obtain ⟨q5', q6', e⟩ := ih (shStep s) (some (.int (0 + (i : Int)))) (some (.int (ixMax s.2))) (by rw [l1, l2]; exact g1) (fun z => g2 (by
        have := congrArg List.length z
        rw [l2] at this
        exact List.length_eq_zero_iff.mp this)) (shStep_bd (by omega) g3)
      refine ⟨q5', q6', ?_⟩
      rw [List.map_cons, forL]
      simp only [asgT, List.set_cons_succ, List.set_cons_zero]
      rw [t]
      exact e
  have sf2 : seqOf (shH h s0) (.ref h.length) = some (((a0 :: as).map (fl W)).map .int) := by rw [← es0]; simp only [seqOf, shH, hp0]
  have rg : evEs (clN P (d + 3)) ⟨h.length, []⟩ (es1 (.bin .sub (.var 0) (.prim .sum (es1 (.var 3))))) [some (.int W), some p, q2, some (.ref h.length), some (.ref (h.length + 1)), none, none, none, none, none] (shH h s0) = .ok [.int c] (shH h s0) := by
    simp only [es1, evEs, evE, List.getElem?_cons_zero, List.getElem?_cons_succ, sum_seq sf2, bin_sub, hc]
  obtain ⟨q5', q6', el⟩ := loop (List.range c) s0 none none hs0.1 hs0.2 hb0
  rw [ss_nx (by rw [for_ev rg (src_range hc2 _)]; exact el)]
  rw [List.length_range]
  have sf3 : seqOf (shH h (shRun c s0)) (.ref h.length) = some ((shRun c s0).1.map .int) := by simp only [seqOf, shH, hp0]
  simp only [ret, es1, evSs, evS, evE, evEs, List.getElem?_cons_succ, List.getElem?_cons_zero, tuple_seq sf3, endPure]
  have fz : ∀ (rd : Nat → Option PV) (zs : List Int), frzs rd (zs.map .int) = some (zs.map .int) := by
    intro rd zs
    induction zs with
    | nil => rfl
    | cons z zs ih => rw [List.map_cons, frzs, ih]; rfl
  simp only [frz, fz, Option.map_some]
end
end Mini

/-! Rt8 -/
set_option autoImplicit false
set_option linter.all false
set_option maxRecDepth 100000
namespace Mini

/-! ### sorting by a key, as the small language sorts -/
section
variable {α : Type}
def insB (lt : α → α → Bool) (x : α) : List α → List α
  | [] => [x]
  | y :: ys => if lt y x then y :: insB lt x ys else x :: y :: ys
def isortB (lt : α → α → Bool) : List α → List α
  | [] => []
  | x :: xs => insB lt x (isortB lt xs)
theorem ins_map {lt : α → α → Bool} {en : α → PV} (he : ∀ x y, plt (en x) (en y) = lt x y) (x : α) : ∀ ys : List α, ins (en x) (ys.map en) = (insB lt x ys).map en
  | [] => rfl
  | y :: ys => by
    rw [List.map_cons, ins, insB, he]
    split
    · rw [List.map_cons, ins_map he x ys]
    · rfl
theorem isort_map {lt : α → α → Bool} {en : α → PV} (he : ∀ x y, plt (en x) (en y) = lt x y) : ∀ xs : List α, isort (xs.map en) = (isortB lt xs).map en
  | [] => rfl
  | x :: xs => by rw [List.map_cons, isort, isort_map he xs, ins_map he, isortB]
theorem insB_perm (lt : α → α → Bool) (x : α) : ∀ ys : List α, (insB lt x ys).Perm (x :: ys)
  | [] => .refl _
  | y :: ys => by
    rw [insB]
    split
    · exact ((insB_perm lt x ys).cons y).trans (.swap x y ys)
    · exact .refl _
theorem isortB_perm (lt : α → α → Bool) : ∀ xs : List α, (isortB lt xs).Perm xs
  | [] => .refl _
  | x :: xs => (insB_perm lt x _).trans ((isortB_perm lt xs).cons x)
theorem insB_sorted {lt : α → α → Bool} (tr : ∀ x y z, lt y x = false → lt z y = false → lt z x = false) (as : ∀ x y, lt x y = true → lt y x = false) (x : α) : ∀ ys : List α, ys.Pairwise (fun a b => lt b a = false) → (insB lt x ys).Pairwise (fun a b => lt b a = false)
  | [], _ => by simp [insB]
  | y :: ys, h => by
    obtain ⟨h1, h2⟩ := List.pairwise_cons.mp h
    rw [insB]
    split
    · rename_i q
      rw [List.pairwise_cons]
      refine ⟨fun z hz => ?_, insB_sorted tr as x ys h2⟩
      rcases List.mem_cons.mp ((insB_perm lt x ys).mem_iff.mp hz) with rfl | hz
      · exact as _ _ q
      · exact h1 z hz
    · rename_i q
      rw [List.pairwise_cons]
      refine ⟨fun z hz => ?_, h⟩
      rcases List.mem_cons.mp hz with rfl | hz
      · simpa using q
      · exact tr x y z (by simpa using q) (h1 z hz)
theorem isortB_sorted {lt : α → α → Bool} (tr : ∀ x y z, lt y x = false → lt z y = false → lt z x = false) (as : ∀ x y, lt x y = true → lt y x = false) : ∀ xs : List α, (isortB lt xs).Pairwise (fun a b => lt b a = false)
  | [] => .nil
  | x :: xs => insB_sorted tr as x _ (isortB_sorted tr as xs)
end
/-- pairs, place by place -/
def klt (x y : Int × Nat) : Bool := decide (x.1 < y.1) || (x.1 == y.1 && decide (x.2 < y.2))
def enk (x : Int × Nat) : PV := .tup [.int x.1, .int x.2]
theorem plt_enk (x y : Int × Nat) : plt (enk x) (enk y) = klt x y := by
  obtain ⟨a, i⟩ := x
  obtain ⟨b, j⟩ := y
  simp only [enk, plt, plts, eqv_int, klt]
  by_cases h : a = b
  · subst h
    by_cases h2 : i = j
    · subst h2; simp
    · have : ((i : Int) == (j : Int)) = false := by simpa using fun z => h2 (by omega)
      simp [this]
  · have : (a == b) = false := by simpa using h
    simp [this]
theorem klt_tr (x y z : Int × Nat) (h1 : klt y x = false) (h2 : klt z y = false) : klt z x = false := by
  simp only [klt, Bool.or_eq_false_iff, decide_eq_false_iff_not, Bool.and_eq_false_iff, beq_eq_false_iff_ne] at *
  omega
theorem klt_as (x y : Int × Nat) (h : klt x y = true) : klt y x = false := by
  simp only [klt, Bool.or_eq_true, decide_eq_true_eq, Bool.and_eq_true, beq_iff_eq, Bool.or_eq_false_iff, decide_eq_false_iff_not, Bool.and_eq_false_iff, beq_eq_false_iff_ne] at *
  omega
/-- the law's order of those that lost -/
def keysOf (rs : List Int) : List (Int × Nat) := rs.zipIdx.map fun q => (-q.1, q.2)
def picks (rs : List Int) : List Nat := (isortB klt (keysOf rs)).map (·.2)
theorem picks_perm (rs : List Int) : (picks rs).Perm (List.range rs.length) := by
  have h1 := (isortB_perm klt (keysOf rs)).map (·.2)
  have h2 : (keysOf rs).map (·.2) = List.range rs.length := by
    unfold keysOf
    rw [List.map_map]
    have : (fun q : Int × Nat => q.2) ∘ (fun q : Int × Nat => (-q.1, q.2)) = Prod.snd := rfl
    rw [show ((fun x : Int × Nat => x.2) ∘ fun q : Int × Nat => (-q.1, q.2)) = Prod.snd from rfl, List.zipIdx_map_snd, List.range_eq_range']
  rw [h2] at h1
  exact h1
theorem picks_len (rs : List Int) : (picks rs).length = rs.length := by rw [(picks_perm rs).length_eq, List.length_range]
theorem picks_nodup (rs : List Int) : (picks rs).Nodup := (picks_perm rs).nodup_iff.mpr List.nodup_range
theorem mem_keys {rs : List Int} {x : Int × Nat} (h : x ∈ keysOf rs) : rs[x.2]? = some (-x.1) := by
  unfold keysOf at h
  obtain ⟨q, hq, rfl⟩ := List.mem_map.mp h
  have := List.mk_mem_zipIdx_iff_getElem? (x := q.1) (i := q.2) (l := rs)
  rw [this.mp hq]
  simp
/-- the i-th pick: none of those left comes ahead of it -/
theorem pick_first {rs : List Int} {i k j : Nat} (hi : (picks rs)[i]? = some k) (hj : j < rs.length) (nj : j ∉ (picks rs).take i) : ∃ rk rj, rs[k]? = some rk ∧ rs[j]? = some rj ∧ (rj < rk ∨ (rj = rk ∧ k ≤ j)) := by
  obtain ⟨s, es⟩ : ∃ s, isortB klt (keysOf rs) = s := ⟨_, rfl⟩
  have srt := isortB_sorted klt_tr klt_as (keysOf rs)
  have prm := isortB_perm klt (keysOf rs)
  unfold picks at hi nj
  rw [es] at hi nj srt prm
  rw [List.getElem?_map] at hi
  obtain ⟨x, hx, ek⟩ := Option.map_eq_some_iff.mp hi
  have hxm := mem_keys (prm.mem_iff.mp (List.mem_of_getElem? hx))
  obtain ⟨rj, hrj⟩ : ∃ rj, rs[j]? = some rj := ⟨_, List.getElem?_eq_getElem hj⟩
  have hjm : (-rj, j) ∈ s := by
    refine prm.mem_iff.mpr ?_
    unfold keysOf
    exact List.mem_map.mpr ⟨(rj, j), List.mk_mem_zipIdx_iff_getElem?.mpr hrj, rfl⟩
  obtain ⟨m, hm, em⟩ := List.getElem_of_mem hjm
  have im : i ≤ m := by
    refine Classical.byContradiction fun z => nj ?_
    rw [← List.map_take]
    refine List.mem_map.mpr ⟨(-rj, j), ?_, rfl⟩
    have : (s.take i)[m]? = some (-rj, j) := by rw [List.getElem?_take, if_pos (by omega), List.getElem?_eq_getElem hm, em]
    exact List.mem_of_getElem? this
  refine ⟨-x.1, rj, by rw [← ek]; exact hxm, hrj, ?_⟩
  obtain ⟨hi', ex⟩ := List.getElem?_eq_some_iff.mp hx
  rcases Nat.lt_or_eq_of_le im with lt | e
  · have := List.pairwise_iff_getElem.mp srt i m hi' hm lt
    rw [ex, em] at this
    simp only [klt, Bool.or_eq_false_iff, decide_eq_false_iff_not, Bool.and_eq_false_iff, beq_eq_false_iff_ne] at this
    rw [← ek]
    omega
  · subst e
    rw [em] at ex
    rw [← ek, ← ex]
    right
    simp
/-- the state behind i picks -/
def shFs (fs : List Int) (ps : List Nat) : List Int := fs.zipIdx.map fun q => if ps.contains q.2 then q.1 + 1 else q.1
def shLs (ls : List Rat) (ps : List Nat) : List Rat := ls.zipIdx.map fun q => if ps.contains q.2 then -1 else q.1
theorem shFs_get (fs : List Int) (ps : List Nat) (k : Nat) : (shFs fs ps)[k]? = fs[k]?.map fun f => if ps.contains k then f + 1 else f := by
  unfold shFs
  rw [List.getElem?_map, List.getElem?_zipIdx, Option.map_map]
  cases fs[k]? <;> simp
theorem shLs_get (ls : List Rat) (ps : List Nat) (k : Nat) : (shLs ls ps)[k]? = ls[k]?.map fun l => if ps.contains k then -1 else l := by
  unfold shLs
  rw [List.getElem?_map, List.getElem?_zipIdx, Option.map_map]
  cases ls[k]? <;> simp
theorem sh_state {rs fs : List Int} {g : Int → Rat} (hl : fs.length = rs.length) (hg : ∀ x y, g x ≤ g y ↔ x ≤ y) (h0 : ∀ x ∈ rs, 0 ≤ g x) {i k : Nat} (hi : (picks rs)[i]? = some k) :
    shStep (shFs fs ((picks rs).take i), shLs (rs.map g) ((picks rs).take i)) = (shFs fs ((picks rs).take (i + 1)), shLs (rs.map g) ((picks rs).take (i + 1))) := by
  have hk : k < rs.length := by
    have := (picks_perm rs).mem_iff.mp (List.mem_of_getElem? hi)
    simpa using this
  have nk : k ∉ (picks rs).take i := fun z => by
    obtain ⟨m, hm, em⟩ := List.getElem_of_mem z
    rw [List.length_take] at hm
    have h1 : (picks rs)[m]? = some k := by
      rw [List.getElem_take] at em
      rw [List.getElem?_eq_getElem (by omega), em]
    obtain ⟨l1, e1⟩ := List.getElem?_eq_some_iff.mp h1
    obtain ⟨l2, e2⟩ := List.getElem?_eq_some_iff.mp hi
    have := (List.getElem_inj (picks_nodup rs)).mp (e1.trans e2.symm)
    omega
  have ck : ((picks rs).take i).contains k = false := by simpa using nk
  have lk : (shLs (rs.map g) ((picks rs).take i))[k]? = some (g rs[k]) := by
    rw [shLs_get, List.getElem?_map, List.getElem?_eq_getElem hk]
    simp only [Option.map_some, ck]
    rfl
  have len : (shLs (rs.map g) ((picks rs).take i)).length = rs.length := by simp [shLs]
  have hgk : 0 ≤ g rs[k] := h0 _ (List.getElem_mem hk)
  -- all are at most that one
  have all : ∀ j (hj : j < rs.length), ∃ y, (shLs (rs.map g) ((picks rs).take i))[j]? = some y ∧ y ≤ g rs[k] ∧ (y = g rs[k] → k ≤ j) := by
    intro j hj
    by_cases c : ((picks rs).take i).contains j = true
    · refine ⟨-1, ?_, ?_, fun z => ?_⟩
      · rw [shLs_get, List.getElem?_map, List.getElem?_eq_getElem hj]
        simp only [Option.map_some, c, if_true]
      · exact Rat.le_trans (by decide) hgk
      · exfalso
        rw [← z] at hgk
        exact absurd hgk (by decide)
    · have nj : j ∉ (picks rs).take i := by simpa using c
      obtain ⟨rk, rj, e1, e2, e3⟩ := pick_first hi hj nj
      rw [List.getElem?_eq_getElem hk] at e1
      rw [List.getElem?_eq_getElem hj] at e2
      cases e1
      cases e2
      refine ⟨g rs[j], ?_, (hg _ _).mpr (by omega), fun z => ?_⟩
      · rw [shLs_get, List.getElem?_map, List.getElem?_eq_getElem hj]
        have : ((picks rs).take i).contains j = false := by simpa using nj
        simp only [Option.map_some, this]
        rfl
      · have h1 := (hg _ _).mp (show g rs[k] ≤ g rs[j] by rw [z]; exact Rat.le_refl)
        omega
  have mx : ixMax (shLs (rs.map g) ((picks rs).take i)) = k := by
    obtain ⟨ls, els⟩ : ∃ ls, shLs (rs.map g) ((picks rs).take i) = ls := ⟨_, rfl⟩
    rw [els] at lk len all ⊢
    have hne : ls ≠ [] := by intro z; rw [z] at len; simp at len; omega
    obtain ⟨l0, lt, rfl⟩ : ∃ l0 lt, ls = l0 :: lt := by
      cases ls with
      | nil => exact absurd rfl hne
      | cons a b => exact ⟨a, b, rfl⟩
    unfold ixMax
    have hkl : k < (l0 :: lt).length := by rw [len]; exact hk
    have bm : best (fun r f => decide (f < r)) (l0 :: lt) l0 ∈ l0 :: lt := by
      rcases best_mem (fun r f => decide (f < r)) (l0 :: lt) l0 with e | e
      · rw [e]; exact List.mem_cons_self ..
      · exact e
    have eM : best (fun r f => decide (f < r)) (l0 :: lt) l0 = g rs[k] := by
      refine Rat.le_antisymm ?_ ?_
      · obtain ⟨j, hj, ej⟩ := List.getElem_of_mem bm
        obtain ⟨y, e1, e2, _⟩ := all j (by rw [← len]; exact hj)
        rw [List.getElem?_eq_getElem hj, ej] at e1
        cases e1
        exact e2
      · exact (lmax_le (l0 :: lt) l0).2 _ (List.mem_of_getElem? lk)
    show List.findIdx (· == best (fun r f => decide (f < r)) (l0 :: lt) l0) (l0 :: lt) = k
    rw [eM, List.findIdx_eq hkl]
    refine ⟨?_, fun j hj => ?_⟩
    · obtain ⟨l1, e1⟩ := List.getElem?_eq_some_iff.mp lk
      rw [e1]; simp
    · obtain ⟨y, e1, _, e3⟩ := all j (by omega)
      obtain ⟨l1, e1'⟩ := List.getElem?_eq_some_iff.mp e1
      rw [e1']
      have : y ≠ g rs[k] := fun z => by have := e3 z; omega
      simpa using this
  have ci : ∀ j, ((picks rs).take (i + 1)).contains j = (((picks rs).take i).contains j || j == k) := by
    intro j
    rw [List.take_add_one, hi]
    rw [Bool.eq_iff_iff]
    simp
  unfold shStep
  dsimp only
  rw [mx]
  refine Prod.ext ?_ ?_
  · apply List.ext_getElem?
    intro j
    dsimp only
    have hkf : k < (shFs fs ((picks rs).take i)).length := by simp [shFs, hl]; exact hk
    by_cases e : k = j
    · subst e
      rw [List.getElem?_set_self hkf, shFs_get, ci]
      have : fs[k]? = some (fs[k]'(by omega)) := List.getElem?_eq_getElem (by omega)
      rw [List.getD_eq_getElem?_getD, shFs_get, this]
      simp [nk]
    · rw [List.getElem?_set_ne e, shFs_get, shFs_get, ci]
      have : (j == k) = false := by simpa using fun z => e z.symm
      rw [this, Bool.or_false]
  · apply List.ext_getElem?
    intro j
    dsimp only
    by_cases e : k = j
    · subst e
      rw [List.getElem?_set_self (by rw [len]; exact hk), shLs_get, ci, List.getElem?_map, List.getElem?_eq_getElem hk]
      simp
    · rw [List.getElem?_set_ne e, shLs_get, shLs_get, ci]
      have : (j == k) = false := by simpa using fun z => e z.symm
      rw [this, Bool.or_false]
theorem sh_run {rs fs : List Int} {g : Int → Rat} (hl : fs.length = rs.length) (hg : ∀ x y, g x ≤ g y ↔ x ≤ y) (h0 : ∀ x ∈ rs, 0 ≤ g x) : ∀ (c i : Nat), i + c ≤ rs.length →
    shRun c (shFs fs ((picks rs).take i), shLs (rs.map g) ((picks rs).take i)) = (shFs fs ((picks rs).take (i + c)), shLs (rs.map g) ((picks rs).take (i + c)))
  | 0, i, _ => rfl
  | c + 1, i, h => by
    obtain ⟨k, hk⟩ : ∃ k, (picks rs)[i]? = some k := ⟨_, List.getElem?_eq_getElem (by rw [picks_len]; omega)⟩
    rw [shRun, sh_state hl hg h0 hk, sh_run hl hg h0 c (i + 1) (by omega), show i + 1 + c = i + (c + 1) by omega]
/-- shares: the greatest losses first -/
theorem sh_all {rs fs : List Int} {g : Int → Rat} (hl : fs.length = rs.length) (hg : ∀ x y, g x ≤ g y ↔ x ≤ y) (h0 : ∀ x ∈ rs, 0 ≤ g x) {c : Nat} (hc : c ≤ rs.length) : (shRun c (fs, rs.map g)).1 = shFs fs ((picks rs).take c) := by
  have := sh_run (fs := fs) hl hg h0 c 0 (by omega)
  have e1 : shFs fs ((picks rs).take 0) = fs := by
    apply List.ext_getElem?
    intro j
    rw [shFs_get]
    cases fs[j]? <;> simp
  have e2 : shLs (rs.map g) ((picks rs).take 0) = rs.map g := by
    apply List.ext_getElem?
    intro j
    rw [shLs_get]
    cases (rs.map g)[j]? <;> simp
  rw [e1, e2, Nat.zero_add] at this
  rw [this]
end Mini

/-! L01 -/
set_option autoImplicit false
set_option Elab.async false
set_option linter.all false
set_option maxRecDepth 100000
set_option maxHeartbeats 4000000
namespace Mini.k01
open Mini
def s1 : S := (.asg (.tup (.cons (.name 2) (.cons (.name 3) .nil))) (.tup (.cons (.call 24 (.cons (.var 1) .nil)) (.cons (.call 24 (.cons (.var 1) .nil)) .nil))))
def s2 : S := (.asg (.tup (.cons (.name 4) (.cons (.name 5) .nil))) (.tup (.cons (.bin .sub (.call 18 (.cons (.var 1) (.cons (.lit (.int 61)) .nil))) (.lit (.int 30))) (.cons (.idx (.lst false (.cons (.bin .add (.call 18 (.cons (.var 1) (.cons (.lit (.int 12)) .nil))) (.lit (.int 1))) (.cons (.bin .sub (.neg (.lit (.int 1))) (.call 18 (.cons (.var 1) (.cons (.lit (.int 12)) .nil)))) .nil))) (.call 18 (.cons (.var 1) (.cons (.lit (.int 2)) .nil)))) .nil))))
def c3 : E := (.cmp .ne (.call 0 (.cons (.var 4) (.cons (.var 5) .nil))) (.ife (.cmp .gt (.var 5) (.lit (.int 0))) (.call 21 (.cons (.var 4) (.cons (.var 5) .nil))) (.call 21 (.cons (.neg (.var 4)) (.cons (.neg (.var 5)) .nil)))))
def s3 : S := .ife c3 (.cons (.ret (.lit (.bl false)))
  .nil) .nil
def c4 : E := (.or_ (.cmp .ne (.call 1 (.cons (.var 2) (.cons (.var 3) .nil))) (.call 22 (.cons (.lst false (.cons (.var 2) (.cons (.var 3) .nil))) .nil))) (.cmp .ne (.call 2 (.cons (.var 2) (.cons (.var 3) .nil))) (.call 22 (.cons (.lst false (.cons (.var 2) (.cons (.tup (.cons (.neg (.idx (.var 3) (.lit (.int 0)))) (.cons (.idx (.var 3) (.lit (.int 1))) .nil))) .nil))) .nil))))
def s4 : S := .ife c4 (.cons (.ret (.lit (.bl false)))
  .nil) .nil
def c5 : E := (.cmp .ne (.call 3 (.cons (.var 2) (.cons (.var 3) .nil))) (.call 23 (.cons (.var 2) (.cons (.var 3) .nil))))
def s5 : S := .ife c5 (.cons (.ret (.lit (.bl false)))
  .nil) .nil
def c6 : E := (.or_ (.and_ (.cmp .ne (.idx (.var 3) (.lit (.int 0))) (.lit (.int 0))) (.cmp .ne (.call 3 (.cons (.call 4 (.cons (.var 2) (.cons (.var 3) .nil))) (.cons (.var 3) .nil))) (.var 2))) (.cmp .ne (.call 8 (.cons (.var 2) (.cons (.var 3) .nil))) (.call 25 (.cons (.var 2) (.cons (.var 3) .nil)))))
def s6 : S := .ife c6 (.cons (.ret (.lit (.bl false)))
  .nil) .nil
def s7 : S := (.asg (.tup (.cons (.name 6) (.cons (.name 7) .nil))) (.tup (.cons (.comp false [20] (.name 20) .range (.cons (.bin .add (.lit (.int 1)) (.call 18 (.cons (.var 1) (.cons (.lit (.int 5)) .nil)))) .nil) (.lit (.bl true)) (.call 24 (.cons (.var 1) .nil))) (.cons (.call 18 (.cons (.var 1) (.cons (.lit (.int 7)) .nil))) .nil))))
def s8 : S := (.asg (.tup (.cons (.name 8) (.cons (.name 9) .nil))) (.tup (.cons (.tup (.cons (.lit (.int 1)) (.cons (.lit (.int 1)) .nil))) (.cons (.tup (.cons (.lit (.int 1)) (.cons (.lit (.int 1)) .nil))) .nil))))
def s9 : S := (.for_ (.name 10) .seq (.cons (.var 6) .nil) (.cons (.asg (.name 8) (.call 23 (.cons (.var 8) (.cons (.var 10) .nil))))
  .nil))
def s10 : S := (.for_ (.name 11) .range (.cons (.var 7) .nil) (.cons (.asg (.name 9) (.call 23 (.cons (.var 9) (.cons (.var 2) .nil))))
  .nil))
def c11 : E := (.or_ (.cmp .ne (.call 5 (.cons (.var 6) .nil)) (.call 22 (.cons (.var 6) .nil))) (.or_ (.cmp .ne (.call 6 (.cons (.var 6) .nil)) (.var 8)) (.cmp .ne (.call 7 (.cons (.var 2) (.cons (.var 7) .nil))) (.var 9))))
def s11 : S := .ife c11 (.cons (.ret (.lit (.bl false)))
  .nil) .nil
def c12 : E := (.cmp .ne (.comp false [10] (.name 10) .seq (.cons (.var 6) .nil) (.or_ (.call 25 (.cons (.var 10) (.cons (.call 9 (.cons (.var 6) .nil)) .nil))) (.call 25 (.cons (.call 10 (.cons (.var 6) .nil)) (.cons (.var 10) .nil)))) (.var 10)) (.lst false .nil))
def s12 : S := .ife c12 (.cons (.ret (.lit (.bl false)))
  .nil) .nil
def c13 : E := (.or_ (.cmp .notin (.call 9 (.cons (.var 6) .nil)) (.var 6)) (.cmp .notin (.call 10 (.cons (.var 6) .nil)) (.var 6)))
def s13 : S := .ife c13 (.cons (.ret (.lit (.bl false)))
  .nil) .nil
def s14 : S := (.asg (.name 12) (.bin .add (.prim .str_ (.cons (.idx (.var 2) (.lit (.int 0))) .nil)) (.ife (.cmp .ne (.idx (.var 2) (.lit (.int 1))) (.lit (.int 1))) (.bin .add (.lit (.str [47])) (.prim .str_ (.cons (.idx (.var 2) (.lit (.int 1))) .nil))) (.lit (.str [])))))
def c15 : E := (.or_ (.cmp .ne (.call 12 (.cons (.var 2) .nil)) (.var 12)) (.cmp .ne (.call 13 (.cons (.var 12) .nil)) (.var 2)))
def s15 : S := .ife c15 (.cons (.ret (.lit (.bl false)))
  .nil) .nil
def c16 : E := (.cmp .ne (.call 13 (.cons (.bin .add (.bin .add (.prim .str_ (.cons (.bin .mul (.lit (.int 2)) (.idx (.var 2) (.lit (.int 0)))) .nil)) (.lit (.str [47]))) (.prim .str_ (.cons (.bin .mul (.lit (.int 2)) (.idx (.var 2) (.lit (.int 1)))) .nil))) .nil)) (.var 2))
def s16 : S := .ife c16 (.cons (.ret (.lit (.bl false)))
  .nil) .nil
def s17 : S := (.asg (.name 13) (.call 14 (.cons (.var 2) .nil)))
def c18 : E := (.not_ (.cmp2 .le .lt (.bin .mul (.bin .sub (.bin .mul (.lit (.int 2)) (.var 13)) (.lit (.int 1))) (.idx (.var 2) (.lit (.int 1)))) (.bin .mul (.lit (.int 200)) (.idx (.var 2) (.lit (.int 0)))) (.bin .mul (.bin .add (.bin .mul (.lit (.int 2)) (.var 13)) (.lit (.int 1))) (.idx (.var 2) (.lit (.int 1))))))
def s18 : S := .ife c18 (.cons (.ret (.lit (.bl false)))
  .nil) .nil
def s19 : S := (.asg (.tup (.cons (.name 14) (.cons (.name 15) .nil))) (.tup (.cons (.bin .add (.comp false [20] (.name 20) .range (.cons (.call 18 (.cons (.var 1) (.cons (.lit (.int 5)) .nil))) .nil) (.lit (.bl true)) (.call 18 (.cons (.var 1) (.cons (.lit (.int 9)) .nil)))) (.lst false (.cons (.bin .add (.lit (.int 1)) (.call 18 (.cons (.var 1) (.cons (.lit (.int 9)) .nil)))) .nil))) (.cons (.call 18 (.cons (.var 1) (.cons (.lit (.int 60)) .nil))) .nil))))
def s20 : S := (.asg (.name 16) (.call 15 (.cons (.var 14) .nil)))
def c21 : E := (.or_ (.cmp .ne (.prim .list (.cons (.var 16) .nil)) (.comp false [21] (.name 21) .seq (.cons (.var 14) .nil) (.lit (.bl true)) (.call 21 (.cons (.var 21) (.cons (.prim .sum (.cons (.var 14) .nil)) .nil))))) (.cmp .ne (.call 5 (.cons (.var 16) .nil)) (.tup (.cons (.lit (.int 1)) (.cons (.lit (.int 1)) .nil)))))
def s21 : S := .ife c21 (.cons (.ret (.lit (.bl false)))
  .nil) .nil
def s22 : S := (.asg (.tup (.cons (.name 17) (.cons (.name 18) .nil))) (.tup (.cons (.comp false [21] (.name 21) .seq (.cons (.var 14) .nil) (.lit (.bl true)) (.bin .fdiv (.bin .mul (.var 15) (.var 21)) (.prim .sum (.cons (.var 14) .nil)))) (.cons (.comp false [20, 21] (.tup (.cons (.name 20) (.cons (.name 21) .nil))) .enum (.cons (.var 14) .nil) (.lit (.bl true)) (.tup (.cons (.neg (.bin .mod (.bin .mul (.var 15) (.var 21)) (.prim .sum (.cons (.var 14) .nil)))) (.cons (.var 20) .nil)))) .nil))))
def s23 : S := (.asg (.name 19) (.sli false true (.comp false [22, 20] (.tup (.cons (.name 22) (.cons (.name 20) .nil))) .seq (.cons (.prim .sorted (.cons (.var 18) .nil)) .nil) (.lit (.bl true)) (.var 20)) (.lit .non) (.bin .sub (.var 15) (.prim .sum (.cons (.var 17) .nil)))))
def c24 : E := (.cmp .ne (.prim .list (.cons (.call 16 (.cons (.var 15) (.cons (.var 16) .nil))) .nil)) (.comp false [20, 23] (.tup (.cons (.name 20) (.cons (.name 23) .nil))) .enum (.cons (.var 17) .nil) (.lit (.bl true)) (.bin .add (.var 23) (.prim .int_ (.cons (.cmp .isin (.var 20) (.var 19)) .nil)))))
def s24 : S := .ife c24 (.cons (.ret (.lit (.bl false)))
  .nil) .nil
def c25 : E := (.cmp .ne (.prim .sum (.cons (.call 16 (.cons (.var 15) (.cons (.var 16) .nil))) .nil)) (.var 15))
def s25 : S := .ife c25 (.cons (.ret (.lit (.bl false)))
  .nil) .nil
def c26 : E := (.cmp .ne (.cmp .ne (.told 1 [82, 97, 116, 105, 111, 69, 114, 114, 111, 114] (.call 11 (.cons (.var 2) .nil))) (.lit (.str [82, 97, 116, 105, 111, 69, 114, 114, 111, 114]))) (.cmp2 .le .le (.lit (.int 0)) (.idx (.var 2) (.lit (.int 0))) (.idx (.var 2) (.lit (.int 1)))))
def s26 : S := .ife c26 (.cons (.ret (.lit (.bl false)))
  .nil) .nil
def lawB : Ss := .cons s1 (.cons s2 (.cons s3 (.cons s4 (.cons s5 (.cons s6 (.cons s7 (.cons s8 (.cons s9 (.cons s10 (.cons s11 (.cons s12 (.cons s13 (.cons s14 (.cons s15 (.cons s16 (.cons s17 (.cons s18 (.cons s19 (.cons s20 (.cons s21 (.cons s22 (.cons s23 (.cons s24 (.cons s25 (.cons s26 (.nil))))))))))))))))))))))))))
def fnLaw : Fn := ⟨1, 24, .cons (.for_ (.name 1) .seq (.cons (.call 19 (.cons (.var 0) (.cons (.lit (.int 1)) .nil))) .nil) lawB) (.cons (.ret (.call 26 .nil))
  .nil), true⟩

/-! ### the defs of the program -/
theorem f0 : md.I.fns[0]? = some (fnRatio 1) := by kernel_rfl
theorem f1 : md.I.fns[1]? = some (fnPlus 0) := by kernel_rfl
theorem f2 : md.I.fns[2]? = some (fnMinus 0) := by kernel_rfl
theorem f3 : md.I.fns[3]? = some (fnTimes 0) := by kernel_rfl
theorem f4 : md.I.fns[4]? = some (fnDivided 0) := by kernel_rfl
theorem f5 : md.I.fns[5]? = some (fnSum 1) := by kernel_rfl
theorem f6 : md.I.fns[6]? = some (fnProd 3) := by kernel_rfl
theorem f7 : md.I.fns[7]? = some (fnPower 3 1) := by kernel_rfl
theorem f8 : md.I.fns[8]? = some fnIsLess := by kernel_rfl
theorem f9 : md.I.fns[9]? = some (fnLeast 8 1) := by kernel_rfl
theorem f10 : md.I.fns[10]? = some (fnMost 8 1) := by kernel_rfl
theorem f11 : md.I.fns[11]? = some (fnCheck 0 1) := by kernel_rfl
theorem f15 : md.I.fns[15]? = some (fnEvened 0 1) := by kernel_rfl
theorem f16 : md.I.fns[16]? = some (fnShares 11 5 1 2 10) := by kernel_rfl
theorem f17 : md.I.fns[17]? = some fnDice := by kernel_rfl
theorem f18 : md.I.fns[18]? = some (fnRoll 18) := by kernel_rfl
theorem f19 : md.I.fns[19]? = some (fnRounds 17) := by kernel_rfl
theorem f21 : md.I.fns[21]? = some fnLow := by kernel_rfl
theorem f22 : md.I.fns[22]? = some (fnLawSum 21) := by kernel_rfl
theorem f23 : md.I.fns[23]? = some (fnLawTimes 21) := by kernel_rfl
def fnDrawn : Fn := ⟨1, 1, ret (.call 21 (es2 (.bin .sub (.call 18 (es2 (.var 0) (.lit (.int 41)))) (.lit (.int 20))) (.bin .add (.lit (.int 1)) (.call 18 (es2 (.var 0) (.lit (.int 12))))))), false⟩
theorem f24 : md.I.fns[24]? = some fnDrawn := by kernel_rfl
theorem f25 : md.I.fns[25]? = some fnLawLess := by kernel_rfl
theorem f27 : md.I.fns[27]? = some fnLaw := by kernel_rfl
/-! ### the ratios that are drawn -/
def ones : List Rat := (List.range 41).flatMap fun x : Nat => (List.range 12).map fun y : Nat => mkRat ((x : Int) - 20) (1 + y)
theorem map_eq {α β : Type} {f g : α → β} : ∀ {xs : List α}, xs.map f = xs.map g → ∀ x ∈ xs, f x = g x
  | y :: ys, h, x, hx => by
    rw [List.map_cons, List.map_cons] at h
    injection h with h1 h2
    rcases List.mem_cons.mp hx with rfl | hx
    · exact h1
    · exact map_eq h2 x hx
theorem mem_ones {u v : Int} (h0 : 0 ≤ u) (h1 : u < 41) (h2 : 0 ≤ v) (h3 : v < 12) : mkRat (u - 20) (1 + v).toNat ∈ ones := by
  unfold ones
  refine List.mem_flatMap.mpr ⟨u.toNat, by rw [List.mem_range]; omega, List.mem_map.mpr ⟨v.toNat, by rw [List.mem_range]; omega, ?_⟩⟩
  congr 1
  · omega
  · omega
theorem ones_bd : ∀ a ∈ ones, Bd 5 a := by
  have : ones.all (fun a => decide (a.num.natAbs < 2 ^ 5) && decide (a.den < 2 ^ 5)) = true := by decide +kernel
  intro a ha
  have := List.all_eq_true.mp this a ha
  simp only [Bool.and_eq_true, decide_eq_true_eq] at this
  exact this
/-! what hangs on one drawn ratio alone: all of them are looked at -/
def txt (o : Rat) : PV := match evE (clN md.I 12) ⟨0, []⟩ (.bin .add (.prim .str_ (es1 (.idx (.var 2) (.lit (.int 0))))) (.ife (.cmp .ne (.idx (.var 2) (.lit (.int 1))) (.lit (.int 1))) (.bin .add (.lit (.str [47])) (.prim .str_ (es1 (.idx (.var 2) (.lit (.int 1)))))) (.lit (.str [])))) [none, none, some (prq o)] [] with
  | .ok p _ => p
  | _ => .non
def near (o : Rat) : PV := match callN md.I 12 14 [prq o] ⟨0, []⟩ [] with
  | .ok p _ => p
  | _ => .non
section
variable (L : Lk) (h : Hh) (e0 e1 e3 e4 e5 e6 e7 e8 e9 e10 e11 e12 e13 e14 e15 e16 e17 e18 e19 e20 e21 e22 e23 : Option PV)
theorem t14 : ones.map (fun o => evS (clN md.I 19) L s14 [e0, e1, some (prq o), e3, e4, e5, e6, e7, e8, e9, e10, e11, e12, e13, e14, e15, e16, e17, e18, e19, e20, e21, e22, e23] h) = ones.map fun o => .nx [e0, e1, some (prq o), e3, e4, e5, e6, e7, e8, e9, e10, e11, some (txt o), e13, e14, e15, e16, e17, e18, e19, e20, e21, e22, e23] h := by kernel_rfl
end
end Mini.k01

/-! Evx -/
set_option autoImplicit false
set_option linter.all false
set_option maxRecDepth 100000
namespace Mini
/-! ### expressions, part by part -/
section
variable {C : Cl} {L : Lk} {a b c : E} {env : Env} {p q v : PV} {h h1 h2 h3 : Hh} {r : Rs PV}
theorem x_call0 {P : Prg} {d f : Nat} (g : callN P d f [] L h = r) : evE (clN P d) L (.call f .nil) env h = r := by simp only [evE, evEs, cl_call, g]
theorem x_call1 {P : Prg} {d f : Nat} (e1 : evE (clN P d) L a env h = .ok p h1) (g : callN P d f [p] L h1 = r) : evE (clN P d) L (.call f (es1 a)) env h = r := by simp only [es1, evE, evEs, e1, cl_call, g]
theorem x_call2 {P : Prg} {d f : Nat} (e1 : evE (clN P d) L a env h = .ok p h1) (e2 : evE (clN P d) L b env h1 = .ok q h2) (g : callN P d f [p, q] L h2 = r) : evE (clN P d) L (.call f (es2 a b)) env h = r := by simp only [es2, evE, evEs, e1, e2, cl_call, g]
theorem x_prim1 {f : Prim} (e1 : evE C L a env h = .ok p h1) (g : primE f [p] L h1 = r) : evE C L (.prim f (es1 a)) env h = r := by simp only [es1, evE, evEs, e1, g]
theorem x_prim2 {f : Prim} (e1 : evE C L a env h = .ok p h1) (e2 : evE C L b env h1 = .ok q h2) (g : primE f [p, q] L h2 = r) : evE C L (.prim f (es2 a b)) env h = r := by simp only [es2, evE, evEs, e1, e2, g]
theorem x_cmp {o : Cop} (e1 : evE C L a env h = .ok p h1) (e2 : evE C L b env h1 = .ok q h2) (g : cmpE o p q h2 = r) : evE C L (.cmp o a b) env h = r := by simp only [evE, e1, e2, g]
theorem x_cmp2t {o o' : Cop} (e1 : evE C L a env h = .ok p h1) (e2 : evE C L b env h1 = .ok q h2) (g : cmpE o p q h2 = .ok (.bl true) h2) (e3 : evE C L c env h2 = .ok v h3) (g2 : cmpE o' q v h3 = r) : evE C L (.cmp2 o o' a b c) env h = r := by simp only [evE, e1, e2, g, e3, g2]
theorem x_cmp2f {o o' : Cop} (e1 : evE C L a env h = .ok p h1) (e2 : evE C L b env h1 = .ok q h2) (g : cmpE o p q h2 = .ok (.bl false) h2) : evE C L (.cmp2 o o' a b c) env h = .ok (.bl false) h2 := by simp only [evE, e1, e2, g]
theorem x_bin {o : Bop} (e1 : evE C L a env h = .ok p h1) (e2 : evE C L b env h1 = .ok q h2) (g : binE o p q h2 = r) : evE C L (.bin o a b) env h = r := by simp only [evE, e1, e2, g]
theorem x_idx (e1 : evE C L a env h = .ok p h1) (e2 : evE C L b env h1 = .ok q h2) (g : idxE p q h2 = r) : evE C L (.idx a b) env h = r := by simp only [evE, e1, e2, g]
theorem x_neg {i : Int} (e1 : evE C L a env h = .ok (.int i) h1) : evE C L (.neg a) env h = .ok (.int (-i)) h1 := by simp only [evE, e1, negE]
theorem x_not {k : Bool} (e1 : evE C L a env h = .ok (.bl k) h1) : evE C L (.not_ a) env h = .ok (.bl (!k)) h1 := by simp only [evE, e1]
theorem x_orf (e1 : evE C L a env h = .ok (.bl false) h1) (e2 : evE C L b env h1 = r) : evE C L (.or_ a b) env h = r := by simp only [evE, e1, e2]
theorem x_ort (e1 : evE C L a env h = .ok (.bl true) h1) : evE C L (.or_ a b) env h = .ok (.bl true) h1 := by simp only [evE, e1]
theorem x_andt (e1 : evE C L a env h = .ok (.bl true) h1) (e2 : evE C L b env h1 = r) : evE C L (.and_ a b) env h = r := by simp only [evE, e1, e2]
theorem x_andf (e1 : evE C L a env h = .ok (.bl false) h1) : evE C L (.and_ a b) env h = .ok (.bl false) h1 := by simp only [evE, e1]
theorem x_ift (e1 : evE C L c env h = .ok (.bl true) h1) (e2 : evE C L a env h1 = r) : evE C L (.ife c a b) env h = r := by simp only [evE, e1, e2]
theorem x_iff (e1 : evE C L c env h = .ok (.bl false) h1) (e2 : evE C L b env h1 = r) : evE C L (.ife c a b) env h = r := by simp only [evE, e1, e2]
theorem x_lst0 : evE C L (.lst false .nil) env h = .ok (.lst []) h := by
  simp only [evE, evEs]
  rw [if_pos (show ([] : List PV).length ≤ lim from Nat.zero_le _), if_neg Bool.false_ne_true]
theorem x_lst1 (g1 : evE C L a env h = .ok p h1) : evE C L (.lst false (es1 a)) env h = .ok (.lst [p]) h1 := by
  simp only [es1, evE, evEs, g1]
  rw [if_pos (show [p].length ≤ lim from (by decide : 1 ≤ lim)), if_neg Bool.false_ne_true]
theorem x_lst2 (g1 : evE C L a env h = .ok p h1) (g2 : evE C L b env h1 = .ok q h2) : evE C L (.lst false (es2 a b)) env h = .ok (.lst [p, q]) h2 := by
  simp only [es2, evE, evEs, g1, g2]
  rw [if_pos (show [p, q].length ≤ lim from (by decide : 2 ≤ lim)), if_neg Bool.false_ne_true]
theorem x_var {i : Nat} (g : env[i]? = some (some p)) : evE C L (.var i) env h = .ok p h := by simp only [evE, g]
theorem x_toldok {k : Nat} {ret : List Nat} (e1 : evE C L a env h = .ok p h1) : evE C L (.told k ret a) env h = .ok p h1 := by simp only [evE, e1]
theorem x_toldexc {k n : Nat} {ret : List Nat} (e1 : evE C L a env h = .exc n h1) (g : C.isa n k = true) : evE C L (.told k ret a) env h = .ok (.str ret) h1 := by simp only [evE, e1, g, if_true]
theorem x_sli {kl ku : Bool} (e1 : evE C L a env h = .ok p h1) (e2 : evE C L b env h1 = .ok q h2) (g2 : isPart kl q = true) (e3 : evE C L c env h2 = .ok v h3) (g3 : isPart ku v = true) (g : sliE p q v h3 = r) : evE C L (.sli kl ku a b c) env h = r := by
  simp only [evE, e1, e2, g2, if_true, e3, g3, g]
end
end Mini

/-! L02 -/
set_option autoImplicit false
set_option Elab.async false
set_option linter.all false
set_option maxRecDepth 100000
set_option maxHeartbeats 4000000
set_option exponentiation.threshold 10000
namespace Mini.k01
open Mini
/-- the heap: the dice at r, what they are behind is anything -/
structure St where
  hh : Hh
  r : Nat
  hr : r < hh.length
  base : Nat
  hb : base ≤ r
def St.S (s : St) (q : Int × Int × Int) : Hh := s.hh.set s.r (dl q.1 q.2.1 q.2.2)
def St.L (s : St) : Lk := ⟨s.base, []⟩
theorem St.ok (s : St) : s.L.ok s.r = true := by simp [St.L, Lk.ok, s.hb]
section
variable (s : St)
theorem roll (d : Nat) (q : Int × Int × Int) (m : Int) (hm : 0 < m) (hm2 : m ≤ 100000000) : ∃ v q', 0 ≤ v ∧ v < m ∧ callN md.I (d + 1) 18 [.ref s.r, .int m] s.L (s.S q) = .ok (.int v) (s.S q') := by
  obtain ⟨v, a, b, c, h1, h2, h3⟩ := roll_ok f18 d s.L s.hh s.r s.hr s.ok q.1 q.2.1 q.2.2 m hm hm2
  exact ⟨v, (a, b, c), h1, h2, h3⟩
theorem drawn (d : Nat) (q : Int × Int × Int) : ∃ o q', o ∈ ones ∧ callN md.I (d + 2) 24 [.ref s.r] s.L (s.S q) = .ok (prq o) (s.S q') := by
  obtain ⟨u, q1, a1, a2, e1⟩ := roll s d q 41 (by decide) (by decide)
  obtain ⟨v, q2, b1, b2, e2⟩ := roll s d q1 12 (by decide) (by decide)
  refine ⟨mkRat (u - 20) (1 + v).toNat, q2, mem_ones a1 a2 b1 b2, ?_⟩
  have e3 := low_ok f21 d s.L (s.S q2) (u - 20) (1 + v).toNat (by omega) (Nat.lt_of_lt_of_le (show (u - 20).natAbs < 2 ^ 5 by omega) (Nat.pow_le_pow_right (by decide) (by decide))) (Nat.lt_of_lt_of_le (show (1 + v).toNat < 2 ^ 5 by omega) (Nat.pow_le_pow_right (by decide) (by decide)))
  rw [show (((1 + v).toNat : Nat) : Int) = 1 + v by omega] at e3
  rw [call_raw f24 rfl rfl]
  show endRaw (evSs (clN md.I (d + 1)) s.L fnDrawn.body [some (.ref s.r)] _) = _
  simp only [fnDrawn, ret, es2, evSs, evS, evE, evEs, List.getElem?_cons_zero, cl_call, e1, e2, bin_sub, bin_add, e3, endRaw]

variable (z0 z1 z2 z3 z4 z5 z6 z7 z8 z9 z10 z11 z12 z13 z14 z15 z16 z17 z18 z19 z20 z21 z22 z23 : Option PV)
theorem p1 (q : Int × Int × Int) : ∃ o o' q', o ∈ ones ∧ o' ∈ ones ∧ evS (clN md.I 19) s.L s1 [z0, some (.ref s.r), z2, z3, z4, z5, z6, z7, z8, z9, z10, z11, z12, z13, z14, z15, z16, z17, z18, z19, z20, z21, z22, z23] (s.S q) = .nx [z0, some (.ref s.r), some (prq o), some (prq o'), z4, z5, z6, z7, z8, z9, z10, z11, z12, z13, z14, z15, z16, z17, z18, z19, z20, z21, z22, z23] (s.S q') := by
  obtain ⟨o, q1, h1, e1⟩ := drawn s 17 q
  obtain ⟨o', q2, h2, e2⟩ := drawn s 17 q1
  refine ⟨o, o', q2, h1, h2, ?_⟩
  have t := ev_tup2 (C := clN md.I 19) (L := s.L) (a := .call 24 (es1 (.var 1))) (b := .call 24 (es1 (.var 1))) (env := [z0, some (.ref s.r), z2, z3, z4, z5, z6, z7, z8, z9, z10, z11, z12, z13, z14, z15, z16, z17, z18, z19, z20, z21, z22, z23]) (h := s.S q) (h1 := s.S q1) (h2 := s.S q2) (p := prq o) (q := prq o') (by simp only [es1, evE, evEs, List.getElem?_cons_zero, List.getElem?_cons_succ, cl_call, e1]) (by simp only [es1, evE, evEs, List.getElem?_cons_zero, List.getElem?_cons_succ, cl_call, e2])
  unfold s1
  rw [evS, t]
  rfl
/-- top, bottom -/
theorem p2 (q : Int × Int × Int) : ∃ (t b : Int) (q' : Int × Int × Int), t.natAbs < 2 ^ 5 ∧ b ≠ 0 ∧ b.natAbs < 2 ^ 5 ∧ evS (clN md.I 19) s.L s2 [z0, some (.ref s.r), z2, z3, z4, z5, z6, z7, z8, z9, z10, z11, z12, z13, z14, z15, z16, z17, z18, z19, z20, z21, z22, z23] (s.S q) = .nx [z0, some (.ref s.r), z2, z3, some (.int t), some (.int b), z6, z7, z8, z9, z10, z11, z12, z13, z14, z15, z16, z17, z18, z19, z20, z21, z22, z23] (s.S q') := by
  obtain ⟨u, q1, a1, a2, e1⟩ := roll s 18 q 61 (by decide) (by decide)
  obtain ⟨v, q2, b1, b2, e2⟩ := roll s 18 q1 12 (by decide) (by decide)
  obtain ⟨w, q3, c1, c2, e3⟩ := roll s 18 q2 12 (by decide) (by decide)
  obtain ⟨x, q4, d1, d2, e4⟩ := roll s 18 q3 2 (by decide) (by decide)
  have x01 : x = 0 ∨ x = 1 := by omega
  have lst2 : ∀ (a b : E) (env : Env) (p q : PV) (h h1 h2 : Hh), evE (clN md.I 19) s.L a env h = .ok p h1 → evE (clN md.I 19) s.L b env h1 = .ok q h2 → evE (clN md.I 19) s.L (.lst false (.cons a (.cons b .nil))) env h = .ok (.lst [p, q]) h2 := by
    intro a b env p q h h1 h2 g1 g2
    simp only [evE, evEs, g1, g2]
    rw [if_pos (show [p, q].length ≤ lim from (by decide : 2 ≤ lim)), if_neg Bool.false_ne_true]
  have go : ∀ b : Int, idxE (.lst [.int (v + 1), .int (-1 - w)]) (.int x) (s.S q4) = .ok (.int b) (s.S q4) → b ≠ 0 → b.natAbs < 2 ^ 5 → ∃ (t b : Int) (q' : Int × Int × Int), t.natAbs < 2 ^ 5 ∧ b ≠ 0 ∧ b.natAbs < 2 ^ 5 ∧ evS (clN md.I 19) s.L s2 [z0, some (.ref s.r), z2, z3, z4, z5, z6, z7, z8, z9, z10, z11, z12, z13, z14, z15, z16, z17, z18, z19, z20, z21, z22, z23] (s.S q) = .nx [z0, some (.ref s.r), z2, z3, some (.int t), some (.int b), z6, z7, z8, z9, z10, z11, z12, z13, z14, z15, z16, z17, z18, z19, z20, z21, z22, z23] (s.S q') := by
    intro b hb g1 g2
    refine ⟨u - 30, b, q4, by omega, g1, g2, ?_⟩
    unfold s2
    have l := lst2 (.bin .add (.call 18 (es2 (.var 1) (.lit (.int 12)))) (.lit (.int 1))) (.bin .sub (.neg (.lit (.int 1))) (.call 18 (es2 (.var 1) (.lit (.int 12))))) [z0, some (.ref s.r), z2, z3, z4, z5, z6, z7, z8, z9, z10, z11, z12, z13, z14, z15, z16, z17, z18, z19, z20, z21, z22, z23] (.int (v + 1)) (.int (-1 - w)) (s.S q1) (s.S q2) (s.S q3)
      (by simp only [es2, evE, evEs, List.getElem?_cons_zero, List.getElem?_cons_succ, cl_call, e2, bin_add]) (by simp only [es2, evE, evEs, negE, List.getElem?_cons_zero, List.getElem?_cons_succ, cl_call, e3, bin_sub])
    have t := ev_tup2 (C := clN md.I 19) (L := s.L) (a := .bin .sub (.call 18 (es2 (.var 1) (.lit (.int 61)))) (.lit (.int 30))) (b := .idx (.lst false (es2 (.bin .add (.call 18 (es2 (.var 1) (.lit (.int 12)))) (.lit (.int 1))) (.bin .sub (.neg (.lit (.int 1))) (.call 18 (es2 (.var 1) (.lit (.int 12))))))) (.call 18 (es2 (.var 1) (.lit (.int 2))))) (env := [z0, some (.ref s.r), z2, z3, z4, z5, z6, z7, z8, z9, z10, z11, z12, z13, z14, z15, z16, z17, z18, z19, z20, z21, z22, z23]) (h := s.S q) (h1 := s.S q1) (h2 := s.S q4) (p := .int (u - 30)) (q := .int b)
      (by simp only [es2, evE, evEs, List.getElem?_cons_zero, List.getElem?_cons_succ, cl_call, e1, bin_sub]) (by
        rw [evE, l]
        simp only [es2, evE, evEs, List.getElem?_cons_zero, List.getElem?_cons_succ, cl_call, e4, hb])
    rw [evS, t]
    rfl
  rcases x01 with rfl | rfl
  · exact go (v + 1) (by simp [idxE, seqOf, ixOf]) (by omega) (by omega)
  · exact go (-1 - w) (by simp [idxE, seqOf, ixOf]) (by omega) (by omega)
theorem lt59 {x : Nat} (h : x < 2 ^ 5) : x < 2 ^ 9000 := Nat.lt_of_lt_of_le h (Nat.pow_le_pow_right (by decide) (by decide))
variable (L : Lk) (h : Hh)
theorem p3 (t b : Int) (ht : t.natAbs < 2 ^ 5) (hb : b ≠ 0) (hb2 : b.natAbs < 2 ^ 5) : evE (clN md.I 19) L c3 [z0, z1, z2, z3, some (.int t), some (.int b), z6, z7, z8, z9, z10, z11, z12, z13, z14, z15, z16, z17, z18, z19, z20, z21, z22, z23] h = .ok (.bl false) h := by
  have a1 := ratio_ok f0 18 L h t b hb (lt59 hb2)
  by_cases hp : 0 < b
  · have a2 := low_ok f21 18 L h t b.toNat (by omega) (lt59 ht) (lt59 (by omega))
    rw [show ((b.toNat : Nat) : Int) = b by omega, ← Rat.divInt_ofNat, show ((b.toNat : Nat) : Int) = b by omega] at a2
    simp only [c3, evE, evEs, List.getElem?_cons_zero, List.getElem?_cons_succ, cl_call, a1, gt_ii, decide_eq_true hp, a2, ne_same]
  · have a2 := low_ok f21 18 L h (-t) (-b).toNat (by omega) (lt59 (by omega)) (lt59 (by omega))
    rw [show (((-b).toNat : Nat) : Int) = -b by omega, ← Rat.divInt_ofNat, show (((-b).toNat : Nat) : Int) = -b by omega, Rat.neg_divInt_neg] at a2
    simp only [c3, evE, evEs, negE, List.getElem?_cons_zero, List.getElem?_cons_succ, cl_call, a1, gt_ii, decide_eq_false hp, a2, ne_same]
theorem lsum2 (a b : Rat) (ha : Bd 5 a) (hb : Bd 5 b) : callN md.I 19 22 [.lst [prq a, prq b]] L h = .ok (prq (a + b)) h := by
  have := lsum_ok (n := 5) f22 f21 17 L h (p := .lst [prq a, prq b]) (rs := [a, b]) rfl (fun y hy => by
    rcases List.mem_cons.mp hy with rfl | hy
    · exact ha
    · rw [List.mem_singleton.mp hy]; exact hb) (by show (2 + 1) * (5 + 1) + 1 ≤ 8990; decide)
  rw [show rsum [a, b] = a + b by simp [rsum_cons, rsum_nil, Rat.add_zero]] at this
  exact this
theorem p4 {a b : Rat} (ha : Bd 5 a) (hb : Bd 5 b) : evE (clN md.I 19) L c4 [z0, z1, some (prq a), some (prq b), z4, z5, z6, z7, z8, z9, z10, z11, z12, z13, z14, z15, z16, z17, z18, z19, z20, z21, z22, z23] h = .ok (.bl false) h := by
  have a1 := plus_ok f1 f0 17 L h ha hb (by decide)
  have a2 := minus_ok f2 f0 17 L h ha hb (by decide)
  have l1 := lsum2 L h a b ha hb
  have l2 := lsum2 L h a (-b) ha hb.neg
  rw [← Rat.sub_eq_add_neg] at l2
  exact x_orf (x_cmp (x_call2 rfl rfl a1) (x_call1 (x_lst2 rfl rfl) l1) (ne_same _ _)) (x_cmp (x_call2 rfl rfl a2) (x_call1 (x_lst2 rfl (ev_tup2 (x_neg (x_idx rfl rfl (ix_prq0 b h))) (x_idx rfl rfl (ix_prq1 b h)))) l2) (ne_same _ _))
theorem p5 {a b : Rat} (ha : Bd 5 a) (hb : Bd 5 b) : evE (clN md.I 19) L c5 [z0, z1, some (prq a), some (prq b), z4, z5, z6, z7, z8, z9, z10, z11, z12, z13, z14, z15, z16, z17, z18, z19, z20, z21, z22, z23] h = .ok (.bl false) h :=
  x_cmp (x_call2 rfl rfl (times_ok f3 f0 17 L h ha hb (by decide))) (x_call2 rfl rfl (ltimes_ok f23 f21 17 L h ha hb (by decide))) (ne_same _ _)
theorem ne_bl (a b : Bool) (h : Hh) : cmpE .ne (.bl a) (.bl b) h = .ok (.bl (a != b)) h := by cases a <;> cases b <;> rfl
theorem p6 {a b : Rat} (ha : Bd 5 a) (hb : Bd 5 b) : evE (clN md.I 19) L c6 [z0, z1, some (prq a), some (prq b), z4, z5, z6, z7, z8, z9, z10, z11, z12, z13, z14, z15, z16, z17, z18, z19, z20, z21, z22, z23] h = .ok (.bl false) h := by
  have l1 := isless_ok f8 18 L h ha hb (by decide)
  have l2 := lless_ok f25 18 L h ha hb (by decide)
  have last : evE (clN md.I 19) L (.cmp .ne (.call 8 (es2 (.var 2) (.var 3))) (.call 25 (es2 (.var 2) (.var 3)))) [z0, z1, some (prq a), some (prq b), z4, z5, z6, z7, z8, z9, z10, z11, z12, z13, z14, z15, z16, z17, z18, z19, z20, z21, z22, z23] h = .ok (.bl false) h := by
    refine x_cmp (x_call2 rfl rfl l1) (x_call2 rfl rfl l2) ?_
    rw [ne_bl]; simp
  by_cases z : b = 0
  · refine x_orf (x_andf (x_cmp (x_idx rfl rfl (ix_prq0 b h)) rfl ?_)) last
    rw [ne_ii, z]; rfl
  · have d1 := divided_ok f4 f0 17 L h ha hb (by decide) z
    have d2 := times_ok f3 f0 17 L h (ha.div hb) hb (by decide)
    rw [Rat.div_mul_cancel z] at d2
    refine x_orf (x_andt (x_cmp (x_idx rfl rfl (ix_prq0 b h)) rfl (r := .ok (.bl true) h) ?_) (x_cmp (x_call2 (x_call2 rfl rfl d1) rfl d2) rfl (ne_same _ _))) last
    rw [ne_ii]
    have : b.num ≠ 0 := fun q => z (Rat.num_eq_zero.mp q)
    simp [bne, this]

end
end Mini.k01

/-! L03 -/
set_option autoImplicit false
set_option Elab.async false
set_option linter.all false
set_option maxRecDepth 100000
set_option maxHeartbeats 4000000
set_option exponentiation.threshold 10000
namespace Mini.k01
open Mini
section
variable (s : St) (z0 z1 z2 z3 z4 z5 z6 z7 z8 z9 z10 z11 z12 z13 z14 z15 z16 z17 z18 z19 z20 z21 z22 z23 : Option PV)
theorem comp_draw (env : Env) (h1 : env[1]? = some (some (.ref s.r))) (Lb : List Nat) (hL : Lb = []) : ∀ (xs : List PV) (q : Int × Int × Int), ∃ (os : List Rat) (q' : Int × Int × Int), os.length = xs.length ∧ (∀ o ∈ os, o ∈ ones) ∧
    compL (.name 20) (evE (clN md.I 19) ⟨s.base, Lb⟩ (.lit (.bl true))) (evE (clN md.I 19) ⟨s.base, Lb⟩ (.call 24 (es1 (.var 1)))) env xs (s.S q) = .ok (os.map prq) (s.S q')
  | [], q => ⟨[], q, rfl, (fun o ho => by cases ho), rfl⟩
  | x :: xs, q => by
    subst hL
    obtain ⟨o, q1, m1, e1⟩ := drawn s 17 q
    obtain ⟨os, q2, m2, m3, e2⟩ := comp_draw env h1 [] rfl xs q1
    refine ⟨o :: os, q2, by simp [m2], fun y hy => ?_, ?_⟩
    · rcases List.mem_cons.mp hy with rfl | hy
      · exact m1
      · exact m3 y hy
    · have ev : evE (clN md.I 19) ⟨s.base, []⟩ (.call 24 (es1 (.var 1))) (env.set 20 (some x)) (s.S q) = .ok (prq o) (s.S q1) := x_call1 (x_var (by rw [List.getElem?_set_ne (by decide)]; exact h1)) e1
      rw [compL]
      simp only [asgT]
      rw [show evE (clN md.I 19) ⟨s.base, []⟩ (.lit (.bl true)) (env.set 20 (some x)) (s.S q) = .ok (.bl true) (s.S q) from rfl]
      dsimp only
      rw [ev]
      dsimp only
      rw [e2]
      rfl
theorem p7 (q : Int × Int × Int) : ∃ (o0 : Rat) (os : List Rat) (k : Nat) (q' : Int × Int × Int), (∀ o ∈ o0 :: os, o ∈ ones) ∧ os.length < 5 ∧ k < 7 ∧ evS (clN md.I 19) s.L s7 [z0, some (.ref s.r), z2, z3, z4, z5, z6, z7, z8, z9, z10, z11, z12, z13, z14, z15, z16, z17, z18, z19, z20, z21, z22, z23] (s.S q) = .nx [z0, some (.ref s.r), z2, z3, z4, z5, some (.lst ((o0 :: os).map prq)), some (.int (k : Int)), z8, z9, z10, z11, z12, z13, z14, z15, z16, z17, z18, z19, z20, z21, z22, z23] (s.S q') := by
  obtain ⟨v, q1, a1, a2, e1⟩ := roll s 18 q 5 (by decide) (by decide)
  obtain ⟨os, q2, b1, b2, e2⟩ := comp_draw s (wipeE [z0, some (.ref s.r), z2, z3, z4, z5, z6, z7, z8, z9, z10, z11, z12, z13, z14, z15, z16, z17, z18, z19, z20, z21, z22, z23] [20]) rfl [] rfl ((List.range (1 + v).toNat).map fun i : Nat => PV.int (0 + (i : Int))) q1
  obtain ⟨k, q3, c1, c2, e3⟩ := roll s 18 q2 7 (by decide) (by decide)
  rw [List.length_map, List.length_range] at b1
  obtain ⟨o0, os, rfl⟩ : ∃ o0 os', os = o0 :: os' := by
    cases os with
    | nil => simp at b1; omega
    | cons o0 os' => exact ⟨o0, os', rfl⟩
  refine ⟨o0, os, k.toNat, q3, b2, by simp at b1; omega, by omega, ?_⟩
  have sr := src_range (k := (1 + v).toNat) (by omega) (s.S q1)
  rw [show (((1 + v).toNat : Nat) : Int) = 1 + v by omega] at sr
  have args : evEs (clN md.I 19) s.L (es1 (.bin .add (.lit (.int 1)) (.call 18 (es2 (.var 1) (.lit (.int 5)))))) [z0, some (.ref s.r), z2, z3, z4, z5, z6, z7, z8, z9, z10, z11, z12, z13, z14, z15, z16, z17, z18, z19, z20, z21, z22, z23] (s.S q) = .ok [.int (1 + v)] (s.S q1) := by
    have : evE (clN md.I 19) s.L (.bin .add (.lit (.int 1)) (.call 18 (es2 (.var 1) (.lit (.int 5))))) [z0, some (.ref s.r), z2, z3, z4, z5, z6, z7, z8, z9, z10, z11, z12, z13, z14, z15, z16, z17, z18, z19, z20, z21, z22, z23] (s.S q) = .ok (.int (1 + v)) (s.S q1) := x_bin rfl (x_call2 rfl rfl e1) (bin_add ..)
    simp only [es1, evEs, this]
  have cm := comp_ev (C := clN md.I 19) (L := s.L) (m := false) (ws := [20]) (t := .name 20) (s := .range) (c := .lit (.bl true)) (e := .call 24 (es1 (.var 1))) (env := [z0, some (.ref s.r), z2, z3, z4, z5, z6, z7, z8, z9, z10, z11, z12, z13, z14, z15, z16, z17, z18, z19, z20, z21, z22, z23]) args sr e2 (by rw [List.length_map]; exact Nat.le_trans (Nat.le_of_eq b1) (by unfold lim; omega))
  rw [if_neg Bool.false_ne_true] at cm
  have t := ev_tup2 (C := clN md.I 19) (L := s.L) cm (x_call2 (f := 18) (a := .var 1) (b := .lit (.int 7)) rfl rfl e3)
  unfold s7
  rw [evS]
  rw [show k = ((k.toNat : Nat) : Int) by omega] at t
  simp only [es1, es2] at t
  rw [t]
  rfl
variable (L : Lk) (h : Hh)
theorem p8 : evS (clN md.I 19) L s8 [z0, z1, z2, z3, z4, z5, z6, z7, z8, z9, z10, z11, z12, z13, z14, z15, z16, z17, z18, z19, z20, z21, z22, z23] h = .nx [z0, z1, z2, z3, z4, z5, z6, z7, some (prq 1), some (prq 1), z10, z11, z12, z13, z14, z15, z16, z17, z18, z19, z20, z21, z22, z23] h := by
  have t := ev_tup2 (C := clN md.I 19) (L := L) (env := [z0, z1, z2, z3, z4, z5, z6, z7, z8, z9, z10, z11, z12, z13, z14, z15, z16, z17, z18, z19, z20, z21, z22, z23]) (h := h) (ev_tup2 (a := .lit (.int 1)) (b := .lit (.int 1)) rfl rfl) (ev_tup2 (a := .lit (.int 1)) (b := .lit (.int 1)) rfl rfl)
  unfold s8
  rw [evS]
  simp only [es2] at t
  rw [t]
  rfl
theorem p9 (o0 : Rat) (os : List Rat) (hb : ∀ o ∈ o0 :: os, Bd 5 o) (hl : os.length < 5) : ∃ z10', evS (clN md.I 19) L s9 [z0, z1, z2, z3, z4, z5, some (.lst ((o0 :: os).map prq)), z7, some (prq 1), z9, z10, z11, z12, z13, z14, z15, z16, z17, z18, z19, z20, z21, z22, z23] h = .nx [z0, z1, z2, z3, z4, z5, some (.lst ((o0 :: os).map prq)), z7, some (prq (rprod (o0 :: os))), z9, z10', z11, z12, z13, z14, z15, z16, z17, z18, z19, z20, z21, z22, z23] h := by
  have hlen : (o0 :: os).length ≤ 5 := by simp; omega
  obtain ⟨l', key⟩ := for_last (t := .name 10) (b := evSs (clN md.I 19) { L with locked := refsOf [.lst ((o0 :: os).map prq)] ++ L.locked } (.cons (.asg (.name 8) (.call 23 (es2 (.var 8) (.var 10)))) .nil)) (V := fun (st : Rat) l => [z0, z1, z2, z3, z4, z5, some (.lst ((o0 :: os).map prq)), z7, some (prq st), z9, l, z11, z12, z13, z14, z15, z16, z17, z18, z19, z20, z21, z22, z23]) (en := prq) (f := fun st y => st * y) (h := h) (I := fun st xs => ∃ pre, pre ++ xs = o0 :: os ∧ st = rprod pre)
    (fun st l y xs hi => by
      obtain ⟨pre, e1, rfl⟩ := hi
      have my : ∀ z ∈ pre ++ y :: xs, Bd 5 z := by rw [e1]; exact hb
      have bt : Bd 26 (rprod pre) := (bd_rprod (n := 5) pre fun z hz => my z (List.mem_append_left _ hz)).mono (by
        have := congrArg List.length e1
        rw [List.length_append] at this
        omega)
      have e := ltimes_ok f23 f21 17 { L with locked := refsOf [.lst ((o0 :: os).map prq)] ++ L.locked } h bt (my y (List.mem_append_right _ (List.mem_cons_self ..))) (by decide)
      exact ⟨⟨_, rfl, by rw [set1 (x_call2 rfl rfl e)]; rfl⟩, pre ++ [y], by rw [← e1]; simp, by simp [rprod]⟩) (o0 :: os) 1 z10 ⟨[], rfl, rfl⟩
  refine ⟨l', ?_⟩
  unfold s9
  rw [for_ev (ps := [.lst ((o0 :: os).map prq)]) (h' := h) rfl (src_seq rfl)]
  exact key
theorem p10 (o : Rat) (k : Nat) (hb : Bd 5 o) (hk : k < 7) : ∃ z11', evS (clN md.I 19) L s10 [z0, z1, some (prq o), z3, z4, z5, z6, some (.int (k : Int)), z8, some (prq 1), z10, z11, z12, z13, z14, z15, z16, z17, z18, z19, z20, z21, z22, z23] h = .nx [z0, z1, some (prq o), z3, z4, z5, z6, some (.int (k : Int)), z8, some (prq (o ^ k)), z10, z11', z12, z13, z14, z15, z16, z17, z18, z19, z20, z21, z22, z23] h := by
  obtain ⟨l', key⟩ := for_last (t := .name 11) (b := evSs (clN md.I 19) { L with locked := refsOf [.int k] ++ L.locked } (.cons (.asg (.name 9) (.call 23 (es2 (.var 9) (.var 2)))) .nil)) (V := fun (st : Nat) l => [z0, z1, some (prq o), z3, z4, z5, z6, some (.int (k : Int)), z8, some (prq (o ^ st)), z10, l, z12, z13, z14, z15, z16, z17, z18, z19, z20, z21, z22, z23]) (en := fun i : Nat => PV.int (0 + (i : Int))) (f := fun st y => st + 1) (h := h) (I := fun st xs => st + xs.length = k)
    (fun st l y xs hi => by
      have bt : Bd 36 (o ^ st) := (bd_pow hb st).mono (by simp at hi; omega)
      have e := ltimes_ok f23 f21 17 { L with locked := refsOf [.int k] ++ L.locked } h bt hb (by decide)
      rw [← Rat.pow_succ] at e
      exact ⟨⟨_, rfl, by rw [set1 (x_call2 rfl rfl e)]; rfl⟩, by simp at hi ⊢; omega⟩) (List.range k) 0 z11 (by simp)
  refine ⟨l', ?_⟩
  have hf : ∀ (ys : List Nat) (a : Nat), ys.foldl (fun st _ => st + 1) a = a + ys.length := by
    intro ys
    induction ys with
    | nil => intro a; rfl
    | cons y ys ih => intro a; rw [List.foldl_cons, ih, List.length_cons]; omega
  rw [hf, List.length_range, Nat.zero_add] at key
  unfold s10
  rw [for_ev (ps := [.int (k : Int)]) (h' := h) rfl (src_range (by omega) h)]
  rw [Rat.pow_zero] at key
  exact key
theorem p11 (o o0 : Rat) (os : List Rat) (k : Nat) (ho : Bd 5 o) (hb : ∀ o ∈ o0 :: os, Bd 5 o) (hl : os.length < 5) (hk : k < 7) : evE (clN md.I 19) L c11 [z0, z1, some (prq o), z3, z4, z5, some (.lst ((o0 :: os).map prq)), some (.int (k : Int)), some (prq (rprod (o0 :: os))), some (prq (o ^ k)), z10, z11, z12, z13, z14, z15, z16, z17, z18, z19, z20, z21, z22, z23] h = .ok (.bl false) h := by
  have hlen : ((o0 :: os).length + 1) * (5 + 1) + 1 ≤ 8990 := by simp; omega
  have hs : srcItems .seq [.lst ((o0 :: os).map prq)] h = some ((o0 :: os).map prq) := src_seq rfl
  have a1 := sum_ok f5 f1 f0 16 L h hs hb (by omega)
  have a2 := lsum_ok f22 f21 17 L h hs hb hlen
  have a3 := prod_ok f6 f3 f0 16 L h hs hb (by omega)
  have a4 := power_ok f7 f3 f0 16 L h k ho (by omega)
  have b4 : evE (clN md.I 19) L (.call 7 (es2 (.var 2) (.var 7))) [z0, z1, some (prq o), z3, z4, z5, some (.lst ((o0 :: os).map prq)), some (.int (k : Int)), some (prq (rprod (o0 :: os))), some (prq (o ^ k)), z10, z11, z12, z13, z14, z15, z16, z17, z18, z19, z20, z21, z22, z23] h = .ok (prq (o ^ k)) h := by
    refine x_call2 rfl rfl ?_
    exact a4
  have b5 : evE (clN md.I 19) L (.var 9) [z0, z1, some (prq o), z3, z4, z5, some (.lst ((o0 :: os).map prq)), some (.int (k : Int)), some (prq (rprod (o0 :: os))), some (prq (o ^ k)), z10, z11, z12, z13, z14, z15, z16, z17, z18, z19, z20, z21, z22, z23] h = .ok (prq (o ^ k)) h := by
    simp only [evE, List.getElem?_cons_succ, List.getElem?_cons_zero]
  have b6 := x_cmp b4 b5 (ne_same (o ^ k) h)
  exact x_orf (x_cmp (x_call1 rfl a1) (x_call1 rfl a2) (ne_same _ _)) (x_orf (x_cmp (x_call1 rfl a3) rfl (ne_same _ _)) b6)
theorem p12 (o0 : Rat) (os : List Rat) (hb : ∀ o ∈ o0 :: os, Bd 5 o) (hl : os.length < 5) : evE (clN md.I 19) L c12 [z0, z1, z2, z3, z4, z5, some (.lst ((o0 :: os).map prq)), z7, z8, z9, z10, z11, z12, z13, z14, z15, z16, z17, z18, z19, z20, z21, z22, z23] h = .ok (.bl false) h := by
  have sq : ∀ h : Hh, seqOf h (.lst ((o0 :: os).map prq)) = some ((o0 :: os).map prq) := fun h => rfl
  have lm := lmin_le (o0 :: os) o0
  have lx := lmax_le (o0 :: os) o0
  have bl : ∀ lt, Bd 5 (best lt (o0 :: os) o0) := fun lt => by
    rcases best_mem lt (o0 :: os) o0 with e | e
    · rw [e]; exact hb _ (List.mem_cons_self ..)
    · exact hb _ e
  have c := comp_filter (t := .name 10) (c := evE (clN md.I 19) { L with locked := refsOf [.lst ((o0 :: os).map prq)] ++ L.locked } (.or_ (.call 25 (es2 (.var 10) (.call 9 (es1 (.var 6))))) (.call 25 (es2 (.call 10 (es1 (.var 6))) (.var 10))))) (e := evE (clN md.I 19) { L with locked := refsOf [.lst ((o0 :: os).map prq)] ++ L.locked } (.var 10)) (env := wipeE [z0, z1, z2, z3, z4, z5, some (.lst ((o0 :: os).map prq)), z7, z8, z9, z10, z11, z12, z13, z14, z15, z16, z17, z18, z19, z20, z21, z22, z23] [10]) (en := prq) (p := fun _ => false) (f := prq) (h := h) (o0 :: os) (fun y hy => by
    refine ⟨[z0, z1, z2, z3, z4, z5, some (.lst ((o0 :: os).map prq)), z7, z8, z9, some (prq y), z11, z12, z13, z14, z15, z16, z17, z18, z19, z20, z21, z22, z23], rfl, ?_, fun q => by cases q⟩
    have l1 := least_ok f9 f8 17 { L with locked := refsOf [.lst ((o0 :: os).map prq)] ++ L.locked } h (sq h) hb (by decide)
    have l2 := most_ok f10 f8 17 { L with locked := refsOf [.lst ((o0 :: os).map prq)] ++ L.locked } h (sq h) hb (by decide)
    have g1 := lless_ok f25 18 { L with locked := refsOf [.lst ((o0 :: os).map prq)] ++ L.locked } h (hb y hy) (bl (fun r f => decide (r < f))) (by decide)
    have g2 := lless_ok f25 18 { L with locked := refsOf [.lst ((o0 :: os).map prq)] ++ L.locked } h (bl (fun r f => decide (f < r))) (hb y hy) (by decide)
    rw [decide_eq_false (Rat.not_lt.mpr (lm.2 y hy))] at g1
    rw [decide_eq_false (Rat.not_lt.mpr (lx.2 y hy))] at g2
    exact x_orf (x_call2 rfl (x_call1 rfl l1) g1) (x_call2 (x_call1 rfl l2) rfl g2))
  rw [show (o0 :: os).filter (fun _ => false) = [] by simp, List.map_nil] at c
  have cm := comp_ev (C := clN md.I 19) (L := L) (m := false) (ws := [10]) (t := .name 10) (s := .seq) (es := es1 (.var 6)) (env := [z0, z1, z2, z3, z4, z5, some (.lst ((o0 :: os).map prq)), z7, z8, z9, z10, z11, z12, z13, z14, z15, z16, z17, z18, z19, z20, z21, z22, z23]) (h := h) (ps := [.lst ((o0 :: os).map prq)]) rfl (src_seq rfl) c (Nat.zero_le _)
  rw [if_neg Bool.false_ne_true] at cm
  exact x_cmp cm x_lst0 rfl
theorem memE_prq (m : Rat) : ∀ rs : List Rat, m ∈ rs → memE (prq m) (rs.map prq) = true
  | [], h => by cases h
  | r :: rs, h => by
    rw [List.map_cons, memE, eqv_prq]
    rcases List.mem_cons.mp h with rfl | h
    · simp
    · rw [memE_prq m rs h, Bool.or_true]
theorem notin_prq {m : Rat} {rs : List Rat} (hm : m ∈ rs) (h : Hh) : cmpE .notin (prq m) (.lst (rs.map prq)) h = .ok (.bl false) h := by
  have fl : flats (rs.map prq) = true := by
    unfold flats
    rw [List.all_map, List.all_eq_true]
    exact fun y _ => flat_prq y
  simp only [cmpE, view, inE, flat_prq, fl, Bool.and_true, if_true, memE_prq m rs hm, Bool.not_true]
theorem p13 (o0 : Rat) (os : List Rat) (hb : ∀ o ∈ o0 :: os, Bd 5 o) : evE (clN md.I 19) L c13 [z0, z1, z2, z3, z4, z5, some (.lst ((o0 :: os).map prq)), z7, z8, z9, z10, z11, z12, z13, z14, z15, z16, z17, z18, z19, z20, z21, z22, z23] h = .ok (.bl false) h := by
  have sq : ∀ h : Hh, seqOf h (.lst ((o0 :: os).map prq)) = some ((o0 :: os).map prq) := fun h => rfl
  have l1 := least_ok f9 f8 17 L h (sq h) hb (by decide)
  have l2 := most_ok f10 f8 17 L h (sq h) hb (by decide)
  have bm : ∀ lt, best lt (o0 :: os) o0 ∈ o0 :: os := fun lt => by
    rcases best_mem lt (o0 :: os) o0 with e | e
    · rw [e]; exact List.mem_cons_self ..
    · exact e
  exact x_orf (x_cmp (x_call1 rfl l1) rfl (notin_prq (bm _) h)) (x_cmp (x_call1 rfl l2) rfl (notin_prq (bm _) h))
end
end Mini.k01

/-! L04 -/
set_option autoImplicit false
set_option Elab.async false
set_option linter.all false
set_option maxRecDepth 100000
set_option maxHeartbeats 4000000
namespace Mini.k01
open Mini
section
variable (z0 z1 z2 z3 z4 z5 z6 z7 z8 z9 z10 z11 z12 z13 z14 z15 z16 z17 z18 z19 z20 z21 z22 z23 : Option PV) (L : Lk) (h : Hh)
theorem t15 : ones.map (fun o => evE (clN md.I 19) L c15 [z0, z1, some (prq o), z3, z4, z5, z6, z7, z8, z9, z10, z11, some (txt o), z13, z14, z15, z16, z17, z18, z19, z20, z21, z22, z23] h) = ones.map fun o => .ok (.bl false) h := by kernel_rfl
theorem t16 : ones.map (fun o => evE (clN md.I 19) L c16 [z0, z1, some (prq o), z3, z4, z5, z6, z7, z8, z9, z10, z11, z12, z13, z14, z15, z16, z17, z18, z19, z20, z21, z22, z23] h) = ones.map fun o => .ok (.bl false) h := by kernel_rfl
theorem t17 : ones.map (fun o => evS (clN md.I 19) L s17 [z0, z1, some (prq o), z3, z4, z5, z6, z7, z8, z9, z10, z11, z12, z13, z14, z15, z16, z17, z18, z19, z20, z21, z22, z23] h) = ones.map fun o => .nx [z0, z1, some (prq o), z3, z4, z5, z6, z7, z8, z9, z10, z11, z12, some (near o), z14, z15, z16, z17, z18, z19, z20, z21, z22, z23] h := by kernel_rfl
theorem t18 : ones.map (fun o => evE (clN md.I 19) L c18 [z0, z1, some (prq o), z3, z4, z5, z6, z7, z8, z9, z10, z11, z12, some (near o), z14, z15, z16, z17, z18, z19, z20, z21, z22, z23] h) = ones.map fun o => .ok (.bl false) h := by kernel_rfl
theorem t26 : ones.map (fun o => evE (clN md.I 19) L c26 [z0, z1, some (prq o), z3, z4, z5, z6, z7, z8, z9, z10, z11, z12, z13, z14, z15, z16, z17, z18, z19, z20, z21, z22, z23] h) = ones.map fun o => .ok (.bl false) h := by kernel_rfl
theorem plain0 (y : Ob) : callN md.I 19 26 [] L [y] = .ok (.bl true) [y] := by kernel_rfl
theorem plain1 (x y : Ob) : callN md.I 19 26 [] L [x, y] = .ok (.bl true) [x, y] := by kernel_rfl
end
end Mini.k01

/-! Rt9 -/
set_option autoImplicit false
set_option linter.all false
set_option maxRecDepth 100000
set_option exponentiation.threshold 10000
namespace Mini

/-! ### weights as parts, in plain arithmetic -/
theorem divInt_scale (w S : Int) (hS : 0 < S) : ∃ m : Int, 0 < m ∧ w = (Rat.divInt w S).num * m ∧ S = ((Rat.divInt w S).den : Int) * m := by
  obtain ⟨n, hn⟩ := Int.eq_ofNat_of_zero_le (show 0 ≤ S by omega)
  subst hn
  have n0 : n ≠ 0 := by omega
  rw [Rat.divInt_ofNat]
  obtain ⟨m, m0, e1, e2⟩ := Rat.mkRat_num_den n0 (show mkRat w n = ⟨(mkRat w n).num, (mkRat w n).den, (mkRat w n).den_nz, (mkRat w n).reduced⟩ from rfl)
  exact ⟨m, by omega, e1, by rw [← Int.natCast_mul, ← e2]⟩
theorem fl_eq (W w S : Int) (hS : 0 < S) : fl W (Rat.divInt w S) = (W * w).fdiv S := by
  obtain ⟨m, hm, e1, e2⟩ := divInt_scale w S hS
  have hd : (0 : Int) < (Rat.divInt w S).den := by have := (Rat.divInt w S).den_pos; omega
  unfold fl
  rw [Int.fdiv_eq_ediv_of_nonneg _ (by omega), Int.fdiv_eq_ediv_of_nonneg _ (by omega)]
  generalize (Rat.divInt w S).num = n' at *
  generalize ((Rat.divInt w S).den : Int) = d' at *
  have : W * w = W * n' * m := by rw [Int.mul_assoc, ← e1]
  rw [this, e2, Int.mul_ediv_mul_of_pos_left _ _ hm]
theorem lo_eq (W w S : Int) (hS : 0 < S) : lo W (Rat.divInt w S) = Rat.divInt ((W * w).fmod S) S := by
  have ef := fl_eq W w S hS
  obtain ⟨m, hm, e1, e2⟩ := divInt_scale w S hS
  unfold lo
  rw [ef, Int.mul_one, Int.mul_one]
  generalize (Rat.divInt w S).num = n' at *
  generalize ((Rat.divInt w S).den : Int) = d' at *
  have e3 : (W * w).fmod S = W * w - S * (W * w).fdiv S := by
    have := Int.mul_fdiv_add_fmod (W * w) S
    omega
  rw [e3]
  have e4 : W * w - S * (W * w).fdiv S = (W * n' - (W * w).fdiv S * d') * m := by
    have a1 : W * w = W * n' * m := by rw [Int.mul_assoc, ← e1]
    have a2 : S * (W * w).fdiv S = (W * w).fdiv S * d' * m := by
      rw [Int.mul_comm S, Int.mul_assoc ((W * w).fdiv S), ← e2]
    rw [Int.sub_mul, ← a2, ← a1]
  rw [e4]
  conv => rhs; arg 2; rw [e2]
  rw [Rat.divInt_mul_right (by omega)]
theorem divInt_le_iff {S : Int} (hS : 0 < S) (x y : Int) : Rat.divInt x S ≤ Rat.divInt y S ↔ x ≤ y := by
  have hp : (0 : Rat) < (S : Rat)⁻¹ := Rat.inv_pos.mpr (Rat.intCast_pos.mpr hS)
  rw [Rat.divInt_eq_div, Rat.divInt_eq_div, Rat.div_def, Rat.div_def, ← Rat.not_lt, Rat.mul_lt_mul_right hp, Rat.intCast_lt_intCast]
  omega
theorem rsum_divInt {S : Int} (hS : S ≠ 0) : ∀ ws : List Int, rsum (ws.map fun w => Rat.divInt w S) = Rat.divInt ws.sum S
  | [] => by simp [rsum_nil]
  | w :: ws => by
    rw [List.map_cons, rsum_cons, rsum_divInt hS ws, List.sum_cons, Rat.divInt_add_divInt _ _ hS hS, ← Int.add_mul, Rat.divInt_mul_right hS]
theorem parts_one {ws : List Int} (hS : ws.sum ≠ 0) : rsum (ws.map fun w => Rat.divInt w ws.sum) = 1 := by
  rw [rsum_divInt hS, Rat.divInt_self' hS]
theorem sum_set (k : Nat) : ∀ (xs : List Int), k < xs.length → (xs.set k (xs.getD k 0 + 1)).sum = xs.sum + 1 := by
  induction k with
  | zero =>
    intro xs h
    cases xs with
    | nil => simp at h
    | cons x xs => simp; omega
  | succ k ih =>
    intro xs h
    cases xs with
    | nil => simp at h
    | cons x xs =>
      have := ih xs (by simpa using h)
      simp at this ⊢
      omega
theorem shRun_sum : ∀ (c : Nat) (s : List Int × List Rat), s.1.length = s.2.length → s.2 ≠ [] → (shRun c s).1.sum = s.1.sum + c
  | 0, s, _, _ => by simp [shRun]
  | c + 1, s, hl, hn => by
    obtain ⟨l1, l2⟩ := shStep_len s
    rw [shRun, shRun_sum c (shStep s) (by rw [l1, l2]; exact hl) (fun z => hn (by
      have := congrArg List.length z
      rw [l2] at this
      exact List.length_eq_zero_iff.mp this))]
    have : (shStep s).1.sum = s.1.sum + 1 := sum_set (ixMax s.2) s.1 (by rw [hl]; exact ixMax_lt hn)
    omega
/-- what is left over is less than the rows -/
theorem left_over {S W : Int} (hS : 0 < S) : ∀ ws : List Int, W * ws.sum - S * (ws.map fun w => (W * w).fdiv S).sum = (ws.map fun w => (W * w).fmod S).sum ∧ 0 ≤ (ws.map fun w => (W * w).fmod S).sum ∧ (ws.map fun w => (W * w).fmod S).sum ≤ ws.length * (S - 1)
  | [] => by simp
  | w :: ws => by
    obtain ⟨h1, h2, h3⟩ := left_over (W := W) hS ws
    have a := Int.mul_fdiv_add_fmod (W * w) S
    have b : 0 ≤ (W * w).fmod S ∧ (W * w).fmod S < S := by
      rw [Int.fmod_eq_emod_of_nonneg _ (by omega)]
      exact ⟨Int.emod_nonneg _ (by omega), Int.emod_lt_of_pos _ hS⟩
    simp only [List.map_cons, List.sum_cons, List.length_cons]
    refine ⟨?_, by omega, ?_⟩
    · rw [Int.mul_add, Int.mul_add]; omega
    · rw [Int.natCast_add, Int.add_mul]; omega
theorem left_nat {S W : Int} {ws : List Int} (hS : 0 < S) (e : ws.sum = S) (hne : ws ≠ []) : ∃ c : Nat, W - (ws.map fun w => (W * w).fdiv S).sum = c ∧ c ≤ ws.length := by
  obtain ⟨h1, h2, h3⟩ := left_over (W := W) hS ws
  rw [e] at h1
  obtain ⟨X, hX⟩ : ∃ X, W - (ws.map fun w => (W * w).fdiv S).sum = X := ⟨_, rfl⟩
  have h4 : S * X = (ws.map fun w => (W * w).fmod S).sum := by
    rw [← hX, Int.mul_sub, Int.mul_comm S W]; omega
  have x0 : 0 ≤ X := by
    refine Classical.byContradiction fun z => ?_
    have : S * X ≤ S * (-1) := Int.mul_le_mul_of_nonneg_left (by omega) (by omega)
    omega
  have xn : X ≤ ws.length := by
    refine Classical.byContradiction fun z => ?_
    have a1 : S * ((ws.length : Int) + 1) ≤ S * X := Int.mul_le_mul_of_nonneg_left (by omega) (by omega)
    have a2 : (ws.length : Int) * (S - 1) ≤ S * (ws.length + 1) := by
      rw [Int.mul_sub, Int.mul_add, Int.mul_comm S]; omega
    have a3 : S * ((ws.length : Int) + 1) = ws.length * S + S := by rw [Int.mul_add, Int.mul_comm S]; omega
    have a4 : (ws.length : Int) * (S - 1) = ws.length * S - ws.length := by rw [Int.mul_sub]; omega
    omega
  exact ⟨X.toNat, by omega, by omega⟩
/-! ### lists as data -/
theorem eqvs_refl : ∀ {ps : List PV}, (∀ p ∈ ps, eqv p p = true) → eqvs ps ps = true
  | [], _ => rfl
  | p :: ps, h => by rw [eqvs, h p (List.mem_cons_self ..), eqvs_refl fun q hq => h q (List.mem_cons_of_mem _ hq)]; rfl
theorem ne_lst (ps : List PV) (h : Hh) (h1 : ∀ p ∈ ps, flatN 23 p = true ∧ eqv p p = true) : cmpE .ne (.lst ps) (.lst ps) h = .ok (.bl false) h := by
  have f : flat (.lst ps) = true := by
    unfold flat
    simp only [flatN, List.all_eq_true]
    exact fun p hp => (h1 p hp).1
  have e : eqv (.lst ps) (.lst ps) = true := by rw [eqv]; exact eqvs_refl fun p hp => (h1 p hp).2
  simp only [cmpE, view, f, e, Bool.and_true, if_true, Bool.not_true]
theorem int_flat (i : Int) : flatN 23 (.int i) = true ∧ eqv (.int i) (.int i) = true := ⟨rfl, by simp [eqv]⟩
theorem prq_flat (r : Rat) : flatN 23 (prq r) = true ∧ eqv (prq r) (prq r) = true := ⟨rfl, by rw [eqv_prq]; simp⟩
theorem enumP_map {α : Type} (en : α → PV) : ∀ (xs : List α) (k : Nat), enumP (k : Int) (xs.map en) = (xs.zipIdx k).map fun q => .tup [.int q.2, en q.1]
  | [], k => rfl
  | x :: xs, k => by
    rw [List.map_cons, enumP, List.zipIdx_cons, List.map_cons, show (k : Int) + 1 = ((k + 1 : Nat) : Int) by omega, enumP_map en xs (k + 1)]
theorem src_enum {α : Type} (en : α → PV) {h : Hh} {p : PV} {xs : List α} (e : view h p = .lst (xs.map en)) : srcItems .enum [p] h = some (xs.zipIdx.map fun q => .tup [.int q.2, en q.1]) := by
  simp only [srcItems, e]
  rw [show (0 : Int) = ((0 : Nat) : Int) by rfl, enumP_map]
/-- sorted, of pairs -/
theorem sorted_keys (ks : List (Int × Nat)) (hl : ks.length ≤ lim) (L : Lk) (h : Hh) : primE .sorted [.lst (ks.map enk)] L h = .ok (.lst ((isortB klt ks).map enk)) h := by
  have a1 : flats (ks.map enk) = true := by
    unfold flats; rw [List.all_map, List.all_eq_true]; intro x _; rfl
  have a2 : allAlike (ks.map enk) = true := by
    unfold allAlike
    rw [List.all_map, List.all_eq_true]
    intro x _
    show List.all (ks.map enk) (alike (enk x)) = true
    rw [List.all_map, List.all_eq_true]
    intro y _
    rfl
  have a3 : sortable (ks.map enk) = true := by
    unfold sortable
    rw [Bool.or_eq_true]
    left
    rw [List.all_map, List.all_eq_true]
    intro x _
    rfl
  have a4 : decide ((ks.map enk).length ≤ lim) = true := decide_eq_true (by rw [List.length_map]; exact hl)
  simp only [primE, view, a1, a2, a3, a4, Bool.and_true, if_true, isort_map plt_enk]
theorem sli_take {α : Type} (en : α → PV) (xs : List α) (c : Nat) (h : Hh) : sliE (.lst (xs.map en)) .non (.int c) h = .ok (.lst ((xs.take c).map en)) h := by
  have b0 : bnd (xs.map en).length 0 .non = some 0 := rfl
  have b1 : bnd (xs.map en).length (xs.map en).length (.int (c : Int)) = some (min c (xs.map en).length) := by simp [bnd]; omega
  have e : cut (xs.map en) 0 (min c (xs.map en).length) = (xs.take c).map en := by
    unfold cut
    rw [List.drop_zero, Nat.sub_zero, List.length_map, ← List.map_take]
    congr 1
    by_cases l : c ≤ xs.length
    · rw [Nat.min_eq_left l]
    · rw [Nat.min_eq_right (by omega), List.take_length, List.take_of_length_le (by omega)]
  simp only [sliE, view, b0, b1, e]
theorem memE_int (k : Nat) : ∀ ps : List Nat, memE (.int k) (ps.map fun p : Nat => PV.int p) = ps.contains k
  | [] => rfl
  | p :: ps => by
    rw [List.map_cons, memE, memE_int k ps, eqv_int, List.contains_cons]
    congr 1
    rw [Bool.eq_iff_iff]
    simp
    omega
end Mini

/-! L05 -/
set_option autoImplicit false
set_option Elab.async false
set_option linter.all false
set_option maxRecDepth 100000
set_option maxHeartbeats 4000000
set_option exponentiation.threshold 10000
namespace Mini.k01
open Mini
section
variable (s : St) (z0 z1 z2 z3 z4 z5 z6 z7 z8 z9 z10 z11 z12 z13 z14 z15 z16 z17 z18 z19 z20 z21 z22 z23 : Option PV)
theorem comp_roll (env : Env) (h1 : env[1]? = some (some (.ref s.r))) (Lb : List Nat) (hL : Lb = []) : ∀ (xs : List PV) (q : Int × Int × Int), ∃ (ws : List Int) (q' : Int × Int × Int), ws.length = xs.length ∧ (∀ w ∈ ws, 0 ≤ w ∧ w < 9) ∧
    compL (.name 20) (evE (clN md.I 19) ⟨s.base, Lb⟩ (.lit (.bl true))) (evE (clN md.I 19) ⟨s.base, Lb⟩ (.call 18 (es2 (.var 1) (.lit (.int 9))))) env xs (s.S q) = .ok (ws.map .int) (s.S q')
  | [], q => ⟨[], q, rfl, (fun o ho => by cases ho), rfl⟩
  | x :: xs, q => by
    subst hL
    obtain ⟨v, q1, m1, m2, e1⟩ := roll s 18 q 9 (by decide) (by decide)
    obtain ⟨ws, q2, m3, m4, e2⟩ := comp_roll env h1 [] rfl xs q1
    refine ⟨v :: ws, q2, by simp [m3], fun y hy => ?_, ?_⟩
    · rcases List.mem_cons.mp hy with rfl | hy
      · exact ⟨m1, m2⟩
      · exact m4 y hy
    · have ev : evE (clN md.I 19) ⟨s.base, []⟩ (.call 18 (es2 (.var 1) (.lit (.int 9)))) (env.set 20 (some x)) (s.S q) = .ok (.int v) (s.S q1) := x_call2 (x_var (by rw [List.getElem?_set_ne (by decide)]; exact h1)) rfl e1
      rw [compL]
      simp only [asgT]
      rw [show evE (clN md.I 19) ⟨s.base, []⟩ (.lit (.bl true)) (env.set 20 (some x)) (s.S q) = .ok (.bl true) (s.S q) from rfl]
      dsimp only
      rw [ev]
      dsimp only
      rw [e2]
      rfl
/-- weights, whole -/
theorem p19 (q : Int × Int × Int) : ∃ (ws : List Int) (W : Int) (q' : Int × Int × Int), ws ≠ [] ∧ ws.length ≤ 5 ∧ (∀ w ∈ ws, 0 ≤ w ∧ w < 10) ∧ 0 < ws.sum ∧ ws.sum < 50 ∧ 0 ≤ W ∧ W < 60 ∧ evS (clN md.I 19) s.L s19 [z0, some (.ref s.r), z2, z3, z4, z5, z6, z7, z8, z9, z10, z11, z12, z13, z14, z15, z16, z17, z18, z19, z20, z21, z22, z23] (s.S q) = .nx [z0, some (.ref s.r), z2, z3, z4, z5, z6, z7, z8, z9, z10, z11, z12, z13, some (.lst (ws.map .int)), some (.int W), z16, z17, z18, z19, z20, z21, z22, z23] (s.S q') := by
  obtain ⟨n, q1, a1, a2, e1⟩ := roll s 18 q 5 (by decide) (by decide)
  obtain ⟨vs, q2, b1, b2, e2⟩ := comp_roll s (wipeE [z0, some (.ref s.r), z2, z3, z4, z5, z6, z7, z8, z9, z10, z11, z12, z13, z14, z15, z16, z17, z18, z19, z20, z21, z22, z23] [20]) rfl [] rfl ((List.range n.toNat).map fun i : Nat => PV.int (0 + (i : Int))) q1
  obtain ⟨u, q3, c1, c2, e3⟩ := roll s 18 q2 9 (by decide) (by decide)
  obtain ⟨W, q4, d1, d2, e4⟩ := roll s 18 q3 60 (by decide) (by decide)
  rw [List.length_map, List.length_range] at b1
  have sumb : ∀ vs : List Int, (∀ w ∈ vs, 0 ≤ w ∧ w < 9) → 0 ≤ vs.sum ∧ vs.sum ≤ 8 * vs.length := by
    intro vs
    induction vs with
    | nil => intro _; simp
    | cons v vs ih =>
      intro h
      have := ih fun w hw => h w (List.mem_cons_of_mem _ hw)
      have := h v (List.mem_cons_self ..)
      simp only [List.sum_cons, List.length_cons]
      omega
  have sb := sumb vs b2
  refine ⟨vs ++ [1 + u], W, q4, by simp, by simp; omega, fun w hw => ?_, by simp; omega, by simp; omega, d1, d2, ?_⟩
  · rcases List.mem_append.mp hw with h | h
    · have := b2 w h; omega
    · rw [List.mem_singleton.mp h]; omega
  have sr := src_range (k := n.toNat) (by omega) (s.S q1)
  rw [show ((n.toNat : Nat) : Int) = n by omega] at sr
  have ca : evE (clN md.I 19) s.L (.call 18 (es2 (.var 1) (.lit (.int 5)))) [z0, some (.ref s.r), z2, z3, z4, z5, z6, z7, z8, z9, z10, z11, z12, z13, z14, z15, z16, z17, z18, z19, z20, z21, z22, z23] (s.S q) = .ok (.int n) (s.S q1) := x_call2 rfl rfl e1
  have args : evEs (clN md.I 19) s.L (es1 (.call 18 (es2 (.var 1) (.lit (.int 5))))) [z0, some (.ref s.r), z2, z3, z4, z5, z6, z7, z8, z9, z10, z11, z12, z13, z14, z15, z16, z17, z18, z19, z20, z21, z22, z23] (s.S q) = .ok [.int n] (s.S q1) := by
    simp only [es1, evEs, ca]
  have cm := comp_ev (C := clN md.I 19) (L := s.L) (m := false) (ws := [20]) (t := .name 20) (s := .range) (c := .lit (.bl true)) (e := .call 18 (es2 (.var 1) (.lit (.int 9)))) (env := [z0, some (.ref s.r), z2, z3, z4, z5, z6, z7, z8, z9, z10, z11, z12, z13, z14, z15, z16, z17, z18, z19, z20, z21, z22, z23]) args sr e2 (by rw [List.length_map]; exact Nat.le_trans (Nat.le_of_eq b1) (by unfold lim; omega))
  rw [if_neg Bool.false_ne_true] at cm
  have ad : binE .add (.lst (vs.map .int)) (.lst [.int (1 + u)]) (s.S q3) = .ok (.lst ((vs ++ [1 + u]).map .int)) (s.S q3) := by
    simp only [binE, view]
    rw [if_pos (by simp; unfold lim; omega), List.map_append]
    rfl
  have t := ev_tup2 (C := clN md.I 19) (L := s.L) (x_bin cm (x_lst1 (x_bin (a := .lit (.int 1)) (b := .call 18 (es2 (.var 1) (.lit (.int 9)))) rfl (x_call2 rfl rfl e3) (bin_add ..))) ad) (x_call2 (f := 18) (a := .var 1) (b := .lit (.int 60)) rfl rfl e4)
  unfold s19
  rw [evS]
  simp only [es1, es2] at t
  rw [t]
  rfl
variable (L : Lk) (h : Hh)
section
variable (ws : List Int) (hne : ws ≠ []) (hl : ws.length ≤ 5) (hw : ∀ w ∈ ws, 0 ≤ w ∧ w < 10) (hS : 0 < ws.sum) (hS2 : ws.sum < 50)
include hne hl hw hS hS2
theorem p20 : evS (clN md.I 19) L s20 [z0, z1, z2, z3, z4, z5, z6, z7, z8, z9, z10, z11, z12, z13, some (.lst (ws.map .int)), z15, z16, z17, z18, z19, z20, z21, z22, z23] h = .nx [z0, z1, z2, z3, z4, z5, z6, z7, z8, z9, z10, z11, z12, z13, some (.lst (ws.map .int)), z15, some (.tup ((ws.map fun w => Rat.divInt w ws.sum).map prq)), z17, z18, z19, z20, z21, z22, z23] h := by
  obtain ⟨w0, ws, rfl⟩ : ∃ a b, ws = a :: b := by
    cases ws with
    | nil => exact absurd rfl hne
    | cons a b => exact ⟨a, b, rfl⟩
  have e := evened_ok f15 f0 17 L h (p := .lst ((w0 :: ws).map .int)) rfl (fun w h => (hw w h).1) hS (Nat.lt_of_lt_of_le (show (w0 :: ws).sum.natAbs < 2 ^ 6 by omega) (Nat.pow_le_pow_right (by decide) (by decide))) (by unfold lim; omega)
  have : ((w0 :: ws).map fun w => prq (Rat.divInt w (w0 :: ws).sum)) = ((w0 :: ws).map fun w => Rat.divInt w (w0 :: ws).sum).map prq := by rw [List.map_map]; rfl
  rw [this] at e
  have x := x_call1 (a := .var 14) (env := [z0, z1, z2, z3, z4, z5, z6, z7, z8, z9, z10, z11, z12, z13, some (.lst ((w0 :: ws).map .int)), z15, z16, z17, z18, z19, z20, z21, z22, z23]) (L := L) (h := h) rfl e
  unfold s20
  rw [evS, x]
  rfl
theorem bd6 : ∀ y ∈ ws.map fun w => Rat.divInt w ws.sum, Bd 6 y := by
  intro y hy
  obtain ⟨w, hw', rfl⟩ := List.mem_map.mp hy
  have := hw w hw'
  exact Bd.divInt (by omega) (show w.natAbs < 64 by omega) (show ws.sum.natAbs < 64 by omega)
theorem p21 : evE (clN md.I 19) L c21 [z0, z1, z2, z3, z4, z5, z6, z7, z8, z9, z10, z11, z12, z13, some (.lst (ws.map .int)), z15, some (.tup ((ws.map fun w => Rat.divInt w ws.sum).map prq)), z17, z18, z19, z20, z21, z22, z23] h = .ok (.bl false) h := by
  have a1 := sum_ok (n := 6) f5 f1 f0 16 L h (p := .tup ((ws.map fun w => Rat.divInt w ws.sum).map prq)) (rs := ws.map fun w => Rat.divInt w ws.sum) (src_seq rfl) (bd6 ws hne hl hw hS hS2) (by
    rw [List.length_map]
    have : (ws.length + 1) * (6 + 1) ≤ 6 * 7 := Nat.mul_le_mul_right _ (by omega)
    omega)
  rw [parts_one (by omega)] at a1
  have c' : compL (.name 21) (evE (clN md.I 19) { L with locked := refsOf [.lst (ws.map .int)] ++ L.locked } (.lit (.bl true))) (evE (clN md.I 19) { L with locked := refsOf [.lst (ws.map .int)] ++ L.locked } (.call 21 (es2 (.var 21) (.prim .sum (es1 (.var 14)))))) (wipeE [z0, z1, z2, z3, z4, z5, z6, z7, z8, z9, z10, z11, z12, z13, some (.lst (ws.map .int)), z15, some (.tup ((ws.map fun w => Rat.divInt w ws.sum).map prq)), z17, z18, z19, z20, z21, z22, z23] [21]) (ws.map .int) h = .ok ((ws.map fun w => Rat.divInt w ws.sum).map prq) h := by
    have c2 := comp_map (t := .name 21) (c := evE (clN md.I 19) { L with locked := refsOf [.lst (ws.map .int)] ++ L.locked } (.lit (.bl true))) (e := evE (clN md.I 19) { L with locked := refsOf [.lst (ws.map .int)] ++ L.locked } (.call 21 (es2 (.var 21) (.prim .sum (es1 (.var 14)))))) (env := wipeE [z0, z1, z2, z3, z4, z5, z6, z7, z8, z9, z10, z11, z12, z13, some (.lst (ws.map .int)), z15, some (.tup ((ws.map fun w => Rat.divInt w ws.sum).map prq)), z17, z18, z19, z20, z21, z22, z23] [21]) (en := PV.int) (f := fun w => prq (Rat.divInt w ws.sum)) (h := h) ws (fun w hw' => by
      have := hw w hw'
      refine ⟨[z0, z1, z2, z3, z4, z5, z6, z7, z8, z9, z10, z11, z12, z13, some (.lst (ws.map .int)), z15, some (.tup ((ws.map fun w => Rat.divInt w ws.sum).map prq)), z17, z18, z19, z20, some (.int w), z22, z23], rfl, rfl, ?_⟩
      have l := low_ok f21 18 { L with locked := refsOf [.lst (ws.map .int)] ++ L.locked } h w ws.sum.toNat (by omega) (lt59 (by omega)) (Nat.lt_of_lt_of_le (show ws.sum.toNat < 2 ^ 6 by omega) (Nat.pow_le_pow_right (by decide) (by decide)))
      rw [← Rat.divInt_ofNat, show ((ws.sum.toNat : Nat) : Int) = ws.sum by omega] at l
      exact x_call2 rfl (x_prim1 (p := .lst (ws.map .int)) rfl (sum_seq rfl)) l)
    exact c2.trans (congrArg (fun l => Rs.ok l h) (by rw [List.map_map]; rfl))
  have cm := comp_ev (C := clN md.I 19) (L := L) (m := false) (ws := [21]) (t := .name 21) (s := .seq) (es := es1 (.var 14)) (env := [z0, z1, z2, z3, z4, z5, z6, z7, z8, z9, z10, z11, z12, z13, some (.lst (ws.map .int)), z15, some (.tup ((ws.map fun w => Rat.divInt w ws.sum).map prq)), z17, z18, z19, z20, z21, z22, z23]) (h := h) (ps := [.lst (ws.map .int)]) rfl (src_seq rfl) c' (by rw [List.length_map, List.length_map]; unfold lim; omega)
  rw [if_neg Bool.false_ne_true] at cm
  refine x_orf (x_cmp (x_prim1 rfl (list_seq rfl)) cm (ne_lst _ h fun p hp => ?_)) (x_cmp (x_call1 rfl a1) (ev_tup2 rfl rfl) (ne_same 1 h))
  obtain ⟨r, _, rfl⟩ := List.mem_map.mp hp
  exact prq_flat r
variable (W : Int) (hW0 : 0 ≤ W) (hW : W < 60)
include hW0 hW
theorem mulW {w : Int} (h : 0 ≤ w ∧ w < 10) : mulOk W w = true := mul_ok (.inr (Nat.lt_of_lt_of_le (show w.natAbs < 2 ^ 5 by omega) (by decide)))
theorem p22 : evS (clN md.I 19) L s22 [z0, z1, z2, z3, z4, z5, z6, z7, z8, z9, z10, z11, z12, z13, some (.lst (ws.map .int)), some (.int W), z16, z17, z18, z19, z20, z21, z22, z23] h = .nx [z0, z1, z2, z3, z4, z5, z6, z7, z8, z9, z10, z11, z12, z13, some (.lst (ws.map .int)), some (.int W), z16, some (.lst ((ws.map fun w => (W * w).fdiv ws.sum).map .int)), some (.lst ((keysOf (ws.map fun w => (W * w).fmod ws.sum)).map enk)), z19, z20, z21, z22, z23] h := by
  have s0 : ws.sum ≠ 0 := by omega
  have sl : ws.sum.natAbs.log2 < 9000 := by
    have := log2_small (b := 6) (show ws.sum.natAbs < 2 ^ 6 by omega) (by decide)
    omega
  have c1 := comp_map (t := .name 21) (c := evE (clN md.I 19) { L with locked := refsOf [.lst (ws.map .int)] ++ L.locked } (.lit (.bl true))) (e := evE (clN md.I 19) { L with locked := refsOf [.lst (ws.map .int)] ++ L.locked } (.bin .fdiv (.bin .mul (.var 15) (.var 21)) (.prim .sum (es1 (.var 14))))) (env := wipeE [z0, z1, z2, z3, z4, z5, z6, z7, z8, z9, z10, z11, z12, z13, some (.lst (ws.map .int)), some (.int W), z16, z17, z18, z19, z20, z21, z22, z23] [21]) (en := PV.int) (f := fun w => PV.int ((W * w).fdiv ws.sum)) (h := h) ws (fun w hw' =>
    ⟨[z0, z1, z2, z3, z4, z5, z6, z7, z8, z9, z10, z11, z12, z13, some (.lst (ws.map .int)), some (.int W), z16, z17, z18, z19, z20, some (.int w), z22, z23], rfl, rfl, x_bin (x_bin rfl rfl (bin_mul (mulW ws hne hl hw hS hS2 W hW0 hW (hw w hw')) h)) (x_prim1 (p := .lst (ws.map .int)) rfl (sum_seq rfl)) (bin_fdiv s0 sl h)⟩)
  have c1' : compL (.name 21) (evE (clN md.I 19) { L with locked := refsOf [.lst (ws.map .int)] ++ L.locked } (.lit (.bl true))) (evE (clN md.I 19) { L with locked := refsOf [.lst (ws.map .int)] ++ L.locked } (.bin .fdiv (.bin .mul (.var 15) (.var 21)) (.prim .sum (es1 (.var 14))))) (wipeE [z0, z1, z2, z3, z4, z5, z6, z7, z8, z9, z10, z11, z12, z13, some (.lst (ws.map .int)), some (.int W), z16, z17, z18, z19, z20, z21, z22, z23] [21]) (ws.map .int) h = .ok ((ws.map fun w => (W * w).fdiv ws.sum).map .int) h := by
    rw [List.map_map]; exact c1
  have m1 := comp_ev (C := clN md.I 19) (L := L) (m := false) (ws := [21]) (t := .name 21) (s := .seq) (es := es1 (.var 14)) (env := [z0, z1, z2, z3, z4, z5, z6, z7, z8, z9, z10, z11, z12, z13, some (.lst (ws.map .int)), some (.int W), z16, z17, z18, z19, z20, z21, z22, z23]) (h := h) (ps := [.lst (ws.map .int)]) rfl (src_seq rfl) c1' (by rw [List.length_map, List.length_map]; unfold lim; omega)
  rw [if_neg Bool.false_ne_true] at m1
  have c2 := comp_map (t := .tup (.cons (.name 20) (.cons (.name 21) .nil))) (c := evE (clN md.I 19) { L with locked := refsOf [.lst (ws.map .int)] ++ L.locked } (.lit (.bl true))) (e := evE (clN md.I 19) { L with locked := refsOf [.lst (ws.map .int)] ++ L.locked } (.tup (es2 (.neg (.bin .mod (.bin .mul (.var 15) (.var 21)) (.prim .sum (es1 (.var 14))))) (.var 20)))) (env := wipeE [z0, z1, z2, z3, z4, z5, z6, z7, z8, z9, z10, z11, z12, z13, some (.lst (ws.map .int)), some (.int W), z16, z17, z18, z19, z20, z21, z22, z23] [20, 21]) (en := fun q : Int × Nat => PV.tup [.int q.2, .int q.1]) (f := fun q : Int × Nat => enk (-(W * q.1).fmod ws.sum, q.2)) (h := h) ws.zipIdx (fun q hq => by
    have hm : q.1 ∈ ws := List.mem_of_getElem? (List.mk_mem_zipIdx_iff_getElem? (x := q.1) (i := q.2) |>.mp hq)
    exact ⟨[z0, z1, z2, z3, z4, z5, z6, z7, z8, z9, z10, z11, z12, z13, some (.lst (ws.map .int)), some (.int W), z16, z17, z18, z19, some (.int q.2), some (.int q.1), z22, z23], rfl, rfl, ev_tup2 (x_neg (x_bin (x_bin rfl rfl (bin_mul (mulW ws hne hl hw hS hS2 W hW0 hW (hw q.1 hm)) h)) (x_prim1 (p := .lst (ws.map .int)) rfl (sum_seq rfl)) (bin_mod s0 h))) rfl⟩)
  have ke : ws.zipIdx.map (fun q : Int × Nat => enk (-(W * q.1).fmod ws.sum, q.2)) = (keysOf (ws.map fun w => (W * w).fmod ws.sum)).map enk := by
    unfold keysOf
    rw [List.zipIdx_map, List.map_map, List.map_map]
    rfl
  rw [ke] at c2
  have m2 := comp_ev (C := clN md.I 19) (L := L) (m := false) (ws := [20, 21]) (t := .tup (.cons (.name 20) (.cons (.name 21) .nil))) (s := .enum) (es := es1 (.var 14)) (env := [z0, z1, z2, z3, z4, z5, z6, z7, z8, z9, z10, z11, z12, z13, some (.lst (ws.map .int)), some (.int W), z16, z17, z18, z19, z20, z21, z22, z23]) (h := h) (ps := [.lst (ws.map .int)]) rfl (src_enum PV.int rfl) c2 (by simp [keysOf]; unfold lim; omega)
  rw [if_neg Bool.false_ne_true] at m2
  have t := ev_tup2 m1 m2
  unfold s22
  rw [evS]
  simp only [es1, es2] at t
  rw [t]
  rfl
theorem p23 : ∃ c : Nat, W - (ws.map fun w => (W * w).fdiv ws.sum).sum = c ∧ c ≤ ws.length ∧ evS (clN md.I 19) L s23 [z0, z1, z2, z3, z4, z5, z6, z7, z8, z9, z10, z11, z12, z13, z14, some (.int W), z16, some (.lst ((ws.map fun w => (W * w).fdiv ws.sum).map .int)), some (.lst ((keysOf (ws.map fun w => (W * w).fmod ws.sum)).map enk)), z19, z20, z21, z22, z23] h = .nx [z0, z1, z2, z3, z4, z5, z6, z7, z8, z9, z10, z11, z12, z13, z14, some (.int W), z16, some (.lst ((ws.map fun w => (W * w).fdiv ws.sum).map .int)), some (.lst ((keysOf (ws.map fun w => (W * w).fmod ws.sum)).map enk)), some (.lst (((picks (ws.map fun w => (W * w).fmod ws.sum)).take c).map fun k : Nat => PV.int k)), z20, z21, z22, z23] h := by
  obtain ⟨c, hc, hc2⟩ := left_nat (W := W) hS rfl hne
  refine ⟨c, hc, hc2, ?_⟩
  have klen : (keysOf (ws.map fun w => (W * w).fmod ws.sum)).length = ws.length := by simp [keysOf]
  have so := sorted_keys (keysOf (ws.map fun w => (W * w).fmod ws.sum)) (by rw [klen]; unfold lim; omega) L h
  have cp := comp_map (t := .tup (.cons (.name 22) (.cons (.name 20) .nil))) (c := evE (clN md.I 19) { L with locked := refsOf [.lst ((isortB klt (keysOf (ws.map fun w => (W * w).fmod ws.sum))).map enk)] ++ L.locked } (.lit (.bl true))) (e := evE (clN md.I 19) { L with locked := refsOf [.lst ((isortB klt (keysOf (ws.map fun w => (W * w).fmod ws.sum))).map enk)] ++ L.locked } (.var 20)) (env := wipeE [z0, z1, z2, z3, z4, z5, z6, z7, z8, z9, z10, z11, z12, z13, z14, some (.int W), z16, some (.lst ((ws.map fun w => (W * w).fdiv ws.sum).map .int)), some (.lst ((keysOf (ws.map fun w => (W * w).fmod ws.sum)).map enk)), z19, z20, z21, z22, z23] [22, 20]) (en := enk) (f := fun q : Int × Nat => PV.int q.2) (h := h) (isortB klt (keysOf (ws.map fun w => (W * w).fmod ws.sum))) (fun q hq => ⟨[z0, z1, z2, z3, z4, z5, z6, z7, z8, z9, z10, z11, z12, z13, z14, some (.int W), z16, some (.lst ((ws.map fun w => (W * w).fdiv ws.sum).map .int)), some (.lst ((keysOf (ws.map fun w => (W * w).fmod ws.sum)).map enk)), z19, some (.int q.2), z21, some (.int q.1), z23], rfl, rfl, rfl⟩)
  have ke : (isortB klt (keysOf (ws.map fun w => (W * w).fmod ws.sum))).map (fun q : Int × Nat => PV.int q.2) = (picks (ws.map fun w => (W * w).fmod ws.sum)).map fun k : Nat => PV.int k := by
    unfold picks
    rw [List.map_map]
    rfl
  rw [ke] at cp
  have args : evEs (clN md.I 19) L (es1 (.prim .sorted (es1 (.var 18)))) [z0, z1, z2, z3, z4, z5, z6, z7, z8, z9, z10, z11, z12, z13, z14, some (.int W), z16, some (.lst ((ws.map fun w => (W * w).fdiv ws.sum).map .int)), some (.lst ((keysOf (ws.map fun w => (W * w).fmod ws.sum)).map enk)), z19, z20, z21, z22, z23] h = .ok [.lst ((isortB klt (keysOf (ws.map fun w => (W * w).fmod ws.sum))).map enk)] h := by
    have x : evE (clN md.I 19) L (.prim .sorted (es1 (.var 18))) [z0, z1, z2, z3, z4, z5, z6, z7, z8, z9, z10, z11, z12, z13, z14, some (.int W), z16, some (.lst ((ws.map fun w => (W * w).fdiv ws.sum).map .int)), some (.lst ((keysOf (ws.map fun w => (W * w).fmod ws.sum)).map enk)), z19, z20, z21, z22, z23] h = _ := x_prim1 rfl so
    simp only [es1] at x ⊢
    rw [evEs, x]
    rfl
  have pl : (picks (ws.map fun w => (W * w).fmod ws.sum)).length = ws.length := by rw [picks_len, List.length_map]
  have cm := comp_ev (C := clN md.I 19) (L := L) (m := false) (ws := [22, 20]) (t := .tup (.cons (.name 22) (.cons (.name 20) .nil))) (s := .seq) (env := [z0, z1, z2, z3, z4, z5, z6, z7, z8, z9, z10, z11, z12, z13, z14, some (.int W), z16, some (.lst ((ws.map fun w => (W * w).fdiv ws.sum).map .int)), some (.lst ((keysOf (ws.map fun w => (W * w).fmod ws.sum)).map enk)), z19, z20, z21, z22, z23]) (h := h) args (src_seq rfl) cp (by rw [List.length_map, pl]; unfold lim; omega)
  rw [if_neg Bool.false_ne_true] at cm
  have u : evE (clN md.I 19) L (.bin .sub (.var 15) (.prim .sum (es1 (.var 17)))) [z0, z1, z2, z3, z4, z5, z6, z7, z8, z9, z10, z11, z12, z13, z14, some (.int W), z16, some (.lst ((ws.map fun w => (W * w).fdiv ws.sum).map .int)), some (.lst ((keysOf (ws.map fun w => (W * w).fmod ws.sum)).map enk)), z19, z20, z21, z22, z23] h = .ok (.int c) h := by
    rw [← hc]
    exact x_bin rfl (x_prim1 rfl (sum_seq rfl)) (bin_sub ..)
  have x := x_sli (kl := false) (ku := true) (b := .lit .non) (q := .non) cm rfl rfl u rfl (sli_take (fun k : Nat => PV.int k) (picks (ws.map fun w => (W * w).fmod ws.sum)) c h)
  unfold s23
  rw [evS]
  simp only [es1, es2] at x
  rw [x]
  rfl
theorem fls : (ws.map fun w => Rat.divInt w ws.sum).map (fl W) = ws.map fun w => (W * w).fdiv ws.sum := by
  rw [List.map_map]
  apply List.map_congr_left
  intro w _
  exact fl_eq W w ws.sum hS
theorem los : (ws.map fun w => Rat.divInt w ws.sum).map (lo W) = (ws.map fun w => (W * w).fmod ws.sum).map fun r => Rat.divInt r ws.sum := by
  rw [List.map_map, List.map_map]
  apply List.map_congr_left
  intro w _
  exact lo_eq W w ws.sum hS
theorem shares (c : Nat) (hc : W - (ws.map fun w => (W * w).fdiv ws.sum).sum = c) (hc2 : c ≤ ws.length) : callN md.I 19 16 [.int W, .tup ((ws.map fun w => Rat.divInt w ws.sum).map prq)] L h = .ok (.tup ((shFs (ws.map fun w => (W * w).fdiv ws.sum) ((picks (ws.map fun w => (W * w).fmod ws.sum)).take c)).map .int)) h ∧
    (shFs (ws.map fun w => (W * w).fdiv ws.sum) ((picks (ws.map fun w => (W * w).fmod ws.sum)).take c)).sum = W := by
  have b6 := bd6 ws hne hl hw hS hS2
  have one := parts_one (ws := ws) (by omega)
  have pr : ∀ y ∈ ws.map (fun w => Rat.divInt w ws.sum), Bd 6 y ∧ 0 ≤ y ∧ y ≤ 1 := by
    intro y hy
    refine ⟨b6 y hy, ?_⟩
    obtain ⟨w, hw', rfl⟩ := List.mem_map.mp hy
    have wl : w ≤ ws.sum := by
      have : ∀ l : List Int, (∀ x ∈ l, 0 ≤ x) → ∀ x ∈ l, x ≤ l.sum ∧ 0 ≤ l.sum := by
        intro l
        induction l with
        | nil => intro _ x hx; cases hx
        | cons a l ih =>
          intro hp x hx
          have ha := hp a (List.mem_cons_self ..)
          have sn : 0 ≤ l.sum := by
            cases l with
            | nil => simp
            | cons b l => exact (ih (fun y hy => hp y (List.mem_cons_of_mem _ hy)) b (List.mem_cons_self ..)).2
          simp only [List.sum_cons]
          rcases List.mem_cons.mp hx with rfl | hx
          · omega
          · have := ih (fun y hy => hp y (List.mem_cons_of_mem _ hy)) x hx
            omega
      exact (this ws (fun x hx => (hw x hx).1) w hw').1
    have z0 : (0 : Rat) = Rat.divInt 0 ws.sum := by simp
    have z1 : (1 : Rat) = Rat.divInt ws.sum ws.sum := (Rat.divInt_self' (by omega)).symm
    constructor
    · rw [z0, divInt_le_iff hS]; exact (hw w hw').1
    · conv => rhs; rw [z1]
      rw [divInt_le_iff hS]; exact wl
  have en := fls ws hne hl hw hS hS2 W hW0 hW
  have lo' := los ws hne hl hw hS hS2 W hW0 hW
  have gm := divInt_le_iff hS
  have g0 : ∀ x ∈ ws.map (fun w => (W * w).fmod ws.sum), (0 : Rat) ≤ Rat.divInt x ws.sum := by
    intro x hx
    obtain ⟨w, _, rfl⟩ := List.mem_map.mp hx
    have z0 : (0 : Rat) = Rat.divInt 0 ws.sum := by simp
    rw [z0, divInt_le_iff hS]
    exact (fmod_range _ hS).1
  have all := sh_all (rs := ws.map fun w => (W * w).fmod ws.sum) (fs := ws.map fun w => (W * w).fdiv ws.sum) (g := fun r => Rat.divInt r ws.sum) (by simp) gm g0 (c := c) (by simpa using hc2)
  have sm := shRun_sum c (ws.map fun w => (W * w).fdiv ws.sum, (ws.map fun w => (W * w).fmod ws.sum).map fun r => Rat.divInt r ws.sum) (by simp) (by simpa using hne)
  rw [all] at sm
  dsimp only at sm
  refine ⟨?_, by rw [sm]; omega⟩
  obtain ⟨a0, as, ea⟩ : ∃ a0 as, ws.map (fun w => Rat.divInt w ws.sum) = a0 :: as := by
    cases ws with
    | nil => exact absurd rfl hne
    | cons a b => exact ⟨_, _, rfl⟩
  have la : (a0 :: as).length ≤ 5 := by rw [← ea, List.length_map]; exact hl
  rw [ea] at pr one en lo' ⊢
  have r := shares_ok (n := 6) (x4 := 0) f16 f11 f0 f5 f1 f2 f10 f8 15 L h (p := .tup ((a0 :: as).map prq)) rfl (fun A B => rfl) (w := 6) hW0 (show W.natAbs < 64 by omega) pr one (by
    have : ((a0 :: as).length + 1) * (6 + 1) ≤ 6 * 7 := Nat.mul_le_mul_right _ (by omega)
    omega) (by decide) (by omega) (by decide) (c := c) (by rw [en]; exact hc) (by omega)
  rw [en, lo', all] at r
  exact r
theorem p24 (c : Nat) (hc : W - (ws.map fun w => (W * w).fdiv ws.sum).sum = c) (hc2 : c ≤ ws.length) : evE (clN md.I 19) L c24 [z0, z1, z2, z3, z4, z5, z6, z7, z8, z9, z10, z11, z12, z13, z14, some (.int W), some (.tup ((ws.map fun w => Rat.divInt w ws.sum).map prq)), some (.lst ((ws.map fun w => (W * w).fdiv ws.sum).map .int)), z18, some (.lst (((picks (ws.map fun w => (W * w).fmod ws.sum)).take c).map fun k : Nat => PV.int k)), z20, z21, z22, z23] h = .ok (.bl false) h ∧ evE (clN md.I 19) L c25 [z0, z1, z2, z3, z4, z5, z6, z7, z8, z9, z10, z11, z12, z13, z14, some (.int W), some (.tup ((ws.map fun w => Rat.divInt w ws.sum).map prq)), z17, z18, z19, z20, z21, z22, z23] h = .ok (.bl false) h := by
  obtain ⟨e1, e2⟩ := shares L h ws hne hl hw hS hS2 W hW0 hW c hc hc2
  have q1 : evE (clN md.I 19) L (.prim .list (es1 (.call 16 (es2 (.var 15) (.var 16))))) [z0, z1, z2, z3, z4, z5, z6, z7, z8, z9, z10, z11, z12, z13, z14, some (.int W), some (.tup ((ws.map fun w => Rat.divInt w ws.sum).map prq)), some (.lst ((ws.map fun w => (W * w).fdiv ws.sum).map .int)), z18, some (.lst (((picks (ws.map fun w => (W * w).fmod ws.sum)).take c).map fun k : Nat => PV.int k)), z20, z21, z22, z23] h = _ := x_prim1 (x_call2 rfl rfl e1) (list_seq rfl)
  have cp := comp_map (t := .tup (.cons (.name 20) (.cons (.name 23) .nil))) (c := evE (clN md.I 19) { L with locked := refsOf [.lst ((ws.map fun w => (W * w).fdiv ws.sum).map .int)] ++ L.locked } (.lit (.bl true))) (e := evE (clN md.I 19) { L with locked := refsOf [.lst ((ws.map fun w => (W * w).fdiv ws.sum).map .int)] ++ L.locked } (.bin .add (.var 23) (.prim .int_ (es1 (.cmp .isin (.var 20) (.var 19)))))) (env := wipeE [z0, z1, z2, z3, z4, z5, z6, z7, z8, z9, z10, z11, z12, z13, z14, some (.int W), some (.tup ((ws.map fun w => Rat.divInt w ws.sum).map prq)), some (.lst ((ws.map fun w => (W * w).fdiv ws.sum).map .int)), z18, some (.lst (((picks (ws.map fun w => (W * w).fmod ws.sum)).take c).map fun k : Nat => PV.int k)), z20, z21, z22, z23] [20, 23]) (en := fun q : Int × Nat => PV.tup [.int q.2, .int q.1]) (f := fun q : Int × Nat => PV.int (if ((picks (ws.map fun w => (W * w).fmod ws.sum)).take c).contains q.2 then q.1 + 1 else q.1)) (h := h) (ws.map fun w => (W * w).fdiv ws.sum).zipIdx (fun q hq => by
    refine ⟨[z0, z1, z2, z3, z4, z5, z6, z7, z8, z9, z10, z11, z12, z13, z14, some (.int W), some (.tup ((ws.map fun w => Rat.divInt w ws.sum).map prq)), some (.lst ((ws.map fun w => (W * w).fdiv ws.sum).map .int)), z18, some (.lst (((picks (ws.map fun w => (W * w).fmod ws.sum)).take c).map fun k : Nat => PV.int k)), some (.int q.2), z21, z22, some (.int q.1)], rfl, rfl, ?_⟩
    have fl : flats (((picks (ws.map fun w => (W * w).fmod ws.sum)).take c).map fun k : Nat => PV.int k) = true := by
      unfold flats
      rw [List.all_map, List.all_eq_true]
      intro x _
      rfl
    have isi : cmpE .isin (.int q.2) (.lst (((picks (ws.map fun w => (W * w).fmod ws.sum)).take c).map fun k : Nat => PV.int k)) h = .ok (.bl (((picks (ws.map fun w => (W * w).fmod ws.sum)).take c).contains q.2)) h := by
      simp only [cmpE, view, inE, fl, Bool.and_true]
      rw [if_pos (show flat (.int q.2) = true from rfl), memE_int]
    have pi : ∀ b : Bool, primE .int_ [.bl b] { L with locked := refsOf [.lst ((ws.map fun w => (W * w).fdiv ws.sum).map .int)] ++ L.locked } h = .ok (.int (if b then 1 else 0)) h := fun b => rfl
    refine x_bin rfl (x_prim1 (x_cmp rfl rfl isi) (pi _)) ?_
    rw [bin_add]
    congr 2
    split <;> omega)
  have ke : (ws.map fun w => (W * w).fdiv ws.sum).zipIdx.map (fun q : Int × Nat => PV.int (if ((picks (ws.map fun w => (W * w).fmod ws.sum)).take c).contains q.2 then q.1 + 1 else q.1)) = (shFs (ws.map fun w => (W * w).fdiv ws.sum) ((picks (ws.map fun w => (W * w).fmod ws.sum)).take c)).map .int := by
    unfold shFs
    rw [List.map_map]
    rfl
  rw [ke] at cp
  have cm := comp_ev (C := clN md.I 19) (L := L) (m := false) (ws := [20, 23]) (t := .tup (.cons (.name 20) (.cons (.name 23) .nil))) (s := .enum) (es := es1 (.var 17)) (env := [z0, z1, z2, z3, z4, z5, z6, z7, z8, z9, z10, z11, z12, z13, z14, some (.int W), some (.tup ((ws.map fun w => Rat.divInt w ws.sum).map prq)), some (.lst ((ws.map fun w => (W * w).fdiv ws.sum).map .int)), z18, some (.lst (((picks (ws.map fun w => (W * w).fmod ws.sum)).take c).map fun k : Nat => PV.int k)), z20, z21, z22, z23]) (h := h) (ps := [.lst ((ws.map fun w => (W * w).fdiv ws.sum).map .int)]) rfl (src_enum PV.int rfl) cp (by simp [shFs]; unfold lim; omega)
  rw [if_neg Bool.false_ne_true] at cm
  refine ⟨x_cmp q1 cm (ne_lst _ h fun p hp => ?_), ?_⟩
  · obtain ⟨r, _, rfl⟩ := List.mem_map.mp hp
    exact int_flat r
  · refine x_cmp (x_prim1 (x_call2 rfl rfl e1) (sum_seq rfl)) rfl ?_
    rw [e2, ne_ii]
    simp
end
end
end Mini.k01

/-! L06 -/
set_option autoImplicit false
set_option Elab.async false
set_option linter.all false
set_option maxRecDepth 100000
set_option maxHeartbeats 4000000
namespace Mini.k01
open Mini
theorem if_skip {C : Cl} {L : Lk} {c : E} {a : Ss} {env : Env} {h h' : Hh} (e : evE C L c env h = .ok (.bl false) h') : evS C L (.ife c a .nil) env h = .nx env h' := by rw [if_f e, evSs]
/-- the body, whatever the dice show -/
theorem body (s : St) (p : PV) (q : Int × Int × Int) : ∃ env' q', evSs (clN md.I 19) s.L lawB [some p, some (.ref s.r), none, none, none, none, none, none, none, none, none, none, none, none, none, none, none, none, none, none, none, none, none, none] (s.S q) = .nx env' (s.S q') := by
  obtain ⟨o, o', q1, mo, mo', e1⟩ := p1 s (some p) none none none none none none none none none none none none none none none none none none none none none none q
  have bo := ones_bd o mo
  have bo' := ones_bd o' mo'
  obtain ⟨t, b, q2, ht, hb, hb2, e2⟩ := p2 s (some p) (some (prq o)) (some (prq o')) none none none none none none none none none none none none none none none none none none none none q1
  have e3 := if_skip (a := ret (.lit (.bl false))) (p3 (some p) (some (.ref s.r)) (some (prq o)) (some (prq o')) none none none none none none none none none none none none none none none none none none s.L (s.S q2) t b ht hb hb2)
  have e4 := if_skip (a := ret (.lit (.bl false))) (p4 (some p) (some (.ref s.r)) (some (.int t)) (some (.int b)) none none none none none none none none none none none none none none none none none none s.L (s.S q2) bo bo')
  have e5 := if_skip (a := ret (.lit (.bl false))) (p5 (some p) (some (.ref s.r)) (some (.int t)) (some (.int b)) none none none none none none none none none none none none none none none none none none s.L (s.S q2) bo bo')
  have e6 := if_skip (a := ret (.lit (.bl false))) (p6 (some p) (some (.ref s.r)) (some (.int t)) (some (.int b)) none none none none none none none none none none none none none none none none none none s.L (s.S q2) bo bo')
  obtain ⟨o0, os, k, q3, mr, hl, hk, e7⟩ := p7 s (some p) (some (prq o)) (some (prq o')) (some (.int t)) (some (.int b)) none none none none none none none none none none none none none none none none none none q2
  have br : ∀ o ∈ o0 :: os, Bd 5 o := fun o h => ones_bd o (mr o h)
  have e8 := p8 (some p) (some (.ref s.r)) (some (prq o)) (some (prq o')) (some (.int t)) (some (.int b)) (some (.lst ((o0 :: os).map prq))) (some (.int (k : Int))) none none none none none none none none none none none none none none none none s.L (s.S q3)
  obtain ⟨l10, e9⟩ := p9 (some p) (some (.ref s.r)) (some (prq o)) (some (prq o')) (some (.int t)) (some (.int b)) (some (.int (k : Int))) (some (prq 1)) none none none none none none none none none none none none none none s.L (s.S q3) o0 os br hl
  obtain ⟨l11, e10⟩ := p10 (some p) (some (.ref s.r)) (some (prq o')) (some (.int t)) (some (.int b)) (some (.lst ((o0 :: os).map prq))) (some (prq (rprod (o0 :: os)))) l10 none none none none none none none none none none none none none s.L (s.S q3) o k bo hk
  have e11 := if_skip (a := ret (.lit (.bl false))) (p11 (some p) (some (.ref s.r)) (some (prq o')) (some (.int t)) (some (.int b)) l10 l11 none none none none none none none none none none none none s.L (s.S q3) o o0 os k bo br hl hk)
  have e12 := if_skip (a := ret (.lit (.bl false))) (p12 (some p) (some (.ref s.r)) (some (prq o)) (some (prq o')) (some (.int t)) (some (.int b)) (some (.int (k : Int))) (some (prq (rprod (o0 :: os)))) (some (prq (o ^ k))) l10 l11 none none none none none none none none none none none none s.L (s.S q3) o0 os br hl)
  have e13 := if_skip (a := ret (.lit (.bl false))) (p13 (some p) (some (.ref s.r)) (some (prq o)) (some (prq o')) (some (.int t)) (some (.int b)) (some (.int (k : Int))) (some (prq (rprod (o0 :: os)))) (some (prq (o ^ k))) l10 l11 none none none none none none none none none none none none s.L (s.S q3) o0 os br)
  have e14 := map_eq (t14 s.L (s.S q3) (some p) (some (.ref s.r)) (some (prq o')) (some (.int t)) (some (.int b)) (some (.lst ((o0 :: os).map prq))) (some (.int (k : Int))) (some (prq (rprod (o0 :: os)))) (some (prq (o ^ k))) l10 l11 none none none none none none none none none none none none) o mo
  have e15 := if_skip (a := ret (.lit (.bl false))) (map_eq (t15 (some p) (some (.ref s.r)) (some (prq o')) (some (.int t)) (some (.int b)) (some (.lst ((o0 :: os).map prq))) (some (.int (k : Int))) (some (prq (rprod (o0 :: os)))) (some (prq (o ^ k))) l10 l11 none none none none none none none none none none none s.L (s.S q3)) o mo)
  have e16 := if_skip (a := ret (.lit (.bl false))) (map_eq (t16 (some p) (some (.ref s.r)) (some (prq o')) (some (.int t)) (some (.int b)) (some (.lst ((o0 :: os).map prq))) (some (.int (k : Int))) (some (prq (rprod (o0 :: os)))) (some (prq (o ^ k))) l10 l11 (some (txt o)) none none none none none none none none none none none s.L (s.S q3)) o mo)
  have e17 := map_eq (t17 (some p) (some (.ref s.r)) (some (prq o')) (some (.int t)) (some (.int b)) (some (.lst ((o0 :: os).map prq))) (some (.int (k : Int))) (some (prq (rprod (o0 :: os)))) (some (prq (o ^ k))) l10 l11 (some (txt o)) none none none none none none none none none none none s.L (s.S q3)) o mo
  have e18 := if_skip (a := ret (.lit (.bl false))) (map_eq (t18 (some p) (some (.ref s.r)) (some (prq o')) (some (.int t)) (some (.int b)) (some (.lst ((o0 :: os).map prq))) (some (.int (k : Int))) (some (prq (rprod (o0 :: os)))) (some (prq (o ^ k))) l10 l11 (some (txt o)) none none none none none none none none none none s.L (s.S q3)) o mo)
  obtain ⟨ws, W, q4, hne, hlw, hw, hS, hS2, hW0, hW, e19⟩ := p19 s (some p) (some (prq o)) (some (prq o')) (some (.int t)) (some (.int b)) (some (.lst ((o0 :: os).map prq))) (some (.int (k : Int))) (some (prq (rprod (o0 :: os)))) (some (prq (o ^ k))) l10 l11 (some (txt o)) (some (near o)) none none none none none none none none none none q3
  have e20 := p20 (some p) (some (.ref s.r)) (some (prq o)) (some (prq o')) (some (.int t)) (some (.int b)) (some (.lst ((o0 :: os).map prq))) (some (.int (k : Int))) (some (prq (rprod (o0 :: os)))) (some (prq (o ^ k))) l10 l11 (some (txt o)) (some (near o)) (some (.int W)) none none none none none none none none s.L (s.S q4) ws hne hlw hw hS hS2
  have e21 := if_skip (a := ret (.lit (.bl false))) (p21 (some p) (some (.ref s.r)) (some (prq o)) (some (prq o')) (some (.int t)) (some (.int b)) (some (.lst ((o0 :: os).map prq))) (some (.int (k : Int))) (some (prq (rprod (o0 :: os)))) (some (prq (o ^ k))) l10 l11 (some (txt o)) (some (near o)) (some (.int W)) none none none none none none none s.L (s.S q4) ws hne hlw hw hS hS2)
  have e22 := p22 (some p) (some (.ref s.r)) (some (prq o)) (some (prq o')) (some (.int t)) (some (.int b)) (some (.lst ((o0 :: os).map prq))) (some (.int (k : Int))) (some (prq (rprod (o0 :: os)))) (some (prq (o ^ k))) l10 l11 (some (txt o)) (some (near o)) (some (.tup ((ws.map fun w => Rat.divInt w ws.sum).map prq))) none none none none none none none s.L (s.S q4) ws hne hlw hw hS hS2 W hW0 hW
  obtain ⟨c, hc, hc2, e23⟩ := p23 (some p) (some (.ref s.r)) (some (prq o)) (some (prq o')) (some (.int t)) (some (.int b)) (some (.lst ((o0 :: os).map prq))) (some (.int (k : Int))) (some (prq (rprod (o0 :: os)))) (some (prq (o ^ k))) l10 l11 (some (txt o)) (some (near o)) (some (.lst (ws.map .int))) (some (.tup ((ws.map fun w => Rat.divInt w ws.sum).map prq))) none none none none none s.L (s.S q4) ws hne hlw hw hS hS2 W hW0 hW
  obtain ⟨g24, g25⟩ := p24 (some p) (some (.ref s.r)) (some (prq o)) (some (prq o')) (some (.int t)) (some (.int b)) (some (.lst ((o0 :: os).map prq))) (some (.int (k : Int))) (some (prq (rprod (o0 :: os)))) (some (prq (o ^ k))) l10 l11 (some (txt o)) (some (near o)) (some (.lst (ws.map .int))) (some (.lst ((ws.map fun w => (W * w).fdiv ws.sum).map .int))) (some (.lst ((keysOf (ws.map fun w => (W * w).fmod ws.sum)).map enk))) (some (.lst (((picks (ws.map fun w => (W * w).fmod ws.sum)).take c).map fun k : Nat => PV.int k))) none none none none s.L (s.S q4) ws hne hlw hw hS hS2 W hW0 hW c hc hc2
  have e24 := if_skip (a := ret (.lit (.bl false))) g24
  have e25 := if_skip (a := ret (.lit (.bl false))) g25
  have e26 := if_skip (a := ret (.lit (.bl false))) (map_eq (t26 (some p) (some (.ref s.r)) (some (prq o')) (some (.int t)) (some (.int b)) (some (.lst ((o0 :: os).map prq))) (some (.int (k : Int))) (some (prq (rprod (o0 :: os)))) (some (prq (o ^ k))) l10 l11 (some (txt o)) (some (near o)) (some (.lst (ws.map .int))) (some (.int W)) (some (.tup ((ws.map fun w => Rat.divInt w ws.sum).map prq))) (some (.lst ((ws.map fun w => (W * w).fdiv ws.sum).map .int))) (some (.lst ((keysOf (ws.map fun w => (W * w).fmod ws.sum)).map enk))) (some (.lst (((picks (ws.map fun w => (W * w).fmod ws.sum)).take c).map fun k : Nat => PV.int k))) none none none none s.L (s.S q4)) o mo)
  exact ⟨_, q4, ((ss_nx e1).trans ((ss_nx e2).trans ((ss_nx e3).trans ((ss_nx e4).trans ((ss_nx e5).trans ((ss_nx e6).trans ((ss_nx e7).trans ((ss_nx e8).trans ((ss_nx e9).trans ((ss_nx e10).trans ((ss_nx e11).trans ((ss_nx e12).trans ((ss_nx e13).trans ((ss_nx e14).trans ((ss_nx e15).trans ((ss_nx e16).trans ((ss_nx e17).trans ((ss_nx e18).trans ((ss_nx e19).trans ((ss_nx e20).trans ((ss_nx e21).trans ((ss_nx e22).trans ((ss_nx e23).trans ((ss_nx e24).trans ((ss_nx e25).trans ((ss_nx e26).trans rfl))))))))))))))))))))))))))⟩
/-- the law's call, from any place of the script -/
theorem law_call (p : PV) (H0 : Hh) (ns : List Int) (hv : view H0 p = .lst (ns.map .int)) (hp : ∀ s, p ≠ .str s) (ht : ∀ s, p ≠ .tup s) (hpl : ∀ y : Ob, callN md.I 19 26 [] ⟨H0.length, []⟩ (H0 ++ [y]) = .ok (.bl true) (H0 ++ [y])) (L : Lk) : callN md.I 20 27 [p] L H0 = .ok (.bl true) H0 := by
  obtain ⟨a, b, c, er⟩ := rounds_ok f19 f17 17 ⟨H0.length, []⟩ H0 p ns hv hp ht
  let s : St := { hh := H0 ++ [dl 0 0 0], r := H0.length, hr := by simp, base := H0.length, hb := Nat.le_refl _ }
  have hS : ∀ q : Int × Int × Int, s.S q = H0 ++ [dl q.1 q.2.1 q.2.2] := fun q => by
    show (H0 ++ [dl 0 0 0]).set H0.length (dl q.1 q.2.1 q.2.2) = _
    rw [List.set_append_right _ _ (Nat.le_refl _)]
    simp
  obtain ⟨env', q', eb⟩ := body s p (a, b, c)
  rw [call_pure f27 rfl rfl]
  show endPure _ _ (evSs (clN md.I 19) ⟨H0.length, []⟩ fnLaw.body [some p, none, none, none, none, none, none, none, none, none, none, none, none, none, none, none, none, none, none, none, none, none, none, none] H0) = _
  have args : evEs (clN md.I 19) ⟨H0.length, []⟩ (es1 (.call 19 (es2 (.var 0) (.lit (.int 1))))) [some p, none, none, none, none, none, none, none, none, none, none, none, none, none, none, none, none, none, none, none, none, none, none, none] H0 = .ok [.lst [.ref H0.length]] (s.S (a, b, c)) := by
    have x : evE (clN md.I 19) ⟨H0.length, []⟩ (.call 19 (es2 (.var 0) (.lit (.int 1)))) [some p, none, none, none, none, none, none, none, none, none, none, none, none, none, none, none, none, none, none, none, none, none, none, none] H0 = _ := x_call2 rfl rfl er
    rw [← hS (a, b, c)] at x
    simp only [es1, es2] at x ⊢
    rw [evEs, x]
    rfl
  have lp : evS (clN md.I 19) ⟨H0.length, []⟩ (.for_ (.name 1) .seq (es1 (.call 19 (es2 (.var 0) (.lit (.int 1))))) lawB) [some p, none, none, none, none, none, none, none, none, none, none, none, none, none, none, none, none, none, none, none, none, none, none, none] H0 = .nx env' (s.S q') := by
    rw [for_ev args (xs := [.ref H0.length]) rfl]
    simp only [forL, asgT, List.set_cons_succ, List.set_cons_zero]
    have eb' : evSs (clN md.I 19) { (⟨H0.length, []⟩ : Lk) with locked := refsOf [.lst [.ref H0.length]] ++ [] } lawB [some p, some (.ref H0.length), none, none, none, none, none, none, none, none, none, none, none, none, none, none, none, none, none, none, none, none, none, none] (s.S (a, b, c)) = .nx env' (s.S q') := eb
    rw [eb']
  have last : evE (clN md.I 19) ⟨H0.length, []⟩ (.call 26 .nil) env' (s.S q') = .ok (.bl true) (s.S q') := x_call0 (by rw [hS]; exact hpl _)
  rw [show fnLaw.body = .cons (.for_ (.name 1) .seq (es1 (.call 19 (es2 (.var 0) (.lit (.int 1))))) lawB) (.cons (.ret (.call 26 .nil)) .nil) from rfl]
  rw [ss_nx lp, ret1 last]
  rfl
theorem law : md.Law 27 20 63 := fun ns _ _ => by
  refine ⟨⟨_, law_call (.lst (ns.map .int)) [] ns rfl (fun _ z => nomatch z) (fun _ z => nomatch z) (fun y => plain0 _ y) _⟩, ⟨_, law_call (.ref 0) [.lst (ns.map .int)] ns rfl (fun _ z => nomatch z) (fun _ z => nomatch z) (fun y => plain1 _ _ y) _⟩⟩
end Mini.k01

/-! All01 -/


open PySem PySem.W PySem.Calls PyProof.Rows
set_option maxRecDepth 100000 in
set_option maxHeartbeats 0 in
theorem PySem.Challenge.cw_chancestack_k01_ratios_in_least_terms_holds : PySem.Challenge.rw_chancestack_k01_ratios_in_least_terms.Holds := by
  exact k01_holds_of Mini.k01.law

