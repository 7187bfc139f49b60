import PyProof.Rows.All
import Wide.All
import OpenK.AllK
import Wide.FinOn
import HandS.ForMost
import HandS.ForExc
import HandS.Iter
import KE.GoesEnum
import HandS.SortRule
import HandS.Deep
import HandS.TupAny
import HandS.Style
import HandS.IsInst
import HandS.SortInts
import HandS.Flow
import HandS.CallSlots
import HandS.Defaults
import HandS.Ends
import HandS.EndBits
import HandS.ExcField
import HandS.ExcInit
import HandS.SetFor
import HandS.Strs
import PyProof.ReprRoads
import PyProof.CallFns
import HandS.Conv
import HandS.Rev
import HandS.More
import HandS.TupSets
import HandS.OwnEq
import HandS.Comp
import HandS.Zip
import HandS.TryMany
import HandS.HeadHook1
import HandS.HeadHook2
import HandS.HeadHook3
import HandS.HeadHook4
import KE.KStateDown
import HandS.HeadEnd
import HandS.Head0
import HandS.Head1
import HandS.Head2
import PySem.Challenge.RW_headamid_k14_whole_hues_right_by_depth
set_option Elab.async false
set_option linter.all false
set_option maxRecDepth 100000
set_option maxHeartbeats 4000000
/-! MP0: a small evaluator of Python in plain Lean: data D, compact syntax E and S, states, what they do. -/
namespace MP
open PySem

/-! ### data -/
inductive D where
  | non | bl (b : Bool) | int (i : Int) | str (s : Str)
  | tup (xs : List D) | lst (xs : List D)
  /-- an instance that does not change any more: its class, its fields -/
  | ins (c : Nat) (fs : List (Nat × D))
  /-- an object of the evaluator's heap -/
  | cell (i : Nat)
  /-- a list of the outside, only read -/
  | ext (xs : List D)
  /-- a range object -/
  | rng (lo hi : Int)
instance : Inhabited D := ⟨.non⟩

mutual
/-- as data of the library; none: it holds an instance or a cell -/
def D.pd : D → Option PyData
  | .non => some .none
  | .bl b => some (.bool b)
  | .int i => some (.int i)
  | .str s => some (.str s)
  | .tup xs => (D.pds xs).map .tuple
  | .lst xs => (D.pds xs).map .list
  | .ins _ _ => none
  | .cell _ => none
  | .ext _ => none
  | .rng _ _ => none
def D.pds : List D → Option (List PyData)
  | [] => some []
  | x :: xs => match D.pd x, D.pds xs with
    | some y, some ys => some (y :: ys)
    | _, _ => none
end
mutual
/-- plain data of a depth of at most n, its texts good -/
def D.fit : Nat → D → Bool
  | _, .non => true
  | _, .bl _ => true
  | _, .int _ => true
  | _, .str s => (s.cps.all (· < 0x110000))
  | n, .tup xs => D.fits n xs
  | n, .lst xs => D.fits n xs
  | _, .ins _ _ => false
  | _, .cell _ => false
  | _, .ext _ => false
  | _, .rng _ _ => false
def D.fits : Nat → List D → Bool
  | 0, _ => false
  | _ + 1, [] => true
  | n + 1, x :: xs => D.fit n x && D.fits (n + 1) xs
end
mutual
/-- Python's == of plain data -/
def D.eqv : D → D → Bool
  | .non, .non => true
  | .bl a, .bl b => a == b
  | .bl a, .int j => (if a then 1 else 0) == j
  | .int i, .bl b => i == (if b then 1 else 0)
  | .int i, .int j => i == j
  | .str x, .str y => x == y
  | .lst xs, .lst ys => D.eqvs xs ys
  | .tup xs, .tup ys => D.eqvs xs ys
  | _, _ => false
def D.eqvs : List D → List D → Bool
  | [], [] => true
  | x :: xs, y :: ys => D.eqv x y && D.eqvs xs ys
  | _, _ => false
end

/-! ### results, states -/
inductive R where
  | val (d : D)
  /-- a new list that nothing else names -/
  | own (xs : List D)
def R.d : R → D
  | .val d => d
  | .own xs => .lst xs
/-- an exception: its class, its fields -/
structure X where
  c : Nat
  fs : List (Nat × D)
inductive Slot where
  | no
  | val (d : D)
  /-- a list that this name alone names -/
  | own (xs : List D)
  /-- an exception that a clause holds -/
  | exc (x : X)
inductive Cell where
  | lst (xs : List D)
  | ins (c : Nat) (fs : List (Nat × D))
structure St where
  sl : List Slot
  hp : List Cell
inductive O (α : Type) where
  | bad
  | ok (a : α) (s : St)
  | exc (x : X) (s : St)
def O.bind {α β : Type} (o : O α) (f : α → St → O β) : O β := match o with
  | .bad => .bad
  | .ok a s => f a s
  | .exc x s => .exc x s
@[simp] theorem O.bind_bad {α β : Type} (f : α → St → O β) : O.bind .bad f = .bad := rfl
@[simp] theorem O.bind_ok {α β : Type} (a : α) (s : St) (f : α → St → O β) : O.bind (.ok a s) f = f a s := rfl
@[simp] theorem O.bind_exc {α β : Type} (x : X) (s : St) (f : α → St → O β) : O.bind (.exc x s) f = .exc x s := rfl
def O.opt {α : Type} (o : Option α) (s : St) : O α := match o with
  | some a => .ok a s
  | none => .bad
@[simp] theorem O.opt_some {α : Type} (a : α) (s : St) : O.opt (some a) s = .ok a s := rfl
@[simp] theorem O.opt_none {α : Type} (s : St) : O.opt (none : Option α) s = .bad := rfl
/-- a call's end -/
inductive Fo where
  | bad
  | ok (r : R) (h : List Cell)
  | exc (x : X) (h : List Cell)
abbrev FnSem := List D → List Cell → Fo
structure Env where
  /-- a def: what it does, its defaults -/
  fn : Nat → Option (FnSem × List D)
  /-- a class called -/
  made : Nat → Option FnSem
  /-- a method of a class -/
  meth : Nat → Nat → Option FnSem
  /-- an exception class: its fields in the order of its parameters -/
  xc : Nat → Option (List Nat)
  /-- a field of an exception class that may be read -/
  xa : Nat → Nat → Bool
  /-- a class that a clause may name -/
  xn : Nat → Bool
  /-- an exception of the first class is one of the second -/
  xk : Nat → Nat → Option Bool
  /-- a constant of the module -/
  gl : Nat → Option D
  /-- a field of the instances of a class, which no class has as a name -/
  fa : Nat → Nat → Bool
  /-- a class that isinstance may ask for -/
  ic : Nat → Bool

/-! ### syntax -/
inductive BOp where
  | add | sub | mul | div | mod | pow | shl | shr | band | bxor | bor
  deriving DecidableEq
inductive COp where
  | lt | le | gt | ge | eq | ne | isN | notN | inn | nin
  deriving DecidableEq
/-- a type that isinstance asks for -/
inductive Ty where
  | int | bool | str | list | tuple
  | cls (c : Nat)
  deriving DecidableEq
inductive Bi where
  | len | abs | int | tuple | list | sorted | sortedSet | sum | maxL | minL | max2 | min2 | repr | any | all | strI
  deriving DecidableEq
/-- a list's methods -/
inductive LM where
  | append | insert | extend | popAt | pop | remove | reverse | index | count
  deriving DecidableEq
/-- targets -/
inductive Tg where
  | name (i : Nat)
  | tup (ts : List Nat)
mutual
inductive E where
  | var (i : Nat)
  | int (i : Int) | bl (b : Bool) | non | str (s : Str)
  | glob (g : Nat)
  | bin (op : BOp) (a b : E)
  | neg (a : E)
  | not (a : E)
  | cmp (op : COp) (a b : E)
  | chain (o p : COp) (a b c : E)
  | and (a b : E)
  | or (a b : E)
  | ite (c a b : E)
  | tup (es : Es)
  | lst (es : Es)
  | ix (a i : E)
  | slc (a : E) (lo hi : Op)
  | rev (a : E)
  | fld (a : E) (f : Nat)
  | call (f : Nat) (es : Es) (n : Nat)
  | mk (c : Nat) (es : Es)
  | bi (b : Bi) (es : Es)
  | isi (t : Ty) (a : E)
  | im (c : Nat) (a : E) (m : Nat) (es : Es)
  | lm (m : LM) (a : E) (es : Es)
  | lc (elt : E) (tg : Tg) (src : Src) (ifs : Es)
  | xf (i : Nat) (f : Nat)
  /-- e, a name's own list lent to it -/
  | lend (i : Nat) (e : E)
  /-- a == b, instances of class c that bears its own ==, its method m -/
  | eqI (c m : Nat) (a b : E)
  /-- len(set(a)), a list of tuples of ints -/
  | lenSet (a : E)
  /-- range(a), kept -/
  | rng1 (a : E)
  | rng2 (a b : E)
inductive Es where
  | nil
  | cons (e : E) (es : Es)
inductive Op where
  | no
  | so (e : E)
inductive Src where
  | seq (e : E)
  | r1 (e : E)
  | r2 (a b : E)
  | enum (e : E)
  | zip (a b : E)
end
/-- a new list is stored as a value, as the name's own, as a cell -/
inductive Md where
  | val | own | cell
mutual
inductive S where
  | asg (i : Nat) (md : Md) (e : E)
  | asgT (ts : List Nat) (e : E)
  | setIx (a i e : E)
  | setF (a : E) (f : Nat) (e : E)
  | ex (e : E)
  | ret (e : E)
  | retN
  | ite (c : E) (a b : Ss)
  | for_ (tg : Tg) (src : Src) (body : Ss)
  | whl (n : Nat) (c : E) (body : Ss)
  | brk | cont | pass
  | raise (c : Nat) (es : Es)
  | try_ (body : Ss) (hs : Hs)
inductive Ss where
  | nil
  | cons (s : S) (ss : Ss)
/-- except c as i: suite (i none: without a name) -/
inductive Hs where
  | nil
  | cons (c : Nat) (i : Option Nat) (body : Ss) (hs : Hs)
end

/-! ### what operators and built-ins give -/
def big : Nat := 1000000
def insI (x : Int) : List Int → List Int
  | [] => [x]
  | y :: ys => if x ≤ y then x :: y :: ys else y :: insI x ys
/-- sorted -/
def sortI (l : List Int) : List Int := l.foldr insI []
def insU (x : Int) : List Int → List Int
  | [] => [x]
  | y :: ys => if x < y then x :: y :: ys else if x = y then y :: ys else y :: insU x ys
/-- sorted(set(..)) -/
def sortU (l : List Int) : List Int := l.foldr insU []
def D.toI : D → Option Int
  | .int i => some i
  | _ => none
def D.ints : List D → Option (List Int)
  | [] => some []
  | .int i :: xs => (D.ints xs).map (i :: ·)
  | _ => none
def D.prs : List D → Option (List (Int × Int))
  | [] => some []
  | .tup [.int i, .int j] :: xs => (D.prs xs).map ((i, j) :: ·)
  | _ => none
def leP (p q : Int × Int) : Bool := decide (p.1 < q.1) || (decide (p.1 = q.1) && decide (p.2 ≤ q.2))
def insP (x : Int × Int) : List (Int × Int) → List (Int × Int)
  | [] => [x]
  | y :: ys => if leP x y then x :: y :: ys else y :: insP x ys
/-- sorted, of pairs -/
def sortP (l : List (Int × Int)) : List (Int × Int) := l.foldr insP []
def prD (p : Int × Int) : D := .tup [.int p.1, .int p.2]
/-- tuples of ints -/
def D.tups : List D → Option (List (List Int))
  | [] => some []
  | .tup ys :: xs => match D.ints ys, D.tups xs with
    | some l, some r => some (l :: r)
    | _, _ => none
  | _ => none
/-- how many unlike ones -/
def unlikes : List (List Int) → Nat
  | [] => 0
  | x :: xs => if x ∈ xs then unlikes xs else unlikes xs + 1
def lenSetSem : D → Option R
  | .lst xs => (D.tups xs).bind fun l => if l.length < 64 then some (.val (.int (unlikes l))) else none
  | _ => none
def D.bools : List D → Option (List Bool)
  | [] => some []
  | .bl i :: xs => (D.bools xs).map (i :: ·)
  | _ => none
def D.flat : D → Bool
  | .non => true
  | .bl _ => true
  | .int _ => true
  | .str _ => true
  | _ => false
def runRange (lo : Int) : Nat → List D
  | 0 => []
  | n + 1 => .int lo :: runRange (lo + 1) n
/-- bounds that a range object is walked within -/
def small (i : Int) : Bool := Nat.blt i.natAbs 1000000
theorem small_le {i : Int} (h : small i = true) : -(2 ^ 62) ≤ i ∧ i < 2 ^ 62 := by
  have h : i.natAbs < 1000000 := Nat.blt_eq.mp h
  omega
/-- the items of a list or tuple -/
def D.items : D → Option (List D)
  | .tup xs => some xs
  | .lst xs => some xs
  | .ext xs => some xs
  | .rng lo hi => if small lo && small hi then some (runRange lo (hi - lo).toNat) else none
  | _ => none
def D.isNon : D → Bool
  | .non => true
  | _ => false
def depthMax : Nat := 60
def binSem : BOp → D → D → Option R
  | .add, .int i, .int j => some (.val (.int (i + j)))
  | .add, .lst xs, .lst ys => if xs.length + ys.length ≤ big then some (.own (xs ++ ys)) else none
  | .add, .tup xs, .tup ys => if xs.length + ys.length ≤ big then some (.val (.tup (xs ++ ys))) else none
  | .add, .str x, .str y => if x.length + y.length ≤ big then some (.val (.str (x ++ y))) else none
  | .sub, .int i, .int j => some (.val (.int (i - j)))
  | .mul, .int i, .int j => if i.natAbs < 2 ^ 64 ∨ j.natAbs < 2 ^ 64 then some (.val (.int (i * j))) else none
  | .mul, .lst xs, .int j => if j < 2 ^ 62 ∧ -(2 ^ 62) < j ∧ xs.length * j.toNat ≤ big then some (.own (List.replicate j.toNat xs).flatten) else none
  | .div, .int i, .int j => if 0 < j ∧ j < 2 ^ 30 then some (.val (.int (i / j))) else none
  | .mod, .int i, .int j => if 0 < j then some (.val (.int (i % j))) else none
  | .pow, .int i, .int j => if 0 ≤ j ∧ j ≤ 1000000 ∧ i.natAbs < 2 ^ 64 then some (.val (.int (i ^ j.toNat))) else none
  | .shl, .int i, .int j => if 0 ≤ j ∧ j ≤ 1000000 ∧ i.natAbs < 2 ^ 64 then some (.val (.int (i * 2 ^ j.toNat))) else none
  | .shr, .int i, .int j => if 0 ≤ j then some (.val (.int (i / 2 ^ j.toNat))) else none
  | .band, .int i, .int j => some (.val (.int (Builtin.bitAnd i j)))
  | .bor, .int i, .int j => some (.val (.int (Builtin.bitOr i j)))
  | .bxor, .int i, .int j => some (.val (.int (Builtin.bitXor i j)))
  | _, _, _ => none
def inSem (x y : D) : Option Bool := match y with
  | .tup xs => if x.flat && xs.all D.flat then some (xs.any fun z => D.eqv z x)
    else if D.fit depthMax x && D.fit depthMax (.tup xs) then some (xs.any fun z => D.eqv z x) else none
  | .lst xs => if x.flat && xs.all D.flat then some (xs.any fun z => D.eqv z x)
    else if D.fit depthMax x && D.fit depthMax (.lst xs) then some (xs.any fun z => D.eqv z x) else none
  | _ => none
/-- is True, is False -/
def isBool : D → Bool → Option Bool
  | .bl a, b => some (decide (a = b))
  | .int _, _ => some false
  | .str _, _ => some false
  | .non, _ => some false
  | _, _ => none
def cmpSem : COp → D → D → Option Bool
  | .lt, .int i, .int j => some (decide (i < j))
  | .le, .int i, .int j => some (decide (i ≤ j))
  | .gt, .int i, .int j => some (decide (j < i))
  | .ge, .int i, .int j => some (decide (j ≤ i))
  | .eq, x, y => if D.fit depthMax x && D.fit depthMax y then some (D.eqv x y) else none
  | .ne, x, y => if D.fit depthMax x && D.fit depthMax y then some (!D.eqv x y) else none
  | .isN, x, .non => some x.isNon
  | .notN, x, .non => some !x.isNon
  | .isN, x, .bl b => isBool x b
  | .notN, x, .bl b => (isBool x b).map (!·)
  | .inn, x, y => inSem x y
  | .nin, x, y => (inSem x y).map (!·)
  | _, _, _ => none
def tru : D → Option Bool
  | .non => some false
  | .bl b => some b
  | .int i => some (i != 0)
  | .str s => if s.length ≤ big then some ((s.length : Int) != 0) else none
  | .tup xs => some (!xs.isEmpty)
  | .lst xs => some (!xs.isEmpty)
  | .ext xs => some (!xs.isEmpty)
  | .rng _ _ => none
  | .ins _ _ => none
  | .cell _ => none
def isiSem : Ty → D → Bool
  | .int, .int _ => true
  | .int, .bl _ => true
  | .bool, .bl _ => true
  | .str, .str _ => true
  | .list, .lst _ => true
  | .tuple, .tup _ => true
  | _, _ => false
def isiB (ic : Nat → Bool) (t : Ty) (d : D) : Option Bool := match t with
  | .cls k => if ic k then some false else none
  | t => some (isiSem t d)
def isiRun (ic : Nat → Bool) (t : Ty) (d : D) : Option Bool := match d with
  | .cell _ => none
  | .ext _ => none
  | .rng _ _ => none
  | .ins c _ => if ic c then (match t with
    | .cls k => if ic k then some (decide (c = k)) else none
    | _ => some false) else none
  | d => isiB ic t d
/-- the text of plain data -/
def reprSem (d : D) : Option Str := match D.pd d with
  | some p => if D.fit depthMax d && p.showable && decide (p.shown.length ≤ big) then some p.shown else none
  | none => none
def maxI : List Int → Option Int
  | [] => none
  | x :: xs => some (xs.foldl max x)
def minI : List Int → Option Int
  | [] => none
  | x :: xs => some (xs.foldl min x)
def biSem : Bi → List D → Option R
  | .len, [.str s] => if s.length ≤ big then some (.val (.int s.length)) else none
  | .len, [.lst xs] => some (.val (.int xs.length))
  | .len, [.ext xs] => some (.val (.int xs.length))
  | .len, [.tup xs] => some (.val (.int xs.length))
  | .abs, [.int i] => some (.val (.int (if i < 0 then -i else i)))
  | .int, [.int i] => some (.val (.int i))
  | .tuple, [.lst xs] => some (.val (.tup xs))
  | .tuple, [.tup xs] => some (.val (.tup xs))
  | .list, [.lst xs] => some (.own xs)
  | .list, [.tup xs] => some (.own xs)
  | .sorted, [.lst xs] => (match D.ints xs with
    | some l => some (.own ((sortI l).map .int))
    | none => (D.prs xs).map fun l => .own ((sortP l).map prD))
  | .sorted, [.tup xs] => (D.ints xs).map fun l => .own ((sortI l).map .int)
  | .sortedSet, [.lst xs] => (D.ints xs).bind fun l => if l.length < 4000 ∧ (sortU l).length < 64 then some (.own ((sortU l).map .int)) else none
  | .sortedSet, [.tup xs] => (D.ints xs).bind fun l => if l.length < 4000 ∧ (sortU l).length < 64 then some (.own ((sortU l).map .int)) else none
  | .sum, [.lst xs] => (D.ints xs).map fun l => .val (.int l.sum)
  | .maxL, [.lst xs] => ((D.ints xs).bind maxI).map fun i => .val (.int i)
  | .minL, [.lst xs] => ((D.ints xs).bind minI).map fun i => .val (.int i)
  | .max2, [.int i, .int j] => some (.val (.int (max i j)))
  | .min2, [.int i, .int j] => some (.val (.int (min i j)))
  | .repr, [d] => (reprSem d).map fun s => .val (.str s)
  | .any, [.lst xs] => (D.bools xs).map fun l => .val (.bl (l.any id))
  | .all, [.lst xs] => (D.bools xs).map fun l => .val (.bl (l.all id))
  | _, _ => none
def ixSem : D → D → Option D
  | .lst xs, .int i => L2.atI xs i
  | .tup xs, .int i => L2.atI xs i
  | _, _ => none
def cut {α : Type} (xs : List α) (lo hi : Option Int) : List α := (xs.drop (HT.sIx xs.length 0 lo)).take (HT.sIx xs.length xs.length hi - HT.sIx xs.length 0 lo)
def slcSem : D → Option Int → Option Int → Option R
  | .lst xs, lo, hi => some (.own (cut xs lo hi))
  | .tup xs, lo, hi => some (.val (.tup (cut xs lo hi)))
  | _, _, _ => none
/-- a list behind a method that changes it, what is given back -/
def lmSem : LM → List D → List D → Option (List D × D)
  | .append, xs, [d] => if xs.length < big then some (xs ++ [d], .non) else none
  | .insert, xs, [.int i, d] => if xs.length < big ∧ 0 ≤ i ∧ i ≤ xs.length then some (xs.take i.toNat ++ d :: xs.drop i.toNat, .non) else none
  | .pop, xs, [] => match xs.getLast? with
    | some d => some (xs.dropLast, d)
    | none => none
  | .popAt, xs, [.int i] => match L2.ixN xs.length i with
    | some j => (xs[j]?).map fun d => (xs.eraseIdx j, d)
    | none => none
  | .reverse, xs, [] => some (xs.reverse, .non)
  | .index, xs, [d] => if D.fit depthMax d && D.fit depthMax (.lst xs) then (xs.findIdx? fun z => D.eqv z d).map fun j => (xs, .int j) else none
  | .extend, xs, [.lst ys] => if xs.length + ys.length ≤ big then some (xs ++ ys, .non) else none
  | _, _, _ => none

/-! ### states -/
/-- what stands behind a cell -/
def D.see (h : List Cell) : D → Option D
  | .cell i => match h[i]? with
    | some (.lst xs) => some (.lst xs)
    | some (.ins c fs) => some (.ins c fs)
    | none => none
  | d => some d
/-- an argument that is only looked at: a value, or a name as it will stand -/
inductive P where
  | dat (x : D)
  | sl (i : Nat)
def P.get (s : St) : P → Option D
  | .dat d => D.see s.hp d
  | .sl i => match s.sl[i]? with
    | some (.val d) => D.see s.hp d
    | some (.own xs) => some (.lst xs)
    | _ => none
def gets (s : St) : List P → Option (List D)
  | [] => some []
  | p :: ps => match p.get s, gets s ps with
    | some d, some ds => some (d :: ds)
    | _, _ => none
def St.put (s : St) (i : Nat) (x : Slot) : St := { s with sl := s.sl.set i x }
def St.asg (s : St) (i : Nat) (md : Md) : R → St
  | .val d => s.put i (.val d)
  | .own xs => match md with
    | .val => s.put i (.val (.lst xs))
    | .own => s.put i (.own xs)
    | .cell => St.put ⟨s.sl, s.hp ++ [.lst xs]⟩ i (.val (.cell s.hp.length))
/-- no exception is held -/
def St.clean (s : St) : Bool := s.sl.all fun
  | .exc _ => false
  | _ => true
inductive Flow where
  | next | brk | cont
  | ret (r : R)
/-- a name as a value: its own list is given away -/
def varV (i : Nat) (s : St) : O R := match s.sl[i]? with
  | some (.val d) => .ok (.val d) s
  | some (.own xs) => .ok (.val (.lst xs)) (s.put i (.val (.lst xs)))
  | _ => .bad
/-- a name that is only looked at -/
def varP (i : Nat) (s : St) : O P := match s.sl[i]? with
  | some (.val _) => .ok (.sl i) s
  | some (.own _) => .ok (.sl i) s
  | _ => .bad
/-- a name handed back: its own list with it -/
def varR (i : Nat) (s : St) : O R := match s.sl[i]? with
  | some (.val d) => .ok (.val d) s
  | some (.own xs) => .ok (.own xs) (s.put i .no)
  | _ => .bad
def setTg : Tg → D → St → Option St
  | .name i, d, s => some (s.put i (.val d))
  | .tup ts, .tup xs, s => if ts.length = xs.length then some ((ts.zip xs).foldl (fun s p => s.put p.1 (.val p.2)) s) else none
  | _, _, _ => none
def putF (f : Nat) (d : D) : List (Nat × D) → List (Nat × D)
  | [] => [(f, d)]
  | (g, e) :: r => if g = f then (g, d) :: r else (g, e) :: putF f d r
def Tg.own : Tg → List Nat
  | .name i => [i]
  | .tup ts => ts
/-- the slots of a comprehension's own names forgotten -/
def wipe (sl : List Slot) : List Nat → List Slot
  | [] => sl
  | v :: vs => (wipe sl vs).set v .no
/-- .. and put back -/
def unwipe (old sl : List Slot) : List Nat → List Slot
  | [] => sl
  | v :: vs => match old[v]? with
    | some (.val d) => (unwipe old sl vs).set v (.val d)
    | _ => (unwipe old sl vs).set v .no

/-! ### running -/
/-- what an expression does: as a value, as a test, as something that is only looked at -/
structure Den where
  v : St → O R
  t : St → O Bool
  p : St → O P
def truthP (o : O P) : O Bool := o.bind fun p s => O.opt ((p.get s).bind tru) s
def pOf (v : St → O R) : St → O P := fun s => (v s).bind fun r s => .ok (.dat r.d) s
/-- a value, given away where it is a list of its own -/
def fz (v : St → O R) : St → O D := fun s => (v s).bind fun r s => .ok r.d s
def den (v : St → O R) : Den := ⟨v, fun s => truthP (pOf v s), pOf v⟩
structure Dens where
  v : St → O (List D)
  p : St → O (List P)
def runSeq : List D → Nat → List D
  | [], _ => []
  | d :: ds, k => .tup [.int k, d] :: runSeq ds (k + 1)
def runZip : List D → List D → List D
  | x :: xs, y :: ys => .tup [x, y] :: runZip xs ys
  | _, _ => []
/-- an own list that is walked is given away -/
def walkP (p : P) (s : St) : O (List D) := match p with
  | .dat d => O.opt d.items s
  | .sl i => match s.sl[i]? with
    | some (.val d) => O.opt d.items s
    | some (.own xs) => .ok xs (s.put i (.val (.lst xs)))
    | _ => .bad
/-- a list's (false) or tuple's (true) items; an own list is given away -/
def D.seq : D → Option (Bool × List D)
  | .tup xs => some (true, xs)
  | .lst xs => some (false, xs)
  | .ext xs => some (false, xs)
  | _ => none
def seqP (p : P) (s : St) : O (Bool × List D) := match p with
  | .dat d => O.opt d.seq s
  | .sl i => match s.sl[i]? with
    | some (.val d) => O.opt d.seq s
    | some (.own xs) => .ok (false, xs) (s.put i (.val (.lst xs)))
    | _ => .bad
def runComp (elt : St → O R) (ifs : St → O Bool) (tg : Tg) (own : List Nat) (old : List Slot) : List D → List D → St → O (List D)
  | [], acc, s => .ok acc s
  | d :: ds, acc, s => match setTg tg d { s with sl := wipe s.sl own } with
    | none => .bad
    | some s1 => (ifs s1).bind fun b s2 => if b then (fz elt s2).bind fun x s3 => if acc.length < big then runComp elt ifs tg own old ds (acc ++ [x]) s3 else .bad else runComp elt ifs tg own old ds acc s2
def noExc {α : Type} (o : O α) : O α := match o with
  | .exc _ _ => .bad
  | o => o
def ints2 (p q : P) (s : St) : Option (Int × Int) := match p.get s, q.get s with
  | some (.int i), some (.int j) => some (i, j)
  | _, _ => none
def callFn (f : Option FnSem) (ds : List D) (s : St) : O R := match f with
  | none => .bad
  | some f => match f ds s.hp with
    | .bad => .bad
    | .ok r h => .ok r { s with hp := h }
    | .exc x h => .exc x { s with hp := h }
/-- a method of a list that stands in a slot or a cell -/
def lmRun (m : LM) (p : P) (ds : List D) (s : St) : O R := match p with
  | .sl i => match s.sl[i]? with
    | some (.own xs) => (match lmSem m xs ds with
      | some (ys, d) => .ok (.val d) (s.put i (.own ys))
      | none => .bad)
    | some (.val (.cell j)) => (match s.hp[j]? with
      | some (.lst xs) => (match lmSem m xs ds with
        | some (ys, d) => .ok (.val d) { s with hp := s.hp.set j (.lst ys) }
        | none => .bad)
      | _ => .bad)
    | some (.val (.lst xs)) => (match m, lmSem m xs ds with
      | .index, some (_, d) => .ok (.val d) s
      | _, _ => .bad)
    | _ => .bad
  | .dat (.cell j) => (match s.hp[j]? with
    | some (.lst xs) => (match lmSem m xs ds with
      | some (ys, d) => .ok (.val d) { s with hp := s.hp.set j (.lst ys) }
      | none => .bad)
    | _ => .bad)
  | .dat (.lst xs) => (match m, lmSem m xs ds with
    | .index, some (_, d) => .ok (.val d) s
    | _, _ => .bad)
  | _ => .bad
mutual
/-- no cell from n on is named -/
def D.bel (n : Nat) : D → Bool
  | .tup xs => D.bels n xs
  | .lst xs => D.bels n xs
  | .ext xs => D.bels n xs
  | .ins _ fs => D.belf n fs
  | .cell i => decide (i < n)
  | _ => true
def D.bels (n : Nat) : List D → Bool
  | [] => true
  | x :: xs => D.bel n x && D.bels n xs
def D.belf (n : Nat) : List (Nat × D) → Bool
  | [] => true
  | (_, x) :: xs => D.bel n x && D.belf n xs
end
def Cell.below (n : Nat) : Cell → Bool
  | .lst xs => D.bels n xs
  | .ins _ fs => D.belf n fs
def R.bel (n : Nat) : R → Bool
  | .val d => D.bel n d
  | .own xs => D.bels n xs
def Slot.bel (n : Nat) : Slot → Bool
  | .no => true
  | .val d => D.bel n d
  | .own xs => D.bels n xs
  | .exc _ => false
/-- the own list of name i stands as a cell while f runs -/
def lendV (i : Nat) (f : St → O R) (s : St) : O R := match s.sl[i]? with
  | some (.own xs) => (match f ⟨s.sl.set i (.val (.cell s.hp.length)), s.hp ++ [.lst xs]⟩ with
    | .ok r s2 => (match s2.hp[s.hp.length]?, s2.sl[i]? with
      | some (.lst ys), some (.val (.cell j)) => if j = s.hp.length ∧ s2.hp.length = s.hp.length + 1 ∧ R.bel s.hp.length r = true ∧ D.bels s.hp.length ys = true ∧ (s2.hp.take s.hp.length).all (Cell.below s.hp.length) = true ∧ (s2.sl.set i .no).all (Slot.bel s.hp.length) = true then
          .ok r ⟨s2.sl.set i (.own ys), s2.hp.take s.hp.length⟩ else .bad
      | _, _ => .bad)
    | _ => .bad)
  | _ => .bad
mutual
def ev (G : Env) : E → Den
  | .var i => ⟨varV i, fun s => truthP (varP i s), varP i⟩
  | .int i => den fun s => .ok (.val (.int i)) s
  | .bl b => den fun s => .ok (.val (.bl b)) s
  | .non => den fun s => .ok (.val .non) s
  | .str x => den fun s => .ok (.val (.str x)) s
  | .glob g => den fun s => O.opt ((G.gl g).map R.val) s
  | .bin op a b => den fun s => ((ev G a).p s).bind fun p s => ((ev G b).p s).bind fun q s => O.opt ((p.get s).bind fun x => (q.get s).bind fun y => binSem op x y) s
  | .neg a => den fun s => ((ev G a).p s).bind fun p s => match p.get s with
    | some (.int i) => .ok (.val (.int (-i))) s
    | _ => .bad
  | .not a =>
    let t := fun s => ((ev G a).t s).bind fun b s => .ok (!b) s
    let v := fun s => (truthP ((ev G a).p s)).bind fun b s => .ok (.val (.bl !b)) s
    ⟨v, t, pOf v⟩
  | .cmp op a b => den fun s => ((ev G a).p s).bind fun p s => ((ev G b).p s).bind fun q s => O.opt ((p.get s).bind fun x => (q.get s).bind fun y => (cmpSem op x y).map fun b => R.val (.bl b)) s
  | .chain o o2 a b c => den fun s => ((ev G a).p s).bind fun p s => ((ev G b).p s).bind fun q s => match (p.get s).bind fun x => (q.get s).bind fun y => cmpSem o x y with
    | none => .bad
    | some false => .ok (.val (.bl false)) s
    | some true => ((ev G c).p s).bind fun r s => O.opt ((q.get s).bind fun y => (r.get s).bind fun z => (cmpSem o2 y z).map fun b => R.val (.bl b)) s
  | .and a b =>
    let v := fun s => (fz (ev G a).v s).bind fun d s => match (D.see s.hp d).bind tru with
      | none => .bad
      | some false => .ok (.val d) s
      | some true => (fz (ev G b).v s).bind fun d s => .ok (.val d) s
    ⟨v, fun s => ((ev G a).t s).bind fun x s => if x then (ev G b).t s else .ok false s, pOf v⟩
  | .or a b =>
    let v := fun s => (fz (ev G a).v s).bind fun d s => match (D.see s.hp d).bind tru with
      | none => .bad
      | some true => .ok (.val d) s
      | some false => (fz (ev G b).v s).bind fun d s => .ok (.val d) s
    ⟨v, fun s => ((ev G a).t s).bind fun x s => if x then .ok true s else (ev G b).t s, pOf v⟩
  | .ite c a b =>
    let v := fun s => ((ev G c).t s).bind fun x s => if x then (ev G a).v s else (ev G b).v s
    ⟨v, fun s => ((ev G c).t s).bind fun x s => if x then (ev G a).t s else (ev G b).t s, pOf v⟩
  | .tup es => den fun s => ((evs G es).v s).bind fun ds s => if ds.length ≤ big then .ok (.val (.tup ds)) s else .bad
  | .lst es => den fun s => ((evs G es).v s).bind fun ds s => if ds.length ≤ big then .ok (.own ds) s else .bad
  | .ix a i => den fun s => ((ev G a).p s).bind fun p s => ((ev G i).p s).bind fun q s => O.opt ((p.get s).bind fun x => (q.get s).bind fun y => (ixSem x y).map R.val) s
  | .slc a lo hi => den fun s => ((ev G a).p s).bind fun p s => (evo G lo s).bind fun l s => (evo G hi s).bind fun h s => O.opt ((p.get s).bind fun x => slcSem x l h) s
  | .rev a => den fun s => ((ev G a).p s).bind fun p s => match p.get s with
    | some (.lst xs) => .ok (.own xs.reverse) s
    | _ => .bad
  | .fld a f => den fun s => ((ev G a).p s).bind fun p s => match p.get s with
    | some (.ins c fs) => if G.fa c f then O.opt ((fs.lookup f).map R.val) s else .bad
    | _ => .bad
  | .call f es n => den fun s => ((evs G es).v s).bind fun ds s => match G.fn f with
    | none => .bad
    | some (g, dfl) => if n ≤ dfl.length then callFn (some g) (ds ++ dfl.drop (dfl.length - n)) s else .bad
  | .mk c es => den fun s => ((evs G es).v s).bind fun ds s => callFn (G.made c) ds s
  | .bi b es => den fun s => ((evs G es).p s).bind fun ps s => O.opt ((gets s ps).bind (biSem b)) s
  | .isi t a => den fun s => ((ev G a).p s).bind fun p s => O.opt ((p.get s).bind fun d => (isiRun G.ic t d).map fun b => R.val (.bl b)) s
  | .im c a m es => den fun s => (fz (ev G a).v s).bind fun d s => match D.see s.hp d with
    | some (.ins e fs) => if e = c ∧ (fs.lookup m).isNone then ((evs G es).v s).bind fun ds s => callFn (G.meth c m) (d :: ds) s else .bad
    | _ => .bad
  | .lm m a es => den fun s => ((ev G a).p s).bind fun p s => match p.get s with
    | some (.lst _) => ((evs G es).v s).bind fun ds s => lmRun m p ds s
    | _ => .bad
  | .lc elt tg src ifs => den fun s => (evr G src s).bind fun ds s => noExc ((runComp (ev G elt).v (evi G ifs) tg tg.own s.sl ds [] s).bind fun acc s2 => .ok (.own acc) { s2 with sl := unwipe s.sl s2.sl tg.own })
  | .xf i f => den fun s => match s.sl[i]? with
    | some (.exc x) => if G.xa x.c f then O.opt ((x.fs.lookup f).map R.val) s else .bad
    | _ => .bad
  | .lend i e => ⟨lendV i (ev G e).v, fun _ => .bad, pOf (lendV i (ev G e).v)⟩
  | .eqI c m a b => den fun s => (fz (ev G a).v s).bind fun x s => (fz (ev G b).v s).bind fun y s => match D.see s.hp x, D.see s.hp y with
    | some (.ins e _), some (.ins e' _) => if e = c ∧ e' = c then (noExc (callFn (G.meth c m) [x, y] s)).bind fun r s => match r with
      | .val (.bl k) => .ok (.val (.bl k)) s
      | _ => .bad
      else .bad
    | _, _ => .bad
  | .lenSet a => den fun s => ((ev G a).p s).bind fun p s => O.opt ((p.get s).bind lenSetSem) s
  | .rng1 a => den fun s => ((ev G a).p s).bind fun p s => match p.get s with
    | some (.int j) => .ok (.val (.rng 0 j)) s
    | _ => .bad
  | .rng2 a b => den fun s => ((ev G a).p s).bind fun p s => ((ev G b).p s).bind fun q s => match ints2 p q s with
    | some (i, j) => .ok (.val (.rng i j)) s
    | none => .bad
def evs (G : Env) : Es → Dens
  | .nil => ⟨fun s => .ok [] s, fun s => .ok [] s⟩
  | .cons e es => ⟨fun s => (fz (ev G e).v s).bind fun d s => ((evs G es).v s).bind fun ds s => .ok (d :: ds) s, fun s => ((ev G e).p s).bind fun p s => ((evs G es).p s).bind fun ps s => .ok (p :: ps) s⟩
/-- the tests of a comprehension -/
def evi (G : Env) : Es → St → O Bool
  | .nil => fun s => .ok true s
  | .cons e es => fun s => ((ev G e).t s).bind fun b s => if b then evi G es s else .ok false s
def evo (G : Env) : Op → St → O (Option Int)
  | .no => fun s => .ok none s
  | .so e => fun s => ((ev G e).p s).bind fun p s => match p.get s with
    | some (.int i) => .ok (some i) s
    | _ => .bad
/-- what a loop walks -/
def evr (G : Env) : Src → St → O (List D)
  | .seq e => fun s => ((ev G e).p s).bind walkP
  | .r1 e => fun s => ((ev G e).p s).bind fun p s => match p.get s with
    | some (.int j) => if small j then .ok (runRange 0 j.toNat) s else .bad
    | _ => .bad
  | .r2 a b => fun s => ((ev G a).p s).bind fun p s => ((ev G b).p s).bind fun q s => match ints2 p q s with
    | some (i, j) => if small i && small j then .ok (runRange i (j - i).toNat) s else .bad
    | none => .bad
  | .enum e => fun s => ((ev G e).p s).bind fun p s => (seqP p s).bind fun k s => .ok (runSeq k.2 0) s
  | .zip a b => fun s => ((ev G a).p s).bind fun p s => ((ev G b).p s).bind fun q s => (seqP p s).bind fun k s => (seqP q s).bind fun l s => if k.1 = l.1 then .ok (runZip k.2 l.2) s else .bad
end
def runFor (bd : St → O Flow) (tg : Tg) : List D → St → O Flow
  | [], s => .ok .next s
  | d :: ds, s => match setTg tg d s with
    | none => .bad
    | some s => (bd s).bind fun f s => match f with
      | .next => runFor bd tg ds s
      | .cont => runFor bd tg ds s
      | .brk => .ok .next s
      | .ret r => .ok (.ret r) s
def runWhl (c : St → O Bool) (bd : St → O Flow) : Nat → St → O Flow
  | 0, _ => .bad
  | n + 1, s => (c s).bind fun b s => if b then (bd s).bind fun f s => match f with
      | .next => runWhl c bd n s
      | .cont => runWhl c bd n s
      | .brk => .ok .next s
      | .ret r => .ok (.ret r) s
    else .ok .next s
/-- e as what is handed back or stored: a name's own list goes with it -/
def retV (G : Env) : E → St → O R
  | .var i => varR i
  | e => (ev G e).v
def setIxRun (p : P) (k : Int) (d : D) (s : St) : O Flow := match p with
  | .sl i => match s.sl[i]? with
    | some (.own xs) => (match L2.ixN xs.length k with
      | some j => .ok .next (s.put i (.own (xs.set j d)))
      | none => .bad)
    | some (.val (.cell c)) => (match s.hp[c]? with
      | some (.lst xs) => (match L2.ixN xs.length k with
        | some j => .ok .next { s with hp := s.hp.set c (.lst (xs.set j d)) }
        | none => .bad)
      | _ => .bad)
    | _ => .bad
  | .dat (.cell c) => (match s.hp[c]? with
    | some (.lst xs) => (match L2.ixN xs.length k with
      | some j => .ok .next { s with hp := s.hp.set c (.lst (xs.set j d)) }
      | none => .bad)
    | _ => .bad)
  | _ => .bad
mutual
def ex (G : Env) : S → St → O Flow
  | .asg i md e => fun s => ((ev G e).v s).bind fun r s => .ok .next (s.asg i md r)
  | .asgT ts e => fun s => (fz (ev G e).v s).bind fun d s => match setTg (.tup ts) d s with
    | some s => .ok .next s
    | none => .bad
  | .setIx a i e => fun s => (fz (ev G e).v s).bind fun d s => ((ev G a).p s).bind fun p s => ((ev G i).p s).bind fun q s => match q.get s with
    | some (.int k) => setIxRun p k d s
    | _ => .bad
  | .setF a f e => fun s => (fz (ev G e).v s).bind fun d s => (fz (ev G a).v s).bind fun x s => match x with
    | .cell c => (match s.hp[c]? with
      | some (.ins k fs) => if fs.length < 900 ∧ G.fa k f then .ok .next { s with hp := s.hp.set c (.ins k (putF f d fs)) } else .bad
      | _ => .bad)
    | _ => .bad
  | .ex e => fun s => ((ev G e).v s).bind fun _ s => .ok .next s
  | .ret e => fun s => (retV G e s).bind fun r s => .ok (.ret r) s
  | .retN => fun s => .ok (.ret (.val .non)) s
  | .ite c a b => fun s => ((ev G c).t s).bind fun x s => if x then exs G a s else exs G b s
  | .for_ tg src body => fun s => (evr G src s).bind fun ds s => runFor (exs G body) tg ds s
  | .whl n c body => fun s => runWhl (ev G c).t (exs G body) n s
  | .brk => fun s => .ok .brk s
  | .cont => fun s => .ok .cont s
  | .pass => fun s => .ok .next s
  | .raise c es => fun s => ((evs G es).v s).bind fun ds s => match G.xc c with
    | some fl => if fl.length = ds.length then .exc ⟨c, fl.zip ds⟩ s else .bad
    | none => .bad
  | .try_ body hs => fun s => match exs G body s with
    | .exc x s => exh G hs x s
    | o => o
def exs (G : Env) : Ss → St → O Flow
  | .nil => fun s => .ok .next s
  | .cons c cs => fun s => (ex G c s).bind fun f s => match f with
    | .next => exs G cs s
    | f => .ok f s
def exh (G : Env) : Hs → X → St → O Flow
  | .nil => fun x s => .exc x s
  | .cons c i body hs => fun x s => match G.xk x.c c with
    | none => .bad
    | some false => exh G hs x s
    | some true => match i with
      | none => (noExc (exs G body s)).bind fun f s => if s.clean then .ok f s else .bad
      | some i => (noExc (exs G body (s.put i (.exc x)))).bind fun f s => if (s.put i .no).clean then .ok f (s.put i .no) else .bad
end
/-- a def's body, np parameters, n names in all -/
def runFn (G : Env) (np n : Nat) (body : Ss) : FnSem := fun ds h => if ds.length = np then (match exs G body ⟨ds.map .val ++ List.replicate (n - ds.length) .no, h⟩ with
  | .ok .next s => .ok (.val .non) s.hp
  | .ok (.ret r) s => .ok r s.hp
  | .exc x s => .exc x s.hp
  | _ => .bad) else .bad
/-- C(..) by its __init__, the instance then stands still -/
def runMake (c : Nat) (init : FnSem) : FnSem := fun ds h => match init (.cell h.length :: ds) (h ++ [.ins c []]) with
  | .ok (.val .non) h2 => (match h2[h.length]? with
    | some (.ins e fs) => if e = c ∧ h2.length = h.length + 1 ∧ D.belf h.length fs ∧ (h2.take h.length).all (Cell.below h.length) then .ok (.val (.ins c fs)) (h2.take h.length) else .bad
    | _ => .bad)
  | .exc x h2 => if x.fs.all (fun p => D.bel h.length p.2) ∧ (h2.take h.length).all (Cell.below h.length) ∧ h.length ≤ h2.length then .exc x (h2.take h.length) else .bad
  | _ => .bad
end MP
set_option Elab.async false
set_option linter.all false
set_option maxRecDepth 100000
set_option maxHeartbeats 4000000
/-! MPEn: enumerate(tuple). -/
namespace PySem
open Sem (wp)
set_option maxHeartbeats 4000000 in
theorem meets_enumerate_new1 {v : Value} {o : Obj} {H : Heap → Prop} (B : Begins v o H) :
    Meets (Builtin.«enumerate.__new__» ⟨[.type "enumerate", v], []⟩) (fun _ R s => H s.heap ∧
      R (.ok (.ret (.ref (s.heap.push o).objs.size))) { s with heap := (s.heap.push o).push { cls := .type "enumerate", data := .fields #[.none, .bool false, .ref s.heap.objs.size, rawInt 0, .none, .none] } }) :=
  .of_wp fun prog w A R s h => by
    obtain ⟨hp, g, d, tk, os⟩ := s; obtain ⟨h1, h⟩ := h
    have hsub := sub_enumerate
    have q1 : ∀ {A' : Around} {E : Value → Shared → Prop} {Q : Value → Shared → Prop}, Q (.ref hp.objs.size) ⟨hp.push o, g, d, tk, os⟩ → wpAny (model prog w) A' (pyIter v) Q E ⟨hp, g, d, tk, os⟩ :=
      fun q => B.iter prog w _ _ ⟨hp, g, d, tk, os⟩ _ h1 q
    wp_walk using q1
    refine wpAny_stack_any fun st => wpAny_pure ?_
    split
    · rename_i c _ _ _ _ _
      cases (c == Value.type "enumerate")
      · wp_walk using q1
        exact ⟨_, rfl, h⟩
      · wp_walk using q1
        exact ⟨_, rfl, h⟩
    · wp_walk using q1
      exact ⟨_, rfl, h⟩
section
variable {prog : Program} {w : World} {A : Around} {E : Value → Shared → Prop} {s : Shared}
theorem call_enumerate_b {v : Value} {o : Obj} {H : Heap → Prop} {Q : Value → Shared → Prop} (B : Begins v o H) (h1 : H s.heap)
    (h : ∀ h', IsEnum h' (s.heap.objs.size + 1) s.heap.objs.size 0 .none → h'.get? s.heap.objs.size = some o → h'.objs.size = s.heap.objs.size + 2 →
      (∀ b o, s.heap.get? b = some o → h'.get? b = some o) → Q (.ref (s.heap.objs.size + 1)) { s with heap := h' }) :
    wpAny (model prog w) A (call (.type "enumerate") [v]) Q E s := by
  refine callType_new F.called_enumerate (by decide) (F.typeCall_enumerate_1 _) (F.newCall_enumerate_1 _) (fun obj => F.args_object_init_2 obj _) F.entry_enumerate_new
    (meets_enumerate_new1 B) ⟨h1, ?_⟩
  have hz : (s.heap.push o).objs.size = s.heap.objs.size + 1 := Heap.size_push ..
  show _ ∧ _
  rw [hz]
  have he : IsEnum ((s.heap.push o).push { cls := .type "enumerate", data := .fields #[.none, .bool false, .ref s.heap.objs.size, rawInt 0, .none, .none] }) (s.heap.objs.size + 1) s.heap.objs.size 0 .none := by
    have := Heap.get?_push_size (s.heap.push o) (o := { cls := .type "enumerate", data := .fields #[.none, .bool false, .ref s.heap.objs.size, rawInt 0, .none, .none] }) rfl
    rw [hz] at this; exact this
  refine ⟨⟨_, he, rfl⟩, h _ he (Heap.get?_push_of_some _ (Heap.get?_push_size _ B.free)) (by rw [Heap.size_push, hz]) fun b o x => Heap.get?_push_of_some _ (Heap.get?_push_of_some _ x)⟩
end
end PySem
namespace L2
open PySem PySem.Spec PyProof.Rows
/-- the tuple at a at each turn, each item in a new pair -/
def IteT (K : PySem.W.Frag) (a : Addr) : It :=
  ⟨fun i H => ∃ (xs : List V) (x : V), SqT K H a xs ∧ xs[i]? = some x, fun i H v H' => ∃ T x, v = .ref T ∧ H T = none ∧ H' = upd H T (.tup [.int (i : Nat), x]) ∧ ∀ xs, SqT K H a xs → xs[i]? = some x, fun i H => ∃ xs : List V, SqT K H a xs ∧ xs.length ≤ i⟩
theorem turn_enumT {P : Program} {w : World} {K : PySem.W.Frag} {elts : List Expr} {kk : Nat} {tpos : Pos} (a e it : Addr) (hae : a ≠ e) (hai : a ≠ it) :
    Turn P w K (.Tuple elts kk tpos) (IteT K a) [e, it] e (fun i h => (∃ old, IsEnum h e it ((i : Nat) : Int) old) ∧ h.IsTupleIter it a i ∧ e ≠ it) where
  mem := by simp
  obj := fun i h st b hb => by
    obtain ⟨⟨old, he⟩, ⟨o, ho, hc, hd⟩, _⟩ := st
    have e' : b = e ∨ b = it := by simpa using hb
    rcases e' with z | z
    · rw [z]; exact ⟨_, he, fun v q => nomatch q⟩
    · rw [z]; exact ⟨o, ho, fun v q => by rw [hd] at q; cases q⟩
  keep := fun i h h' st k => by
    obtain ⟨⟨old, he⟩, ⟨o, ho, hr⟩, hne⟩ := st
    exact ⟨⟨old, k e (by simp) _ he⟩, ⟨o, k it (by simp) _ ho, hr⟩, hne⟩
  item := by
    intro X hP hw hK hc i pins s σ H E I hf st hg
    subst hP hw hK
    obtain ⟨⟨old, he⟩, hit, hne⟩ := st
    obtain ⟨xs, x, hq, hx⟩ := hg
    obtain ⟨its, rv, p, hz⟩ := I.tuple hq
    obtain ⟨u, hu, ru⟩ := rv.get hx
    have hel : e < s.heap.objs.size := Heap.lt_size he
    have hil : it < s.heap.objs.size := by obtain ⟨_, q, _⟩ := hit; exact Heap.lt_size q
    have hT : s.heap.IsTuple a its.toArray := p
    have D := Draws.tuple (prog := X.prog) (w := X.w) (A := X.A.in1) (I.ok.hd hc) it a hai its.toArray
    have hlt : i < its.toArray.size := by
      have := (List.getElem?_eq_some_iff.mp hu).1
      simpa using this
    refine wpAny_pyNext_enum_itemD D he ⟨hit, hT⟩ hlt hne (by simp [Ne.symm hae, hne]) fun x' h' tk hPx ho hst' hTT hsz hk => ?_
    have hxu : x' = u := by
      have : its.toArray[i]? = some x' := hPx
      rw [show its.toArray[i]? = its[i]? by simp, hu] at this
      exact (Option.some.inj this).symm
    subst hxu
    refine ⟨_, rfl, wpAny_letOwnedTupleGo_enum (s := { s with heap := h', toks := tk + 1 }) ho fun h'' he' sb => ?_⟩
    have hT2 : h''.get? s.heap.objs.size = some { cls := .type "tuple", data := .seq #[.int i tk, x'] } := (sb.2 _ (Nat.ne_of_gt hel)).trans hTT
    have new : ObjOk X.prog X.w (upd H s.heap.objs.size (.tup [.int (i : Nat), x])) h'' s.heap.objs.size (.tup [.int (i : Nat), x]) :=
      ⟨by show 2 ≤ sizeLine; decide, [.int i tk, x'], .cons ⟨_, rfl⟩ (.cons ru .nil), ⟨_, hT2, rfl, _, rfl⟩⟩
    have I1 : Inv X pins σ (upd H s.heap.objs.size (.tup [.int (i : Nat), x])) { s with heap := h'', toks := tk + 1 } :=
      I.turnedNew (ch := [e, it]) (fun b ob hb q => (sb.2 b (fun z => hb (by simp [z]))).trans (hk b ob (fun z => hb (by simp [z])) (fun z => hb (by simp [z])) q)) hf (Nat.le_refl _) new
    refine ⟨.ref s.heap.objs.size, _, I1, rfl, ⟨_, x, rfl, I.hok.fresh (Nat.le_refl _), rfl, fun ys hy => by rw [I.tuple_inj hy hq]; exact hx⟩, ⟨⟨x', ?_⟩, ?_, hne⟩, fun b hb => ?_⟩
    · have e1 : ((i + 1 : Nat) : Int) = (i : Int) + 1 := by omega
      rw [e1]; exact he'
    · obtain ⟨o, q, r⟩ := hst'.1
      exact ⟨o, (sb.2 it (Ne.symm hne)).trans q, r⟩
    · have hb' : b < s.heap.objs.size := by
        have e' : b = e ∨ b = it := by simpa using hb
        rcases e' with z | z
        · rw [z]; exact hel
        · rw [z]; exact hil
      rw [upd_ne (Nat.ne_of_lt hb')]
      exact (hf b hb).1
  done := by
    intro X hP hw hK hc i pins s σ H E I hf st hg
    subst hP hw hK
    obtain ⟨⟨old, he⟩, hit, hne⟩ := st
    obtain ⟨xs, hq, hx⟩ := hg
    obtain ⟨its, rv, p, hz⟩ := I.tuple hq
    obtain ⟨f0, f1, f2, f3, f4, f5⟩ := hf it (by simp)
    have hl := rv.length
    have hT : s.heap.IsTuple a its.toArray := p
    have hh : X.A.in1.handled = none := I.ok.hd hc
    have hTy : s.TypeIs (.ref e) "enumerate" := ⟨_, he, rfl⟩
    have key : wpAny (model X.prog X.w) X.A (pyNext (.ref e)) (fun o s' => o = none ∧ Inv X pins σ H s') E s := by
      unfold pyNext
      refine wpAny_bind (wpAny_attempt (wpAny_callSpecial?_slot (name := Str.ofString "__next__") hTy F.slot_enumerate_next
        (wpAny_call_entry F.slot_enumerate_next hTy F.entry_enumerate_next ?_ (F.args_enumerate_next_1 _))))
      show wpAny _ _ (field (.ref e) 2 >>= _) _ _ _
      refine wpAny_bind (wpAny_field he rfl (x := .ref it) rfl ?_)
      refine wpAny_bind (wpAny_nextOf_tuple_end hh hit hT (by simp; omega) fun h' x he' hx' => ?_)
      obtain ⟨o, ho, hc⟩ := hx'
      refine wpAny_bind (wpAny_isInstance (T := "StopIteration") (b := true) ⟨o, ho, hc⟩ isSubtype_stop ?_)
      exact wpAny_pure ⟨rfl, I.turned (t' := s.toks) (fun b o hb q => he' b o hb q) f0 f1 f3 f4 f5⟩
    exact key
  self := fun A i s Q E st h => let ⟨⟨_, he⟩, _⟩ := st; wpAny_pyIter_enum he h
def iEnumT (K : PySem.W.Frag) (ta : TA) : TI := fun σ H R => ta σ H fun vs H1 => ∃ a xs, vs = [.ref a] ∧ ((SqL K H1 a xs ∧ R (Ite K a) H1) ∨ (SqT K H1 a xs ∧ R (IteT K a) H1))
theorem pi_enumT {X : Cx} {e : Expr} {ta : TA} {p pos tpos : Pos} {elts : List Expr} {kk : Nat} (hg : Gl X "enumerate") (hm : X.mg "enumerate" = none) (ha : PA X [e] ta) (hs : starEach [e] X.env = [(false, eval e X.env)] := by rfl) :
    PI X (.Tuple elts kk tpos) (.Call (.Name "enumerate" p) [e] [] pos) (iEnumT X.K ta) := by
  refine ⟨fun pins s σ H R I h => ?_⟩
  refine Call_ (ld_blt I hg hm boot_enumerate (PyProof.Rows.callWith_type1 (thn (ha.run pos pins s σ H _ I h) fun us s1 ⟨vs, H1, I1, r1, q1⟩ => ?_) hs rfl))
  obtain ⟨a, xs, ex, hqq⟩ := q1
  subst ex
  cases r1 with
  | cons r rr =>
    cases rr
    cases r
    have fp : ∀ b, b ∈ [s1.heap.objs.size + 1, s1.heap.objs.size] → s1.heap.objs.size ≤ b := fun b hb => by
      have e' : b = s1.heap.objs.size + 1 ∨ b = s1.heap.objs.size := by simpa using hb
      rcases e' with z | z
      · rw [z]; exact Nat.le_add_right _ _
      · rw [z]; exact Nat.le_refl _
    rcases hqq with ⟨hq, q⟩ | ⟨hq, q⟩
    · obtain ⟨its, rv, p', hz⟩ := I1.list hq
      refine call_enumerate_list p'.isList fun h' he hit hsz hk => wpAny_pyIter_enum he ?_
      have I2 : Inv X pins σ H1 { s1 with heap := h' } := I1.kept (t' := s1.toks) hk
      exact ⟨s1.heap.objs.size + 1, [s1.heap.objs.size + 1, s1.heap.objs.size], _, _, H1, rfl, I2, turn_enum a (s1.heap.objs.size + 1) s1.heap.objs.size, ⟨⟨.none, he⟩, hit, Nat.succ_ne_self _⟩, fun b hb => I1.fpOk (fp b hb) (I1.hok.fresh (fp b hb)), q⟩
    · obtain ⟨its, rv, p', hz⟩ := I1.tuple hq
      have hT : s1.heap.IsTuple a its.toArray := p'
      have hlt : a < s1.heap.objs.size := by obtain ⟨_, q, _⟩ := hT; exact Heap.lt_size q
      refine call_enumerate_b (begins_tuple a its.toArray) hT fun h' he hit hsz hk => wpAny_pyIter_enum he ?_
      have I2 : Inv X pins σ H1 { s1 with heap := h' } := I1.kept (t' := s1.toks) hk
      exact ⟨s1.heap.objs.size + 1, [s1.heap.objs.size + 1, s1.heap.objs.size], _, _, H1, rfl, I2, turn_enumT a (s1.heap.objs.size + 1) s1.heap.objs.size (Nat.ne_of_lt (Nat.lt_succ_of_lt hlt)) (Nat.ne_of_lt hlt), ⟨⟨.none, he⟩, ⟨_, hit, rfl, rfl⟩, Nat.succ_ne_self _⟩, fun b hb => I1.fpOk (fp b hb) (I1.hok.fresh (fp b hb)), q⟩
section
variable {X : Cx}
/-! ### in over tuples of data of any depth -/
def rInDT (K : PySem.W.Frag) : R2 := fun x y H Q => ∃ d ds, Dp K H x d ∧ Dp K H y (.tuple ds) ∧ SeqAt.shaped d = true ∧ SeqAt.shaped (.tuple ds) = true ∧ Q (.bl (ds.any fun z => PyData.eqv z d)) H
def rNotInDT (K : PySem.W.Frag) : R2 := fun x y H Q => ∃ d ds, Dp K H x d ∧ Dp K H y (.tuple ds) ∧ SeqAt.shaped d = true ∧ SeqAt.shaped (.tuple ds) = true ∧ Q (.bl (!ds.any fun z => PyData.eqv z d)) H
theorem op_inDT (hu : X.A.units + 65 < cLine) : OpR X (compareOp .In) (rInDT X.K) := by
  intro pins s σ H x y v u Q I rx ry h
  obtain ⟨d, ds, hd, he, sd, se, q⟩ := h
  obtain ⟨as, r1⟩ := Dp.reads I d x v hd rx
  obtain ⟨bs, r2⟩ := Dp.reads I (.tuple ds) y u he ry
  exact SeqAt.in_tuple_reads r2 r1 (SeqAt.canLay_of_shaped se) (SeqAt.canLay_of_shaped sd) (room_in_shaped sd hu) ⟨.bl _, H, I, rfl, q⟩
theorem op_notInDT (hu : X.A.units + 65 < cLine) : OpR X (compareOp .NotIn) (rNotInDT X.K) := by
  intro pins s σ H x y v u Q I rx ry h
  obtain ⟨d, ds, hd, he, sd, se, q⟩ := h
  obtain ⟨as, r1⟩ := Dp.reads I d x v hd rx
  obtain ⟨bs, r2⟩ := Dp.reads I (.tuple ds) y u he ry
  exact SeqAt.notIn_tuple_reads r2 r1 (SeqAt.canLay_of_shaped se) (SeqAt.canLay_of_shaped sd) (room_in_shaped sd hu) ⟨.bl _, H, I, rfl, q⟩
/-! ### sorted(list of pairs of ints), the pairs wherever they stand -/
def rSortedPT (K : PySem.W.Frag) : List V → Hp → VK → Prop := fun vs H Q => ∃ (a : Addr) (xs : List V) (k : V → Int × Int), vs = [V.ref a] ∧ SqL K H a xs ∧ (∀ x ∈ xs, ∃ t, x = V.ref t ∧ SqT K H t [.int (k x).1, .int (k x).2]) ∧
  ∀ ys p, SrtO.Srtd (ltP k) ys → SrtO.Stb (ltP k) ys xs → H p = none → Q (.ref p) (upd H p (.lst ys))
theorem cr_sortedPT : CallR X (.builtin "sorted") (rSortedPT X.K) := by
  intro pins s σ H vs us Q I r h
  obtain ⟨a, xs, k, rfl, hs, hx, q⟩ := h
  obtain ⟨its, rv, hl, hz⟩ := I.list hs
  obtain ⟨u, rfl, ru⟩ := vals1 r
  obtain rfl : u = Value.ref a := ru
  obtain ⟨e1, e2⟩ := refs_back rv fun x m => by
    obtain ⟨t, e, _⟩ := hx x m
    exact ⟨t, e⟩
  refine SrtO.sorted_pairsO (k := fun u => k (backV u)) hl.isList (by rw [← rv.length]; exact hz) (fun v hv => ?_) fun h' d out h1 h2 kp hd hn => ?_
  · obtain ⟨t, rfl⟩ := e2 v hv
    have hm : V.ref t ∈ xs := by rw [e1]; exact List.mem_map.mpr ⟨_, hv, rfl⟩
    obtain ⟨t', e, ht⟩ := hx _ hm
    cases e
    obtain ⟨its2, r2, ⟨o, ho, hc, n, hd⟩, _⟩ := I.tuple ht
    obtain ⟨u1, u2, rfl, ri, rj⟩ := vals2 r2
    obtain ⟨t1, rfl⟩ := ri
    obtain ⟨t2, rfl⟩ := rj
    exact ⟨t, o, t1, t2, n, rfl, ho, hc, hd⟩
  · have h3 : ∀ u ∈ out, ∃ a, u = Value.ref a := fun u hu => e2 u (h2.perm.mem_iff.mp hu)
    obtain ⟨n, hn⟩ := hn
    have hb : SrtO.Stb (ltP k) (out.map backV) xs := by
      rw [e1]
      exact SrtO.Stb.map (ltP_swo k) backV h2
    refine ⟨.ref d, upd H d (.lst (out.map backV)), I.laid (t' := s.toks) kp hd ⟨?_, out, n, vals_back h3, hn⟩, rfl, q _ d (SrtO.srtd_map h1) hb (I.hok.fresh hd)⟩
    rw [hb.len]
    exact hz
end
end L2
set_option Elab.async false
set_option linter.all false
set_option maxRecDepth 100000
set_option maxHeartbeats 4000000
/-! MP1: how data stand in HandS's abstract heap; states; the moves. -/
namespace MP
open PySem PySem.Spec PyProof.Rows L2

/-- what the text's written part fixes: the objects of the top, the classes' addresses, names -/
structure Wd where
  K : PySem.W.Frag
  cad : Nat → Addr
  fld : Nat → Str
  /-- so many names of fields and methods, all unlike -/
  nf : Nat
  inj : ∀ i j, i < nf → j < nf → fld i = fld j → i = j

theorem Same.sqT {K : PySem.W.Frag} {F F' : Hp} {a : Addr} {vs : List V} (e : Same F F') (h : SqT K F a vs) : SqT K F' a vs := by
  rcases h with (h | ⟨o, h⟩) | h
  · exact .inl (.inl (e _ _ h))
  · exact .inl (.inr ⟨o, e _ _ h⟩)
  · exact .inr h

mutual
/-- d stands at v, in objects of F that do not change -/
def Rep (W : Wd) (F : Hp) (m : List Addr) : D → V → Prop
  | .non, v => v = .non
  | .bl b, v => v = .bl b
  | .int i, v => v = .int i
  | .str x, v => v = .str x
  | .tup xs, v => ∃ a vs, v = .ref a ∧ SqT W.K F a vs ∧ Reps W F m xs vs
  | .lst xs, v => ∃ a vs, v = .ref a ∧ F a = some (.lst vs) ∧ Reps W F m xs vs
  | .ins c fs, v => ∃ a dx gs, v = .ref a ∧ F a = some (.ins (W.cad c) dx gs) ∧ Repf W F m fs gs
  | .cell i, v => ∃ a, m[i]? = some a ∧ v = .ref a
  | .ext xs, v => ∃ a vs, v = .ref a ∧ SqL W.K F a vs ∧ Reps W F m xs vs
  | .rng lo hi, v => ∃ a, v = .ref a ∧ F a = some (.rng lo hi)
def Reps (W : Wd) (F : Hp) (m : List Addr) : List D → List V → Prop
  | [], vs => vs = []
  | x :: xs, vs => ∃ v r, vs = v :: r ∧ Rep W F m x v ∧ Reps W F m xs r
def Repf (W : Wd) (F : Hp) (m : List Addr) : List (Nat × D) → List (Str × V) → Prop
  | [], gs => gs = []
  | (f, x) :: r, gs => f < W.nf ∧ ∃ v g, gs = (W.fld f, v) :: g ∧ Rep W F m x v ∧ Repf W F m r g
end
/-- more objects, more cells -/
structure Ext (F : Hp) (m : List Addr) (F' : Hp) (m' : List Addr) : Prop where
  fx : Same F F'
  mx : ∀ (i : Nat) (a : Addr), m[i]? = some a → m'[i]? = some a
theorem Ext.refl (F : Hp) (m : List Addr) : Ext F m F m := ⟨Same.refl F, fun _ _ h => h⟩
theorem Ext.trans {F F1 F2 : Hp} {m m1 m2 : List Addr} (a : Ext F m F1 m1) (b : Ext F1 m1 F2 m2) : Ext F m F2 m2 := ⟨a.fx.trans b.fx, fun i x h => b.mx i x (a.mx i x h)⟩
section
variable {W : Wd} {F F' : Hp} {m m' : List Addr}
mutual
theorem Rep.mono (e : Ext F m F' m') : ∀ {d : D} {v : V}, Rep W F m d v → Rep W F' m' d v
  | .non, _, h => by simpa [Rep] using h
  | .bl _, _, h => by simpa [Rep] using h
  | .int _, _, h => by simpa [Rep] using h
  | .str _, _, h => by simpa [Rep] using h
  | .tup xs, v, h => by
    unfold Rep at h ⊢
    obtain ⟨a, vs, h1, h2, h3⟩ := h
    exact ⟨a, vs, h1, Same.sqT e.fx h2, Reps.mono e h3⟩
  | .lst xs, v, h => by
    unfold Rep at h ⊢
    obtain ⟨a, vs, h1, h2, h3⟩ := h
    exact ⟨a, vs, h1, e.fx _ _ h2, Reps.mono e h3⟩
  | .ins c fs, v, h => by
    unfold Rep at h ⊢
    obtain ⟨a, dx, gs, h1, h2, h3⟩ := h
    exact ⟨a, dx, gs, h1, e.fx _ _ h2, Repf.mono e h3⟩
  | .cell i, v, h => by
    unfold Rep at h ⊢
    obtain ⟨a, h1, h2⟩ := h
    exact ⟨a, e.mx _ _ h1, h2⟩
  | .ext xs, v, h => by
    unfold Rep at h ⊢
    obtain ⟨a, vs, h1, h2, h3⟩ := h
    exact ⟨a, vs, h1, e.fx.seq h2, Reps.mono e h3⟩
  | .rng lo hi, v, h => by
    unfold Rep at h ⊢
    obtain ⟨a, h1, h2⟩ := h
    exact ⟨a, h1, e.fx _ _ h2⟩
theorem Reps.mono (e : Ext F m F' m') : ∀ {ds : List D} {vs : List V}, Reps W F m ds vs → Reps W F' m' ds vs
  | [], _, h => by simpa [Reps] using h
  | d :: ds, vs, h => by
    unfold Reps at h ⊢
    obtain ⟨v, r, h1, h2, h3⟩ := h
    exact ⟨v, r, h1, Rep.mono e h2, Reps.mono e h3⟩
theorem Repf.mono (e : Ext F m F' m') : ∀ {ds : List (Nat × D)} {vs : List (Str × V)}, Repf W F m ds vs → Repf W F' m' ds vs
  | [], _, h => by simpa [Repf] using h
  | (f, d) :: ds, vs, h => by
    unfold Repf at h ⊢
    obtain ⟨h0, v, r, h1, h2, h3⟩ := h
    exact ⟨h0, v, r, h1, Rep.mono e h2, Repf.mono e h3⟩
end
theorem Reps.nil : Reps W F m [] [] := by simp [Reps]
theorem Reps.cons {d : D} {ds : List D} {v : V} {vs : List V} (a : Rep W F m d v) (b : Reps W F m ds vs) : Reps W F m (d :: ds) (v :: vs) := by
  unfold Reps
  exact ⟨v, vs, rfl, a, b⟩
theorem Reps.length : ∀ {ds : List D} {vs : List V}, Reps W F m ds vs → vs.length = ds.length
  | [], _, h => by
    unfold Reps at h
    subst h
    rfl
  | d :: ds, vs, h => by
    unfold Reps at h
    obtain ⟨v, r, rfl, _, h3⟩ := h
    simp [Reps.length h3]
theorem Reps.get : ∀ {ds : List D} {vs : List V} {i : Nat} {d : D}, Reps W F m ds vs → ds[i]? = some d → ∃ v, vs[i]? = some v ∧ Rep W F m d v
  | [], _, _, _, _, e => by simp at e
  | x :: xs, vs, i, d, h, e => by
    unfold Reps at h
    obtain ⟨v, r, rfl, h2, h3⟩ := h
    cases i with
    | zero =>
      simp at e
      subst e
      exact ⟨v, rfl, h2⟩
    | succ i =>
      obtain ⟨u, e1, e2⟩ := Reps.get (i := i) h3 (by simpa using e)
      exact ⟨u, by simpa using e1, e2⟩
theorem Reps.getV : ∀ {ds : List D} {vs : List V} {i : Nat} {v : V}, Reps W F m ds vs → vs[i]? = some v → ∃ d, ds[i]? = some d ∧ Rep W F m d v
  | [], vs, i, v, h, e => by
    unfold Reps at h
    subst h
    simp at e
  | x :: xs, vs, i, d, h, e => by
    unfold Reps at h
    obtain ⟨v, r, rfl, h2, h3⟩ := h
    cases i with
    | zero =>
      simp at e
      subst e
      exact ⟨x, rfl, h2⟩
    | succ i =>
      obtain ⟨u, e1, e2⟩ := Reps.getV (i := i) h3 (by simpa using e)
      exact ⟨u, by simpa using e1, e2⟩
theorem Reps.append : ∀ {ds es : List D} {vs ws : List V}, Reps W F m ds vs → Reps W F m es ws → Reps W F m (ds ++ es) (vs ++ ws)
  | [], _, vs, _, h, g => by
    unfold Reps at h
    subst h
    exact g
  | x :: xs, _, vs, _, h, g => by
    unfold Reps at h
    obtain ⟨v, r, rfl, h2, h3⟩ := h
    exact Reps.cons h2 (Reps.append h3 g)
theorem Reps.take : ∀ {ds : List D} {vs : List V} (n : Nat), Reps W F m ds vs → Reps W F m (ds.take n) (vs.take n)
  | [], vs, n, h => by
    unfold Reps at h
    subst h
    simp [Reps]
  | x :: xs, vs, n, h => by
    unfold Reps at h
    obtain ⟨v, r, rfl, h2, h3⟩ := h
    cases n with
    | zero => simp [Reps]
    | succ n => exact Reps.cons h2 (Reps.take n h3)
theorem Reps.drop : ∀ {ds : List D} {vs : List V} (n : Nat), Reps W F m ds vs → Reps W F m (ds.drop n) (vs.drop n)
  | [], vs, n, h => by
    unfold Reps at h
    subst h
    simp [Reps]
  | x :: xs, vs, n, h => by
    have h' := h
    unfold Reps at h
    obtain ⟨v, r, rfl, h2, h3⟩ := h
    cases n with
    | zero => simpa using h'
    | succ n => simpa using Reps.drop n h3
theorem Reps.set : ∀ {ds : List D} {vs : List V} {d : D} {v : V} (i : Nat), Rep W F m d v → Reps W F m ds vs → Reps W F m (ds.set i d) (vs.set i v)
  | [], vs, _, _, i, _, h => by
    unfold Reps at h
    subst h
    simp [Reps]
  | x :: xs, vs, _, _, i, g, h => by
    unfold Reps at h
    obtain ⟨v, r, rfl, h2, h3⟩ := h
    cases i with
    | zero => exact Reps.cons g h3
    | succ i => exact Reps.cons h2 (Reps.set i g h3)
theorem Reps.reverse : ∀ {ds : List D} {vs : List V}, Reps W F m ds vs → Reps W F m ds.reverse vs.reverse
  | [], vs, h => by
    unfold Reps at h
    subst h
    simp [Reps]
  | x :: xs, vs, h => by
    unfold Reps at h
    obtain ⟨v, r, rfl, h2, h3⟩ := h
    rw [List.reverse_cons, List.reverse_cons]
    exact Reps.append (Reps.reverse h3) (Reps.cons h2 Reps.nil)
theorem Repf.look : ∀ {fs : List (Nat × D)} {gs : List (Str × V)} {f : Nat} {d : D}, f < W.nf → Repf W F m fs gs → fs.lookup f = some d → ∃ v, gs.lookup (W.fld f) = some v ∧ Rep W F m d v
  | [], _, _, _, _, _, e => by simp at e
  | (g, x) :: r, gs, f, d, hf, h, e => by
    unfold Repf at h
    obtain ⟨h0, v, g', rfl, h2, h3⟩ := h
    rw [List.lookup_cons] at e ⊢
    by_cases q : f = g
    · subst q
      simp at e
      subst e
      exact ⟨v, by simp, h2⟩
    · have q1 : (f == g) = false := by simpa using q
      rw [q1] at e
      have q2 : (W.fld f == W.fld g) = false := by
        simp only [beq_eq_false_iff_ne]
        exact fun z => q (W.inj f g hf h0 z)
      rw [q2]
      exact Repf.look hf h3 e
theorem Repf.none : ∀ {fs : List (Nat × D)} {gs : List (Str × V)} {f : Nat}, f < W.nf → Repf W F m fs gs → fs.lookup f = none → gs.lookup (W.fld f) = none
  | [], _, _, _, h, _ => by
    unfold Repf at h
    subst h
    rfl
  | (g, x) :: r, gs, f, hf, h, e => by
    unfold Repf at h
    obtain ⟨h0, v, g', rfl, h2, h3⟩ := h
    rw [List.lookup_cons] at e ⊢
    by_cases q : f = g
    · subst q
      simp at e
    · have q1 : (f == g) = false := by simpa using q
      rw [q1] at e
      have q2 : (W.fld f == W.fld g) = false := by
        simp only [beq_eq_false_iff_ne]
        exact fun z => q (W.inj f g hf h0 z)
      rw [q2]
      exact Repf.none hf h3 e
theorem Repf.length : ∀ {fs : List (Nat × D)} {gs : List (Str × V)}, Repf W F m fs gs → gs.length = fs.length
  | [], _, h => by
    unfold Repf at h
    subst h
    rfl
  | (g, x) :: r, gs, h => by
    unfold Repf at h
    obtain ⟨h0, v, g', rfl, h2, h3⟩ := h
    simp [Repf.length h3]
theorem Repf.put : ∀ {fs : List (Nat × D)} {gs : List (Str × V)} {f : Nat} {d : D} {v : V}, f < W.nf → Repf W F m fs gs → Rep W F m d v → Repf W F m (MP.putF f d fs) (L2.putF (W.fld f) v gs)
  | [], _, f, d, v, hf, h, r => by
    unfold Repf at h
    subst h
    unfold MP.putF L2.putF Repf
    exact ⟨hf, v, [], rfl, r, by unfold Repf; rfl⟩
  | (g, x) :: t, gs, f, d, v, hf, h, r => by
    unfold Repf at h
    obtain ⟨h0, w, g', rfl, h2, h3⟩ := h
    unfold MP.putF L2.putF
    by_cases q : g = f
    · subst q
      rw [if_pos rfl, if_pos rfl]
      unfold Repf
      exact ⟨hf, v, g', rfl, r, h3⟩
    · rw [if_neg q, if_neg (fun z => q (W.inj g f h0 hf z))]
      unfold Repf
      exact ⟨h0, w, _, rfl, h2, Repf.put hf h3 r⟩
end

/-! ### states -/
/-- a def's entry: what stands still, the cells, the heap -/
structure En where
  F : Hp
  m : List Addr
  H : Hp
/-- the exception that a suite holds: where, its class, its dict -/
abbrev XC := Option (Addr × Value × Option Addr)
def RepX (W : Wd) (F : Hp) (m : List Addr) (x : X) (cls : Value) (d : Option Addr) : Prop :=
  cls = .ref (W.cad x.c) ∧ (x.fs = [] ∨ ∃ dd gs, d = some dd ∧ F dd = some (.xd gs) ∧ ∀ f y, x.fs.lookup f = some y → ∃ v, gs.lookup (W.fld f) = some v ∧ Rep W F m y v)
theorem RepX.mono {W : Wd} {F F' : Hp} {m m' : List Addr} {x : X} {cls : Value} {d : Option Addr} (e : Ext F m F' m') (h : RepX W F m x cls d) : RepX W F' m' x cls d := by
  obtain ⟨h1, h2⟩ := h
  refine ⟨h1, ?_⟩
  rcases h2 with h2 | ⟨dd, gs, h3, h4, h5⟩
  · exact .inl h2
  · exact .inr ⟨dd, gs, h3, e.fx _ _ h4, fun f y q => let ⟨v, a, b⟩ := h5 f y q; ⟨v, a, b.mono e⟩⟩
def CellOk (W : Wd) (F : Hp) (m : List Addr) (H : Hp) : Cell → Addr → Prop
  | .lst xs, a => ∃ vs, H a = some (.lst vs) ∧ Reps W F m xs vs
  | .ins c fs, a => ∃ dx gs, H a = some (.ins (W.cad c) dx gs) ∧ Repf W F m fs gs
structure Cells (W : Wd) (F : Hp) (m : List Addr) (h : List Cell) (H : Hp) : Prop where
  len : m.length = h.length
  nd : m.Nodup
  ok : ∀ (i : Nat) (c : Cell) (a : Addr), h[i]? = some c → m[i]? = some a → F a = none ∧ CellOk W F m H c a
def SlotOk (W : Wd) (xc : XC) (e : En) (F : Hp) (m : List Addr) (H : Hp) : Slot → Option V → Prop
  | .no, _ => True
  | .val d, o => ∃ v, o = some v ∧ Rep W F m d v
  | .own xs, o => ∃ a vs, o = some (.ref a) ∧ H a = some (.lst vs) ∧ Reps W F m xs vs ∧ F a = none ∧ a ∉ m ∧ e.H a = none
  | .exc x, o => ∃ a cls d, xc = some (a, cls, d) ∧ o = some (.ref a) ∧ RepX W F m x cls d
structure Sim (W : Wd) (xc : XC) (e : En) (F : Hp) (m : List Addr) (s : St) (σ : L2.St) (H : Hp) : Prop where
  sub : Same F H
  cells : Cells W F m s.hp H
  len : s.sl.length = σ.length
  slot : ∀ (i : Nat) (x : Slot) (o : Option V), s.sl[i]? = some x → σ[i]? = some o → SlotOk W xc e F m H x o
  apart : ∀ (i j : Nat) (xs ys : List D) (a : Addr), s.sl[i]? = some (.own xs) → s.sl[j]? = some (.own ys) → σ[i]? = some (some (.ref a)) → σ[j]? = some (some (.ref a)) → i = j
  ext : Ext e.F e.m F m
  fr : ∀ a o, F a = some o → e.F a = some o ∨ e.H a = none
  keep : ∀ a o, e.H a = some o → a ∉ e.m → H a = some o
  new : ∀ a ∈ m, a ∉ e.m → e.H a = none
/-- a is a list that nothing names -/
structure Lone (W : Wd) (e : En) (F : Hp) (m : List Addr) (s : St) (σ : L2.St) (H : Hp) (xs : List D) (a : Addr) : Prop where
  at_ : ∃ vs, H a = some (.lst vs) ∧ Reps W F m xs vs
  nf : F a = none
  nm : a ∉ m
  ne : e.H a = none
  ns : ∀ (i : Nat) ys, s.sl[i]? = some (.own ys) → σ[i]? ≠ some (some (.ref a))
section
variable {W : Wd} {xc : XC} {e : En} {F : Hp} {m : List Addr} {s : St} {σ : L2.St} {H : Hp}
theorem CellOk.mono {F' : Hp} {m' : List Addr} {H' : Hp} {c : Cell} {a : Addr} (x : Ext F m F' m') (k : ∀ o, H a = some o → H' a = some o) (h : CellOk W F m H c a) : CellOk W F' m' H' c a := by
  cases c with
  | lst xs =>
    obtain ⟨vs, h1, h2⟩ := h
    exact ⟨vs, k _ h1, h2.mono x⟩
  | ins c fs =>
    obtain ⟨dx, gs, h1, h2⟩ := h
    exact ⟨dx, gs, k _ h1, h2.mono x⟩
theorem Cells.there (C : Cells W F m s.hp H) {a : Addr} (h : a ∈ m) : ∃ o, H a = some o := by
  obtain ⟨i, hi⟩ := List.mem_iff_getElem?.mp h
  have hl : i < s.hp.length := by rw [← C.len]; exact (List.getElem?_eq_some_iff.mp hi).1
  obtain ⟨_, ok⟩ := C.ok i s.hp[i] a (by simp [hl]) hi
  cases q : s.hp[i] with
  | lst xs =>
    rw [q] at ok
    obtain ⟨vs, h1, _⟩ := ok
    exact ⟨_, h1⟩
  | ins c fs =>
    rw [q] at ok
    obtain ⟨dx, gs, h1, _⟩ := ok
    exact ⟨_, h1⟩
theorem Sim.not_cell (S : Sim W xc e F m s σ H) {p : Addr} (hp : H p = none) : p ∉ m := fun h => by
  obtain ⟨o, q⟩ := S.cells.there h
  rw [hp] at q
  cases q
theorem Sim.not_F (S : Sim W xc e F m s σ H) {p : Addr} (hp : H p = none) : F p = none := by
  cases q : F p with
  | none => rfl
  | some o =>
    have := S.sub p o q
    rw [hp] at this
    cases this
theorem Sim.not_e (S : Sim W xc e F m s σ H) {p : Addr} (hp : H p = none) : e.H p = none := by
  cases q : e.H p with
  | none => rfl
  | some o =>
    by_cases h : p ∈ e.m
    · obtain ⟨i, hi⟩ := List.mem_iff_getElem?.mp h
      exact absurd (List.mem_of_getElem? (S.ext.mx i p hi)) (S.not_cell hp)
    · have := S.keep p o q h
      rw [hp] at this
      cases this
theorem SlotOk.upd {p : Addr} {o : HO} {x : Slot} {v : Option V} (hp : H p = none) (h : SlotOk W xc e F m H x v) : SlotOk W xc e F m (upd H p o) x v := by
  cases x with
  | own xs =>
    obtain ⟨a, vs, h1, h2, h3⟩ := h
    exact ⟨a, vs, h1, by rw [upd_ne (ne_of_none h2 hp)]; exact h2, h3⟩
  | no => trivial
  | val d => exact h
  | exc x => exact h
/-- a new object -/
theorem Sim.upd (S : Sim W xc e F m s σ H) {p : Addr} (o : HO) (hp : H p = none) : Sim W xc e F m s σ (upd H p o) where
  sub := fun a u h => by
    have q := S.sub a u h
    rw [upd_ne (ne_of_none q hp)]
    exact q
  cells := ⟨S.cells.len, S.cells.nd, fun i c a h1 h2 => let ⟨q1, q2⟩ := S.cells.ok i c a h1 h2; ⟨q1, q2.mono (Ext.refl F m) fun u hu => by rw [upd_ne (ne_of_none hu hp)]; exact hu⟩⟩
  len := S.len
  slot := fun i x u h1 h2 => (S.slot i x u h1 h2).upd hp
  apart := S.apart
  ext := S.ext
  fr := S.fr
  keep := fun a u h1 h2 => by
    have q := S.keep a u h1 h2
    rw [upd_ne (ne_of_none q hp)]
    exact q
  new := S.new
theorem same_upd {F : Hp} {p : Addr} {o : HO} (h : F p = none) : Same F (upd F p o) := fun a u q => by
  rw [upd_ne (ne_of_none q h)]
  exact q
theorem ext_upd {F : Hp} {p : Addr} {o : HO} (h : F p = none) : Ext F m (upd F p o) m := ⟨same_upd h, fun _ _ h => h⟩
theorem SlotOk.frz {p : Addr} {o : HO} {x : Slot} {v : Option V} (hp : F p = none) (hs : ∀ ys, x = .own ys → v ≠ some (.ref p)) (h : SlotOk W xc e F m H x v) : SlotOk W xc e (L2.upd F p o) m H x v := by
  cases x with
  | own xs =>
    obtain ⟨a, vs, h1, h2, h3, h4, h5⟩ := h
    refine ⟨a, vs, h1, h2, h3.mono (ext_upd hp), ?_, h5⟩
    rw [upd_ne (fun q => hs xs rfl (by rw [h1, q]))]
    exact h4
  | no => trivial
  | val d =>
    obtain ⟨v, h1, h2⟩ := h
    exact ⟨v, h1, h2.mono (ext_upd hp)⟩
  | exc x =>
    obtain ⟨a, cls, d, h1, h2, h3⟩ := h
    exact ⟨a, cls, d, h1, h2, h3.mono (ext_upd hp)⟩
/-- an object stands still from now on -/
theorem Sim.frz (S : Sim W xc e F m s σ H) {p : Addr} {o : HO} (hp : H p = some o) (hf : F p = none) (hm : p ∉ m) (he : e.H p = none) (hs : ∀ (i : Nat) ys, s.sl[i]? = some (.own ys) → σ[i]? ≠ some (some (.ref p))) :
    Sim W xc e (L2.upd F p o) m s σ H where
  sub := fun a u h => by
    by_cases q : a = p
    · subst q
      rw [upd_same] at h
      cases h
      exact hp
    · rw [upd_ne q] at h
      exact S.sub a u h
  cells := ⟨S.cells.len, S.cells.nd, fun i c a h1 h2 => by
    obtain ⟨q1, q2⟩ := S.cells.ok i c a h1 h2
    refine ⟨?_, q2.mono (ext_upd hf) fun _ z => z⟩
    rw [upd_ne (fun z : a = p => hm (by rw [← z]; exact List.mem_of_getElem? h2))]
    exact q1⟩
  len := S.len
  slot := fun i x u h1 h2 => (S.slot i x u h1 h2).frz hf fun ys z q => hs i ys (by rw [h1, z]) (by rw [h2, q])
  apart := S.apart
  ext := S.ext.trans (ext_upd hf)
  fr := fun a u h => by
    by_cases q : a = p
    · subst q
      exact .inr he
    · rw [upd_ne q] at h
      exact S.fr a u h
  keep := S.keep
  new := S.new
theorem Sim.getσ (S : Sim W xc e F m s σ H) {i : Nat} {x : Slot} (h : s.sl[i]? = some x) : ∃ o, σ[i]? = some o ∧ SlotOk W xc e F m H x o := by
  have hl : i < σ.length := by rw [← S.len]; exact (List.getElem?_eq_some_iff.mp h).1
  exact ⟨σ[i], by simp [hl], S.slot i x _ h (by simp [hl])⟩
/-- a new tuple of things that stand still -/
theorem Sim.newTup (S : Sim W xc e F m s σ H) {p : Addr} {xs : List D} {vs : List V} (hp : H p = none) (r : Reps W F m xs vs) :
    Sim W xc e (L2.upd F p (.tup vs)) m s σ (L2.upd H p (.tup vs)) ∧ Ext F m (L2.upd F p (.tup vs)) m ∧ Rep W (L2.upd F p (.tup vs)) m (.tup xs) (.ref p) := by
  have hf := S.not_F hp
  refine ⟨(S.upd (.tup vs) hp).frz upd_same hf (S.not_cell hp) (S.not_e hp) fun i ys h q => ?_, ext_upd hf, ?_⟩
  · obtain ⟨o, h1, a, ws, h2, h3, _⟩ := S.getσ h
    rw [q] at h1
    cases h1
    cases h2
    rw [hp] at h3
    cases h3
  · unfold Rep
    exact ⟨p, vs, rfl, .inl (.inl upd_same), r.mono (ext_upd hf)⟩
/-- a new list that nothing names -/
theorem Sim.newLst (S : Sim W xc e F m s σ H) {p : Addr} {xs : List D} {vs : List V} (hp : H p = none) (r : Reps W F m xs vs) :
    Sim W xc e F m s σ (L2.upd H p (.lst vs)) ∧ Lone W e F m s σ (L2.upd H p (.lst vs)) xs p := by
  refine ⟨S.upd (.lst vs) hp, ⟨vs, upd_same, r⟩, S.not_F hp, S.not_cell hp, S.not_e hp, fun i ys h q => ?_⟩
  obtain ⟨o, h1, a, ws, h2, h3, _⟩ := S.getσ h
  rw [q] at h1
  cases h1
  cases h2
  rw [hp] at h3
  cases h3
/-- it stands still from now on -/
theorem Sim.give (S : Sim W xc e F m s σ H) {a : Addr} {xs : List D} (l : Lone W e F m s σ H xs a) :
    ∃ F', Sim W xc e F' m s σ H ∧ Ext F m F' m ∧ Rep W F' m (.lst xs) (.ref a) := by
  obtain ⟨vs, h1, h2⟩ := l.at_
  refine ⟨_, S.frz h1 l.nf l.nm l.ne l.ns, ext_upd l.nf, ?_⟩
  unfold Rep
  exact ⟨a, vs, rfl, upd_same, h2.mono (ext_upd l.nf)⟩
theorem put_sl {i j : Nat} {x y : Slot} (h : (s.put i x).sl[j]? = some y) : (i = j ∧ i < s.sl.length ∧ y = x) ∨ (i ≠ j ∧ s.sl[j]? = some y) := by
  unfold St.put at h
  simp only [List.getElem?_set] at h
  by_cases q : i = j
  · rw [if_pos q] at h
    split at h
    · cases h
      exact .inl ⟨q, by assumption, rfl⟩
    · cases h
  · rw [if_neg q] at h
    exact .inr ⟨q, h⟩
/-- the evaluator's slot is told otherwise, the real one stays -/
theorem Sim.retell (S : Sim W xc e F m s σ H) {i : Nat} {x : Slot} (hx : ∀ xs, x ≠ .own xs) (ok : ∀ o, σ[i]? = some o → SlotOk W xc e F m H x o) : Sim W xc e F m (s.put i x) σ H where
  sub := S.sub
  cells := S.cells
  len := by rw [← S.len]; simp [St.put]
  slot := fun j y o h1 h2 => by
    rcases put_sl h1 with ⟨rfl, _, rfl⟩ | ⟨_, h⟩
    · exact ok o h2
    · exact S.slot j y o h h2
  apart := fun j k xs ys a h1 h2 h3 h4 => by
    rcases put_sl h1 with ⟨_, _, q⟩ | ⟨_, h1⟩
    · exact absurd q.symm (hx xs)
    · rcases put_sl h2 with ⟨_, _, q⟩ | ⟨_, h2⟩
      · exact absurd q.symm (hx ys)
      · exact S.apart j k xs ys a h1 h2 h3 h4
  ext := S.ext
  fr := S.fr
  keep := S.keep
  new := S.new
/-- an own list is given away: it stands still -/
theorem Sim.giveSlot (S : Sim W xc e F m s σ H) {i : Nat} {xs : List D} (h : s.sl[i]? = some (.own xs)) :
    ∃ F' v, σ[i]? = some (some v) ∧ Sim W xc e F' m (s.put i (.val (.lst xs))) σ H ∧ Ext F m F' m ∧ Rep W F' m (.lst xs) v := by
  obtain ⟨o, h1, a, vs, rfl, h3, h4, h5, h6, h7⟩ := S.getσ h
  have S1 : Sim W xc e F m (s.put i .no) σ H := S.retell (fun _ z => by cases z) fun _ _ => trivial
  have S2 := S1.frz h3 h5 h6 h7 fun j ys q1 q2 => by
    rcases put_sl q1 with ⟨_, _, z⟩ | ⟨ne, q⟩
    · cases z
    · exact ne (S.apart i j xs ys a h q h1 q2)
  have r : Rep W (L2.upd F a (.lst vs)) m (.lst xs) (.ref a) := by
    unfold Rep
    exact ⟨a, vs, rfl, upd_same, h4.mono (ext_upd h5)⟩
  refine ⟨_, _, h1, ?_, ext_upd h5, r⟩
  have S3 := S2.retell (i := i) (x := .val (.lst xs)) (fun _ z => by cases z) fun o ho => by
    rw [h1] at ho
    cases ho
    exact ⟨_, rfl, r⟩
  have e3 : (s.put i .no).put i (.val (.lst xs)) = s.put i (.val (.lst xs)) := by
    unfold St.put
    simp
  rw [e3] at S3
  exact S3
/-- .. or handed back -/
theorem Sim.handSlot (S : Sim W xc e F m s σ H) {i : Nat} {xs : List D} (h : s.sl[i]? = some (.own xs)) :
    ∃ a, σ[i]? = some (some (.ref a)) ∧ Sim W xc e F m (s.put i .no) σ H ∧ Lone W e F m (s.put i .no) σ H xs a := by
  obtain ⟨o, h1, a, vs, rfl, h3, h4, h5, h6, h7⟩ := S.getσ h
  refine ⟨a, h1, S.retell (fun _ z => by cases z) fun _ _ => trivial, ⟨vs, h3, h4⟩, h5, h6, h7, fun j ys q1 q2 => ?_⟩
  rcases put_sl q1 with ⟨_, _, z⟩ | ⟨ne, q⟩
  · cases z
  · exact ne (S.apart i j xs ys a h q h1 q2)
/-- a name is stored: a value -/
theorem Sim.setVal (S : Sim W xc e F m s σ H) {i : Nat} {d : D} {v : V} (r : Rep W F m d v) : Sim W xc e F m (s.put i (.val d)) (σ.set i (some v)) H where
  sub := S.sub
  cells := S.cells
  len := by simp [St.put, S.len]
  slot := fun j y o h1 h2 => by
    rw [List.getElem?_set] at h2
    rcases put_sl h1 with ⟨rfl, hl, rfl⟩ | ⟨ne, h⟩
    · rw [if_pos rfl] at h2
      split at h2
      · cases h2
        exact ⟨v, rfl, r⟩
      · cases h2
    · rw [if_neg ne] at h2
      exact S.slot j y o h h2
  apart := fun j k xs ys a h1 h2 h3 h4 => by
    rcases put_sl h1 with ⟨_, _, q⟩ | ⟨n1, h1⟩
    · cases q
    · rcases put_sl h2 with ⟨_, _, q⟩ | ⟨n2, h2⟩
      · cases q
      · rw [List.getElem?_set_ne n1] at h3
        rw [List.getElem?_set_ne n2] at h4
        exact S.apart j k xs ys a h1 h2 h3 h4
  ext := S.ext
  fr := S.fr
  keep := S.keep
  new := S.new
/-- .. a list of its own -/
theorem Sim.setOwn (S : Sim W xc e F m s σ H) {i : Nat} {xs : List D} {a : Addr} (l : Lone W e F m s σ H xs a) : Sim W xc e F m (s.put i (.own xs)) (σ.set i (some (.ref a))) H where
  sub := S.sub
  cells := S.cells
  len := by simp [St.put, S.len]
  slot := fun j y o h1 h2 => by
    rw [List.getElem?_set] at h2
    rcases put_sl h1 with ⟨rfl, hl, rfl⟩ | ⟨ne, h⟩
    · rw [if_pos rfl] at h2
      split at h2
      · cases h2
        obtain ⟨vs, q1, q2⟩ := l.at_
        exact ⟨a, vs, rfl, q1, q2, l.nf, l.nm, l.ne⟩
      · cases h2
    · rw [if_neg ne] at h2
      exact S.slot j y o h h2
  apart := fun j k ys zs b h1 h2 h3 h4 => by
    rcases put_sl h1 with ⟨rfl, l1, q⟩ | ⟨n1, h1⟩
    · rcases put_sl h2 with ⟨rfl, _, _⟩ | ⟨n2, h2⟩
      · rfl
      · rw [List.getElem?_set_ne n2] at h4
        rw [List.getElem?_set_self (by rw [← S.len]; exact l1)] at h3
        cases h3
        exact absurd h4 (l.ns k zs h2)
    · rcases put_sl h2 with ⟨rfl, l2, _⟩ | ⟨n2, h2⟩
      · rw [List.getElem?_set_ne n1] at h3
        rw [List.getElem?_set_self (by rw [← S.len]; exact l2)] at h4
        cases h4
        exact absurd h3 (l.ns j ys h1)
      · rw [List.getElem?_set_ne n1] at h3
        rw [List.getElem?_set_ne n2] at h4
        exact S.apart j k ys zs b h1 h2 h3 h4
  ext := S.ext
  fr := S.fr
  keep := S.keep
  new := S.new
/-- .. nothing: the slot is empty -/
theorem Sim.setNone (S : Sim W xc e F m s σ H) {i : Nat} : Sim W xc e F m (s.put i .no) (σ.set i none) H where
  sub := S.sub
  cells := S.cells
  len := by simp [St.put, S.len]
  slot := fun j y o h1 h2 => by
    rw [List.getElem?_set] at h2
    rcases put_sl h1 with ⟨rfl, hl, rfl⟩ | ⟨ne, h⟩
    · trivial
    · rw [if_neg ne] at h2
      exact S.slot j y o h h2
  apart := fun j k xs ys a h1 h2 h3 h4 => by
    rcases put_sl h1 with ⟨_, _, q⟩ | ⟨n1, h1⟩
    · cases q
    · rcases put_sl h2 with ⟨_, _, q⟩ | ⟨n2, h2⟩
      · cases q
      · rw [List.getElem?_set_ne n1] at h3
        rw [List.getElem?_set_ne n2] at h4
        exact S.apart j k xs ys a h1 h2 h3 h4
  ext := S.ext
  fr := S.fr
  keep := S.keep
  new := S.new
/-- an own list is changed where it stands -/
theorem Sim.changeOwn (S : Sim W xc e F m s σ H) {i : Nat} {xs ys : List D} {a : Addr} {ws : List V} (h : s.sl[i]? = some (.own xs)) (ha : σ[i]? = some (some (.ref a))) (r : Reps W F m ys ws) :
    Sim W xc e F m (s.put i (.own ys)) σ (L2.upd H a (.lst ws)) := by
  obtain ⟨o, h1, a', vs, rfl, h3, h4, h5, h6, h7⟩ := S.getσ h
  rw [ha] at h1
  cases h1
  refine ⟨fun b u hb => ?_, ⟨S.cells.len, S.cells.nd, fun j c b g1 g2 => ?_⟩, by rw [← S.len]; simp [St.put], fun j y o g1 g2 => ?_, fun j k zs us b g1 g2 g3 g4 => ?_, S.ext, S.fr, fun b u g1 g2 => ?_, S.new⟩
  · rw [upd_ne (fun z => by rw [z, h5] at hb; cases hb)]
    exact S.sub b u hb
  · obtain ⟨q1, q2⟩ := S.cells.ok j c b g1 g2
    refine ⟨q1, q2.mono (Ext.refl F m) fun u hu => ?_⟩
    rw [upd_ne (fun z : b = a => h6 (by rw [← z]; exact List.mem_of_getElem? g2))]
    exact hu
  · rcases put_sl g1 with ⟨rfl, _, rfl⟩ | ⟨ne, g⟩
    · rw [ha] at g2
      cases g2
      exact ⟨a, ws, rfl, upd_same, r, h5, h6, h7⟩
    · have q := S.slot j y o g g2
      cases y with
      | own zs =>
        obtain ⟨b, us, k1, k2, k3⟩ := q
        refine ⟨b, us, k1, ?_, k3⟩
        rw [upd_ne (fun z => ne (S.apart i j xs zs a h g ha (by rw [g2, k1, z])))]
        exact k2
      | no => trivial
      | val d => exact q
      | exc x => exact q
  · have g1' : ∃ zs', s.sl[j]? = some (.own zs') := by
      rcases put_sl g1 with ⟨rfl, _, _⟩ | ⟨_, g⟩
      · exact ⟨xs, h⟩
      · exact ⟨zs, g⟩
    have g2' : ∃ us', s.sl[k]? = some (.own us') := by
      rcases put_sl g2 with ⟨rfl, _, _⟩ | ⟨_, g⟩
      · exact ⟨xs, h⟩
      · exact ⟨us, g⟩
    obtain ⟨zs', g1'⟩ := g1'
    obtain ⟨us', g2'⟩ := g2'
    exact S.apart j k zs' us' b g1' g2' g3 g4
  · have q := S.keep b u g1 g2
    rw [upd_ne (fun z => by rw [z, h7] at g1; cases g1)]
    exact q
/-- a cell is changed -/
theorem Sim.changeCell (S : Sim W xc e F m s σ H) {i : Nat} {c c' : Cell} {a : Addr} {o : HO} (h : s.hp[i]? = some c) (ha : m[i]? = some a) (r : CellOk W F m (L2.upd H a o) c' a) :
    Sim W xc e F m { s with hp := s.hp.set i c' } σ (L2.upd H a o) := by
  obtain ⟨fa, ok⟩ := S.cells.ok i c a h ha
  refine ⟨fun b u hb => ?_, ⟨by simp [S.cells.len], S.cells.nd, fun j d b g1 g2 => ?_⟩, S.len, fun j y o' g1 g2 => ?_, S.apart, S.ext, S.fr, fun b u g1 g2 => ?_, S.new⟩
  · rw [upd_ne (fun z => by rw [z, fa] at hb; cases hb)]
    exact S.sub b u hb
  · simp only [List.getElem?_set] at g1
    by_cases q : i = j
    · subst q
      rw [if_pos rfl] at g1
      rw [ha] at g2
      cases g2
      split at g1
      · cases g1
        exact ⟨fa, r⟩
      · cases g1
    · rw [if_neg q] at g1
      obtain ⟨q1, q2⟩ := S.cells.ok j d b g1 g2
      have nb : b ≠ a := fun z => by
        subst z
        obtain ⟨l1, e1⟩ := List.getElem?_eq_some_iff.mp ha
        obtain ⟨l2, e2⟩ := List.getElem?_eq_some_iff.mp g2
        exact q ((List.getElem_inj S.cells.nd).mp (e1.trans e2.symm))
      exact ⟨q1, q2.mono (Ext.refl F m) fun u hu => by rw [upd_ne nb]; exact hu⟩
  · have q := S.slot j y o' g1 g2
    cases y with
    | own zs =>
      obtain ⟨b, us, k1, k2, k3, k4, k5, k6⟩ := q
      refine ⟨b, us, k1, ?_, k3, k4, k5, k6⟩
      rw [upd_ne (fun z : b = a => k5 (by rw [z]; exact List.mem_of_getElem? ha))]
      exact k2
    | no => trivial
    | val d => exact q
    | exc x => exact q
  · have q := S.keep b u g1 g2
    by_cases z : b = a
    · subst z
      have := S.new b (List.mem_of_getElem? ha) g2
      rw [this] at g1
      cases g1
    · rw [upd_ne z]
      exact q
end
end MP
set_option Elab.async false
set_option linter.all false
set_option maxRecDepth 100000
set_option maxHeartbeats 4000000
/-! MP2: what a run of the evaluator asks of a reading; expressions without calls. -/
namespace MP
open PySem PySem.Spec PyProof.Rows L2

abbrev Rl (α β : Type) := En → Hp → List Addr → St → L2.St → Hp → α → β → Prop
/-- what is told of an end o of a run that began over F, m -/
def Go (W : Wd) (xc : XC) (Wx : WX) {α β : Type} (e : En) (F : Hp) (m : List Addr) (σ : L2.St) (o : O α) (rel : Rl α β) (Q : β → Hp → Prop) : Prop := match o with
  | .bad => False
  | .ok a s' => ∀ b F' m' H', Sim W xc e F' m' s' σ H' → Ext F m F' m' → rel e F' m' s' σ H' a b → Q b H'
  | .exc x s' => ∀ cls d F' m' H', Sim W xc e F' m' s' σ H' → Ext F m F' m' → RepX W F' m' x cls d → Wx cls d σ H'
def Sp1 (W : Wd) (xc : XC) (Wx : WX) {α β : Type} (run : St → O α) (rel : Rl α β) : L2.St → Hp → (β → Hp → Prop) → Prop := fun σ H Q =>
  ∃ e F m s, Sim W xc e F m s σ H ∧ Go W xc Wx e F m σ (run s) rel Q
section
variable {W : Wd} {xc : XC} {Wx : WX} {α β γ δ : Type} {e : En} {F F1 : Hp} {m m1 : List Addr} {σ : L2.St} {s : St} {H : Hp}
theorem Go.ext {o : O α} {rel : Rl α β} {Q : β → Hp → Prop} (x : Ext F m F1 m1) (h : Go W xc Wx e F m σ o rel Q) : Go W xc Wx e F1 m1 σ o rel Q := by
  cases o with
  | bad => exact h
  | ok a s' => exact fun b F' m' H' h1 h2 h3 => h b F' m' H' h1 (x.trans h2) h3
  | exc y s' => exact fun cls d F' m' H' h1 h2 h3 => h cls d F' m' H' h1 (x.trans h2) h3
theorem Go.mono {o : O α} {rel : Rl α β} {Q Q' : β → Hp → Prop} (h : Go W xc Wx e F m σ o rel Q) (k : ∀ b H, Q b H → Q' b H) : Go W xc Wx e F m σ o rel Q' := by
  cases o with
  | bad => exact h
  | ok a s' => exact fun b F' m' H' h1 h2 h3 => k _ _ (h b F' m' H' h1 h2 h3)
  | exc y s' => exact h
/-- what is left behind the first part of a run -/
def Left (W : Wd) (xc : XC) (Wx : WX) (e : En) (F : Hp) (m : List Addr) (σ : L2.St) (rel : Rl α β) (f : α → St → O γ) (rel2 : Rl γ δ) (Q : δ → Hp → Prop) : β → Hp → Prop := fun b H1 =>
  ∃ a s1 F1 m1, Sim W xc e F1 m1 s1 σ H1 ∧ Ext F m F1 m1 ∧ rel e F1 m1 s1 σ H1 a b ∧ Go W xc Wx e F1 m1 σ (f a s1) rel2 Q
theorem Go.bind {o : O α} {f : α → St → O γ} {rel : Rl α β} {rel2 : Rl γ δ} {Q : δ → Hp → Prop} (h : Go W xc Wx e F m σ (o.bind f) rel2 Q) : Go W xc Wx e F m σ o rel (Left W xc Wx e F m σ rel f rel2 Q) := by
  cases o with
  | bad => exact h
  | ok a s' => exact fun b F' m' H' h1 h2 h3 => ⟨a, s', F', m', h1, h2, h3, h.ext h2⟩
  | exc y s' => exact h
theorem Go.opt {o : Option α} {rel : Rl α β} {Q : β → Hp → Prop} (h : Go W xc Wx e F m σ (O.opt o s) rel Q) : ∃ a, o = some a ∧ Go W xc Wx e F m σ (.ok a s) rel Q := by
  cases o with
  | none => exact h.elim
  | some a => exact ⟨a, rfl, h⟩
theorem Go.ok {a : α} {b : β} {rel : Rl α β} {Q : β → Hp → Prop} (h : Go W xc Wx e F m σ (.ok a s) rel Q) (S : Sim W xc e F1 m1 s σ H) (x : Ext F m F1 m1) (r : rel e F1 m1 s σ H a b) : Q b H := h b F1 m1 H S x r
theorem Sp1.of {run : St → O α} {rel : Rl α β} {Q : β → Hp → Prop} (S : Sim W xc e F m s σ H) (h : Go W xc Wx e F m σ (run s) rel Q) : Sp1 W xc Wx run rel σ H Q := ⟨e, F, m, s, S, h⟩
end

def relV (W : Wd) : Rl R V := fun e F m s σ H r v => match r with
  | .val d => Rep W F m d v
  | .own xs => ∃ a, v = .ref a ∧ Lone W e F m s σ H xs a
def relP (W : Wd) : Rl P V := fun _ F m _ σ _ p v => match p with
  | .dat d => Rep W F m d v
  | .sl i => σ[i]? = some (some v)
def relT : Rl Bool Bool := fun _ _ _ _ _ _ a b => a = b
def relA (W : Wd) : Rl (List D) (List V) := fun _ F m _ _ _ ds vs => Reps W F m ds vs
def relPs (W : Wd) (F : Hp) (m : List Addr) (σ : L2.St) : List P → List V → Prop
  | [], vs => vs = []
  | p :: ps, vs => ∃ v r, vs = v :: r ∧ (match p with
    | .dat d => Rep W F m d v
    | .sl i => σ[i]? = some (some v)) ∧ relPs W F m σ ps r
def relAP (W : Wd) : Rl (List P) (List V) := fun _ F m _ σ _ ps vs => relPs W F m σ ps vs
def relO : Rl (Option Int) (Option Int) := fun _ _ _ _ _ _ a b => a = b

/-- d is to be read at v as the heap H stands -/
def See (W : Wd) (F : Hp) (m : List Addr) (H : Hp) : D → V → Prop
  | .lst xs, v => ∃ a vs, v = .ref a ∧ H a = some (.lst vs) ∧ Reps W F m xs vs
  | .ins c fs, v => ∃ a dx gs, v = .ref a ∧ H a = some (.ins (W.cad c) dx gs) ∧ Repf W F m fs gs
  | .cell _, _ => False
  | d, v => Rep W F m d v
section
variable {W : Wd} {xc : XC} {Wx : WX} {e : En} {F F1 : Hp} {m m1 : List Addr} {σ : L2.St} {s : St} {H : Hp}
theorem Rep.see (S : Sim W xc e F m s σ H) {d x : D} {v : V} (r : Rep W F m d v) (h : D.see s.hp d = some x) : See W F m H x v := by
  cases d with
  | cell i =>
    unfold Rep at r
    obtain ⟨a, hm, rfl⟩ := r
    simp only [D.see] at h
    cases q : s.hp[i]? with
    | none => rw [q] at h; cases h
    | some c =>
      rw [q] at h
      obtain ⟨_, ok⟩ := S.cells.ok i c a q hm
      cases c with
      | lst xs =>
        cases h
        obtain ⟨vs, h1, h2⟩ := ok
        exact ⟨a, vs, rfl, h1, h2⟩
      | ins c fs =>
        cases h
        obtain ⟨dx, gs, h1, h2⟩ := ok
        exact ⟨a, dx, gs, rfl, h1, h2⟩
  | lst xs =>
    cases h
    unfold Rep at r
    obtain ⟨a, vs, rfl, h2, h3⟩ := r
    exact ⟨a, vs, rfl, S.sub _ _ h2, h3⟩
  | ext xs => cases h; exact r
  | rng lo hi => cases h; exact r
  | tup xs => cases h; exact r
  | ins c fs =>
    cases h
    unfold Rep at r
    obtain ⟨a, dx, gs, rfl, h2, h3⟩ := r
    exact ⟨a, dx, gs, rfl, S.sub _ _ h2, h3⟩
  | non => cases h; exact r
  | bl b => cases h; exact r
  | int i => cases h; exact r
  | str x => cases h; exact r
theorem See.of_get (S : Sim W xc e F m s σ H) {p : P} {x : D} {v : V} (r : relP W e F m s σ H p v) (h : p.get s = some x) : See W F m H x v := by
  cases p with
  | dat d => exact Rep.see S (show Rep W F m d v from r) h
  | sl i =>
    have r : σ[i]? = some (some v) := r
    simp only [P.get] at h
    cases q : s.sl[i]? with
    | none => rw [q] at h; cases h
    | some x =>
      rw [q] at h
      have ok := S.slot i x _ q r
      cases x with
      | val d =>
        obtain ⟨u, e1, e2⟩ := ok
        cases e1
        exact Rep.see S e2 h
      | own xs =>
        cases h
        obtain ⟨a, vs, e1, e2, e3, _⟩ := ok
        cases e1
        exact ⟨a, vs, rfl, e2, e3⟩
      | no => cases h
      | exc x => cases h
theorem relP.later {e1 : En} {s1 : St} {H1 : Hp} {p : P} {v : V} (x : Ext F m F1 m1) (r : relP W e F m s σ H p v) : relP W e1 F1 m1 s1 σ H1 p v := by
  cases p with
  | dat d => exact Rep.mono x r
  | sl i => exact r
theorem See.int {i : Int} {v : V} (h : See W F m H (.int i) v) : v = .int i := by
  have h : Rep W F m (.int i) v := h
  unfold Rep at h
  exact h
theorem See.str {x : Str} {v : V} (h : See W F m H (.str x) v) : v = .str x := by
  have h : Rep W F m (.str x) v := h
  unfold Rep at h
  exact h
theorem See.bl {b : Bool} {v : V} (h : See W F m H (.bl b) v) : v = .bl b := by
  have h : Rep W F m (.bl b) v := h
  unfold Rep at h
  exact h
theorem See.non {v : V} (h : See W F m H .non v) : v = .non := by
  have h : Rep W F m .non v := h
  unfold Rep at h
  exact h
theorem See.tup {xs : List D} {v : V} (h : See W F m H (.tup xs) v) : ∃ a vs, v = .ref a ∧ SqT W.K F a vs ∧ Reps W F m xs vs := by
  have h : Rep W F m (.tup xs) v := h
  unfold Rep at h
  exact h
theorem See.ext {xs : List D} {v : V} (h : See W F m H (.ext xs) v) : ∃ a vs, v = .ref a ∧ SqL W.K F a vs ∧ Reps W F m xs vs := by
  have h : Rep W F m (.ext xs) v := h
  unfold Rep at h
  exact h
theorem rep_int {i : Int} : Rep W F m (.int i) (.int i) := by unfold Rep; rfl
theorem rep_bl {i : Bool} : Rep W F m (.bl i) (.bl i) := by unfold Rep; rfl
theorem rep_str {i : Str} : Rep W F m (.str i) (.str i) := by unfold Rep; rfl
theorem rep_non : Rep W F m .non .non := by unfold Rep; rfl
theorem rv_int {i : Int} : relV W e F m s σ H (.val (.int i)) (.int i) := rep_int (W := W) (F := F) (m := m)
theorem rv_bl {i : Bool} : relV W e F m s σ H (.val (.bl i)) (.bl i) := rep_bl (W := W) (F := F) (m := m)
theorem rv_str {i : Str} : relV W e F m s σ H (.val (.str i)) (.str i) := rep_str (W := W) (F := F) (m := m)
theorem rv_non : relV W e F m s σ H (.val .non) .non := rep_non (W := W) (F := F) (m := m)
end

/-! ### contexts -/
structure Tab where
  N : List Str
  fnm : Nat → Str
  cnm : Nat → Str
  gnm : Nat → Str
  fld : Nat → Str
  nf : Nat
/-- no exception is held, or the suite's -/
def XcOk (X : Cx) (xc : XC) : Prop := xc = none ∨ ∃ (X0 : Cx) (a : Addr) (oe : Obj) (cls : Value) (d : Option Addr) (pn : List (Addr × Obj)), xc = some (a, cls, d) ∧ X = X0.suite a ((a, oe) :: pn) ∧ Zc cls d oe ∧ ∃ vs, oe.data = .fields vs
/-- what stands around an expression -/
structure Cn (W : Wd) (X : Cx) (xc : XC) (Wx : WX) (T : Tab) (sc : Scope) (ca : Bool) : Prop where
  calm : ca = true → X.calm = true
  nx : ca = true → xc = none
  held : XcOk X xc
  nd : X.N.Nodup
  N : X.N = T.N
  sc : X.env.scope = sc
  K : X.K = W.K
  fld : W.fld = T.fld
  nf : W.nf = T.nf
  tk : Takes X Wx
  un : X.A.units + 66 < cLine
  gd : X.A.guards = some []
/-- an expression of the text does what the evaluator does with c -/
structure Eok (W : Wd) (X : Cx) (xc : XC) (Wx : WX) (G : Env) (c : E) (e : Expr) : Prop where
  v : PE X e (Sp1 W xc Wx (ev G c).v (relV W))
  t : PT X e (Sp1 W xc Wx (ev G c).t relT)
  p : PE X e (Sp1 W xc Wx (ev G c).p (relP W))
  ns : ∀ es, starEach (e :: es) X.env = (false, eval e X.env) :: starEach es X.env
section
variable {W : Wd} {xc : XC} {X : Cx} {Wx : WX} {T : Tab} {sc : Scope} {ca : Bool} {G : Env} {xe : Expr}
theorem _root_.L2.PE.imp {t t' : TE} {x : Expr} (h : PE X x t) (k : ∀ σ H Q, t' σ H Q → t σ H Q) : PE X x t' := ⟨fun pins s σ H Q I q => h.run pins s σ H Q I (k _ _ _ q)⟩
theorem _root_.L2.PT.imp {t t' : TT} {x : Expr} (h : PT X x t) (k : ∀ σ H Q, t' σ H Q → t σ H Q) : PT X x t' := ⟨fun pins s σ H Q I q => h.run pins s σ H Q I (k _ _ _ q)⟩
/-- what is only looked at, from a value -/
theorem p_of {v : St → O R} {σ : L2.St} {H : Hp} {Q : VK} (h : Sp1 W xc Wx (pOf v) (relP W) σ H Q) : Sp1 W xc Wx v (relV W) σ H Q := by
  obtain ⟨e, F, m, s, S, g⟩ := h
  refine ⟨e, F, m, s, S, ?_⟩
  unfold pOf at g
  cases hv : v s with
  | bad => rw [hv] at g; exact g
  | exc x s' => rw [hv] at g; exact g
  | ok r s' =>
    rw [hv] at g
    have g : Go W xc Wx e F m σ (.ok (P.dat r.d) s') (relP W) Q := g
    intro b F' m' H' h1 h2 h3
    cases r with
    | val d => exact g b F' m' H' h1 h2 h3
    | own xs =>
      obtain ⟨a, rfl, l⟩ := h3
      obtain ⟨F2, S2, x2, r2⟩ := h1.give l
      exact g _ F2 m' H' S2 (h2.trans x2) r2
theorem tru_see {F : Hp} {m : List Addr} {H : Hp} {d : D} {v : V} {k : Bool} (sub : Same F H) (h : See W F m H d v) (ht : tru d = some k) : TruV W.K v H k := by
  cases d with
  | non => cases h.non; cases ht; exact rfl
  | bl b => cases h.bl; cases ht; exact rfl
  | int i => cases h.int; cases ht; exact rfl
  | str x =>
    cases h.str
    simp only [tru] at ht
    by_cases hl : x.length ≤ big
    · rw [if_pos hl] at ht
      cases ht
      have : x.length ≤ sizeLine := by rw [sizeLine_eq]; unfold big at hl; omega
      exact ⟨this, rfl⟩
    · rw [if_neg hl] at ht
      cases ht
  | tup xs =>
    cases ht
    have h : Rep W F m (.tup xs) v := h
    unfold Rep at h
    obtain ⟨a, vs, rfl, h2, h3⟩ := h
    refine .inr (.inl ⟨vs, Same.sqT sub h2, ?_⟩)
    have := h3.length
    cases vs <;> cases xs <;> simp_all
  | lst xs =>
    cases ht
    obtain ⟨a, vs, rfl, h2, h3⟩ := h
    refine .inl ⟨vs, SqL.of h2, ?_⟩
    have := h3.length
    cases vs <;> cases xs <;> simp_all
  | ext xs =>
    cases ht
    have h : Rep W F m (.ext xs) v := h
    unfold Rep at h
    obtain ⟨a, vs, rfl, h2, h3⟩ := h
    refine .inl ⟨vs, sub.seq h2, ?_⟩
    have := h3.length
    cases vs <;> cases xs <;> simp_all
  | ins c fs => cases ht
  | cell i => cases ht
  | rng lo hi => cases ht
/-- a test by the truth of what stands there -/
theorem t_of {p : St → O P} {te : TE} (hK : X.K = W.K) (hp : PE X xe te) (hi : ∀ σ H Q, Sp1 W xc Wx p (relP W) σ H Q → te σ H Q)
    (he : ∀ whole, isTrue xe X.env whole = (do let v ← whole; standAt xe.pos; holding [v] (truthy v))) : PT X xe (Sp1 W xc Wx (fun s => truthP (p s)) relT) := by
  refine (pt_truth hp he).imp fun σ H Q h => hi _ _ _ ?_
  obtain ⟨e, F, m, s, S, g⟩ := h
  refine ⟨e, F, m, s, S, ?_⟩
  unfold truthP at g
  refine g.bind.mono fun v H1 ⟨p1, s1, F1, m1, S1, x1, r1, g1⟩ => ?_
  obtain ⟨k, e1, g2⟩ := g1.opt
  cases q : p1.get s1 with
  | none => rw [q] at e1; cases e1
  | some d =>
    rw [q] at e1
    refine ⟨k, ?_, g2.ok S1 (Ext.refl _ _) rfl⟩
    rw [hK]
    exact tru_see S1.sub (See.of_get S1 r1 q) e1
/-- from a value alone -/
theorem Eok.of {c : E} {v : St → O R} (hd : ev G c = den v) (hK : X.K = W.K) (hv : PE X xe (Sp1 W xc Wx v (relV W))) (ns : ∀ es, starEach (xe :: es) X.env = (false, eval xe X.env) :: starEach es X.env)
    (he : ∀ whole, isTrue xe X.env whole = (do let v ← whole; standAt xe.pos; holding [v] (truthy v))) : Eok W X xc Wx G c xe := by
  have p : PE X xe (Sp1 W xc Wx (pOf v) (relP W)) := hv.imp fun _ _ _ h => p_of h
  refine ⟨?_, ?_, ?_, ns⟩
  · rw [hd]; exact hv
  · rw [hd]; exact t_of hK p (fun _ _ _ h => h) he
  · rw [hd]; exact p
/-- .. whose test is a comparison's -/
theorem Eok.ofT {c : E} {v : St → O R} (hd : ev G c = den v) (hK : X.K = W.K) (hv : PE X xe (Sp1 W xc Wx v (relV W))) (ns : ∀ es, starEach (xe :: es) X.env = (false, eval xe X.env) :: starEach es X.env)
    (ht : PT X xe (Sp1 W xc Wx (fun s => truthP (pOf v s)) relT)) : Eok W X xc Wx G c xe := by
  have p : PE X xe (Sp1 W xc Wx (pOf v) (relP W)) := hv.imp fun _ _ _ h => p_of h
  refine ⟨?_, ?_, ?_, ns⟩
  · rw [hd]; exact hv
  · rw [hd]; exact ht
  · rw [hd]; exact p

/-! ### names, constants -/
theorem go_varP {e : En} {F : Hp} {m : List Addr} {s : St} {σ : L2.St} {H : Hp} {i : Nat} {Q : VK} (S : Sim W xc e F m s σ H) (g : Go W xc Wx e F m σ (varP i s) (relP W) Q) : ∃ v, σ[i]? = some (some v) ∧ Q v H := by
  unfold varP at g
  cases q : s.sl[i]? with
  | none => rw [q] at g; exact g.elim
  | some x =>
    rw [q] at g
    obtain ⟨o, h1, ok⟩ := S.getσ q
    cases x with
    | val d =>
      obtain ⟨v, rfl, _⟩ := ok
      exact ⟨v, h1, g v F m H S (Ext.refl _ _) h1⟩
    | own xs =>
      obtain ⟨a, vs, rfl, _⟩ := ok
      exact ⟨_, h1, g _ F m H S (Ext.refl _ _) h1⟩
    | no => exact g.elim
    | exc x => exact g.elim
theorem go_varV {e : En} {F : Hp} {m : List Addr} {s : St} {σ : L2.St} {H : Hp} {i : Nat} {Q : VK} (S : Sim W xc e F m s σ H) (g : Go W xc Wx e F m σ (varV i s) (relV W) Q) : ∃ v, σ[i]? = some (some v) ∧ Q v H := by
  unfold varV at g
  cases q : s.sl[i]? with
  | none => rw [q] at g; exact g.elim
  | some x =>
    rw [q] at g
    cases x with
    | val d =>
      obtain ⟨o, h1, ok⟩ := S.getσ q
      obtain ⟨v, rfl, r⟩ := ok
      exact ⟨v, h1, g v F m H S (Ext.refl _ _) r⟩
    | own xs =>
      obtain ⟨F', v, h1, S', x', r⟩ := S.giveSlot q
      exact ⟨_, h1, g _ F' m H S' x' r⟩
    | no => exact g.elim
    | exc x => exact g.elim
theorem go_varR {e : En} {F : Hp} {m : List Addr} {s : St} {σ : L2.St} {H : Hp} {i : Nat} {Q : VK} (S : Sim W xc e F m s σ H) (g : Go W xc Wx e F m σ (varR i s) (relV W) Q) : ∃ v, σ[i]? = some (some v) ∧ Q v H := by
  unfold varR at g
  cases q : s.sl[i]? with
  | none => rw [q] at g; exact g.elim
  | some x =>
    rw [q] at g
    cases x with
    | val d =>
      obtain ⟨o, h1, ok⟩ := S.getσ q
      obtain ⟨v, rfl, r⟩ := ok
      exact ⟨v, h1, g v F m H S (Ext.refl _ _) r⟩
    | own xs =>
      obtain ⟨a, h1, S', l⟩ := S.handSlot q
      exact ⟨_, h1, g _ F m H S' (Ext.refl _ _) ⟨a, rfl, l⟩⟩
    | no => exact g.elim
    | exc x => exact g.elim
theorem pe_name {i : Nat} {x : Str} {pos : Pos} (C : Cn W X xc Wx T sc ca) (hN : T.N[i]? = some x) (hv : Vis sc x) (hd : (x == ("__debug__" : Str)) = false) (hcd : (x == ("__classdict__" : Str)) = false) : PE X (.Name x pos) (tVar i) := pe_var (by rw [C.N]; exact hN) (by rw [C.sc]; exact hv) hd hcd
theorem ok_var {i : Nat} {x : Str} {pos : Pos} (C : Cn W X xc Wx T sc ca) (hN : T.N[i]? = some x) (hv : Vis sc x) (hd : (x == ("__debug__" : Str)) = false) (hcd : (x == ("__classdict__" : Str)) = false) : Eok W X xc Wx G (.var i) (.Name x pos) := by
  have pe : PE X (.Name x pos) (tVar i) := pe_name C hN hv hd hcd
  refine ⟨pe.imp fun σ H Q ⟨e, F, m, s, S, g⟩ => ?_, t_of (p := varP i) C.K pe (fun σ H Q ⟨e, F, m, s, S, g⟩ => go_varP S g) fun _ => rfl, pe.imp fun σ H Q ⟨e, F, m, s, S, g⟩ => go_varP S g, fun _ => rfl⟩
  exact go_varV S g
theorem ok_const {d : D} {v : V} {c : E} (hc : ev G c = den fun s => .ok (.val d) s) (C : Cn W X xc Wx T sc ca) (pe : PE X xe (tC v)) (r : ∀ F m, Rep W F m d v) (ns : ∀ es, starEach (xe :: es) X.env = (false, eval xe X.env) :: starEach es X.env)
    (he : ∀ whole, isTrue xe X.env whole = (do let v ← whole; standAt xe.pos; holding [v] (truthy v))) : Eok W X xc Wx G c xe :=
  .of hc C.K (pe.imp fun σ H Q ⟨e, F, m, s, S, g⟩ => g v F m H S (Ext.refl _ _) (r F m)) ns he
theorem ok_int {i : Int} {j : Nat} {pos : Pos} (C : Cn W X xc Wx T sc ca) : Eok W X xc Wx G (.int i) (.Constant (.int i) j pos) := ok_const rfl C pe_int (fun _ _ => rep_int) (fun _ => rfl) fun _ => rfl
theorem ok_bl {i : Bool} {j : Nat} {pos : Pos} (C : Cn W X xc Wx T sc ca) : Eok W X xc Wx G (.bl i) (.Constant (.bool i) j pos) := ok_const rfl C pe_bl (fun _ _ => rep_bl) (fun _ => rfl) fun _ => rfl
theorem ok_str {i : Str} {j : Nat} {pos : Pos} (C : Cn W X xc Wx T sc ca) : Eok W X xc Wx G (.str i) (.Constant (.str i) j pos) := ok_const rfl C pe_str (fun _ _ => rep_str) (fun _ => rfl) fun _ => rfl
theorem ok_non {j : Nat} {pos : Pos} (C : Cn W X xc Wx T sc ca) : Eok W X xc Wx G .non (.Constant .none j pos) := ok_const rfl C pe_non (fun _ _ => rep_non) (fun _ => rfl) fun _ => rfl
end
end MP
set_option Elab.async false
set_option linter.all false
set_option maxRecDepth 100000
set_option maxHeartbeats 4000000
/-! MP3: operators, comparisons, tests, displays, subscripts. -/
namespace MP
open PySem PySem.Spec PyProof.Rows L2

/-! ### plain data -/
mutual
theorem fit_pd : ∀ (n : Nat) (d : D), D.fit n d = true → ∃ p, D.pd d = some p ∧ p.canLay0 = true ∧ p.depth ≤ n
  | n, .non, _ => ⟨_, rfl, rfl, Nat.zero_le _⟩
  | n, .bl b, _ => ⟨_, rfl, rfl, Nat.zero_le _⟩
  | n, .int i, _ => ⟨_, rfl, rfl, Nat.zero_le _⟩
  | n, .str s, h => ⟨_, rfl, by simpa [D.fit, PyData.canLay0, PyData.strOk] using h, Nat.zero_le _⟩
  | n, .tup xs, h => by
    obtain ⟨ps, h1, h2, h3⟩ := fits_pd n xs (by simpa [D.fit] using h)
    exact ⟨.tuple ps, by simp [D.pd, h1], by simpa [PyData.canLay0] using h2, by simpa [PyData.depth] using h3⟩
  | n, .lst xs, h => by
    obtain ⟨ps, h1, h2, h3⟩ := fits_pd n xs (by simpa [D.fit] using h)
    exact ⟨.list ps, by simp [D.pd, h1], by simpa [PyData.canLay0] using h2, by simpa [PyData.depth] using h3⟩
  | n, .ins c fs, h => by simp [D.fit] at h
  | n, .cell i, h => by simp [D.fit] at h
  | n, .ext i, h => by simp [D.fit] at h
theorem fits_pd : ∀ (n : Nat) (d : List D), D.fits n d = true → ∃ p, D.pds d = some p ∧ PyData.canLayAll0 p = true ∧ PyData.depthAll p + 1 ≤ n
  | 0, _, h => by simp [D.fits] at h
  | n + 1, [], _ => ⟨[], rfl, rfl, by simp [PyData.depthAll]⟩
  | n + 1, x :: xs, h => by
    have h' : D.fit n x = true ∧ D.fits (n + 1) xs = true := by simpa [D.fits] using h
    obtain ⟨p, h1, h2, h3⟩ := fit_pd n x h'.1
    obtain ⟨ps, h4, h5, h6⟩ := fits_pd (n + 1) xs h'.2
    refine ⟨p :: ps, by simp [D.pds, h1, h4], by simp [PyData.canLayAll0, h2, h5], ?_⟩
    simp only [PyData.depthAll]
    omega
end
theorem fit_shaped {d : D} (h : D.fit depthMax d = true) : ∃ p, D.pd d = some p ∧ SeqAt.shaped p = true := by
  obtain ⟨p, h1, h2, h3⟩ := fit_pd depthMax d h
  refine ⟨p, h1, ?_⟩
  unfold SeqAt.shaped
  rw [h2]
  simp only [Bool.true_and, decide_eq_true_eq]
  unfold depthMax at h3
  omega
mutual
theorem eqv_pd : ∀ {d e : D} {p q : PyData}, D.pd d = some p → D.pd e = some q → D.eqv d e = PyData.eqv p q := by
  intro d e p q hd he
  cases d with
  | ins c fs => cases hd
  | cell c => cases hd
  | ext c => cases hd
  | rng _ _ => cases hd
  | non => cases hd; cases e <;> first | (cases he; done) | (cases he; simp [D.eqv, PyData.eqv]; done) | (simp only [D.pd, Option.map_eq_some_iff] at he; obtain ⟨_, _, rfl⟩ := he; simp [D.eqv, PyData.eqv])
  | bl b => cases hd; cases e <;> first | (cases he; done) | (cases he; simp [D.eqv, PyData.eqv]; done) | (simp only [D.pd, Option.map_eq_some_iff] at he; obtain ⟨_, _, rfl⟩ := he; simp [D.eqv, PyData.eqv])
  | int b => cases hd; cases e <;> first | (cases he; done) | (cases he; simp [D.eqv, PyData.eqv]; done) | (simp only [D.pd, Option.map_eq_some_iff] at he; obtain ⟨_, _, rfl⟩ := he; simp [D.eqv, PyData.eqv])
  | str b => cases hd; cases e <;> first | (cases he; done) | (cases he; simp [D.eqv, PyData.eqv]; done) | (simp only [D.pd, Option.map_eq_some_iff] at he; obtain ⟨_, _, rfl⟩ := he; simp [D.eqv, PyData.eqv])
  | tup xs =>
    simp only [D.pd, Option.map_eq_some_iff] at hd
    obtain ⟨ps, h1, rfl⟩ := hd
    cases e with
    | tup ys =>
      simp only [D.pd, Option.map_eq_some_iff] at he
      obtain ⟨qs, h2, rfl⟩ := he
      simp only [D.eqv, PyData.eqv]
      exact eqvs_pd h1 h2
    | lst ys =>
      simp only [D.pd, Option.map_eq_some_iff] at he
      obtain ⟨qs, h2, rfl⟩ := he
      simp [D.eqv, PyData.eqv]
    | _ => cases he <;> simp [D.eqv, PyData.eqv]
  | lst xs =>
    simp only [D.pd, Option.map_eq_some_iff] at hd
    obtain ⟨ps, h1, rfl⟩ := hd
    cases e with
    | lst ys =>
      simp only [D.pd, Option.map_eq_some_iff] at he
      obtain ⟨qs, h2, rfl⟩ := he
      simp only [D.eqv, PyData.eqv]
      exact eqvs_pd h1 h2
    | tup ys =>
      simp only [D.pd, Option.map_eq_some_iff] at he
      obtain ⟨qs, h2, rfl⟩ := he
      simp [D.eqv, PyData.eqv]
    | _ => cases he <;> simp [D.eqv, PyData.eqv]
theorem eqvs_pd : ∀ {d e : List D} {p q : List PyData}, D.pds d = some p → D.pds e = some q → D.eqvs d e = PyData.eqvAll p q := by
  intro d e p q hd he
  cases d with
  | nil =>
    cases hd
    cases e with
    | nil => cases he; simp [D.eqvs, PyData.eqvAll]
    | cons y ys =>
      simp only [D.pds] at he
      split at he
      · cases he; simp [D.eqvs, PyData.eqvAll]
      · cases he
  | cons x xs =>
    simp only [D.pds] at hd
    split at hd
    · cases hd
      rename_i h1 h2
      cases e with
      | nil => cases he; simp [D.eqvs, PyData.eqvAll]
      | cons y ys =>
        simp only [D.pds] at he
        split at he
        · cases he
          rename_i h3 h4
          simp only [D.eqvs, PyData.eqvAll]
          rw [eqv_pd h1 h3, eqvs_pd h2 h4]
        · cases he
    · cases hd
end
section
variable {W : Wd} {xc : XC} {F : Hp} {m : List Addr} {H : Hp}
mutual
theorem Rep.dp (k : Same F H) : ∀ {d : D} {v : V} {p : PyData}, Rep W F m d v → D.pd d = some p → Dp W.K H v p
  | .non, v, p, h, e => by
    unfold Rep at h
    cases e
    subst h
    exact .non
  | .bl b, v, p, h, e => by
    unfold Rep at h
    cases e
    subst h
    exact .bl b
  | .int b, v, p, h, e => by
    unfold Rep at h
    cases e
    subst h
    exact .int b
  | .str b, v, p, h, e => by
    unfold Rep at h
    cases e
    subst h
    exact .str b
  | .tup xs, v, p, h, e => by
    unfold Rep at h
    obtain ⟨a, vs, rfl, h2, h3⟩ := h
    simp only [D.pd, Option.map_eq_some_iff] at e
    obtain ⟨ps, h4, rfl⟩ := e
    exact .tup (Same.sqT k h2) (Reps.dp k h3 h4)
  | .lst xs, v, p, h, e => by
    unfold Rep at h
    obtain ⟨a, vs, rfl, h2, h3⟩ := h
    simp only [D.pd, Option.map_eq_some_iff] at e
    obtain ⟨ps, h4, rfl⟩ := e
    exact .lst (SqL.of (k _ _ h2)) (Reps.dp k h3 h4)
  | .ins c fs, _, _, _, e => by cases e
  | .cell c, _, _, _, e => by cases e
  | .ext c, _, _, _, e => by cases e
  | .rng _ _, _, _, _, e => by cases e
theorem Reps.dp (k : Same F H) : ∀ {d : List D} {v : List V} {p : List PyData}, Reps W F m d v → D.pds d = some p → DpAll W.K H v p
  | [], v, p, h, e => by
    unfold Reps at h
    cases e
    subst h
    exact .nil
  | x :: xs, v, p, h, e => by
    unfold Reps at h
    obtain ⟨w, r, rfl, h2, h3⟩ := h
    simp only [D.pds] at e
    split at e
    · cases e
      rename_i h4 h5
      exact .cons (Rep.dp k h2 h4) (Reps.dp k h3 h5)
    · cases e
end
theorem See.dp (k : Same F H) {d : D} {v : V} {p : PyData} (h : See W F m H d v) (e : D.pd d = some p) : Dp W.K H v p := by
  cases d with
  | lst xs =>
    obtain ⟨a, vs, rfl, h2, h3⟩ := h
    simp only [D.pd, Option.map_eq_some_iff] at e
    obtain ⟨ps, h4, rfl⟩ := e
    exact .lst (SqL.of h2) (Reps.dp k h3 h4)
  | tup xs => exact Rep.dp k (show Rep W F m (.tup xs) v from h) e
  | ins c fs => cases e
  | cell c => cases e
  | ext c => cases e
  | rng _ _ => cases e
  | non => exact Rep.dp k (show Rep W F m .non v from h) e
  | bl b => exact Rep.dp k (show Rep W F m (.bl b) v from h) e
  | int b => exact Rep.dp k (show Rep W F m (.int b) v from h) e
  | str b => exact Rep.dp k (show Rep W F m (.str b) v from h) e
theorem rep_flat {d : D} {v : V} (h : Rep W F m d v) (f : d.flat = true) : flatV v = true ∧ ∀ (e : D) (u : V), Rep W F m e u → e.flat = true → eqV u v = D.eqv e d := by
  cases d with
  | non => unfold Rep at h; subst h; exact ⟨rfl, fun e u r g => by cases e <;> first | (unfold Rep at r; subst r; simp [eqV, D.eqv]) | cases g⟩
  | bl b => unfold Rep at h; subst h; exact ⟨rfl, fun e u r g => by cases e <;> first | (unfold Rep at r; subst r; simp [eqV, D.eqv]) | cases g⟩
  | int b => unfold Rep at h; subst h; exact ⟨rfl, fun e u r g => by cases e <;> first | (unfold Rep at r; subst r; simp [eqV, D.eqv]) | cases g⟩
  | str b => unfold Rep at h; subst h; exact ⟨rfl, fun e u r g => by cases e <;> first | (unfold Rep at r; subst r; simp [eqV, D.eqv]) | cases g⟩
  | _ => cases f
theorem reps_flat {d : D} {v : V} (h : Rep W F m d v) (f : d.flat = true) : ∀ {xs : List D} {vs : List V}, Reps W F m xs vs → xs.all D.flat = true → vs.all flatV = true ∧ inV v vs = xs.any fun z => D.eqv z d
  | [], vs, r, _ => by
    unfold Reps at r
    subst r
    exact ⟨rfl, rfl⟩
  | x :: xs, vs, r, g => by
    unfold Reps at r
    obtain ⟨w, r, rfl, h2, h3⟩ := r
    have g' : x.flat = true ∧ xs.all D.flat = true := by simpa using g
    obtain ⟨q1, q2⟩ := reps_flat h f h3 g'.2
    refine ⟨by simp [q1, (rep_flat h2 g'.1).1], ?_⟩
    have e1 := (rep_flat h f).2 x w h2 g'.1
    unfold inV at q2 ⊢
    simp only [List.any_cons, e1, q2]
theorem See.rep {d : D} {v : V} (h : See W F m H d v) (f : d.flat = true) : Rep W F m d v := by
  cases d with
  | non => exact h
  | bl b => exact h
  | int b => exact h
  | str b => exact h
  | _ => cases f
end

/-! ### operators by values -/
def bop : BOp → Operator
  | .add => .Add | .sub => .Sub | .mul => .Mult | .div => .FloorDiv | .mod => .Mod | .pow => .Pow | .shl => .LShift | .shr => .RShift | .band => .BitAnd | .bxor => .BitXor | .bor => .BitOr
def cop : COp → CmpOp
  | .lt => .Lt | .le => .LtE | .gt => .Gt | .ge => .GtE | .eq => .Eq | .ne => .NotEq | .isN => .Is | .notN => .IsNot | .inn => .In | .nin => .NotIn
def rBin (W : Wd) (f : D → D → Option R) : R2 := fun x y H Q => ∃ xc e F m s σ dx dy r, Sim W xc e F m s σ H ∧ See W F m H dx x ∧ See W F m H dy y ∧ f dx dy = some r ∧
  ∀ v F' m' H', Sim W xc e F' m' s σ H' → Ext F m F' m' → relV W e F' m' s σ H' r v → Q v H'
section
variable {W : Wd} {xc : XC} {X : Cx}
theorem big_line {n : Nat} (h : n ≤ big) : n ≤ sizeLine := by
  rw [sizeLine_eq]
  unfold big at h
  omega
theorem opI_of {op : Operator} {f : D → D → Option R} {e : En} {F : Hp} {m : List Addr} {s : St} {σ : L2.St} {H : Hp} {Q : VK} {d : D} {v : V} (S : Sim W xc e F m s σ H) (r : Rep W F m d v)
    (q : ∀ v F' m' H', Sim W xc e F' m' s σ H' → Ext F m F' m' → relV W e F' m' s σ H' (.val d) v → Q v H') : Q v H := q v F m H S (Ext.refl _ _) r
theorem op_bin (op : BOp) (hK : X.K = W.K) : OpR X (binaryOp (bop op)) (rBin W (binSem op)) := by
  intro pins st σ' H x y v u Q I rx ry h
  obtain ⟨xc, e, F, m, s, σ, dx, dy, r, S, hx, hy, hf, q⟩ := h
  have int2 : ∀ {i j : Int} {d : D}, r = .val d → dx = .int i → dy = .int j → x = .int i ∧ y = .int j ∧ ∀ {w : V}, Rep W F m d w → Q w H := fun {i j d} e1 e2 e3 => by
    subst e1 e2 e3
    exact ⟨hx.int, hy.int, fun {w} rw_ => q _ F m H S (Ext.refl _ _) rw_⟩
  cases op with
  | add =>
    cases dx with
    | int i =>
      cases dy with
      | int j =>
        cases hf
        obtain ⟨rfl, rfl, k⟩ := int2 rfl rfl rfl
        exact op_add pins st σ' H _ _ v u Q I rx ry ⟨i, j, rfl, rfl, k rep_int⟩
      | _ => cases hf
    | str i =>
      cases dy with
      | str j =>
        simp only [binSem] at hf
        split at hf
        · cases hf
          rename_i hl
          cases hx.str
          cases hy.str
          exact op_add_str pins st σ' H _ _ v u Q I rx ry ⟨i, j, rfl, rfl, big_line hl, q _ F m H S (Ext.refl _ _) (rep_str (W := W) (F := F) (m := m))⟩
        · cases hf
      | _ => cases hf
    | lst xs =>
      cases dy with
      | lst ys =>
        simp only [binSem] at hf
        split at hf
        · cases hf
          rename_i hl
          obtain ⟨a, vs, rfl, h1, h2⟩ := hx
          obtain ⟨b, ws, rfl, h3, h4⟩ := hy
          refine op_cat pins st σ' H _ _ v u Q I rx ry ⟨a, b, vs, ws, rfl, rfl, h1, h3, by rw [h2.length, h4.length]; exact big_line hl, fun p hp => ?_⟩
          obtain ⟨S', l⟩ := S.newLst hp (h2.append h4)
          exact q _ F m _ S' (Ext.refl _ _) ⟨p, rfl, l⟩
        · cases hf
      | _ => cases hf
    | tup xs =>
      cases dy with
      | tup ys =>
        simp only [binSem] at hf
        split at hf
        · cases hf
          rename_i hl
          have hx0 := hx
          have hy0 := hy
          obtain ⟨a, vs, rfl, h1, h2⟩ := hx.tup
          obtain ⟨b, ws, rfl, h3, h4⟩ := hy.tup
          refine op_catA pins st σ' H _ _ v u Q I rx ry ⟨a, b, vs, ws, rfl, rfl, by rw [hK]; exact Same.sqT S.sub h1, by rw [hK]; exact Same.sqT S.sub h3, by rw [h2.length, h4.length]; exact big_line hl, fun hv => ?_, fun _ hw => ?_, fun hv hw p hp => ?_⟩
          · have z : xs = [] := by
              have := h2.length
              subst hv
              exact List.eq_nil_of_length_eq_zero (by simpa using this.symm)
            subst z
            exact q _ F m H S (Ext.refl _ _) hy0
          · have z : ys = [] := by
              have := h4.length
              subst hw
              exact List.eq_nil_of_length_eq_zero (by simpa using this.symm)
            subst z
            refine q _ F m H S (Ext.refl _ _) ?_
            show Rep W F m (.tup (xs ++ [])) _
            rw [List.append_nil]
            exact hx0
          · obtain ⟨S', x', r'⟩ := S.newTup hp (h2.append h4)
            exact q _ _ m _ S' x' r'
        · cases hf
      | _ => cases hf
    | _ => cases hf
  | sub =>
    cases dx with
    | int i =>
      cases dy with
      | int j =>
        cases hf
        obtain ⟨rfl, rfl, k⟩ := int2 rfl rfl rfl
        exact op_sub pins st σ' H _ _ v u Q I rx ry ⟨i, j, rfl, rfl, k rep_int⟩
      | _ => cases hf
    | _ => cases hf
  | mul =>
    cases dx with
    | int i =>
      cases dy with
      | int j =>
        simp only [binSem] at hf
        split at hf
        · cases hf
          rename_i hl
          obtain ⟨rfl, rfl, k⟩ := int2 rfl rfl rfl
          exact op_mul pins st σ' H _ _ v u Q I rx ry ⟨i, j, rfl, rfl, by unfold CMul; omega, k rep_int⟩
        · cases hf
      | _ => cases hf
    | lst xs =>
      cases dy with
      | int j =>
        simp only [binSem] at hf
        split at hf
        · cases hf
          rename_i hl
          obtain ⟨h1, h2, h3⟩ := hl
          obtain ⟨a, vs, rfl, g1, g2⟩ := hx
          cases hy.int
          refine op_rep pins st σ' H _ _ v u Q I rx ry ⟨a, j, vs, rfl, rfl, g1, by omega, by omega, by rw [g2.length]; exact big_line h3, fun p hp => ?_⟩
          have r2 : ∀ n, Reps W F m (List.replicate n xs).flatten (List.replicate n vs).flatten := fun n => by
            induction n with
            | zero => simp [Reps]
            | succ n ih =>
              simp only [List.replicate_succ, List.flatten_cons]
              exact g2.append ih
          obtain ⟨S', l⟩ := S.newLst hp (r2 j.toNat)
          exact q _ F m _ S' (Ext.refl _ _) ⟨p, rfl, l⟩
        · cases hf
      | _ => cases hf
    | _ => cases hf
  | div =>
    cases dx with
    | int i =>
      cases dy with
      | int j =>
        simp only [binSem] at hf
        split at hf
        · cases hf
          rename_i hl
          obtain ⟨rfl, rfl, k⟩ := int2 rfl rfl rfl
          exact op_fdiv pins st σ' H _ _ v u Q I rx ry ⟨i, j, rfl, rfl, hl, k rep_int⟩
        · cases hf
      | _ => cases hf
    | _ => cases hf
  | mod =>
    cases dx with
    | int i =>
      cases dy with
      | int j =>
        simp only [binSem] at hf
        split at hf
        · cases hf
          rename_i hl
          obtain ⟨rfl, rfl, k⟩ := int2 rfl rfl rfl
          exact op_mod pins st σ' H _ _ v u Q I rx ry ⟨i, j, rfl, rfl, hl, k rep_int⟩
        · cases hf
      | _ => cases hf
    | _ => cases hf
  | pow =>
    cases dx with
    | int i =>
      cases dy with
      | int j =>
        simp only [binSem] at hf
        split at hf
        · cases hf
          rename_i hl
          obtain ⟨rfl, rfl, k⟩ := int2 rfl rfl rfl
          exact op_pow pins st σ' H _ _ v u Q I rx ry ⟨i, j, rfl, rfl, hl, k rep_int⟩
        · cases hf
      | _ => cases hf
    | _ => cases hf
  | shl =>
    cases dx with
    | int i =>
      cases dy with
      | int j =>
        simp only [binSem] at hf
        split at hf
        · cases hf
          rename_i hl
          obtain ⟨rfl, rfl, k⟩ := int2 rfl rfl rfl
          exact op_shl pins st σ' H _ _ v u Q I rx ry ⟨i, j, rfl, rfl, hl, k rep_int⟩
        · cases hf
      | _ => cases hf
    | _ => cases hf
  | shr =>
    cases dx with
    | int i =>
      cases dy with
      | int j =>
        simp only [binSem] at hf
        split at hf
        · cases hf
          rename_i hl
          obtain ⟨rfl, rfl, k⟩ := int2 rfl rfl rfl
          exact op_shr pins st σ' H _ _ v u Q I rx ry ⟨i, j, rfl, rfl, hl, k rep_int⟩
        · cases hf
      | _ => cases hf
    | _ => cases hf
  | band =>
    cases dx with
    | int i =>
      cases dy with
      | int j =>
        cases hf
        obtain ⟨rfl, rfl, k⟩ := int2 rfl rfl rfl
        exact op_and pins st σ' H _ _ v u Q I rx ry ⟨i, j, rfl, rfl, k rep_int⟩
      | _ => cases hf
    | _ => cases hf
  | bxor =>
    cases dx with
    | int i =>
      cases dy with
      | int j =>
        cases hf
        obtain ⟨rfl, rfl, k⟩ := int2 rfl rfl rfl
        exact op_xor pins st σ' H _ _ v u Q I rx ry ⟨i, j, rfl, rfl, k rep_int⟩
      | _ => cases hf
    | _ => cases hf
  | bor =>
    cases dx with
    | int i =>
      cases dy with
      | int j =>
        cases hf
        obtain ⟨rfl, rfl, k⟩ := int2 rfl rfl rfl
        exact op_or pins st σ' H _ _ v u Q I rx ry ⟨i, j, rfl, rfl, k rep_int⟩
      | _ => cases hf
    | _ => cases hf
/-- is, is not, a bool -/
def isVB : V → Bool → Option Bool
  | .bl a, b => some (decide (a = b))
  | .int _, _ => some false
  | .str _, _ => some false
  | .non, _ => some false
  | _, _ => none
theorem op_isVB : OpR X (compareOp .Is) (fun x y H Q => ∃ b r, y = .bl b ∧ isVB x b = some r ∧ Q (.bl r) H) := by
  intro pins s σ H x y v u Q I rx ry h
  obtain ⟨b, r, rfl, e, q⟩ := h
  cases (show u = Value.bool b from ry)
  cases x with
  | bl a =>
    cases (show v = Value.bool a from rx)
    cases e
    by_cases e : a = b
    · subst e
      exact wpAny_is_self rfl ⟨.bl true, H, I, rfl, by simpa using q⟩
    · exact wpAny_is_other rfl (fun z => e (Value.bool.inj z)) ⟨.bl false, H, I, rfl, by simpa [e] using q⟩
  | int i =>
    cases e
    obtain ⟨t, rfl⟩ := rx
    exact wpAny_is_other rfl (fun z => by cases z) ⟨.bl false, H, I, rfl, q⟩
  | str i =>
    cases e
    obtain ⟨t, rfl⟩ := rx
    exact wpAny_is_other rfl (fun z => by cases z) ⟨.bl false, H, I, rfl, q⟩
  | non =>
    cases e
    cases rx
    exact wpAny_is_other rfl (fun z => by cases z) ⟨.bl false, H, I, rfl, q⟩
  | _ => cases e
theorem op_notVB : OpR X (compareOp .IsNot) (fun x y H Q => ∃ b r, y = .bl b ∧ isVB x b = some r ∧ Q (.bl !r) H) := by
  intro pins s σ H x y v u Q I rx ry h
  obtain ⟨b, r, rfl, e, q⟩ := h
  cases (show u = Value.bool b from ry)
  cases x with
  | bl a =>
    cases (show v = Value.bool a from rx)
    cases e
    by_cases e : a = b
    · subst e
      exact wpAny_isNot_self rfl ⟨.bl false, H, I, rfl, by simpa using q⟩
    · exact wpAny_isNot_other rfl (fun z => e (Value.bool.inj z)) ⟨.bl true, H, I, rfl, by simpa [e] using q⟩
  | int i =>
    cases e
    obtain ⟨t, rfl⟩ := rx
    exact wpAny_isNot_other rfl (fun z => by cases z) ⟨.bl true, H, I, rfl, q⟩
  | str i =>
    cases e
    obtain ⟨t, rfl⟩ := rx
    exact wpAny_isNot_other rfl (fun z => by cases z) ⟨.bl true, H, I, rfl, q⟩
  | non =>
    cases e
    cases rx
    exact wpAny_isNot_other rfl (fun z => by cases z) ⟨.bl true, H, I, rfl, q⟩
  | _ => cases e
theorem See.isVB {F : Hp} {m : List Addr} {H : Hp} {d : D} {v : V} {b r : Bool} (h : See W F m H d v) (e : isBool d b = some r) : MP.isVB v b = some r := by
  cases d with
  | non => cases h.non; exact e
  | bl b => cases h.bl; exact e
  | int b => cases h.int; exact e
  | str b => cases h.str; exact e
  | _ => cases e
/-- comparisons -/
def rCmp (W : Wd) (f : D → D → Option Bool) : R2 := fun x y H Q => ∃ xc e F m s σ dx dy r, Sim W xc e F m s σ H ∧ See W F m H dx x ∧ See W F m H dy y ∧ f dx dy = some r ∧ Q (.bl r) H
theorem See.non_iff {F : Hp} {m : List Addr} {H : Hp} {d : D} {v : V} (h : See W F m H d v) : decide (v = V.non) = d.isNon := by
  cases d with
  | non => cases h.non; rfl
  | bl b => cases h.bl; rfl
  | int b => cases h.int; rfl
  | str b => cases h.str; rfl
  | tup xs => obtain ⟨a, vs, rfl, _⟩ := h.tup; rfl
  | ext xs => obtain ⟨a, vs, rfl, _⟩ := h.ext; rfl
  | lst xs => obtain ⟨a, vs, rfl, _⟩ := h; rfl
  | ins c fs => obtain ⟨a, dx, gs, rfl, _⟩ := h; rfl
  | cell i => exact h.elim
  | rng _ _ =>
    have h : Rep W F m (.rng _ _) v := h
    unfold Rep at h
    obtain ⟨a, rfl, _⟩ := h
    rfl
theorem op_cmp (op : COp) (hK : X.K = W.K) (hu : X.A.units + 66 < cLine) : OpR X (compareOp (cop op)) (rCmp W (cmpSem op)) := by
  intro pins st σ' H x y v u Q I rx ry h
  obtain ⟨xc, e, F, m, s, σ, dx, dy, r, S, hx, hy, hf, q⟩ := h
  have inn : ∀ b : Bool, inSem dx dy = some b → Q (.bl b) H → wpAny (model X.prog X.w) X.A (compareOp .In v u) (EP X pins σ' Q) X.xe st := fun r hf q => by
    have flatL : ∀ {xs : List D} {a : Addr} {vs : List V}, (SqL W.K H a vs ∨ SqT W.K H a vs) → y = .ref a → Reps W F m xs vs → (dx.flat && xs.all D.flat) = true → r = (xs.any fun z => D.eqv z dx) → wpAny (model X.prog X.w) X.A (compareOp .In v u) (EP X pins σ' Q) X.xe st := fun {xs a vs} hs hy hr hc er => by
      have hc' : dx.flat = true ∧ xs.all D.flat = true := by simpa using hc
      have rx' := See.rep hx hc'.1
      obtain ⟨f1, _⟩ := rep_flat rx' hc'.1
      obtain ⟨f2, f3⟩ := reps_flat rx' hc'.1 hr hc'.2
      refine op_in_seq pins st σ' H _ _ v u Q I rx ry ⟨a, vs, hy, by rw [hK]; exact hs, f1, f2, ?_⟩
      show Q (.bl (inV x vs)) H
      rw [f3, ← er]
      exact q
    cases dy with
    | tup xs =>
      simp only [inSem] at hf
      split at hf
      · cases hf
        rename_i hc
        obtain ⟨a, vs, rfl, g1, g2⟩ := hy.tup
        exact flatL (.inr (Same.sqT S.sub g1)) rfl g2 hc rfl
      · split at hf
        · cases hf
          rename_i hc
          have hc' : D.fit depthMax dx = true ∧ D.fit depthMax (.tup xs) = true := by simpa using hc
          obtain ⟨p, p1, p2⟩ := fit_shaped hc'.1
          obtain ⟨ps, p3, p4⟩ := fit_shaped hc'.2
          have p3' := p3
          simp only [D.pd, Option.map_eq_some_iff] at p3
          obtain ⟨qs, p5, rfl⟩ := p3
          refine op_inDT (by omega) pins st σ' H _ _ v u Q I rx ry ⟨p, qs, by rw [hK]; exact hx.dp S.sub p1, by rw [hK]; exact hy.dp S.sub p3', p2, p4, ?_⟩
          have eqq : ∀ {xs : List D} {qs : List PyData}, D.pds xs = some qs → (qs.any fun z => PyData.eqv z p) = xs.any fun z => D.eqv z dx := fun {xs} => by
            induction xs with
            | nil => intro qs h; cases h; rfl
            | cons z zs ih =>
              intro qs h
              simp only [D.pds] at h
              split at h
              · cases h
                rename_i h1 h2
                simp only [List.any_cons, ih h2, eqv_pd h1 p1]
              · cases h
          rw [eqq p5]
          exact q
        · cases hf
    | lst xs =>
      simp only [inSem] at hf
      split at hf
      · cases hf
        rename_i hc
        obtain ⟨a, vs, rfl, g1, g2⟩ := hy
        exact flatL (.inl (SqL.of g1)) rfl g2 hc rfl
      · split at hf
        · cases hf
          rename_i hc
          have hc' : D.fit depthMax dx = true ∧ D.fit depthMax (.lst xs) = true := by simpa using hc
          obtain ⟨p, p1, p2⟩ := fit_shaped hc'.1
          obtain ⟨ps, p3, p4⟩ := fit_shaped hc'.2
          have p3' := p3
          simp only [D.pd, Option.map_eq_some_iff] at p3
          obtain ⟨qs, p5, rfl⟩ := p3
          refine op_inD (by omega) pins st σ' H _ _ v u Q I rx ry ⟨p, qs, by rw [hK]; exact hx.dp S.sub p1, by rw [hK]; exact hy.dp S.sub p3', p2, p4, ?_⟩
          have eqq : ∀ {xs : List D} {qs : List PyData}, D.pds xs = some qs → (qs.any fun z => PyData.eqv z p) = xs.any fun z => D.eqv z dx := fun {xs} => by
            induction xs with
            | nil => intro qs h; cases h; rfl
            | cons z zs ih =>
              intro qs h
              simp only [D.pds] at h
              split at h
              · cases h
                rename_i h1 h2
                simp only [List.any_cons, ih h2, eqv_pd h1 p1]
              · cases h
          rw [eqq p5]
          exact q
        · cases hf
    | _ => cases hf
  have nin : ∀ b : Bool, inSem dx dy = some b → Q (.bl (!b)) H → wpAny (model X.prog X.w) X.A (compareOp .NotIn v u) (EP X pins σ' Q) X.xe st := fun r hf q => by
    have flatL : ∀ {xs : List D} {a : Addr} {vs : List V}, (SqL W.K H a vs ∨ SqT W.K H a vs) → y = .ref a → Reps W F m xs vs → (dx.flat && xs.all D.flat) = true → r = (xs.any fun z => D.eqv z dx) → wpAny (model X.prog X.w) X.A (compareOp .NotIn v u) (EP X pins σ' Q) X.xe st := fun {xs a vs} hs hy hr hc er => by
      have hc' : dx.flat = true ∧ xs.all D.flat = true := by simpa using hc
      have rx' := See.rep hx hc'.1
      obtain ⟨f1, _⟩ := rep_flat rx' hc'.1
      obtain ⟨f2, f3⟩ := reps_flat rx' hc'.1 hr hc'.2
      refine op_notIn_seq pins st σ' H _ _ v u Q I rx ry ⟨a, vs, hy, by rw [hK]; exact hs, f1, f2, ?_⟩
      show Q (.bl (!inV x vs)) H
      rw [f3, ← er]
      exact q
    cases dy with
    | tup xs =>
      simp only [inSem] at hf
      split at hf
      · cases hf
        rename_i hc
        obtain ⟨a, vs, rfl, g1, g2⟩ := hy.tup
        exact flatL (.inr (Same.sqT S.sub g1)) rfl g2 hc rfl
      · split at hf
        · cases hf
          rename_i hc
          have hc' : D.fit depthMax dx = true ∧ D.fit depthMax (.tup xs) = true := by simpa using hc
          obtain ⟨p, p1, p2⟩ := fit_shaped hc'.1
          obtain ⟨ps, p3, p4⟩ := fit_shaped hc'.2
          have p3' := p3
          simp only [D.pd, Option.map_eq_some_iff] at p3
          obtain ⟨qs, p5, rfl⟩ := p3
          refine op_notInDT (by omega) pins st σ' H _ _ v u Q I rx ry ⟨p, qs, by rw [hK]; exact hx.dp S.sub p1, by rw [hK]; exact hy.dp S.sub p3', p2, p4, ?_⟩
          have eqq : ∀ {xs : List D} {qs : List PyData}, D.pds xs = some qs → (qs.any fun z => PyData.eqv z p) = xs.any fun z => D.eqv z dx := fun {xs} => by
            induction xs with
            | nil => intro qs h; cases h; rfl
            | cons z zs ih =>
              intro qs h
              simp only [D.pds] at h
              split at h
              · cases h
                rename_i h1 h2
                simp only [List.any_cons, ih h2, eqv_pd h1 p1]
              · cases h
          rw [eqq p5]
          exact q
        · cases hf
    | lst xs =>
      simp only [inSem] at hf
      split at hf
      · cases hf
        rename_i hc
        obtain ⟨a, vs, rfl, g1, g2⟩ := hy
        exact flatL (.inl (SqL.of g1)) rfl g2 hc rfl
      · split at hf
        · cases hf
          rename_i hc
          have hc' : D.fit depthMax dx = true ∧ D.fit depthMax (.lst xs) = true := by simpa using hc
          obtain ⟨p, p1, p2⟩ := fit_shaped hc'.1
          obtain ⟨ps, p3, p4⟩ := fit_shaped hc'.2
          have p3' := p3
          simp only [D.pd, Option.map_eq_some_iff] at p3
          obtain ⟨qs, p5, rfl⟩ := p3
          refine op_notInD (by omega) pins st σ' H _ _ v u Q I rx ry ⟨p, qs, by rw [hK]; exact hx.dp S.sub p1, by rw [hK]; exact hy.dp S.sub p3', p2, p4, ?_⟩
          have eqq : ∀ {xs : List D} {qs : List PyData}, D.pds xs = some qs → (qs.any fun z => PyData.eqv z p) = xs.any fun z => D.eqv z dx := fun {xs} => by
            induction xs with
            | nil => intro qs h; cases h; rfl
            | cons z zs ih =>
              intro qs h
              simp only [D.pds] at h
              split at h
              · cases h
                rename_i h1 h2
                simp only [List.any_cons, ih h2, eqv_pd h1 p1]
              · cases h
          rw [eqq p5]
          exact q
        · cases hf
    | _ => cases hf
  have i2 : ∀ {f : Int → Int → Bool}, (∀ i j, dx = .int i → dy = .int j → r = f i j) → (∃ i, dx = .int i) → (∃ j, dy = .int j) → ∃ i j, x = .int i ∧ y = .int j ∧ Q (.bl (f i j)) H := fun {f} hr h1 h2 => by
    obtain ⟨i, rfl⟩ := h1
    obtain ⟨j, rfl⟩ := h2
    exact ⟨i, j, hx.int, hy.int, by rw [← hr i j rfl rfl]; exact q⟩
  cases op with
  | lt =>
    cases dx <;> cases dy <;> first | (cases hf; done) | (cases hf; exact op_lt pins st σ' H _ _ v u Q I rx ry (i2 (fun i j e1 e2 => by cases e1; cases e2; rfl) ⟨_, rfl⟩ ⟨_, rfl⟩))
  | le =>
    cases dx <;> cases dy <;> first | (cases hf; done) | (cases hf; exact op_le pins st σ' H _ _ v u Q I rx ry (i2 (fun i j e1 e2 => by cases e1; cases e2; rfl) ⟨_, rfl⟩ ⟨_, rfl⟩))
  | gt =>
    cases dx <;> cases dy <;> first | (cases hf; done) | (cases hf; exact op_gt pins st σ' H _ _ v u Q I rx ry (i2 (fun i j e1 e2 => by cases e1; cases e2; rfl) ⟨_, rfl⟩ ⟨_, rfl⟩))
  | ge =>
    cases dx <;> cases dy <;> first | (cases hf; done) | (cases hf; exact op_ge pins st σ' H _ _ v u Q I rx ry (i2 (fun i j e1 e2 => by cases e1; cases e2; rfl) ⟨_, rfl⟩ ⟨_, rfl⟩))
  | eq =>
    simp only [cmpSem] at hf
    split at hf
    · cases hf
      rename_i hc
      have hc' : D.fit depthMax dx = true ∧ D.fit depthMax dy = true := by simpa using hc
      obtain ⟨p, p1, p2⟩ := fit_shaped hc'.1
      obtain ⟨p', p3, p4⟩ := fit_shaped hc'.2
      refine op_eqD (by omega) pins st σ' H _ _ v u Q I rx ry ⟨p, p', by rw [hK]; exact hx.dp S.sub p1, by rw [hK]; exact hy.dp S.sub p3, p2, p4, ?_⟩
      rw [← eqv_pd p1 p3]
      exact q
    · cases hf
  | ne =>
    simp only [cmpSem] at hf
    split at hf
    · cases hf
      rename_i hc
      have hc' : D.fit depthMax dx = true ∧ D.fit depthMax dy = true := by simpa using hc
      obtain ⟨p, p1, p2⟩ := fit_shaped hc'.1
      obtain ⟨p', p3, p4⟩ := fit_shaped hc'.2
      refine op_neD (by omega) pins st σ' H _ _ v u Q I rx ry ⟨p, p', by rw [hK]; exact hx.dp S.sub p1, by rw [hK]; exact hy.dp S.sub p3, p2, p4, ?_⟩
      rw [← eqv_pd p1 p3]
      exact q
    · cases hf
  | isN =>
    cases dy with
    | non =>
      cases hf
      cases hy.non
      exact op_isN pins st σ' H _ _ v u Q I rx ry ⟨rfl, by rw [hx.non_iff]; exact q⟩
    | bl b =>
      cases hy.bl
      exact op_isVB pins st σ' H _ _ v u Q I rx ry ⟨b, _, rfl, hx.isVB hf, q⟩
    | _ => cases hf
  | notN =>
    cases dy with
    | non =>
      cases hf
      cases hy.non
      refine op_notN pins st σ' H _ _ v u Q I rx ry ⟨rfl, ?_⟩
      rw [hx.non_iff]
      exact q
    | bl b =>
      cases hy.bl
      simp only [cmpSem, Option.map_eq_some_iff] at hf
      obtain ⟨r, h1, rfl⟩ := hf
      exact op_notVB pins st σ' H _ _ v u Q I rx ry ⟨b, _, rfl, hx.isVB h1, q⟩
    | _ => cases hf
  | inn => exact inn r hf q
  | nin =>
    simp only [cmpSem, Option.map_eq_some_iff] at hf
    obtain ⟨b, hb, rfl⟩ := hf
    exact nin b hb q
end
end MP
set_option Elab.async false
set_option linter.all false
set_option maxRecDepth 100000
set_option maxHeartbeats 4000000
/-! MP4: expressions made of others, without calls. -/
namespace MP
open PySem PySem.Spec PyProof.Rows L2

def relD (W : Wd) : Rl D V := fun _ F m _ _ _ d v => Rep W F m d v
section
variable {W : Wd} {xc : XC} {X : Cx} {Wx : WX} {T : Tab} {sc : Scope} {ca : Bool} {G : Env} {xe : Expr} {pos : Pos}
/-- a value given away -/
theorem fz_of {v : St → O R} {σ : L2.St} {H : Hp} {Q : VK} (h : Sp1 W xc Wx (fz v) (relD W) σ H Q) : Sp1 W xc Wx v (relV W) σ H Q := by
  obtain ⟨e, F, m, s, S, g⟩ := h
  refine ⟨e, F, m, s, S, ?_⟩
  unfold fz at g
  cases hv : v s with
  | bad => rw [hv] at g; exact g
  | exc x s' => rw [hv] at g; exact g
  | ok r s' =>
    rw [hv] at g
    have g : Go W xc Wx e F m σ (.ok r.d s') (relD W) Q := g
    intro b F' m' H' h1 h2 h3
    cases r with
    | val d => exact g b F' m' H' h1 h2 h3
    | own xs =>
      obtain ⟨a, rfl, l⟩ := h3
      obtain ⟨F2, S2, x2, r2⟩ := h1.give l
      exact g _ F2 m' H' S2 (h2.trans x2) r2
theorem Eok.fz {c : E} (h : Eok W X xc Wx G c xe) : PE X xe (Sp1 W xc Wx (MP.fz (ev G c).v) (relD W)) := h.v.imp fun _ _ _ q => fz_of q
/-- a run of two parts: the reading of the first, then what is left -/
theorem Sp1.bind {α β γ δ : Type} {r1 : St → O α} {f : α → St → O γ} {rel : Rl α β} {rel2 : Rl γ δ} {σ : L2.St} {H : Hp} {Q : δ → Hp → Prop} (h : Sp1 W xc Wx (fun s => (r1 s).bind f) rel2 σ H Q) :
    Sp1 W xc Wx r1 rel σ H fun b H1 => ∃ e F m a s, Sim W xc e F m s σ H1 ∧ rel e F m s σ H1 a b ∧ Go W xc Wx e F m σ (f a s) rel2 Q := by
  obtain ⟨e, F, m, s, S, g⟩ := h
  exact ⟨e, F, m, s, S, g.bind.mono fun b H1 ⟨a, s1, F1, m1, S1, x1, r1, g1⟩ => ⟨e, F1, m1, a, s1, S1, r1, g1⟩⟩
/-- two things looked at, an operator over them -/
def two (A B : St → O P) (f : D → D → Option R) : St → O R := fun s => (A s).bind fun p s => (B s).bind fun q s => O.opt ((p.get s).bind fun x => (q.get s).bind fun y => f x y) s
theorem go_two {A : St → O P} {f : D → D → Option R} {e : En} {F : Hp} {m : List Addr} {σ : L2.St} {s : St} {H : Hp} {p : P} {x : V} {Q : VK} {B : St → O P} (S : Sim W xc e F m s σ H) (rp : relP W e F m s σ H p x)
    (g : Go W xc Wx e F m σ ((B s).bind fun q s => O.opt ((p.get s).bind fun x => (q.get s).bind fun y => f x y) s) (relV W) Q) : Sp1 W xc Wx B (relP W) σ H fun y H2 => rBin W f x y H2 Q := by
  refine ⟨e, F, m, s, S, g.bind.mono fun y H2 ⟨q, s2, F2, m2, S2, x2, rq, g2⟩ => ?_⟩
  obtain ⟨r, er, g3⟩ := g2.opt
  cases e1 : p.get s2 with
  | none => rw [e1] at er; cases er
  | some dx =>
    rw [e1] at er
    cases e2 : q.get s2 with
    | none => rw [e2] at er; cases er
    | some dy =>
      rw [e2] at er
      exact ⟨xc, e, F2, m2, s2, σ, dx, dy, r, S2, See.of_get S2 (rp.later x2) e1, See.of_get S2 rq e2, er, fun v F' m' H' h1 h2 h3 => g3 v F' m' H' h1 h2 h3⟩
theorem two_ok {A B : St → O P} {f : D → D → Option R} {σ : L2.St} {H : Hp} {Q : VK} (h : Sp1 W xc Wx (two A B f) (relV W) σ H Q) : tOp (rBin W f) (Sp1 W xc Wx A (relP W)) (Sp1 W xc Wx B (relP W)) σ H Q := by
  obtain ⟨e, F, m, s, S, g⟩ := h.bind (r1 := A) (rel := relP W)
  refine ⟨e, F, m, s, S, g.mono fun x H1 ⟨e1, F1, m1, p, s1, S1, r1, g1⟩ => ?_⟩
  exact go_two (A := A) S1 r1 g1
def cmpR (op : COp) (x y : D) : Option R := (cmpSem op x y).map fun b => R.val (.bl b)
theorem rBin_cmp {op : COp} {x y : V} {H : Hp} {Q Q' : VK} (k : ∀ b H, Q (.bl b) H → Q' (.bl b) H) (h : rBin W (cmpR op) x y H Q) : rCmp W (cmpSem op) x y H Q' := by
  obtain ⟨xc, e, F, m, s, σ, dx, dy, r, S, hx, hy, hf, q⟩ := h
  unfold cmpR at hf
  simp only [Option.map_eq_some_iff] at hf
  obtain ⟨b, hb, rfl⟩ := hf
  exact ⟨xc, e, F, m, s, σ, dx, dy, b, S, hx, hy, hb, k _ _ (q _ F m H S (Ext.refl _ _) rv_bl)⟩
/-- the truth of a bool is itself -/
theorem tru_bl {p : P} {s : St} {e : En} {F : Hp} {m : List Addr} {σ : L2.St} {H : Hp} {b : Bool} {Q : Bool → Hp → Prop} (S : Sim W xc e F m s σ H) (r : relP W e F m s σ H p (.bl b)) (g : Go W xc Wx e F m σ (O.opt ((p.get s).bind tru) s) relT Q) : Q b H := by
  obtain ⟨k, e1, g2⟩ := g.opt
  cases q : p.get s with
  | none => rw [q] at e1; cases e1
  | some d =>
    rw [q] at e1
    have t := tru_see (W := W) (H := H) S.sub (See.of_get S r q) e1
    have t : k = b := t
    subst t
    exact g2.ok S (Ext.refl _ _) rfl
theorem Sp1.mono {α β : Type} {r : St → O α} {rel : Rl α β} {σ : L2.St} {H : Hp} {Q Q' : β → Hp → Prop} (h : Sp1 W xc Wx r rel σ H Q) (k : ∀ b H, Q b H → Q' b H) : Sp1 W xc Wx r rel σ H Q' := by
  obtain ⟨e, F, m, s, S, g⟩ := h
  exact ⟨e, F, m, s, S, g.mono k⟩
/-- a test by its value, a bool -/
theorem tv_bl {v : St → O R} {σ : L2.St} {H : Hp} {Q : Bool → Hp → Prop} (h : Sp1 W xc Wx (fun s => truthP (pOf v s)) relT σ H Q) : Sp1 W xc Wx v (relV W) σ H fun x H1 => ∀ b, x = .bl b → Q b H1 := by
  refine p_of (h.bind (r1 := pOf v) (rel := relP W) |>.mono fun x H1 ⟨e1, F1, m1, p, s1, S1, r1, g1⟩ b hb => ?_)
  subst hb
  exact tru_bl S1 r1 g1

theorem ok_bin {op : BOp} {a b : E} {x y : Expr} (C : Cn W X xc Wx T sc ca) (ha : Eok W X xc Wx G a x) (hb : Eok W X xc Wx G b y) : Eok W X xc Wx G (.bin op a b) (.BinOp x (bop op) y pos) :=
  .of rfl C.K ((pe_op (op_bin op C.K) ha.p hb.p).imp fun σ H Q h => two_ok h) (fun _ => rfl) fun _ => rfl
theorem ok_neg {a : E} {x : Expr} (C : Cn W X xc Wx T sc ca) (ha : Eok W X xc Wx G a x) : Eok W X xc Wx G (.neg a) (.UnaryOp .USub x pos) := by
  refine .of rfl C.K ((pe_un un_neg ha.p).imp fun σ H Q h => ?_) (fun _ => rfl) fun _ => rfl
  refine (h.bind (r1 := (ev G a).p) (rel := relP W)).mono fun u H1 ⟨e, F, m, p, s, S, r, g⟩ => ?_
  cases q : p.get s with
  | none => rw [q] at g; exact g.elim
  | some d =>
    rw [q] at g
    cases d with
    | int i =>
      obtain rfl := (See.of_get S r q).int
      exact ⟨i, rfl, g _ F m H1 S (Ext.refl _ _) rv_int⟩
    | _ => exact g.elim
theorem ok_cmp {op : COp} {a b : E} {x y : Expr} (C : Cn W X xc Wx T sc ca) (ha : Eok W X xc Wx G a x) (hb : Eok W X xc Wx G b y) (hm : behindInMarks (cop op) y = false) : Eok W X xc Wx G (.cmp op a b) (.Compare x [cop op] [y] pos) := by
  have ho := op_cmp op C.K C.un
  refine .ofT (v := two (ev G a).p (ev G b).p (cmpR op)) rfl C.K ((pe_cmpR ho ha.p hb.p hm).imp fun σ H Q h => ?_) (fun _ => rfl) ((pt_cmpR ho ha.p hb.p hm).imp fun σ H Q h => ?_)
  · exact (two_ok h).mono fun u H1 g => g.mono fun w H2 g2 => rBin_cmp (fun _ _ z => z) g2
  · exact (two_ok (tv_bl h)).mono fun u H1 g => g.mono fun w H2 g2 => rBin_cmp (fun b _ z => ⟨b, rfl, z b rfl⟩) g2
theorem ok_not {a : E} {x : Expr} (C : Cn W X xc Wx T sc ca) (ha : Eok W X xc Wx G a x) : Eok W X xc Wx G (.not a) (.UnaryOp .Not x pos) := by
  have v : PE X (.UnaryOp .Not x pos) (Sp1 W xc Wx (ev G (.not a)).v (relV W)) := (pe_notT ha.p).imp fun σ H Q h => by
    have h : Sp1 W xc Wx (fun s => (truthP ((ev G a).p s)).bind fun b s => .ok (.val (.bl !b)) s) (relV W) σ H Q := h
    obtain ⟨e, F, m, s, S, g⟩ := h
    refine ⟨e, F, m, s, S, ?_⟩
    have g1 := g.bind (rel := relT)
    unfold truthP at g1
    refine g1.bind.mono fun u H1 ⟨p, s1, F1, m1, S1, x1, r1, g2⟩ => ?_
    obtain ⟨k, e1, g3⟩ := g2.opt
    cases q : p.get s1 with
    | none => rw [q] at e1; cases e1
    | some d =>
      rw [q] at e1
      refine ⟨k, by rw [C.K]; exact tru_see S1.sub (See.of_get S1 r1 q) e1, ?_⟩
      obtain ⟨b, s2, F2, m2, S2, x2, e2, g4⟩ := g3 k F1 m1 H1 S1 (Ext.refl _ _) rfl
      have e2 : b = k := e2
      subst e2
      exact g4 _ F2 m2 H1 S2 (Ext.refl _ _) rv_bl
  refine ⟨v, (pt_not ha.t).imp fun σ H Q h => ?_, v.imp fun _ _ _ q => p_of q, fun _ => rfl⟩
  have h : Sp1 W xc Wx (fun s => ((ev G a).t s).bind fun b s => .ok (!b) s) relT σ H Q := h
  refine (h.bind (rel := relT)).mono fun u H1 ⟨e, F, m, b, s, S, r, g⟩ => ?_
  have r : b = u := r
  subst r
  exact g _ F m H1 S (Ext.refl _ _) rfl
/-- a part of x and y and z, x or y or z -/
structure Bok (W : Wd) (X : Cx) (xc : XC) (Wx : WX) (G : Env) (c : E) (op : BoolOp) (es : List Expr) (pos : Pos) : Prop where
  v : PE X (.BoolOp op es pos) (Sp1 W xc Wx (ev G c).v (relV W))
  w : PW X (.BoolOp op es pos) (Sp1 W xc Wx (ev G c).t relT)
theorem bok_one {op : BoolOp} {a : E} {x : Expr} (ha : Eok W X xc Wx G a x) : Bok W X xc Wx G a op [x] pos := by
  refine ⟨pe_one ha.v, ?_⟩
  cases op with
  | And => exact pw_and1 ha.t
  | Or => exact pw_or1 ha.t
theorem _root_.L2.PW.imp {t t' : TT} {x : Expr} (h : PW X x t) (k : ∀ σ H Q, t' σ H Q → t σ H Q) : PW X x t' := ⟨fun wh pins s σ H Q I q => h.run wh pins s σ H Q I (k _ _ _ q)⟩
theorem go_andor {a b : E} {σ : L2.St} {H : Hp} {Q : VK} {w : Bool} (h : Sp1 W xc Wx (fun s => (fz (ev G a).v s).bind fun d s => match (D.see s.hp d).bind tru with
      | none => .bad
      | some k => if k = w then .ok (.val d) s else (fz (ev G b).v s).bind fun d s => .ok (.val d) s) (relV W) σ H Q) :
    Sp1 W xc Wx (ev G a).v (relV W) σ H fun x H1 => ∃ k, TruV W.K x H1 k ∧ if k = w then Q x H1 else Sp1 W xc Wx (ev G b).v (relV W) σ H1 Q := by
  refine fz_of ((h.bind (rel := relD W)).mono fun u H1 ⟨e, F, m, d, s, S, r, g⟩ => ?_)
  cases q : (D.see s.hp d).bind tru with
  | none => rw [q] at g; exact g.elim
  | some k =>
    rw [q] at g
    cases q2 : D.see s.hp d with
    | none => rw [q2] at q; cases q
    | some d2 =>
      rw [q2] at q
      refine ⟨k, tru_see S.sub (Rep.see S r q2) q, ?_⟩
      have g : Go W xc Wx e F m σ (if k = w then .ok (.val d) s else (fz (ev G b).v s).bind fun d s => .ok (.val d) s) (relV W) Q := g
      by_cases hk : k = w
      · rw [if_pos hk] at g ⊢
        exact g _ F m H1 S (Ext.refl _ _) r
      · rw [if_neg hk] at g ⊢
        refine fz_of ⟨e, F, m, s, S, (g.bind (rel := relD W)).mono fun u2 H2 ⟨d2, s2, F2, m2, S2, x2, r2, g2⟩ => ?_⟩
        exact g2 _ F2 m2 H2 S2 (Ext.refl _ _) r2
theorem bok_and {a b : E} {x y : Expr} {r : List Expr} (C : Cn W X xc Wx T sc ca) (ha : Eok W X xc Wx G a x) (hb : Bok W X xc Wx G b .And (y :: r) pos) : Bok W X xc Wx G (.and a b) .And (x :: y :: r) pos := by
  refine ⟨(pe_andT ha.v hb.v).imp fun σ H Q h => ?_, (pw_and ha.t hb.w).imp fun σ H Q h => ?_⟩
  · have h : Sp1 W xc Wx (fun s => (fz (ev G a).v s).bind fun d s => match (D.see s.hp d).bind tru with
      | none => .bad
      | some k => if k = false then .ok (.val d) s else (fz (ev G b).v s).bind fun d s => .ok (.val d) s) (relV W) σ H Q := by
      obtain ⟨e, F, m, s, S, g⟩ := h
      refine ⟨e, F, m, s, S, ?_⟩
      have e0 : (ev G (.and a b)).v s = (fz (ev G a).v s).bind fun d s => match (D.see s.hp d).bind tru with
        | none => .bad
        | some k => if k = false then .ok (.val d) s else (fz (ev G b).v s).bind fun d s => .ok (.val d) s := by
        show (fz (ev G a).v s).bind _ = _
        congr 1
        funext d s
        cases (D.see s.hp d).bind tru with
        | none => rfl
        | some k => cases k <;> rfl
      dsimp only
      rw [← e0]
      exact g
    refine (go_andor h).mono fun u H1 ⟨k, t, q⟩ => ⟨k, by rw [C.K]; exact t, ?_⟩
    cases k <;> exact q
  · have h : Sp1 W xc Wx (fun s => ((ev G a).t s).bind fun x s => if x then (ev G b).t s else .ok false s) relT σ H Q := h
    refine (h.bind (rel := relT)).mono fun u H1 ⟨e, F, m, k, s, S, r, g⟩ => ?_
    have r : k = u := r
    subst r
    cases k with
    | true => exact ⟨e, F, m, s, S, g⟩
    | false => exact g false F m H1 S (Ext.refl _ _) rfl
theorem bok_or {a b : E} {x y : Expr} {r : List Expr} (C : Cn W X xc Wx T sc ca) (ha : Eok W X xc Wx G a x) (hb : Bok W X xc Wx G b .Or (y :: r) pos) : Bok W X xc Wx G (.or a b) .Or (x :: y :: r) pos := by
  refine ⟨(pe_orT ha.v hb.v).imp fun σ H Q h => ?_, (pw_or ha.t hb.w).imp fun σ H Q h => ?_⟩
  · have h : Sp1 W xc Wx (fun s => (fz (ev G a).v s).bind fun d s => match (D.see s.hp d).bind tru with
      | none => .bad
      | some k => if k = true then .ok (.val d) s else (fz (ev G b).v s).bind fun d s => .ok (.val d) s) (relV W) σ H Q := by
      obtain ⟨e, F, m, s, S, g⟩ := h
      refine ⟨e, F, m, s, S, ?_⟩
      have e0 : (ev G (.or a b)).v s = (fz (ev G a).v s).bind fun d s => match (D.see s.hp d).bind tru with
        | none => .bad
        | some k => if k = true then .ok (.val d) s else (fz (ev G b).v s).bind fun d s => .ok (.val d) s := by
        show (fz (ev G a).v s).bind _ = _
        congr 1
        funext d s
        cases (D.see s.hp d).bind tru with
        | none => rfl
        | some k => cases k <;> rfl
      dsimp only
      rw [← e0]
      exact g
    refine (go_andor h).mono fun u H1 ⟨k, t, q⟩ => ⟨k, by rw [C.K]; exact t, ?_⟩
    cases k <;> exact q
  · have h : Sp1 W xc Wx (fun s => ((ev G a).t s).bind fun x s => if x then .ok true s else (ev G b).t s) relT σ H Q := h
    refine (h.bind (rel := relT)).mono fun u H1 ⟨e, F, m, k, s, S, r, g⟩ => ?_
    have r : k = u := r
    subst r
    cases k with
    | false => exact ⟨e, F, m, s, S, g⟩
    | true => exact g true F m H1 S (Ext.refl _ _) rfl
theorem Bok.eok {c : E} {op : BoolOp} {es : List Expr} (hp : (ev G c).p = pOf (ev G c).v) (h : Bok W X xc Wx G c op es pos) : Eok W X xc Wx G c (.BoolOp op es pos) := by
  refine ⟨h.v, h.w.pt, ?_, fun _ => rfl⟩
  rw [hp]
  exact h.v.imp fun _ _ _ q => p_of q
/-- a if t else b, as a test -/
theorem pt_ifExp {c a b : Expr} {tc ta tb : TT} (hc : PT X c tc) (ha : PT X a ta) (hb : PT X b tb) : PT X (.IfExp c a b pos) (fun σ H Q => tc σ H fun k H1 => if k = true then ta σ H1 Q else tb σ H1 Q) := by
  refine ⟨fun pins s σ H Q I h => ?_⟩
  refine wpAny_bind (thn (hc.run pins s σ H _ I h) fun k s1 ⟨H1, I1, q1⟩ => ?_)
  cases k with
  | true => exact ha.run pins s1 σ H1 Q I1 q1
  | false => exact hb.run pins s1 σ H1 Q I1 q1
theorem ok_ite {c a b : E} {x y z : Expr} (hc : Eok W X xc Wx G c x) (ha : Eok W X xc Wx G a y) (hb : Eok W X xc Wx G b z) : Eok W X xc Wx G (.ite c a b) (.IfExp x y z pos) := by
  have v : PE X (.IfExp x y z pos) (Sp1 W xc Wx (ev G (.ite c a b)).v (relV W)) := (pe_ifExp hc.t ha.v hb.v).imp fun σ H Q h => by
    have h : Sp1 W xc Wx (fun s => ((ev G c).t s).bind fun x s => if x then (ev G a).v s else (ev G b).v s) (relV W) σ H Q := h
    refine (h.bind (rel := relT)).mono fun u H1 ⟨e, F, m, k, s, S, r, g⟩ => ?_
    have r : k = u := r
    subst r
    cases k with
    | true => exact ⟨e, F, m, s, S, g⟩
    | false => exact ⟨e, F, m, s, S, g⟩
  refine ⟨v, (pt_ifExp hc.t ha.t hb.t).imp fun σ H Q h => ?_, v.imp fun _ _ _ q => p_of q, fun _ => rfl⟩
  have h : Sp1 W xc Wx (fun s => ((ev G c).t s).bind fun x s => if x then (ev G a).t s else (ev G b).t s) relT σ H Q := h
  refine (h.bind (rel := relT)).mono fun u H1 ⟨e, F, m, k, s, S, r, g⟩ => ?_
  have r : k = u := r
  subst r
  cases k with
  | true => exact ⟨e, F, m, s, S, g⟩
  | false => exact ⟨e, F, m, s, S, g⟩

/-! ### lists of expressions -/
structure Aok (W : Wd) (X : Cx) (xc : XC) (Wx : WX) (G : Env) (c : Es) (es : List Expr) : Prop where
  v : PA X es (Sp1 W xc Wx (evs G c).v (relA W))
  p : PA X es (Sp1 W xc Wx (evs G c).p (relAP W))
  ns : ∀ q ∈ starEach es X.env, q.1 = false
theorem _root_.L2.PA.imp {t t' : TA} {x : List Expr} (h : PA X x t) (k : ∀ σ H Q, t' σ H Q → t σ H Q) : PA X x t' := ⟨fun ps pins s σ H Q I q => h.run ps pins s σ H Q I (k _ _ _ q)⟩
theorem aok_nil : Aok W X xc Wx G .nil [] := by
  refine ⟨pa_nil.imp fun σ H Q ⟨e, F, m, s, S, g⟩ => ?_, pa_nil.imp fun σ H Q ⟨e, F, m, s, S, g⟩ => ?_, fun q h => by cases h⟩
  · exact g [] F m H S (Ext.refl _ _) Reps.nil
  · exact g [] F m H S (Ext.refl _ _) rfl
theorem relPs.later {F F1 : Hp} {m m1 : List Addr} {σ : L2.St} (x : Ext F m F1 m1) : ∀ {ps : List P} {vs : List V}, relPs W F m σ ps vs → relPs W F1 m1 σ ps vs
  | [], _, h => h
  | p :: ps, _, h => by
    obtain ⟨v, r, e, h1, h2⟩ := h
    refine ⟨v, r, e, ?_, relPs.later x h2⟩
    cases p with
    | dat d => exact Rep.mono x h1
    | sl i => exact h1
theorem aok_cons {c : E} {cs : Es} {x : Expr} {xs : List Expr} (h : Eok W X xc Wx G c x) (hs : Aok W X xc Wx G cs xs) : Aok W X xc Wx G (.cons c cs) (x :: xs) := by
  refine ⟨(pa_cons h.fz hs.v (h.ns xs)).imp fun σ H Q q => ?_, (pa_cons h.p hs.p (h.ns xs)).imp fun σ H Q q => ?_, fun q hq => ?_⟩
  · have q : Sp1 W xc Wx (fun s => (fz (ev G c).v s).bind fun d s => ((evs G cs).v s).bind fun ds s => .ok (d :: ds) s) (relA W) σ H Q := q
    refine (q.bind (rel := relD W)).mono fun u H1 ⟨e, F, m, d, s, S, r, g⟩ => ⟨e, F, m, s, S, (g.bind (rel := relA W)).mono fun us H2 ⟨ds, s2, F2, m2, S2, x2, r2, g2⟩ => ?_⟩
    exact g2 _ F2 m2 H2 S2 (Ext.refl _ _) (Reps.cons (Rep.mono x2 r) r2)
  · have q : Sp1 W xc Wx (fun s => ((ev G c).p s).bind fun p s => ((evs G cs).p s).bind fun ps s => .ok (p :: ps) s) (relAP W) σ H Q := q
    refine (q.bind (rel := relP W)).mono fun u H1 ⟨e, F, m, d, s, S, r, g⟩ => ⟨e, F, m, s, S, (g.bind (rel := relAP W)).mono fun us H2 ⟨ds, s2, F2, m2, S2, x2, r2, g2⟩ => ?_⟩
    refine g2 _ F2 m2 H2 S2 (Ext.refl _ _) ⟨u, us, rfl, ?_, r2⟩
    cases d with
    | dat d => exact Rep.mono x2 r
    | sl i => exact r
  · rw [h.ns xs] at hq
    rcases List.mem_cons.mp hq with z | z
    · rw [z]
    · exact hs.ns q z
theorem Aok.any {cs : Es} {xs : List Expr} (h : Aok W X xc Wx G cs xs) : (backTo pos (starEach xs X.env)).any (·.1) = false := by
  unfold backTo
  rw [List.any_eq_false]
  intro q hq
  obtain ⟨z, hz, e⟩ := List.mem_map.mp hq
  have := h.ns z hz
  obtain ⟨z1, z2⟩ := z
  simp only at this e
  rw [← e]
  simp [this]
theorem ok_tup {cs : Es} {xs : List Expr} {k : Nat} (C : Cn W X xc Wx T sc ca) (h : Aok W X xc Wx G cs xs) : Eok W X xc Wx G (.tup cs) (.Tuple xs k pos) := by
  refine .of rfl C.K ((pe_tup h.v).imp fun σ H Q q => ?_) (fun _ => rfl) fun _ => rfl
  refine (q.bind (rel := relA W)).mono fun us H1 ⟨e, F, m, ds, s, S, r, g⟩ => ?_
  have r : Reps W F m ds us := r
  by_cases hl : ds.length ≤ big
  · rw [if_pos hl] at g
    refine ⟨by rw [r.length]; exact big_line hl, fun p hp => ?_⟩
    obtain ⟨S', x', r'⟩ := S.newTup hp r
    exact g _ _ m _ S' x' r'
  · rw [if_neg hl] at g
    exact g.elim
theorem ok_lst {cs : Es} {xs : List Expr} (C : Cn W X xc Wx T sc ca) (h : Aok W X xc Wx G cs xs) : Eok W X xc Wx G (.lst cs) (.List xs pos) := by
  refine .of rfl C.K ((pe_lst h.v).imp fun σ H Q q => ?_) (fun _ => rfl) fun _ => rfl
  refine (q.bind (rel := relA W)).mono fun us H1 ⟨e, F, m, ds, s, S, r, g⟩ => ?_
  have r : Reps W F m ds us := r
  by_cases hl : ds.length ≤ big
  · rw [if_pos hl] at g
    refine ⟨by rw [r.length]; exact big_line hl, fun p hp => ?_⟩
    obtain ⟨S', l⟩ := S.newLst hp r
    exact g _ F m _ S' (Ext.refl _ _) ⟨p, rfl, l⟩
  · rw [if_neg hl] at g
    exact g.elim

/-! ### subscripts, slices, fields -/
theorem at_reps {F : Hp} {m : List Addr} {xs : List D} {vs : List V} {i : Int} {d : D} (r : Reps W F m xs vs) (h : L2.atI xs i = some d) : ∃ v, L2.atI vs i = some v ∧ Rep W F m d v := by
  unfold L2.atI at h ⊢
  rw [r.length]
  cases q : L2.ixN xs.length i with
  | none => rw [q] at h; cases h
  | some j =>
    rw [q] at h
    exact r.get h
def plainIx : Expr → Bool
  | .Slice .. => false
  | _ => true
theorem plainIx_ok {b : Expr} (h : plainIx b = true) : PlainIx b := by
  intro o i
  cases b <;> first | rfl | cases h
theorem ok_ix {a i : E} {x y : Expr} (C : Cn W X xc Wx T sc ca) (ha : Eok W X xc Wx G a x) (hi : Eok W X xc Wx G i y) (hp : plainIx y = true) : Eok W X xc Wx G (.ix a i) (.Subscript x y pos) := by
  refine .of (v := two (ev G a).p (ev G i).p fun x y => (ixSem x y).map R.val) rfl C.K ((pe_ix (ix_list.or ix_tup) ha.p hi.p (plainIx_ok hp)).imp fun σ H Q h => ?_) (fun _ => rfl) fun _ => rfl
  refine (two_ok h).mono fun u H1 g => g.mono fun w H2 ⟨xc2, e, F, m, s, σ2, dx, dy, r, S, hx, hy, hf, q⟩ => ?_
  simp only [Option.map_eq_some_iff] at hf
  obtain ⟨d, hd, rfl⟩ := hf
  rw [C.K]
  cases dx with
  | lst xs =>
    cases dy with
    | int j =>
      obtain ⟨a', vs, rfl, h1, h2⟩ := hx
      cases hy.int
      obtain ⟨v, e1, e2⟩ := at_reps h2 hd
      exact .inl ⟨a', vs, j, v, rfl, rfl, SqL.of h1, e1, q _ F m H2 S (Ext.refl _ _) e2⟩
    | _ => cases hd
  | tup xs =>
    cases dy with
    | int j =>
      obtain ⟨a', vs, rfl, h1, h2⟩ := hx.tup
      cases hy.int
      obtain ⟨v, e1, e2⟩ := at_reps h2 hd
      exact .inr ⟨a', vs, j, v, rfl, rfl, Same.sqT S.sub h1, e1, q _ F m H2 S (Ext.refl _ _) e2⟩
    | _ => cases hd
  | _ => cases dy <;> cases hd
end
end MP
set_option Elab.async false
set_option linter.all false
set_option maxRecDepth 100000
set_option maxHeartbeats 4000000
/-! MPG: what a def promises where it is known that no repr is under way. -/
namespace MP
open PySem PySem.Spec PyProof.Rows L2
/-- as FnOk, for calls under which no repr is being written -/
structure FnG (P : Program) (w : World) (K : PySem.W.Frag) (mg : Str → Option Value) (base : Heap) (k : Nat) (f : Addr) (fd : FuncData) (ps : List Str) (sp : Sp) : Prop where
  len : ∀ vs H Q E, sp vs H Q E → vs.length = ps.length
  run : ∀ (A : Around) (outer : List PySem.Env) (s : Shared) (H : Hp) (args : Args) (us : List Value) (vs : List V) (Q : VK) (E : XK), Room k A → A.guards = some [] → Env0 P w K mg base A outer s H → BindsTo s fd args (ps.zip us) → Vals vs us → sp vs H Q E →
    codeAny (model P w) A (.call (.ref f) args) (CR (L2.CX P w) outer P w H s Q E) s
section
variable {P : Program} {w : World} {K : PySem.W.Frag} {mg : Str → Option Value} {base : Heap} {k j : Nat} {f : Addr} {fd : FuncData} {ps : List Str} {sp sp' : Sp}
theorem FnG.mono (F : FnG P w K mg base j f fd ps sp) (h : j ≤ k) : FnG P w K mg base k f fd ps sp := ⟨F.len, fun A outer s H args us vs Q E hr => F.run A outer s H args us vs Q E (hr.mono h)⟩
theorem FnG.imp (F : FnG P w K mg base k f fd ps sp) (h : ∀ vs H Q E, sp' vs H Q E → sp vs H Q E) : FnG P w K mg base k f fd ps sp' :=
  ⟨fun vs H Q E q => F.len vs H Q E (h _ _ _ _ q), fun A outer s H args us vs Q E r1 r2 r3 r4 r5 q => F.run A outer s H args us vs Q E r1 r2 r3 r4 r5 (h _ _ _ _ q)⟩
theorem guards_deeper {A : Around} (env : PySem.Env) (h : A.guards = some []) : (A.deeper env).guards = some [] := h
theorem guards_made {A : Around} {C : Addr} {us : List Value} {kw : List (Str × Value)} (h : A.guards = some []) : (A.under (.builtin "type.__call__" ⟨.ref C :: us, kw⟩)).guards = some [] := by
  have e : (Code.builtin "type.__call__" ⟨.ref C :: us, kw⟩).guards = [] := rfl
  unfold Around.under
  simp only
  rw [e, h]
  rfl
/-- a def of the text keeps a promise, by its body -/
theorem fnG_of {x qual : Str} {params : Arguments} {body : List Stmt} {scope : Scope} {dvs : List V} {kws : List (Str × V)} {N : List Str} (F : FunD K x qual params body scope dvs kws f fd) (S : FnScope N ps scope) (len : ∀ vs H Q E, sp vs H Q E → vs.length = ps.length)
    (hbody : ∀ (cdv : Value) (A : Around) (outer : List PySem.Env) (s : Shared) (H : Hp) (vs : List V) (Q : VK) (E : XK), Room k (A.deeper (envOfC qual scope s.heap.objs.size f cdv)) → A.guards = some [] → sp vs H Q E →
      ∃ t, PSs (cxOf (L2.CX P w) P w K mg base N qual scope f cdv A outer s H E) body t ∧ t { nx := fun _ H' => Q .non H', rt := Q } (start N vs) H) : FnG P w K mg base (k + 1) f fd ps sp := by
  obtain ⟨oc, od, dV, kV, doc, pm, an, cdv, ct, osl, rfl, lk, hcd, _, _⟩ := F.ex
  refine ⟨len, fun A outer s H args us vs Q E hr hg e0 hb r want => ?_⟩
  have hl := len _ _ _ _ want
  have kin : K.In s.heap := e0.mod.kin.keeps fun b o e => (e0.bs b o e).1
  have lim : s.heap.NoLimit := e0.mod.nolimit.keeps fun b o e => (e0.bs b o e).1
  have kinds : ∀ y ∈ ps.zip us, scope.names.lookup y.1 = some .local ∨ (scope.names.lookup y.1 = some .cell ∧ ((cellsFrom (s.heap.objs.size + 1) scope.names []).lookup y.1).isSome = true) := fun ⟨n, v⟩ hy =>
    (S.par n (List.of_mem_zip hy).1).imp id fun z => ⟨z, PySem.W.cellsFrom_some _ _ _ (.inl z)⟩
  refine codeAny_call_function hr.depth (kin _ _ lk) rfl S.co S.gen rfl (PySem.W.codeRec_of kin hcd) (hb _ _ _ _ ?_)
  refine wpAny_newFunctionEnv_cells S.kind kinds fun env he s1 x => ?_
  subst he
  refine ⟨lim.keeps x.toInCall.keep, codeAny_func ?_⟩
  obtain ⟨t, ht, hq⟩ := hbody cdv A outer s H vs Q E (hr.deeper _) hg want
  have J : Inv (cxOf (L2.CX P w) P w K mg base N qual scope f cdv A outer s H E) [] (start N vs) H s1 := inv_start S hr.hd e0 hl r x
  refine wpAny_mono (ht.run [] s1 (start N vs) H _ J hq) (fun fl s' hs => ?_) fun _ _ z => z
  cases fl with
  | ret u =>
    obtain ⟨v, σ', H', J', rv, q⟩ := hs
    exact ⟨v, H', J'.os, J'.bare, J'.base, J'.hok, rv, q⟩
  | next =>
    obtain ⟨σ', H', J', q⟩ := hs
    exact ⟨V.non, H', J'.os, J'.bare, J'.base, J'.hok, rfl, q⟩
  | brk => obtain ⟨_, _, _, q⟩ := hs; exact q.elim
  | cont => obtain ⟨_, _, _, q⟩ := hs; exact q.elim
end
/-! ### calls -/
section
variable {X : Cx} {k : Nat} {f C : Addr} {fd : FuncData} {ps : List Str} {sp : Sp} {dvs : List V} {ds : List Value} {E : L2.St → XK} {x m : Str} {p pos apos : Pos} {e o : Expr} {es : List Expr} {t : TA} {ta : TE}
abbrev FnX (X : Cx) (k : Nat) (f : Addr) (fd : FuncData) (ps : List Str) (sp : Sp) : Prop := FnG X.prog X.w X.K X.mg X.base k f fd ps sp
theorem runG {pins : List (Addr × Obj)} {σ : L2.St} {H : Hp} {s : Shared} {Q : VK} {us : List Value} {vs : List V} (F : FnX X k f fd ps sp) (hr : Room k X.A) (hg : X.A.guards = some []) (hb : Binds X.K fd ps ds) (hd : Vals dvs ds) (hx : PassesAt (L2.CX X.prog X.w) X σ (E σ))
    (I : Inv X pins σ H s) (r : Vals vs us) (h : sp (vs ++ dvs) H Q (E σ)) : wpAny (model X.prog X.w) X.A (call (.ref f) us) (EP X pins σ Q) X.xe s := by
  have rr : Vals (vs ++ dvs) (us ++ ds) := r.append hd
  have len : (us ++ ds).length = ps.length := rr.length.symm.trans (F.len _ _ _ _ h)
  refine wpAny_call (codeAny_mono (F.run X.A X.stack s H ⟨us, []⟩ (us ++ ds) (vs ++ dvs) Q (E σ) hr hg I.env0 (hb s us I.kIn len) rr h) fun out s' hq => ?_)
  rcases out with u | fl
  · exact hx pins H s u s' I hq
  · cases fl with
    | ret u => exact I.after hq
    | _ => exact False.elim hq
theorem pe_callG (F : FnX X k f fd ps sp) (hr : Room k X.A) (hgd : X.A.guards = some []) (hg : Gl X x) (hm : X.mg x = some (.ref f)) (hk : PySem.W.keepIn X.K (.ref f) = true) (hb : Binds X.K fd ps ds) (hd : Vals dvs ds) (hx : ∀ σ, PassesAt (L2.CX X.prog X.w) X σ (E σ))
    (ha : PA X (e :: es) t) (hdb : (x == ("__debug__" : Str)) = false) (he : starEach (e :: es) X.env = (false, eval e X.env) :: starEach es X.env) (hpl : (backTo pos (starEach es X.env)).any (·.1) = false) :
    PE X (.Call (.Name x p) (e :: es) [] pos) (tCallSD sp dvs E t) :=
  ⟨fun pins s σ H Q I h => wpAny_Call_Name_kw (ld_glob I hg hm (PySem.W.callWith_K (h₀ := X.base) I.ok.mod.kin hk (thn (ha.run pos pins s σ H _ I h) fun _ _ ⟨_, _, I1, r, q⟩ => ⟨I1.kIn, runG F hr hgd hb hd (hx σ) I1 r q⟩) he hpl) hdb)⟩
def tMakeS (C : Addr) (sp : Sp) (dvs : List V) (E : L2.St → XK) (t : TA) : TE := fun σ H Q => t σ H fun vs H1 => ∀ x dx, H1 x = none → H1 dx = none → dx ≠ x →
  sp (.ref x :: (vs ++ dvs)) (upd (upd H1 dx (.own x)) x (.ins C dx [])) (fun v H2 => v = .non ∧ Q (.ref x) H2) (E σ)
def tMethS (C : Addr) (m : Str) (sp : Sp) (dvs : List V) (E : L2.St → XK) (ta : TE) (t : TA) : TE := fun σ H Q => ta σ H fun x H1 => ∃ a dx fs, x = .ref a ∧ H1 a = some (.ins C dx fs) ∧ fs.lookup m = none ∧
  t σ H1 fun vs H2 => sp (.ref a :: (vs ++ dvs)) H2 Q (E σ)
theorem make_run {pins : List (Addr × Obj)} {σ : L2.St} {H : Hp} {s : Shared} {Q : VK} {us : List Value} {vs : List V} (M : Mk X.K C f) (F : FnX X k f fd ps sp) (hr : Room (k + 1) X.A) (hgd : X.A.guards = some []) (hb : Binds X.K fd ps ds) (hd : Vals dvs ds)
    (hx : PassesAt (L2.CX X.prog X.w) X σ (E σ)) (I : Inv X pins σ H s) (r : Vals vs us)
    (h : ∀ x dx, H x = none → H dx = none → dx ≠ x → sp (.ref x :: (vs ++ dvs)) (upd (upd H dx (.own x)) x (.ins C dx [])) (fun v H2 => v = .non ∧ Q (.ref x) H2) (E σ)) :
    wpAny (model X.prog X.w) X.A (call (.ref C) us) (EP X pins σ Q) X.xe s := by
  have n0 := I.hok.fresh (Nat.le_refl s.heap.objs.size)
  have n1 := I.hok.fresh (Nat.le_succ s.heap.objs.size)
  have want := h _ _ n1 n0 (Nat.ne_of_lt (Nat.lt_succ_self _))
  have J := Inv.made (C := C) I
  have rr : Vals (V.ref (s.heap.objs.size + 1) :: (vs ++ dvs)) (Value.ref (s.heap.objs.size + 1) :: (us ++ ds)) := .cons rfl (r.append hd)
  have len : (Value.ref (s.heap.objs.size + 1) :: us ++ ds).length = ps.length := (rr.length.symm.trans (F.len _ _ _ _ want))
  have body := F.run _ X.stack _ _ ⟨Value.ref (s.heap.objs.size + 1) :: us, []⟩ (Value.ref (s.heap.objs.size + 1) :: (us ++ ds)) _ _ (E σ) (hr.make C us []) (guards_made hgd) (J.env0.make C us []) (hb _ (Value.ref (s.heap.objs.size + 1) :: us) J.kIn len) rr want
  refine wpAny_call (make_map (f := f) I.kIn M.makes M.init (beq_iff_eq.mp M.fn) (codeAny_mono body fun out s' w => ?_))
  cases out with
  | error u => exact hx pins _ _ u s' J w
  | ok fl =>
    cases fl with
    | ret u =>
      obtain ⟨v, H', I3, rv, ev, q3⟩ := J.after w
      subst ev
      exact ⟨rv, ⟨V.ref (s.heap.objs.size + 1), H', I3, rfl, q3⟩⟩
    | next => exact w.elim
    | brk => exact w.elim
    | cont => exact w.elim
theorem pe_makeS (M : Mk X.K C f) (F : FnX X k f fd ps sp) (hr : Room (k + 1) X.A) (hgd : X.A.guards = some []) (hg : Gl X x) (hm : X.mg x = some (.ref C)) (hb : Binds X.K fd ps ds) (hd : Vals dvs ds) (hx : ∀ σ, PassesAt (L2.CX X.prog X.w) X σ (E σ))
    (ha : PA X (e :: es) t) (hdb : (x == ("__debug__" : Str)) = false) (he : starEach (e :: es) X.env = (false, eval e X.env) :: starEach es X.env) (hpl : (backTo pos (starEach es X.env)).any (·.1) = false) :
    PE X (.Call (.Name x p) (e :: es) [] pos) (tMakeS C sp dvs E t) :=
  ⟨fun pins s σ H Q I h => wpAny_Call_Name_kw (ld_glob I hg hm (PySem.W.callWith_K (h₀ := X.base) I.ok.mod.kin M.kp (thn (ha.run pos pins s σ H _ I h) fun _ _ ⟨_, _, I1, r, q⟩ => ⟨I1.kIn, make_run M F hr hgd hb hd (hx σ) I1 r q⟩) he hpl) hdb)⟩
theorem pe_methS {pl : Sem Bool} (he : PE X o ta) (c : Cls X.K C) (hm : Meth X.K C m f) (F : FnX X k f fd ps sp) (hr : Room k X.A) (hgd : X.A.guards = some []) (hb : Binds X.K fd ps ds) (hd : Vals dvs ds) (hx : ∀ σ, PassesAt (L2.CX X.prog X.w) X σ (E σ)) (ha : PA X (e :: es) t)
    (hst : starEach (e :: es) X.env = (false, eval e X.env) :: starEach es X.env) (hpl : (backTo pos (starEach es X.env)).any (·.1) = false)
    (ht : eval (.Call (.Attribute o m apos) (e :: es) [] pos) X.env = (do
      let ov ← eval o X.env
      standAt apos.atName
      let (f, first) ← holding [ov] (getMethod ov m pl)
      callWith pos f first (backTo pos (starEach (e :: es) X.env)) (backToKw pos (keywordEach [] X.env)))) :
    PE X (.Call (.Attribute o m apos) (e :: es) [] pos) (tMethS C m sp dvs E ta t) := by
  constructor
  intro pins s σ H Q I h
  refine PySem.W.methodCall_KW (pl := pl) (thn (he.run pins s σ H _ I h) fun u s1 ⟨x, H1, I1, rx, a, dx, fs, ex, ea, l, q⟩ => ?_) ht
  subst ex
  obtain rfl : u = Value.ref a := rx
  exact getmeth_ok I1 ea c hm l (PySem.W.callWith_K (first := [.ref a]) (h₀ := X.base) I.ok.mod.kin hm.kp (thn (ha.run pos pins s1 σ H1 _ I1 q) fun us s2 ⟨vs, H2, I2, r, q2⟩ => ⟨I2.kIn, runG (us := .ref a :: us) (vs := .ref a :: vs) F hr hgd hb hd (hx σ) I2 (.cons rfl r) q2⟩) hst hpl)
theorem pe_methS0 {pl : Sem Bool} (he : PE X o ta) (c : Cls X.K C) (hm : Meth X.K C m f) (F : FnX X k f fd ps sp) (hr : Room k X.A) (hgd : X.A.guards = some []) (hb : Binds X.K fd ps ds) (hd : Vals dvs ds) (hx : ∀ σ, PassesAt (L2.CX X.prog X.w) X σ (E σ))
    (ht : eval (.Call (.Attribute o m apos) [] [] pos) X.env = (do
      let ov ← eval o X.env
      standAt apos.atName
      let (f, first) ← holding [ov] (getMethod ov m pl)
      callWith pos f first (backTo pos (starEach [] X.env)) (backToKw pos (keywordEach [] X.env)))) :
    PE X (.Call (.Attribute o m apos) [] [] pos) (tMethS C m sp dvs E ta tNil) := by
  constructor
  intro pins s σ H Q I h
  refine PySem.W.methodCall_KW (pl := pl) (thn (he.run pins s σ H _ I h) fun u s1 ⟨x, H1, I1, rx, a, dx, fs, ex, ea, l, q⟩ => ?_) ht
  subst ex
  obtain rfl : u = Value.ref a := rx
  exact getmeth_ok I1 ea c hm l (PySem.W.callWith_K0 (first := [.ref a]) I1.kIn hm.kp (runG (us := [.ref a]) (vs := [.ref a]) F hr hgd hb hd (hx σ) I1 (.cons rfl .nil) q))
end
/-! ### the law's call -/
theorem lawG {P : Program} {w : World} {K : PySem.W.Frag} {mg mb : Str → Option Value} {k : Nat} {fa a : Addr} {fd : FuncData} {x : Str} {sp : Sp} {s₁ : Shared} {vs : List Value} {ns : List Int}
    (KX : K.In s₁.heap) (hns : s₁.heap.Ns mainGlobals mg) (hb : s₁.heap.Ns builtinsNs mb) (hbb : ∀ x : Str, x ≠ "__name__" → mb x = bootBuiltins x) (hlim : s₁.heap.NoLimit) (hg : s₁.gens = #[])
    (ha : s₁.heap.get? a = some { cls := .type "list", data := .seq vs.toArray }) (hi : IntsAre vs ns) (hl : ns.length ≤ sizeLine) (hr : Room k callerA)
    (F : ∀ base : Heap, K.In base → base.Ns mainGlobals mg → FnG P w K mg base k fa fd [x] sp) (hbind : ∀ (s : Shared) (u : Value), BindsTo s fd ⟨[u], []⟩ [(x, u)])
    (hsp : ∀ H : Hp, Only H → SqL K H a (ns.map V.int) → sp [.ref a] H (fun v _ => v = .bl true) fun _ _ _ => False) :
    codeAny (model P w) callerA (.call (.ref fa) ⟨[.ref a], []⟩) (fun r s' => r = .ok (.ret (.bool true)) ∧ OldK s₁.heap s'.heap ∧ s'.os = s₁.os ∧ AllBare s'.gens) s₁ := by
  have rv := vals_ints hi
  have lenV := hi.length
  -- what is tracked at the entry: the script, unless it is one of the module's own
  obtain ⟨H, hO, hS, hok, hA, hK⟩ : ∃ H : Hp, Only H ∧ SqL K H a (ns.map V.int) ∧ HOk P w H s₁.heap ∧ (∀ b, H b ≠ none → b = a) ∧ (H a ≠ none → K.lookup a = none) := by
    cases hk : K.lookup a with
    | some o =>
      have e := KX a o hk
      rw [ha] at e
      cases e
      refine ⟨fun _ => none, fun _ => .inl rfl, .inr ⟨_, vs.toArray, _, hk, rfl, rfl, rfl, by rw [List.size_toArray, lenV]; exact hl, by simpa using rv⟩, fun b u z => ?_, fun b z => absurd rfl z, fun z => absurd rfl z⟩
      exact absurd (show (none : Option HO) = some u from z) (by simp)
    | none =>
      let fz : HO := .frz { cls := .type "list", data := .seq vs.toArray } (.lst (ns.map V.int))
      refine ⟨fun b => if b = a then some fz else none, fun b => ?_, .inl (.inr ⟨_, if_pos rfl⟩), fun b u z => ?_, fun b z => ?_, fun _ => rfl⟩
      · by_cases q : b = a
        · exact .inr ⟨_, _, if_pos q⟩
        · exact .inl (if_neg q)
      · by_cases q : b = a
        · cases (if_pos q).symm.trans z
          subst q
          exact ⟨ha, by rw [List.length_map]; exact hl, vs, _, rv, ha⟩
        · cases (if_neg q).symm.trans z
      · by_cases q : b = a
        · exact q
        · exact absurd (if_neg q) z
  have kept : ∀ {b : Addr} {o : Obj}, s₁.heap.get? b = some o → H b = none → (hidT s₁.heap H).get? b = some o := fun e n => hidT_get e n
  have noD : ∀ {b : Addr} {o : Obj} {es : Array DictEntry} {ep : Nat}, s₁.heap.get? b = some o → o.data = .dict es ep → H b = none := fun {b o es ep} e d => by
    cases q : H b with
    | none => rfl
    | some u =>
      obtain rfl := hA b (by rw [q]; simp)
      rw [ha] at e
      cases e
      cases (show Data.seq vs.toArray _ = Data.dict es ep from d)
  have nsK : ∀ {b : Addr} {m : Str → Option Value}, s₁.heap.Ns b m → (hidT s₁.heap H).Ns b m := fun {b m} ⟨o, es, ep, e, d, r⟩ => ⟨o, es, ep, kept e (noD e d), d, r⟩
  have hKb : K.In (hidT s₁.heap H) := fun b o e => kept (KX b o e) (by
    cases q : H b with
    | none => rfl
    | some u =>
      obtain rfl := hA b (by rw [q]; simp)
      rw [hK (by rw [q]; simp)] at e
      cases e)
  have hM : Mod K mg (hidT s₁.heap H) := ⟨hKb, nsK hns, ⟨mb, nsK hb, hbb⟩, let ⟨mc, h1, h2⟩ := hlim; ⟨mc, nsK h1, h2⟩⟩
  have e0 : Env0 P w K mg (hidT s₁.heap H) callerA [] s₁ H := ⟨rfl, hM, fun b o e => of_hidT e, Nat.le_of_eq (hidT_size _ _), trivial, fun b hb => absurd (show b ∈ ([] : List Addr) from hb) (by simp), hok, .of_eq hg⟩
  refine codeAny_mono ((F _ hKb (nsK hns)).run callerA [] s₁ H ⟨[.ref a], []⟩ [.ref a] [.ref a] _ _ hr rfl e0 (hbind s₁ (.ref a)) (.cons rfl .nil) (hsp H hO hS)) fun r s' h => ?_
  rcases r with u | fl
  · obtain ⟨_, _, _, _, _, _, _, _, _, _, _, _, z⟩ := h
    exact z.elim
  · cases fl with
    | ret u =>
      obtain ⟨v, H', os, bare, un, hok', r', q⟩ := h
      have q : v = .bl true := q
      subst q
      obtain rfl : u = Value.bool true := r'
      refine ⟨rfl, OldK.of_keep fun b o e => ?_, os, bare⟩
      rcases hO b with z | ⟨ob, xs, z⟩
      · exact un.keep b o e z (by intro z; exact absurd (show b ∈ ([] : List Addr) from z) (by simp)) (by simp)
      · obtain ⟨e1, _⟩ := hok b _ z
        obtain ⟨e2, _⟩ := hok' b _ (un.frzs b ob _ z)
        rw [e] at e1
        cases e1
        exact e2
    | _ => exact False.elim h
end MP
set_option Elab.async false
set_option linter.all false
set_option maxRecDepth 100000
set_option maxHeartbeats 4000000
/-! MP5: calls of defs, classes, methods. -/
namespace MP
open PySem PySem.Spec PyProof.Rows L2

/-! ### what a def promises -/
/-- behind a call -/
structure After (W : Wd) (F : Hp) (m : List Addr) (H : Hp) (F' : Hp) (m' : List Addr) (h' : List Cell) (H' : Hp) : Prop where
  ext : Ext F m F' m'
  sub : Same F' H'
  cells : Cells W F' m' h' H'
  fr : ∀ a o, F' a = some o → F a = some o ∨ H a = none
  keep : ∀ a o, H a = some o → a ∉ m → H' a = some o
  new : ∀ a ∈ m', a ∉ m → H a = none
/-- what is handed back -/
def Back (W : Wd) (m : List Addr) (H : Hp) (F' : Hp) (m' : List Addr) (H' : Hp) : R → V → Prop
  | .val d, v => Rep W F' m' d v
  | .own xs, v => ∃ a vs, v = .ref a ∧ H' a = some (.lst vs) ∧ Reps W F' m' xs vs ∧ F' a = none ∧ a ∉ m' ∧ H a = none
def spOf (W : Wd) (g : FnSem) : Sp := fun vs H Q E => ∃ F m ds h, Same F H ∧ Cells W F m h H ∧ Reps W F m ds vs ∧
  match g ds h with
  | .bad => False
  | .ok r h' => ∀ v F' m' H', After W F m H F' m' h' H' → Back W m H F' m' H' r v → Q v H'
  | .exc x h' => ∀ cls d F' m' H', After W F m H F' m' h' H' → RepX W F' m' x cls d → E cls d H'
section
variable {W : Wd} {xc : XC} {e : En} {F : Hp} {m : List Addr} {s : St} {σ : L2.St} {H : Hp}
theorem Sim.after (S : Sim W xc e F m s σ H) {F' : Hp} {m' : List Addr} {h' : List Cell} {H' : Hp} (A : After W F m H F' m' h' H') : Sim W xc e F' m' { s with hp := h' } σ H' where
  sub := A.sub
  cells := A.cells
  len := S.len
  slot := fun i x o h1 h2 => by
    have q := S.slot i x o h1 h2
    cases x with
    | no => trivial
    | val d =>
      obtain ⟨v, e1, r⟩ := q
      exact ⟨v, e1, r.mono A.ext⟩
    | own xs =>
      obtain ⟨a, vs, e1, e2, e3, e4, e5, e6⟩ := q
      refine ⟨a, vs, e1, A.keep a _ e2 e5, e3.mono A.ext, ?_, fun z => ?_, e6⟩
      · cases q : F' a with
        | none => rfl
        | some o =>
          rcases A.fr a o q with z | z
          · rw [e4] at z; cases z
          · rw [e2] at z; cases z
      · have := A.new a z e5
        rw [e2] at this
        cases this
    | exc x =>
      obtain ⟨a, cls, d, e1, e2, e3⟩ := q
      exact ⟨a, cls, d, e1, e2, e3.mono A.ext⟩
  apart := S.apart
  ext := S.ext.trans A.ext
  fr := fun a o h => by
    rcases A.fr a o h with z | z
    · exact S.fr a o z
    · exact .inr (S.not_e z)
  keep := fun a o h1 h2 => by
    have q := S.keep a o h1 h2
    by_cases hm : a ∈ m
    · have := S.new a hm h2
      rw [h1] at this
      cases this
    · exact A.keep a o q hm
  new := fun a h1 h2 => by
    by_cases hm : a ∈ m
    · exact S.new a hm h2
    · exact S.not_e (A.new a h1 hm)
theorem Back.rel (S : Sim W xc e F m s σ H) {F' : Hp} {m' : List Addr} {h' : List Cell} {H' : Hp} (A : After W F m H F' m' h' H') {r : R} {v : V} (b : Back W m H F' m' H' r v) : relV W e F' m' { s with hp := h' } σ H' r v := by
  cases r with
  | val d => exact b
  | own xs =>
    obtain ⟨a, vs, rfl, h1, h2, h3, h4, h5⟩ := b
    refine ⟨a, rfl, ⟨vs, h1, h2⟩, h3, h4, S.not_e h5, fun i ys q1 q2 => ?_⟩
    obtain ⟨o, g1, b, ws, g2, g3, _⟩ := S.getσ q1
    rw [q2] at g1
    cases g1
    cases g2
    rw [h5] at g3
    cases g3
/-- a call of what keeps its promise -/
theorem call_ok {Wx : WX} {g : FnSem} {ds : List D} {vs : List V} {Q : VK} (S : Sim W xc e F m s σ H) (r : Reps W F m ds vs) (h : Go W xc Wx e F m σ (callFn (some g) ds s) (relV W) Q) : spOf W g vs H Q (WE Wx σ) := by
  refine ⟨F, m, ds, s.hp, S.sub, S.cells, r, ?_⟩
  simp only [callFn] at h
  cases q : g ds s.hp with
  | bad => rw [q] at h; exact h
  | ok r h' =>
    rw [q] at h
    exact fun v F' m' H' A b => h v F' m' H' (S.after A) A.ext (b.rel S A)
  | exc x h' =>
    rw [q] at h
    exact fun cls d F' m' H' A b => h cls d F' m' H' (S.after A) A.ext b
end

/-! ### contexts with what may be called -/
structure FnF (W : Wd) (X : Cx) (k : Nat) (nm : Str) (g : FnSem) (dfl : List D) : Prop where
  ex : ∃ f fd ps, FnX X k f fd ps (spOf W g) ∧ X.mg nm = some (.ref f) ∧ PySem.W.keepIn X.K (.ref f) = true ∧
    ∀ n, n ≤ dfl.length → ∃ ds dvs, Binds X.K fd ps ds ∧ Vals dvs ds ∧ ∀ F m, Reps W F m (dfl.drop (dfl.length - n)) dvs
/-- a class whose instances are made by its __init__ -/
structure MkF (W : Wd) (X : Cx) (k : Nat) (c : Nat) (nm : Str) (g : FnSem) : Prop where
  ex : ∃ f fd ps sp, FnX X k f fd ps sp ∧ Mk X.K (W.cad c) f ∧ X.mg nm = some (.ref (W.cad c)) ∧ Binds X.K fd ps [] ∧
    ∀ vs H Q E, spOf W g vs H Q E → ∀ x dx, H x = none → H dx = none → dx ≠ x → sp (.ref x :: vs) (upd (upd H dx (.own x)) x (.ins (W.cad c) dx [])) (fun v H2 => v = .non ∧ Q (.ref x) H2) E
structure MtF (W : Wd) (X : Cx) (k : Nat) (c : Nat) (nm : Str) (g : FnSem) : Prop where
  ex : ∃ f fd ps, FnX X k f fd ps (spOf W g) ∧ Cls X.K (W.cad c) ∧ Meth X.K (W.cad c) nm f ∧ Binds X.K fd ps []
/-- a class that isinstance may ask for -/
structure IcF (W : Wd) (X : Cx) (G : Env) (c : Nat) (nm : Str) : Prop where
  mg : X.mg nm = some (.ref (W.cad c))
  cls : Cls X.K (W.cad c)
  ha : PySem.W.findIn X.K (.ref (W.cad c)) "__class__" = some (some (.builtin "object.__class__"))
  hn : PySem.W.specialIn X.K (.builtin "object.__class__") "__get__" = some (some (.builtin "getset_descriptor.__get__"))
  htk : PySem.W.takesIn X.K (.builtin "object.__class__") = some true
  hm : PySem.W.mroIn X.K (W.cad c) (.type "object") = some true
  down : ∀ t ∈ (["NoneType", "bool", "int", "str", "list", "tuple"] : List String), PySem.W.kitOne X.K (.type t) (.ref (W.cad c)) = some false
  up : ∀ t ∈ (["bool", "int", "str", "list", "tuple"] : List String), PySem.W.kitOne X.K (.ref (W.cad c)) (.type t) = some false
  own : ∀ k, G.ic k = true → PySem.W.kitOne X.K (.ref (W.cad c)) (.ref (W.cad k)) = some (decide (c = k))
/-- the heap with an exception at a, its dict at dx -/
def exH (H : Hp) (a C dx : Addr) (acc : List (Str × V)) : Hp := upd (upd H dx (exd dx acc)) a (exo a C (some dx))
/-- __init__ that stores its arguments -/
def spX (C : Addr) (fs : List Str) : Sp := fun vs H Q _ => ∃ a ws, vs = .ref a :: ws ∧ ws.length = fs.length ∧ H a = some (exo a C none) ∧ ∀ d, H d = none → d ≠ a → Q .non (exH H a C d (fs.zip ws).reverse)
/-- an exception class that stores its arguments -/
structure XcF (W : Wd) (X : Cx) (T : Tab) (k : Nat) (c : Nat) (fl : List Nat) : Prop where
  ex : ∃ fI fd ps, OexC X.K (W.cad c) ∧ PySem.W.findIn X.K (.ref (W.cad c)) "__init__" = some (some (.ref fI)) ∧ PySem.W.typeIn X.K (.ref fI) = some (.type "function") ∧
    FnOk X.prog X.w X.K X.mg X.base (L2.CX X.prog X.w) k fI fd ps (spX (W.cad c) (fl.map T.fld)) ∧ Binds X.K fd ps [] ∧ X.mg (T.cnm c) = some (.ref (W.cad c)) ∧ (T.cnm c == ("__debug__" : Str)) = false
  ne : fl ≠ []
  nd : fl.Nodup
  lt : ∀ f ∈ fl, f < W.nf
  inj : ∀ f ∈ fl, ∀ g, g < W.nf → T.fld f = T.fld g → f = g
  len : fl.length ≤ 800
/-- built-in names that the module leaves alone -/
def freeNames : List Str := ["isinstance", "int", "bool", "str", "list", "tuple", "len", "abs", "range", "sorted", "set", "max", "min", "sum", "enumerate", "repr", "any", "all", "zip", "iter", "reversed"]
structure Cf (W : Wd) (X : Cx) (T : Tab) (G : Env) (k : Nat) (ca : Bool) : Prop where
  free : ∀ n ∈ freeNames, X.mg n = none
  fa : ∀ c f, G.fa c f = true → Cls X.K (W.cad c) ∧ NoAttr X.K (W.cad c) (T.fld f) ∧ f < W.nf
  ic : ∀ c, G.ic c = true → IcF W X G c (T.cnm c)
  room : ca = true → Room (k + 1) X.A
  xa : ∀ c f, G.xa c f = true → XfC X.K (W.cad c) ∧ PySem.W.findIn X.K (.ref (W.cad c)) (T.fld f) = some none ∧ f < W.nf
  xc : ∀ c fl, G.xc c = some fl → XcF W X T k c fl
  xn : ∀ c, G.xn c = true → X.mg (T.cnm c) = some (.ref (W.cad c))
  xk : ∀ c c' b, G.xk c c' = some b → PySem.W.exmOne X.K (.ref (W.cad c)) (.ref (W.cad c')) = some b
  fn : ∀ f g dfl, G.fn f = some (g, dfl) → FnF W X k (T.fnm f) g dfl ∧ (T.fnm f == ("__debug__" : Str)) = false
  made : ∀ c g, G.made c = some g → MkF W X k c (T.cnm c) g ∧ (T.cnm c == ("__debug__" : Str)) = false
  meth : ∀ c m g, G.meth c m = some g → MtF W X k c (T.fld m) g
section
variable {W : Wd} {xc : XC} {X : Cx} {Wx : WX} {T : Tab} {sc : Scope} {ca : Bool} {G : Env} {k : Nat} {pos p : Pos}
theorem Cn.gl {nm : Str} (C : Cn W X xc Wx T sc ca) (hg : sc.names.lookup nm = some .globalImplicit) : Gl X nm := by
  show X.env.scope.names.lookup _ = _
  rw [C.sc]
  exact hg
theorem ok_call {f n : Nat} {g : FnSem} {dfl : List D} {c : E} {cs : Es} {x : Expr} {xs : List Expr} (C : Cn W X xc Wx T sc ca) (B : Cf W X T G k ca) (hca : ca = true) (hf : G.fn f = some (g, dfl)) (hn : n ≤ dfl.length) (hg : sc.names.lookup (T.fnm f) = some .globalImplicit) (h : Eok W X xc Wx G c x) (hs : Aok W X xc Wx G cs xs) :
    Eok W X xc Wx G (.call f (.cons c cs) n) (.Call (.Name (T.fnm f) p) (x :: xs) [] pos) := by
  refine .of rfl C.K ?_ (fun _ => rfl) fun _ => rfl
  obtain ⟨⟨a, fd, ps, F, m1, m2, m3⟩, hdb⟩ := B.fn f g dfl hf
  obtain ⟨ds, dvs, b1, b2, b3⟩ := m3 n hn
  refine (pe_callG (E := WE Wx) F ((B.room hca).mono (Nat.le_succ _)) C.gd (C.gl hg) m1 m2 b1 b2 (fun σ => passAt C.tk σ) (aok_cons h hs).v hdb (h.ns xs) hs.any).imp fun σ H Q q => ?_
  refine (q.bind (rel := relA W)).mono fun us H1 ⟨e, F, m, ds, s, S, r, g1⟩ => ?_
  rw [hf] at g1
  have g1 : Go W xc Wx e F m σ (if n ≤ dfl.length then callFn (some g) (ds ++ dfl.drop (dfl.length - n)) s else .bad) (relV W) Q := g1
  rw [if_pos hn] at g1
  exact call_ok S (Reps.append r (b3 F m)) g1
theorem ok_mk {c : Nat} {g : FnSem} {a : E} {cs : Es} {x : Expr} {xs : List Expr} (C : Cn W X xc Wx T sc ca) (B : Cf W X T G k ca) (hca : ca = true) (hf : G.made c = some g) (hg : sc.names.lookup (T.cnm c) = some .globalImplicit) (h : Eok W X xc Wx G a x) (hs : Aok W X xc Wx G cs xs) :
    Eok W X xc Wx G (.mk c (.cons a cs)) (.Call (.Name (T.cnm c) p) (x :: xs) [] pos) := by
  refine .of rfl C.K ?_ (fun _ => rfl) fun _ => rfl
  obtain ⟨⟨f, fd, ps, sp, F, M, m1, b, m3⟩, hdb⟩ := B.made c g hf
  refine (pe_makeS (E := WE Wx) M F (B.room hca) C.gd (C.gl hg) m1 b .nil (fun σ => passAt C.tk σ) (aok_cons h hs).v hdb (h.ns xs) hs.any).imp fun σ H Q q => ?_
  refine (q.bind (rel := relA W)).mono fun us H1 ⟨e, F, m, ds, s, S, r, g1⟩ => fun x dx hx hdx ne => ?_
  have g1 : Go W xc Wx e F m σ (callFn (G.made c) ds s) (relV W) Q := g1
  rw [hf] at g1
  rw [List.append_nil]
  exact m3 us H1 Q _ (call_ok S r g1) x dx hx hdx ne
/-- what stands ahead of a dot is no call without arguments -/
def dotOk : Expr → Bool
  | .Call _ [] [] _ => false
  | _ => true
theorem base_ok {o : Expr} {f : Str} {env : PySem.Env} {t : Sem Value} (h : dotOk o = true) : attributeBase o f env t = t := by
  cases o with
  | Call g as ks pos =>
    cases as with
    | nil =>
      cases ks with
      | nil => cases h
      | cons k ks => cases g <;> rfl
    | cons a as => cases g <;> rfl
  | _ => rfl
theorem ok_fld {f : Nat} {a : E} {y : Expr} (C : Cn W X xc Wx T sc ca) (B : Cf W X T G k ca) (hd : dotOk y = true) (ha : Eok W X xc Wx G a y) : Eok W X xc Wx G (.fld a f) (.Attribute y (T.fld f) p) := by
  refine .of rfl C.K ((pe_fld ha.p (base_ok hd)).imp fun σ H Q h => ?_) (fun _ => rfl) fun _ => rfl
  refine (h.bind (rel := relP W)).mono fun u H1 ⟨e, F, m, q, s, S, r, g⟩ => ?_
  cases q1 : q.get s with
  | none => rw [q1] at g; exact g.elim
  | some d =>
    rw [q1] at g
    cases d with
    | ins c fs =>
      have g : Go W xc Wx e F m σ (if G.fa c f then O.opt ((fs.lookup f).map R.val) s else .bad) (relV W) Q := g
      by_cases hf : G.fa c f = true
      · rw [if_pos hf] at g
        obtain ⟨c1, c2, c3⟩ := B.fa c f hf
        obtain ⟨a', dx, gs, rfl, h1, h2⟩ := See.of_get S r q1
        obtain ⟨rr, e1, g2⟩ := g.opt
        simp only [Option.map_eq_some_iff] at e1
        obtain ⟨d, hd, rfl⟩ := e1
        obtain ⟨v, l1, l2⟩ := Repf.look c3 h2 hd
        rw [C.fld] at l1
        exact ⟨a', W.cad c, dx, gs, v, rfl, h1, c1, c2, l1, g2 v F m H1 S (Ext.refl _ _) l2⟩
      · rw [if_neg hf] at g
        exact g.elim
    | _ => exact g.elim
theorem few_ok {args : List Expr} {env : PySem.Env} {pos : Pos} (ns : ∀ q ∈ starEach args env, q.1 = false) (hn : args.length < 30) : methodCallForm (args.length + ([] : List Keyword).length) (backTo pos (starEach args env)) (backToKw pos (keywordEach [] env)) = true := by
  unfold methodCallForm
  have e1 : (backTo pos (starEach args env)).all (fun x => !x.1) = true := by
    rw [List.all_eq_true]
    intro q hq
    unfold backTo at hq
    obtain ⟨⟨z1, z2⟩, hz, e⟩ := List.mem_map.mp hq
    have := ns _ hz
    simp only at this
    subst this
    rw [← e]
    rfl
  rw [e1]
  simp [backToKw, keywordEach, hn]
theorem eval_meth {o : Expr} {nm : Str} {apos pos : Pos} {args : List Expr} {env : PySem.Env} (h : dotOk o = true) (ns : ∀ q ∈ starEach args env, q.1 = false) (hn : args.length < 30) (hl : (apos.endLine == pos.line) = true) :
    eval (.Call (.Attribute o nm apos) args [] pos) env = (do
      let ov ← eval o env
      standAt apos.atName
      let (f, first) ← holding [ov] (getMethod ov nm (do return (← importBound o env).getD true))
      callWith pos f first (backTo pos (starEach args env)) (backToKw pos (keywordEach [] env))) := by
  have e : eval (.Call (.Attribute o nm apos) args [] pos) env = (do
      let ov ← attributeBase o nm env (eval o env)
      standAt apos.atName
      methodCall o nm apos pos env ov (args.length + ([] : List Keyword).length) (backTo pos (starEach args env)) (backToKw pos (keywordEach [] env))) := by rfl
  rw [e, base_ok h]
  unfold methodCall calleeOf methodCallPos
  rw [few_ok ns hn, hl]
  rfl
theorem ok_im {c m : Nat} {g : FnSem} {a b : E} {cs : Es} {y x : Expr} {xs : List Expr} (C : Cn W X xc Wx T sc ca) (B : Cf W X T G k ca) (hca : ca = true) (hn : (x :: xs).length < 30) (hl : (p.endLine == pos.line) = true) (hf : G.meth c m = some g) (hm : m < W.nf) (hd : dotOk y = true) (ho : Eok W X xc Wx G a y) (h : Eok W X xc Wx G b x) (hs : Aok W X xc Wx G cs xs) :
    Eok W X xc Wx G (.im c a m (.cons b cs)) (.Call (.Attribute y (T.fld m) p) (x :: xs) [] pos) := by
  refine .of rfl C.K ?_ (fun _ => rfl) fun _ => rfl
  obtain ⟨f, fd, ps, F, m1, m2, m3⟩ := B.meth c m g hf
  refine (pe_methS (E := WE Wx) (pl := _) ho.fz m1 m2 F ((B.room hca).mono (Nat.le_succ _)) C.gd m3 .nil (fun σ => passAt C.tk σ) (aok_cons h hs).v (h.ns xs) hs.any (eval_meth hd (aok_cons h hs).ns hn hl)).imp fun σ H Q q => ?_
  refine (q.bind (rel := relD W)).mono fun u H1 ⟨e, F, mm, d, s, S, r, g1⟩ => ?_
  cases q1 : D.see s.hp d with
  | none => rw [q1] at g1; exact g1.elim
  | some d2 =>
    rw [q1] at g1
    cases d2 with
    | ins c' fs =>
      have g1 : Go W xc Wx e F mm σ (if c' = c ∧ (fs.lookup m).isNone then ((evs G (.cons b cs)).v s).bind fun ds s => callFn (G.meth c m) (d :: ds) s else .bad) (relV W) Q := g1
      by_cases hc : c' = c ∧ (fs.lookup m).isNone
      · rw [if_pos hc] at g1
        obtain ⟨rfl, hn⟩ := hc
        obtain ⟨a', dx, gs, rfl, h1, h2⟩ := Rep.see S r q1
        refine ⟨a', dx, gs, rfl, h1, by rw [← C.fld]; exact Repf.none hm h2 (by simpa using hn), ?_⟩
        refine ⟨e, F, mm, s, S, (g1.bind (rel := relA W)).mono fun us H2 ⟨ds, s2, F2, m2', S2, x2, r2, g2⟩ => ?_⟩
        rw [hf] at g2
        rw [List.append_nil]
        exact call_ok S2 (Reps.cons (Rep.mono x2 r) r2) g2
      · rw [if_neg hc] at g1
        exact g1.elim
    | _ => exact g1.elim
theorem ok_im0 {c m : Nat} {g : FnSem} {a : E} {y : Expr} (C : Cn W X xc Wx T sc ca) (B : Cf W X T G k ca) (hca : ca = true) (hl : (p.endLine == pos.line) = true) (hf : G.meth c m = some g) (hm : m < W.nf) (hd : dotOk y = true) (ho : Eok W X xc Wx G a y) :
    Eok W X xc Wx G (.im c a m .nil) (.Call (.Attribute y (T.fld m) p) [] [] pos) := by
  refine .of rfl C.K ?_ (fun _ => rfl) fun _ => rfl
  obtain ⟨f, fd, ps, F, m1, m2, m3⟩ := B.meth c m g hf
  refine (pe_methS0 (E := WE Wx) (pl := _) ho.fz m1 m2 F ((B.room hca).mono (Nat.le_succ _)) C.gd m3 .nil (fun σ => passAt C.tk σ) (eval_meth hd (fun q hq => by cases hq) (by decide) hl)).imp fun σ H Q q => ?_
  refine (q.bind (rel := relD W)).mono fun u H1 ⟨e, F, mm, d, s, S, r, g1⟩ => ?_
  cases q1 : D.see s.hp d with
  | none => rw [q1] at g1; exact g1.elim
  | some d2 =>
    rw [q1] at g1
    cases d2 with
    | ins c' fs =>
      have g1 : Go W xc Wx e F mm σ (if c' = c ∧ (fs.lookup m).isNone then callFn (G.meth c m) [d] s else .bad) (relV W) Q := g1
      by_cases hc : c' = c ∧ (fs.lookup m).isNone
      · rw [if_pos hc] at g1
        obtain ⟨rfl, hn⟩ := hc
        obtain ⟨a', dx, gs, rfl, h1, h2⟩ := Rep.see S r q1
        refine ⟨a', dx, gs, rfl, h1, by rw [← C.fld]; exact Repf.none hm h2 (by simpa using hn), ?_⟩
        rw [hf] at g1
        exact call_ok S (Reps.cons r Reps.nil) g1
      · rw [if_neg hc] at g1
        exact g1.elim
    | _ => exact g1.elim

/-! ### isinstance -/
def tyName : Ty → Str
  | .int => "int" | .bool => "bool" | .str => "str" | .list => "list" | .tuple => "tuple" | .cls _ => ""
def tyStr : Ty → String
  | .int => "int" | .bool => "bool" | .str => "str" | .list => "list" | .tuple => "tuple" | .cls _ => ""
theorem ok_isi {t : Ty} {a : E} {x y : Expr} {cv : V} (C : Cn W X xc Wx T sc ca) (B : Cf W X T G k ca) (hg : sc.names.lookup ("isinstance" : Str) = some .globalImplicit) (ha : Eok W X xc Wx G a x) (hy : PE X y (tC cv)) (hcv : (∃ c, t = .cls c ∧ cv = .ref (W.cad c)) ∨ ((∀ c, t ≠ .cls c) ∧ cv = .ty (tyStr t)))
    (ns : ∀ es, starEach (y :: es) X.env = (false, eval y X.env) :: starEach es X.env) : Eok W X xc Wx G (.isi t a) (.Call (.Name "isinstance" p) [x, y] [] pos) := by
  refine .of rfl C.K ((pe_callB call_isi (C.gl hg) (B.free _ (by decide)) (by decide +kernel) (pa_cons ha.p (pa_cons hy pa_nil (ns [])) (ha.ns [y])) (by decide) (by decide) (ha.ns [y]) (by rw [ns []]; rfl)).imp fun σ H Q h => ?_) (fun _ => rfl) fun _ => rfl
  refine (h.bind (rel := relP W)).mono fun u H1 ⟨e, F, m, q, s, S, r, g⟩ => ?_
  obtain ⟨rr, e1, g2⟩ := g.opt
  cases q1 : q.get s with
  | none => rw [q1] at e1; cases e1
  | some d =>
    rw [q1] at e1
    have e1 : (isiRun G.ic t d).map (fun b => R.val (.bl b)) = some rr := e1
    simp only [Option.map_eq_some_iff] at e1
    obtain ⟨b, hb, rfl⟩ := e1
    have sd := See.of_get S r q1
    have Qb : Q (.bl b) H1 := g2 _ F m H1 S (Ext.refl _ _) rv_bl
    -- a value of a built-in type
    have base : ∀ (T' : String), T' ∈ (["NoneType", "bool", "int", "str", "list", "tuple"] : List String) → TyX X.K H1 u (.type T') → (∀ c, t = .cls c → (G.ic c = true ∧ b = false)) → ((∀ c, t ≠ .cls c) → kitB T' (tyStr t) = some b) →
        rIsi X.K [u, cv] H1 Q := fun T' hT ty hc ht => by
      rcases hcv with ⟨c, rfl, rfl⟩ | ⟨hno, rfl⟩
      · obtain ⟨hi, rfl⟩ := hc c rfl
        exact ⟨u, _, _, _, _, rfl, .own _, ty, (B.ic c hi).down T' hT, Qb⟩
      · exact ⟨u, _, _, _, _, rfl, .ty _, ty, kit_ty (ht hno), Qb⟩
    have cl : ∀ {d' : D}, isiB G.ic t d' = some b → ∀ c, t = .cls c → (G.ic c = true ∧ b = false) := fun {d'} hb c ec => by
      subst ec
      have hb : (if G.ic c then some false else none) = some b := hb
      by_cases hi : G.ic c = true
      · rw [if_pos hi] at hb
        cases hb
        exact ⟨hi, rfl⟩
      · rw [if_neg hi] at hb
        cases hb
    have bt : ∀ {d' : D}, isiB G.ic t d' = some b → (∀ c, t ≠ .cls c) → b = isiSem t d' := fun {d'} hb hno => by
      cases t with
      | cls c => exact absurd rfl (hno c)
      | _ => cases hb; rfl
    cases d with
    | non =>
      cases sd.non
      refine base "NoneType" (by decide) (.base .non) (cl hb) fun hno => ?_
      rw [bt hb hno]
      cases t <;> first | exact absurd rfl (hno _) | (show _ = some true; decide +kernel) | (show _ = some false; decide +kernel)
    | bl z =>
      cases sd.bl
      refine base "bool" (by decide) (.base (.bl _)) (cl hb) fun hno => ?_
      rw [bt hb hno]
      cases t <;> first | exact absurd rfl (hno _) | (show _ = some true; decide +kernel) | (show _ = some false; decide +kernel)
    | int z =>
      cases sd.int
      refine base "int" (by decide) (.base (.int _)) (cl hb) fun hno => ?_
      rw [bt hb hno]
      cases t <;> first | exact absurd rfl (hno _) | (show _ = some true; decide +kernel) | (show _ = some false; decide +kernel)
    | str z =>
      cases sd.str
      refine base "str" (by decide) (.base (.str _)) (cl hb) fun hno => ?_
      rw [bt hb hno]
      cases t <;> first | exact absurd rfl (hno _) | (show _ = some true; decide +kernel) | (show _ = some false; decide +kernel)
    | lst xs =>
      obtain ⟨a', vs, rfl, h1, _⟩ := sd
      refine base "list" (by decide) (.base (.lst h1)) (cl hb) fun hno => ?_
      rw [bt hb hno]
      cases t <;> first | exact absurd rfl (hno _) | (show _ = some true; decide +kernel) | (show _ = some false; decide +kernel)
    | tup xs =>
      obtain ⟨a', vs, rfl, h1, _⟩ := sd.tup
      have ty : TyX X.K H1 (.ref a') (.type "tuple") := by
        rcases h1 with (z | ⟨o, z⟩) | ⟨o, its, n, z, z2, _⟩
        · exact .base (.tup (S.sub _ _ z))
        · exact .fTuple (S.sub _ _ z)
        · exact .kTuple (by rw [C.K]; exact z) z2
      refine base "tuple" (by decide) ty (cl hb) fun hno => ?_
      rw [bt hb hno]
      cases t <;> first | exact absurd rfl (hno _) | (show _ = some true; decide +kernel) | (show _ = some false; decide +kernel)
    | ins c fs =>
      obtain ⟨a', dx, gs, rfl, h1, _⟩ := sd
      have hb : (if G.ic c then (match t with | .cls k => if G.ic k then some (decide (c = k)) else none | _ => some false) else none) = some b := hb
      by_cases hi : G.ic c = true
      · rw [if_pos hi] at hb
        have I := B.ic c hi
        have ty : TyX X.K H1 (.ref a') (.ref (W.cad c)) := .base (.ins h1 I.cls I.ha I.hn I.htk I.hm)
        rcases hcv with ⟨c', rfl, rfl⟩ | ⟨hno, rfl⟩
        · have hb : (if G.ic c' then some (decide (c = c')) else none) = some b := hb
          by_cases hj : G.ic c' = true
          · rw [if_pos hj] at hb
            cases hb
            exact ⟨_, _, _, _, _, rfl, .own _, ty, I.own c' hj, Qb⟩
          · rw [if_neg hj] at hb
            cases hb
        · have eb : b = false := by
            cases t with
            | cls c' => exact absurd rfl (hno c')
            | _ => cases hb; rfl
          subst eb
          refine ⟨_, _, _, _, _, rfl, .ty _, ty, I.up _ ?_, Qb⟩
          cases t with
          | cls c' => exact absurd rfl (hno c')
          | _ => decide
      · rw [if_neg hi] at hb
        cases hb
    | cell i => exact sd.elim
    | ext xs => cases hb
    | rng _ _ => cases hb
end
end MP
set_option Elab.async false
set_option linter.all false
set_option maxRecDepth 100000
set_option maxHeartbeats 8000000
/-! MPLn: what names no cell from n on; a name's own list lent as a cell. -/
namespace MP
open PySem PySem.Spec PyProof.Rows L2
section
variable {W : Wd} {xc : XC} {X : Cx} {Wx : WX} {T : Tab} {sc : Scope} {ca : Bool} {G : Env} {k : Nat} {F F1 : Hp} {m m1 : List Addr} {e : En} {s : St} {σ : L2.St} {H : Hp}
mutual
theorem Rep.cutL {m2 : List Addr} : ∀ {d : D} {v : V}, D.bel m.length d = true → Rep W F (m ++ m2) d v → Rep W F m d v
  | .non, _, _, h => by unfold Rep at h ⊢; exact h
  | .bl _, _, _, h => by unfold Rep at h ⊢; exact h
  | .int _, _, _, h => by unfold Rep at h ⊢; exact h
  | .str _, _, _, h => by unfold Rep at h ⊢; exact h
  | .rng _ _, _, _, h => by unfold Rep at h ⊢; exact h
  | .tup xs, _, b, h => by
    unfold Rep at h ⊢
    obtain ⟨a, vs, h1, h2, h3⟩ := h
    exact ⟨a, vs, h1, h2, Reps.cutL (by simpa [D.bel] using b) h3⟩
  | .lst xs, _, b, h => by
    unfold Rep at h ⊢
    obtain ⟨a, vs, h1, h2, h3⟩ := h
    exact ⟨a, vs, h1, h2, Reps.cutL (by simpa [D.bel] using b) h3⟩
  | .ext xs, _, b, h => by
    unfold Rep at h ⊢
    obtain ⟨a, vs, h1, h2, h3⟩ := h
    exact ⟨a, vs, h1, h2, Reps.cutL (by simpa [D.bel] using b) h3⟩
  | .ins c fs, _, b, h => by
    unfold Rep at h ⊢
    obtain ⟨a, dx, gs, h1, h2, h3⟩ := h
    exact ⟨a, dx, gs, h1, h2, Repf.cutL (by simpa [D.bel] using b) h3⟩
  | .cell i, _, b, h => by
    unfold Rep at h ⊢
    obtain ⟨a, h1, h2⟩ := h
    have hb : i < m.length := by simpa [D.bel] using b
    rw [List.getElem?_append_left hb] at h1
    exact ⟨a, h1, h2⟩
theorem Reps.cutL {m2 : List Addr} : ∀ {ds : List D} {vs : List V}, D.bels m.length ds = true → Reps W F (m ++ m2) ds vs → Reps W F m ds vs
  | [], _, _, h => by unfold Reps at h ⊢; exact h
  | d :: ds, _, b, h => by
    unfold Reps at h ⊢
    obtain ⟨v, r, h1, h2, h3⟩ := h
    simp only [D.bels, Bool.and_eq_true] at b
    exact ⟨v, r, h1, Rep.cutL b.1 h2, Reps.cutL b.2 h3⟩
theorem Repf.cutL {m2 : List Addr} : ∀ {fs : List (Nat × D)} {gs : List (Str × V)}, D.belf m.length fs = true → Repf W F (m ++ m2) fs gs → Repf W F m fs gs
  | [], _, _, h => by unfold Repf at h ⊢; exact h
  | (f, d) :: fs, _, b, h => by
    unfold Repf at h ⊢
    obtain ⟨h0, v, r, h1, h2, h3⟩ := h
    simp only [D.belf, Bool.and_eq_true] at b
    exact ⟨h0, v, r, h1, Rep.cutL b.1 h2, Repf.cutL b.2 h3⟩
end
/-- a list of addresses that goes on another -/
theorem pre_of {m m2 : List Addr} (h : ∀ (i : Nat) (a : Addr), m[i]? = some a → m2[i]? = some a) : ∃ r, m2 = m ++ r := by
  refine ⟨m2.drop m.length, ?_⟩
  refine List.ext_getElem? fun i => ?_
  by_cases hl : i < m.length
  · rw [List.getElem?_append_left hl, h i m[i] (List.getElem?_eq_getElem hl), List.getElem?_eq_getElem hl]
  · rw [List.getElem?_append_right (by omega), List.getElem?_drop]
    congr 1
    omega
theorem cells_cut {m r : List Addr} {h : List Cell} {F' : Hp} (n : Nat) (hn : n = m.length) (C : Cells W F (m ++ r) h H) (hf : Same F F') (hnn : ∀ a ∈ m, F' a = none) (hb : (h.take n).all (Cell.below n) = true) : Cells W F' m (h.take n) H := by
  subst hn
  have hlen : m.length ≤ h.length := by rw [← C.len, List.length_append]; omega
  refine ⟨by rw [List.length_take]; omega, (List.nodup_append.mp C.nd).1, fun i c a h1 h2 => ⟨hnn a (List.mem_of_getElem? h2), ?_⟩⟩
  have hi : i < m.length := (List.getElem?_eq_some_iff.mp h2).1
  have h1' : h[i]? = some c := by
    rw [List.getElem?_take_of_lt hi] at h1
    exact h1
  have hc := List.all_eq_true.mp hb c (List.mem_of_getElem? h1)
  obtain ⟨_, ok⟩ := C.ok i c a h1' (by rw [List.getElem?_append_left hi]; exact h2)
  cases c with
  | lst xs =>
    obtain ⟨vs, g1, g2⟩ := ok
    exact ⟨vs, g1, (Reps.cutL hc g2).mono ⟨hf, fun _ _ z => z⟩⟩
  | ins c fs =>
    obtain ⟨dx, gs, g1, g2⟩ := ok
    exact ⟨dx, gs, g1, (Repf.cutL hc g2).mono ⟨hf, fun _ _ z => z⟩⟩
/-! ### lending -/
theorem Cells.lend {xs : List D} {a : Addr} {vs : List V} {h : List Cell} (C : Cells W F m h H) (hH : H a = some (.lst vs)) (r : Reps W F m xs vs) (hF : F a = none) (hm : a ∉ m) : Cells W F (m ++ [a]) (h ++ [.lst xs]) H := by
  have x : Ext F m F (m ++ [a]) := ⟨Same.refl F, fun i b z => by rw [List.getElem?_append_left (List.getElem?_eq_some_iff.mp z).1]; exact z⟩
  refine ⟨by simp [C.len], ?_, fun i c b h1 h2 => ?_⟩
  · rw [List.nodup_append]
    refine ⟨C.nd, by simp, fun b hb c hc => ?_⟩
    have : c = a := by simpa using hc
    rw [this]
    exact fun e => hm (e ▸ hb)
  · by_cases hi : i < h.length
    · rw [List.getElem?_append_left hi] at h1
      rw [List.getElem?_append_left (by rw [C.len]; exact hi)] at h2
      obtain ⟨g1, g2⟩ := C.ok i c b h1 h2
      exact ⟨g1, g2.mono x fun o z => z⟩
    · have hl := (List.getElem?_eq_some_iff.mp h1).1
      have hi2 : i = h.length := by simp at hl; omega
      subst hi2
      rw [List.getElem?_append_right (Nat.le_refl _)] at h1
      rw [List.getElem?_append_right (by rw [C.len]; exact Nat.le_refl _)] at h2
      simp at h1
      simp [C.len] at h2
      subst h1 h2
      exact ⟨hF, vs, hH, r.mono x⟩
theorem lend_sim {i : Nat} {xs : List D} {o : Option V} (S : Sim W xc e F m s σ H) (hi : s.sl[i]? = some (.own xs)) (ho : σ[i]? = some o) :
    ∃ a, o = some (.ref a) ∧ a ∉ m ∧ F a = none ∧ e.H a = none ∧ Sim W xc e F (m ++ [a]) ⟨s.sl.set i (.val (.cell s.hp.length)), s.hp ++ [.lst xs]⟩ σ H ∧ Ext F m F (m ++ [a]) := by
  obtain ⟨a, vs, rfl, h1, h2, h3, h4, h5⟩ := S.slot i _ _ hi ho
  have x : Ext F m F (m ++ [a]) := ⟨Same.refl F, fun i b z => by rw [List.getElem?_append_left (List.getElem?_eq_some_iff.mp z).1]; exact z⟩
  refine ⟨a, rfl, h4, h3, h5, ⟨S.sub, S.cells.lend h1 h2 h3 h4, by simp [S.len], fun j y p g1 g2 => ?_, fun j l ys zs b g1 g2 g3 g4 => ?_, S.ext.trans x, S.fr, S.keep, fun b hb hn => ?_⟩, x⟩
  · have g1 : (s.sl.set i (.val (.cell s.hp.length)))[j]? = some y := g1
    rw [List.getElem?_set] at g1
    split at g1
    · split at g1
      · cases g1
        subst_vars
        rw [ho] at g2
        cases g2
        refine ⟨.ref a, rfl, ?_⟩
        unfold Rep
        exact ⟨a, by rw [List.getElem?_append_right (by rw [S.cells.len]; exact Nat.le_refl _)]; simp [S.cells.len], rfl⟩
      · cases g1
    · rename_i hne
      have ok := S.slot j y p g1 g2
      cases y with
      | no => exact trivial
      | val d =>
        obtain ⟨v, q1, q2⟩ := ok
        exact ⟨v, q1, q2.mono x⟩
      | own zs =>
        obtain ⟨b, us, rfl, q1, q2, q3, q4, q5⟩ := ok
        refine ⟨b, us, rfl, q1, q2.mono x, q3, fun hb => ?_, q5⟩
        rcases List.mem_append.mp hb with hb | hb
        · exact q4 hb
        · have : b = a := by simpa using hb
          subst this
          exact hne (S.apart i j xs zs b hi g1 ho g2)
      | exc y =>
        obtain ⟨b, cls, d, q1, q2, q3⟩ := ok
        exact ⟨b, cls, d, q1, q2, q3.mono x⟩
  · have g1 : (s.sl.set i (.val (.cell s.hp.length)))[j]? = some (.own ys) := g1
    have g2 : (s.sl.set i (.val (.cell s.hp.length)))[l]? = some (.own zs) := g2
    rw [List.getElem?_set] at g1 g2
    split at g1
    · split at g1 <;> cases g1
    · split at g2
      · split at g2 <;> cases g2
      · exact S.apart j l ys zs b g1 g2 g3 g4
  · rcases List.mem_append.mp hb with hb | hb
    · exact S.new b hb hn
    · have : b = a := by simpa using hb
      rw [this]
      exact h5
/-- .. and taken back -/
theorem back_sim {i n : Nat} {ys : List D} {a : Addr} {s2 : St} {F2 : Hp} {m2 : List Addr} {H2 : Hp} {v : V} (hn : n = m.length) (ha : a ∉ m) (he : e.H a = none) (x0 : Ext e.F e.m F m) (x : Ext F (m ++ [a]) F2 m2) (S : Sim W xc e F2 m2 s2 σ H2) (ho : σ[i]? = some (some v))
    (h1 : s2.hp[n]? = some (.lst ys)) (h2 : s2.sl[i]? = some (.val (.cell n))) (hl : s2.hp.length = n + 1) (hy : D.bels n ys = true) (hc : (s2.hp.take n).all (Cell.below n) = true) (hs : (s2.sl.set i .no).all (Slot.bel n) = true) :
    Sim W xc e F2 m ⟨s2.sl.set i (.own ys), s2.hp.take n⟩ σ H2 ∧ Ext F m F2 m ∧ m2 = m ++ [a] ∧ v = .ref a := by
  subst hn
  obtain ⟨r, em⟩ := pre_of (m := m ++ [a]) x.mx
  have er : r = [] := by
    have l1 := S.cells.len
    rw [em, hl] at l1
    simp at l1
    exact l1
  subst er
  rw [List.append_nil] at em
  subst em
  have xg : (m ++ [a])[m.length]? = some a := by rw [List.getElem?_append_right (Nat.le_refl _)]; simp
  have hv : v = .ref a := by
    obtain ⟨u, q1, q2⟩ := S.slot i _ _ h2 ho
    unfold Rep at q2
    obtain ⟨b, q3, rfl⟩ := q2
    rw [xg] at q3
    cases q3
    exact Option.some.inj q1
  subst hv
  obtain ⟨fa, vs, g1, g2⟩ := S.cells.ok _ _ a h1 xg
  have xm : Ext F m F2 m := ⟨x.fx, fun _ _ z => z⟩
  have nm : ∀ b ∈ m, F2 b = none := fun b hb => by
    obtain ⟨j, hj⟩ := List.mem_iff_getElem?.mp hb
    have hjl := (List.getElem?_eq_some_iff.mp hj).1
    have hj2 : j < s2.hp.length := by omega
    exact (S.cells.ok j s2.hp[j] b (List.getElem?_eq_getElem hj2) (by rw [List.getElem?_append_left hjl]; exact hj)).1
  have slb : ∀ (j : Nat) (y : Slot), j ≠ i → s2.sl[j]? = some y → Slot.bel m.length y = true := fun j y hj hy =>
    List.all_eq_true.mp hs y (List.mem_of_getElem? (i := j) (by rw [List.getElem?_set_ne (Ne.symm hj)]; exact hy))
  refine ⟨⟨S.sub, cells_cut m.length rfl S.cells (Same.refl _) nm hc, ?_, fun j y p g3 g4 => ?_, fun j l us zs b g3 g4 g5 g6 => ?_, x0.trans xm, S.fr, S.keep, fun b hb hn => S.new b (List.mem_append_left _ hb) hn⟩, xm, rfl, rfl⟩
  · have := S.len
    simp only [List.length_set]
    exact this
  · have g3 : (s2.sl.set i (.own ys))[j]? = some y := g3
    rw [List.getElem?_set] at g3
    split at g3
    · split at g3
      · cases g3
        subst_vars
        rw [ho] at g4
        cases g4
        exact ⟨a, vs, rfl, g1, Reps.cutL hy g2, fa, ha, he⟩
      · cases g3
    · rename_i hne
      have ok := S.slot j y p g3 g4
      have hb := slb j y (fun z => hne z.symm) g3
      cases y with
      | no => exact trivial
      | val d =>
        obtain ⟨u, q1, q2⟩ := ok
        exact ⟨u, q1, Rep.cutL (show D.bel m.length d = true from hb) q2⟩
      | own zs =>
        obtain ⟨b, us, rfl, q1, q2, q3, q4, q5⟩ := ok
        exact ⟨b, us, rfl, q1, Reps.cutL (show D.bels m.length zs = true from hb) q2, q3, fun z => q4 (List.mem_append_left _ z), q5⟩
      | exc y => cases hb
  · replace g3 : (s2.sl.set i (.own ys))[j]? = some (.own us) := g3
    replace g4 : (s2.sl.set i (.own ys))[l]? = some (.own zs) := g4
    have away : ∀ (q : Nat) (ws : List D), q ≠ i → s2.sl[q]? = some (.own ws) → σ[q]? = some (some (.ref a)) → False := fun q ws hq h7 h8 => by
      obtain ⟨b, us', e1, _, _, _, q4, _⟩ := S.slot q _ _ h7 h8
      cases e1
      exact q4 (List.mem_append_right _ (by simp))
    rw [List.getElem?_set] at g3 g4
    split at g3
    · subst_vars
      rw [ho] at g5
      cases g5
      split at g4
      · assumption
      · rename_i hne
        exact (away l zs (fun z => hne z.symm) g4 g6).elim
    · rename_i hne
      split at g4
      · subst_vars
        rw [ho] at g6
        cases g6
        exact (away j us (fun z => hne z.symm) g3 g5).elim
      · exact S.apart j l us zs b g3 g4 g5 g6
theorem ok_lend {i : Nat} {c : E} {x : Expr} (h : Eok W X xc Wx G c x) : Eok W X xc Wx G (.lend i c) x := by
  have hv : PE X x (Sp1 W xc Wx (lendV i (ev G c).v) (relV W)) := h.v.imp fun σ H Q q => by
    obtain ⟨e, F, m, s, S, g⟩ := q
    unfold lendV at g
    cases q1 : s.sl[i]? with
    | none => rw [q1] at g; exact g.elim
    | some sl =>
      rw [q1] at g
      cases sl with
      | own xs =>
        have hi : i < σ.length := by rw [← S.len]; exact (List.getElem?_eq_some_iff.mp q1).1
        obtain ⟨a, ea, hm, hF, he, S1, x1⟩ := lend_sim S q1 (List.getElem?_eq_getElem hi)
        refine ⟨e, F, m ++ [a], _, S1, ?_⟩
        simp only at g
        cases q2 : (ev G c).v ⟨s.sl.set i (.val (.cell s.hp.length)), s.hp ++ [.lst xs]⟩ with
        | bad => rw [q2] at g; exact g.elim
        | exc y s2 => rw [q2] at g; exact g.elim
        | ok r s2 =>
          rw [q2] at g
          intro v F2 m2 H2 S2 x2 rr
          simp only at g
          cases q3 : s2.hp[s.hp.length]? with
          | none => simp only [q3] at g; exact g.elim
          | some cl => cases cl with
            | ins _ _ => simp only [q3] at g; exact g.elim
            | lst ys =>
              cases q4 : s2.sl[i]? with
              | none => simp only [q3, q4] at g; exact g.elim
              | some z => cases z with
                | val d => cases d with
                  | cell j =>
                    simp only [q3, q4] at g
                    by_cases hc : j = s.hp.length ∧ s2.hp.length = s.hp.length + 1 ∧ R.bel s.hp.length r = true ∧ D.bels s.hp.length ys = true ∧ (s2.hp.take s.hp.length).all (Cell.below s.hp.length) = true ∧ (s2.sl.set i .no).all (Slot.bel s.hp.length) = true
                    · rw [if_pos hc] at g
                      obtain ⟨rfl, c1, c2, c3, c4, c5⟩ := hc
                      obtain ⟨S3, x3, em, _⟩ := back_sim S.cells.len.symm hm he S.ext x2 S2 (by rw [List.getElem?_eq_getElem hi, ea]) q3 q4 c1 c3 c4 c5
                      subst em
                      refine g v F2 m H2 S3 x3 ?_
                      have lenm := S.cells.len
                      cases r with
                      | val d =>
                        have rr : Rep W F2 (m ++ [a]) d v := rr
                        show Rep W F2 m d v
                        exact Rep.cutL (by rw [lenm]; exact c2) rr
                      | own zs =>
                        obtain ⟨b, rfl, L⟩ := rr
                        obtain ⟨vs, l1, l2⟩ := L.at_
                        refine ⟨b, rfl, ⟨⟨vs, l1, Reps.cutL (by rw [lenm]; exact c2) l2⟩, L.nf, fun z => L.nm (List.mem_append_left _ z), L.ne, fun j ws h7 h8 => ?_⟩⟩
                        have h7 : (s2.sl.set i (.own ys))[j]? = some (.own ws) := h7
                        rw [List.getElem?_set] at h7
                        split at h7
                        · subst_vars
                          rw [List.getElem?_eq_getElem hi, ea] at h8
                          cases h8
                          exact L.nm (List.mem_append_right _ (by simp))
                        · exact L.ns j ws h7 h8
                    · rw [if_neg hc] at g
                      exact g.elim
                  | _ => simp only [q3, q4] at g; exact g.elim
                | _ => simp only [q3, q4] at g; exact g.elim
      | _ => exact g.elim
  exact ⟨hv, h.t.imp fun σ H Q q => by
    obtain ⟨e, F, m, s, S, g⟩ := q
    exact (show False from g).elim, hv.imp fun σ H Q q => p_of q, h.ns⟩
end
end MP
set_option Elab.async false
set_option linter.all false
set_option maxRecDepth 100000
set_option maxHeartbeats 4000000
/-! MPS: set(list of ints). -/
namespace PySem
namespace MPX
open PySem.Spec PyProof.Rows L2
section
variable {P : Program} {w : World} {A : Around} {E : Value → Shared → Prop} {s : Shared}
set_option maxHeartbeats 6400000 in
/-- set(l), l a list of ints: the tuple's case of SetFor, with the list's iterator -/
theorem set_of_list {l : Addr} {items : Array Value} (ns : List Int) {Q : Value → Shared → Prop} (hh : A.handled = none) (hl : s.heap.IsList l items) (hit : IntsAre items.toList ns) (hb : ns.length + 1 < scanBound)
    (h : ∀ (h' : Heap) (tk c : Nat), SetR w h' s.heap.objs.size (fun j => decide (j ∈ ns)) c → c ≤ ns.length → (∀ b o, s.heap.get? b = some o → h'.get? b = some o) → Q (.ref s.heap.objs.size) { s with heap := h', toks := tk }) :
    wpAny (model P w) A (call (.type "set") [.ref l]) Q E s := by
  have size : items.size = ns.length := by simpa using IntsAre.length hit
  obtain ⟨c, tl, hmro⟩ := F.called_set.mro
  have m1 := F.called_set.made
  have m2 := F.called_set.sub
  have m3 := F.called_set.notType
  have m4 := F.called_set.canCreate
  have m5 := F.typeCall_set_1 (.ref l)
  refine wpAny_call (codeAny_of_tree (?_ : wpAny _ _ (callAny (.type "set") _) _ _ _))
  refine wpAny_pure ⟨Code.quiet_builtin _ (by decide +kernel), codeAny_builtin F.entry_type_call ?_⟩
  rw [Around.under_plain (weight_type_call_type "set" [.ref l] []) rfl]
  repeat (any_goals (first | assumption | wp_step))
  generalize ho0 : ({ cls := .type "set", dict := none, data := .set #[] 0 (.fresh 0 0 (!w.params.followText "set-order")) } : Obj) = o0
  have new1 := code_set_led1 (P := P) (w := w) (A := A.in1) (s := s) (.ref l) (E := E) (Q₁ := fun obj s₁ => obj = .ref s.heap.objs.size ∧ s₁ = { s with heap := s.heap.push o0 }) ⟨rfl, by rw [← ho0]⟩
  refine codeAny_mono new1 fun r s₁ hr => ?_
  rcases r with e | fl
  · exact hr
  · cases fl with
    | ret obj =>
      obtain ⟨rfl, rfl⟩ := hr
      have hS : (s.heap.push o0).get? s.heap.objs.size = some o0 := Heap.get?_push_size _ (by rw [← ho0]; rfl)
      have hT : Shared.TypeIs { s with heap := s.heap.push o0 } (.ref s.heap.objs.size) "set" := ⟨_, hS, by rw [← ho0]⟩
      have i1 := F.called_set.init.lookup
      have i2 := F.called_set.init.bind (.ref s.heap.objs.size)
      repeat (any_goals (first | assumption | wp_step))
      let Ends2 : Value → Shared → Prop := fun r s₂ => r = .none ∧ ∃ h' tk c, s₂ = { s with heap := h', toks := tk } ∧ SetR w h' s.heap.objs.size (fun j => decide (j ∈ ns)) c ∧ c ≤ ns.length ∧ ∀ b o, s.heap.get? b = some o → h'.get? b = some o
      refine codeAny_mono (codeAny_call_builtin (R := wants Ends2 E) F.called_set.init.plain F.entry_set_init (check_set_init_1 hT ?_)) fun r₂ s₂ hr₂ => ?_
      · have hl1 : (s.heap.push o0).IsList l items := hl.push _
        obtain ⟨⟨ocls, odict, odata, oslots⟩, hol, hcl, nl, hdl⟩ := hl
        simp only at hcl hdl
        subst hcl hdl
        have hol2 := Heap.get?_push_of_some o0 hol
        have n1 := F.sub_list_set
        have n2 := F.sub_list_frozenset
        have n3 : (Value.type "list" == Value.type "dict") = false := by decide
        subst ho0
        unfold Builtin.«set.__init__» noKeywords Builtin.Frozenset.updateFrom
        generalize hPI : pyIter = PI
        wp_walk
        subst hPI
        refine wpAny_pyIter_list hl1 ?_
        refine wpAny_bind (wpAny_runValue ?_)
        have lt : l < s.heap.objs.size := Heap.lt_size hol
        have sz : (s.heap.push { cls := .type "set", dict := none, data := .set #[] 0 (.fresh 0 0 (!w.params.followText "set-order")) }).objs.size = s.heap.objs.size + 1 := Heap.size_push ..
        have apart : l ≠ (s.heap.push { cls := .type "set", dict := none, data := .set #[] 0 (.fresh 0 0 (!w.params.followText "set-order")) }).objs.size := by
          rw [sz]
          exact Nat.ne_of_lt (Nat.lt_succ_of_lt lt)
        have out : s.heap.objs.size ∉ [(s.heap.push { cls := .type "set", dict := none, data := .set #[] 0 (.fresh 0 0 (!w.params.followText "set-order")) }).objs.size, l] := by
          rw [sz]
          simp only [List.mem_cons, List.not_mem_nil, or_false, not_or]
          exact ⟨Nat.ne_of_lt (Nat.lt_succ_self _), Nat.ne_of_gt lt⟩
        have vals : ∀ (i : Nat) (v : Value), items[i]? = some v → ∃ k t, ns[i]? = some k ∧ v = .int k t := fun i v hv => by
          have li : i < ns.length := by
            have := (Array.getElem?_eq_some_iff.mp hv).1
            omega
          obtain ⟨t, et⟩ := PyProof.Rows.IntsAre.int_at hit i v (by rw [Array.getElem?_toList]; exact hv)
          exact ⟨ns[i], t, List.getElem?_eq_getElem li, by rw [et, List.getD_eq_getElem?_getD, List.getElem?_eq_getElem li]; rfl⟩
        have room3 : A.in1.in1.in1.handled = none := by simp [hh]
        refine set_update_ints ((Walks.list room3 _ l apart items).toS) s.heap.objs.size out ns size hb vals (items.size - 0) 0 _ (by omega) (Nat.zero_le _) ⟨⟨_, Heap.get?_push_size _ rfl, rfl, rfl⟩, hl1.push _⟩ ?start ?stop
        case start =>
          refine ⟨0, Nat.le_refl 0, setR_new_at ?_⟩
          exact Heap.get?_push_of_some _ hS
        case stop =>
          intro s' c' mv hc' hS'
          obtain ⟨h', g2, d', tk', os'⟩ := s'
          obtain rfl : g2 = s.gens := mv.gens
          obtain rfl : d' = s.drawn := mv.drawn
          obtain rfl : os' = s.os := mv.os
          refine wpAny_pure (wpAny_pure ⟨rfl, h', tk', c', rfl, hS', by omega, fun b o e => ?_⟩)
          have lb : b < s.heap.objs.size := Heap.lt_size e
          refine mv.heap b o ?_ (Heap.get?_push_of_some _ (Heap.get?_push_of_some _ e))
          rw [sz]
          simp only [List.mem_cons, List.not_mem_nil, or_false, not_or]
          exact ⟨Nat.ne_of_lt lb, Nat.ne_of_lt (Nat.lt_succ_of_lt lb)⟩
      · rcases r₂ with e | fl₂
        · exact hr₂
        · cases fl₂ with
          | ret r =>
            obtain ⟨rfl, h', tk, c', rfl, hS', hc', hk'⟩ := hr₂
            repeat (any_goals (first | assumption | wp_step))
            exact h _ _ _ hS' hc' hk'
          | _ => exact hr₂.elim
    | _ => exact hr.elim
/-- all of a list or tuple collected, by its heap -/
theorem collect_at {Q : List Value → Shared → Prop} (it : Addr) {T : String} {o : Obj} {items : Array Value} {n : Nat} (hT : T = "list" ∨ T = "tuple") (ho : s.heap.get? it = some o) (hc : o.cls = .type T) (hd : o.data = .seq items n) (hsz : items.size ≤ sizeLine)
    (hQ : Q items.toList { s with heap := (s.heap.push { cls := .type "list", data := .seq ([] : List Value).toArray }).update s.heap.objs.size (Obj.mapSeq (· ++ items)) }) : wpAny (model P w) A (collect (.ref it)) Q E s := by
  unfold collect
  refine wpAny_bind (wpAny_runValue (codeAny_builtin F.entry_proto_collect ?_))
  rw [Around.under_plainId F.plain_proto_collect _]
  show wpAny _ A.in1 (newList [] >>= fun l => again (.builtin "list.__iadd__" ⟨[l, .ref it], []⟩)) _ _ s
  refine wpAny_bind (wpAny_newObj_type ?_)
  refine wpAny_pure ⟨plainId_quiet F.plain_list_iadd _, codeAny_builtin F.entry_list_iadd ?_⟩
  rw [Around.under_plainId F.plain_list_iadd _]
  show wpAny _ A.in1 (Builtin.List.listExtendWith (.ref s.heap.objs.size) (.ref it) (.ref s.heap.objs.size)) _ _ _
  have hS : (s.heap.push { cls := .type "list", data := .seq ([] : List Value).toArray }).get? s.heap.objs.size = some { cls := .type "list", data := .seq #[] 0 } := Heap.get?_push_size _ rfl
  have hS₂ := Heap.get?_update_self (Obj.mapSeq (· ++ items)) hS rfl
  have fin' : wpAny (model P w) A (match Value.ref s.heap.objs.size with
      | Value.ref a => do
        match (← load a).data with
          | Data.seq xs _ => pure xs.toList
          | _ => unsupported "internal:collect"
      | _ => unsupported "internal:collect") Q E { s with heap := (s.heap.push { cls := .type "list", data := .seq ([] : List Value).toArray }).update s.heap.objs.size (Obj.mapSeq (· ++ items)) } := by
    show wpAny _ A (load s.heap.objs.size >>= _) _ _ _
    refine wpAny_bind (wpAny_load hS₂ ?_)
    refine wpAny_pure ?_
    have e : ((#[] : Array Value) ++ items).toList = items.toList := by simp
    show Q ((#[] : Array Value) ++ items).toList _
    rw [e]
    exact hQ
  refine wpAny_mono (wpAny_extend_seq (hsz := hsz) (A := A) (R := fun r s' => r = .ok (.ret (.ref s.heap.objs.size)) ∧ s' = { s with heap := (s.heap.push { cls := .type "list", data := .seq ([] : List Value).toArray }).update s.heap.objs.size (Obj.mapSeq (· ++ items)) })
    (s := { s with heap := s.heap.push { cls := .type "list", data := .seq ([] : List Value).toArray } }) _ it _ 0 hT hS (Heap.get?_push_of_some _ ho) hc hd ⟨rfl, rfl⟩) (fun fin s' h => ?_) (fun e s' h => ?_)
  · cases fin with
    | done f =>
      obtain ⟨e, rfl⟩ := h
      cases e
      exact fin'
    | again c' => exact ⟨h.1, codeAny_mono h.2 fun r s'' hr => by obtain ⟨rfl, rfl⟩ := hr; exact fin'⟩
  · exact absurd h.1 (by simp)
/-- sorted(l), l a list or a tuple of ints -/
theorem sorted_seqI {l : Addr} {T : String} {o : Obj} {vs : List Value} {n : Nat} {ns : List Int} {Q : Value → Shared → Prop} (hT : T = "list" ∨ T = "tuple") (ho : s.heap.get? l = some o) (hc : o.cls = .type T) (hd : o.data = .seq vs.toArray n) (hI : IntsAre vs ns) (hz : vs.length ≤ sizeLine)
    (h : ∀ (h' : Heap) (a : Addr) (out : List Value) (ns' : List Int) (e : Nat), (∀ b u, s.heap.get? b = some u → h'.get? b = some u) → s.heap.objs.size ≤ a → h'.get? a = some { cls := .type "list", data := .seq out.toArray e } → IntsAre out ns' → ns'.Perm ns → ns'.Pairwise (· ≤ ·) → Q (.ref a) { s with heap := h' }) :
    wpAny (model P w) A (call (.builtin "sorted") [.ref l]) Q E s := by
  refine Calls.call_function_entry kind_sorted plain_sorted entry_sorted (args_sorted1 _) ?_
  unfold Builtin.«sorted»
  refine wpAny_bind (m := checkCount "sorted" 1 1 _) (wpAny_pure ?_)
  refine wpAny_bind (collect_at l hT ho hc hd (by simpa using hz) ?_)
  refine wpAny_bind (wpAny_newList ?_ (by simpa using hz))
  generalize hh1 : (s.heap.push { cls := .type "list", data := .seq ([] : List Value).toArray }).update s.heap.objs.size (Obj.mapSeq (· ++ vs.toArray)) = h1
  have sz1 : h1.objs.size = s.heap.objs.size + 1 := by rw [← hh1, Heap.size_update, size_push']
  have k1 : ∀ b u, s.heap.get? b = some u → h1.get? b = some u := fun b u q => by
    rw [← hh1]
    exact (Heap.get?_update_other _ _ (Nat.ne_of_gt (Heap.lt_size q))).trans (Heap.get?_push_of_some _ q)
  have hoL : (h1.push (seqObj "list" vs.toArray 0)).get? h1.objs.size = some (seqObj "list" vs.toArray 0) := Heap.get?_push_size _ rfl
  have keep : ∀ b u, s.heap.get? b = some u → b ≠ h1.objs.size ∧ (h1.push (seqObj "list" vs.toArray 0)).get? b = some u := fun b u q => ⟨Nat.ne_of_lt (Heap.lt_size (k1 _ _ q)), Heap.get?_push_of_some _ (k1 _ _ q)⟩
  show wpAny _ _ _ _ _ { s with heap := h1.push (seqObj "list" vs.toArray 0) }
  refine wpAny_bind (wpAny_holding (wpAny_call_entry slot_list_sort ⟨_, hoL, rfl⟩ entry_list_sort (SrtO.list_sort_ord SrtO.swo_int hoL hz (fun h2 => SrtO.ints_sortable hI h2) fun out hs hb => ⟨_, rfl, ?_⟩) (args_list_sort _)))
  obtain ⟨k1', k2, k3⟩ := SrtO.ints_out hI hs hb
  obtain ⟨e, he⟩ := sortedHeap_at (out := out.toArray) hoL
  refine wpAny_pure ⟨_, rfl, h _ _ out _ e (fun b u q => ?_) (by rw [sz1]; exact Nat.le_succ _) he k1' k2 k3⟩
  rw [sortedHeap_old (keep b u q).1 (Heap.lt_size (keep b u q).2)]
  exact (keep b u q).2
end
end MPX
end PySem
set_option Elab.async false
set_option linter.all false
set_option maxRecDepth 100000
set_option maxHeartbeats 4000000
/-! MP6: built-ins by values. -/
namespace MP
open PySem PySem.Spec PyProof.Rows L2

/-! ### sorted lists -/
theorem insI_perm (x : Int) : ∀ l : List Int, (insI x l).Perm (x :: l)
  | [] => .refl _
  | y :: ys => by
    unfold insI
    split
    · exact .refl _
    · exact ((insI_perm x ys).cons y).trans (List.Perm.swap x y ys)
theorem insI_sorted {x : Int} : ∀ {l : List Int}, l.Pairwise (· ≤ ·) → (insI x l).Pairwise (· ≤ ·)
  | [], _ => by simp [insI]
  | y :: ys, h => by
    unfold insI
    obtain ⟨h1, h2⟩ := List.pairwise_cons.mp h
    split
    · rename_i c
      refine List.pairwise_cons.mpr ⟨fun z hz => ?_, h⟩
      rcases List.mem_cons.mp hz with e | e
      · omega
      · have := h1 z e; omega
    · rename_i c
      refine List.pairwise_cons.mpr ⟨fun z hz => ?_, insI_sorted h2⟩
      rcases List.mem_cons.mp ((insI_perm x ys).mem_iff.mp hz) with e | e
      · omega
      · exact h1 z e
theorem sortI_perm : ∀ l : List Int, (sortI l).Perm l
  | [] => .refl _
  | x :: l => (insI_perm x (sortI l)).trans ((sortI_perm l).cons x)
theorem sortI_sorted : ∀ l : List Int, (sortI l).Pairwise (· ≤ ·)
  | [] => .nil
  | x :: l => insI_sorted (sortI_sorted l)
theorem sorted_unique : ∀ {l k : List Int}, l.Perm k → l.Pairwise (· ≤ ·) → k.Pairwise (· ≤ ·) → l = k
  | [], k, p, _, _ => by simpa using p.symm.eq_nil.symm
  | x :: l, [], p, _, _ => by simpa using p.eq_nil
  | x :: l, y :: k, p, a, b => by
    obtain ⟨a1, a2⟩ := List.pairwise_cons.mp a
    obtain ⟨b1, b2⟩ := List.pairwise_cons.mp b
    have e : x = y := by
      have m1 : x ∈ y :: k := p.mem_iff.mp List.mem_cons_self
      have m2 : y ∈ x :: l := p.mem_iff.mpr List.mem_cons_self
      rcases List.mem_cons.mp m1 with e | m1
      · exact e
      · rcases List.mem_cons.mp m2 with e | m2
        · exact e.symm
        · have := a1 y m2
          have := b1 x m1
          omega
    subst e
    rw [sorted_unique ((List.perm_cons x).mp p) a2 b2]
theorem insU_mem (x : Int) : ∀ (l : List Int) (z : Int), z ∈ insU x l ↔ z = x ∨ z ∈ l
  | [], z => by simp [insU]
  | y :: ys, z => by
    unfold insU
    split
    · simp
    · split
      · rename_i e
        subst e
        simp
      · simp only [List.mem_cons, insU_mem x ys z]
        exact ⟨fun h => h.elim (fun h => .inr (.inl h)) (fun h => h.elim .inl fun h => .inr (.inr h)), fun h => h.elim (fun h => .inr (.inl h)) fun h => h.elim .inl fun h => .inr (.inr h)⟩
theorem insU_sorted {x : Int} : ∀ {l : List Int}, l.Pairwise (· < ·) → (insU x l).Pairwise (· < ·)
  | [], _ => by simp [insU]
  | y :: ys, h => by
    unfold insU
    obtain ⟨h1, h2⟩ := List.pairwise_cons.mp h
    split
    · refine List.pairwise_cons.mpr ⟨fun z hz => ?_, h⟩
      rcases List.mem_cons.mp hz with e | e
      · omega
      · have := h1 z e; omega
    · split
      · exact h
      · refine List.pairwise_cons.mpr ⟨fun z hz => ?_, insU_sorted h2⟩
        rcases (insU_mem x ys z).mp hz with e | e
        · omega
        · exact h1 z e
theorem sortU_mem : ∀ (l : List Int) (z : Int), z ∈ sortU l ↔ z ∈ l
  | [], z => by simp [sortU]
  | x :: l, z => by
    show z ∈ insU x (sortU l) ↔ _
    rw [insU_mem, sortU_mem l z]
    simp
theorem sortU_sorted : ∀ l : List Int, (sortU l).Pairwise (· < ·)
  | [] => .nil
  | x :: l => insU_sorted (sortU_sorted l)
theorem insU_length (x : Int) : ∀ l : List Int, (insU x l).length ≤ l.length + 1
  | [] => by simp [insU]
  | y :: ys => by
    unfold insU
    split
    · simp
    · split
      · simp
      · have := insU_length x ys
        simp
        exact this
theorem sortU_length : ∀ l : List Int, (sortU l).length ≤ l.length
  | [] => Nat.le_refl _
  | x :: l => Nat.le_trans (insU_length x (sortU l)) (Nat.succ_le_succ (sortU_length l))
theorem strict_unique : ∀ {l k : List Int}, l.Pairwise (· < ·) → k.Pairwise (· < ·) → (∀ z, z ∈ l ↔ z ∈ k) → l = k
  | [], [], _, _, _ => rfl
  | [], y :: k, _, _, h => by simpa using (h y).mpr List.mem_cons_self
  | x :: l, [], _, _, h => by simpa using (h x).mp List.mem_cons_self
  | x :: l, y :: k, a, b, h => by
    obtain ⟨a1, a2⟩ := List.pairwise_cons.mp a
    obtain ⟨b1, b2⟩ := List.pairwise_cons.mp b
    have e : x = y := by
      rcases List.mem_cons.mp ((h x).mp List.mem_cons_self) with e | m1
      · exact e
      · rcases List.mem_cons.mp ((h y).mpr List.mem_cons_self) with e | m2
        · exact e.symm
        · have := a1 y m2
          have := b1 x m1
          omega
    subst e
    refine congrArg (x :: ·) (strict_unique a2 b2 fun z => ?_)
    have q := h z
    simp only [List.mem_cons] at q
    constructor
    · intro hz
      have := a1 z hz
      rcases q.mp (.inr hz) with e | e
      · omega
      · exact e
    · intro hz
      have := b1 z hz
      rcases q.mpr (.inr hz) with e | e
      · omega
      · exact e

/-! ### what is to be read, of a list -/
section
variable {W : Wd} {xc : XC} {F : Hp} {m : List Addr} {H : Hp}
theorem ints_reps : ∀ {xs : List D} {l : List Int} {vs : List V}, D.ints xs = some l → Reps W F m xs vs → vs = l.map V.int
  | [], _, _, e, h => by
    cases e
    unfold Reps at h
    exact h
  | .int i :: xs, l, vs, e, h => by
    unfold Reps at h
    obtain ⟨v, r, rfl, h2, h3⟩ := h
    unfold Rep at h2
    subst h2
    simp only [D.ints, Option.map_eq_some_iff] at e
    obtain ⟨l', e1, rfl⟩ := e
    rw [ints_reps e1 h3]
    rfl
  | .non :: _, _, _, e, _ => by cases e
  | .bl _ :: _, _, _, e, _ => by cases e
  | .str _ :: _, _, _, e, _ => by cases e
  | .tup _ :: _, _, _, e, _ => by cases e
  | .lst _ :: _, _, _, e, _ => by cases e
  | .ins _ _ :: _, _, _, e, _ => by cases e
  | .cell _ :: _, _, _, e, _ => by cases e
  | .ext _ :: _, _, _, e, _ => by cases e
  | .rng _ _ :: _, _, _, e, _ => by cases e
theorem reps_ints : ∀ l : List Int, Reps W F m (l.map .int) (l.map V.int)
  | [] => Reps.nil
  | i :: l => Reps.cons rep_int (reps_ints l)
theorem bools_reps : ∀ {xs : List D} {l : List Bool} {vs : List V}, D.bools xs = some l → Reps W F m xs vs → vs = l.map V.bl
  | [], _, _, e, h => by
    cases e
    unfold Reps at h
    exact h
  | .bl i :: xs, l, vs, e, h => by
    unfold Reps at h
    obtain ⟨v, r, rfl, h2, h3⟩ := h
    unfold Rep at h2
    subst h2
    simp only [D.bools, Option.map_eq_some_iff] at e
    obtain ⟨l', e1, rfl⟩ := e
    rw [bools_reps e1 h3]
    rfl
  | .non :: _, _, _, e, _ => by cases e
  | .int _ :: _, _, _, e, _ => by cases e
  | .str _ :: _, _, _, e, _ => by cases e
  | .tup _ :: _, _, _, e, _ => by cases e
  | .lst _ :: _, _, _, e, _ => by cases e
  | .ins _ _ :: _, _, _, e, _ => by cases e
  | .cell _ :: _, _, _, e, _ => by cases e
  | .ext _ :: _, _, _, e, _ => by cases e
  | .rng _ _ :: _, _, _, e, _ => by cases e
/-- the arguments of a built-in -/
def Sees (W : Wd) (F : Hp) (m : List Addr) (H : Hp) : List D → List V → Prop
  | [], vs => vs = []
  | d :: ds, vs => ∃ v r, vs = v :: r ∧ See W F m H d v ∧ Sees W F m H ds r
theorem sees_of {e : En} {s : St} {σ : L2.St} (S : Sim W xc e F m s σ H) : ∀ {ps : List P} {ds : List D} {vs : List V}, relPs W F m σ ps vs → gets s ps = some ds → Sees W F m H ds vs
  | [], _, _, h, e1 => by
    cases e1
    exact h
  | p :: ps, ds, vs, h, e1 => by
    obtain ⟨v, r, rfl, h1, h2⟩ := h
    simp only [gets] at e1
    cases q1 : p.get s with
    | none => rw [q1] at e1; cases e1
    | some d =>
      rw [q1] at e1
      cases q2 : gets s ps with
      | none => rw [q2] at e1; cases e1
      | some ds' =>
        rw [q2] at e1
        cases e1
        exact ⟨v, r, rfl, See.of_get S (p := p) (by cases p <;> exact h1) q1, sees_of S h2 q2⟩
theorem Sees.one {d : D} {vs : List V} (h : Sees W F m H [d] vs) : ∃ v, vs = [v] ∧ See W F m H d v := by
  obtain ⟨v, r, rfl, h1, h2⟩ := h
  have h2 : r = [] := h2
  subst h2
  exact ⟨v, rfl, h1⟩
theorem Sees.two {d e : D} {vs : List V} (h : Sees W F m H [d, e] vs) : ∃ v u, vs = [v, u] ∧ See W F m H d v ∧ See W F m H e u := by
  obtain ⟨v, r, rfl, h1, h2⟩ := h
  obtain ⟨u, rfl, h3⟩ := Sees.one h2
  exact ⟨v, u, rfl, h1, h3⟩
end
def biV : Bi → Value
  | .len => .builtin "len" | .abs => .builtin "abs" | .int => .type "int" | .tuple => .type "tuple" | .list => .type "list" | .sorted => .builtin "sorted" | .sortedSet => .builtin "sorted"
  | .sum => .builtin "sum" | .maxL => .builtin "max" | .minL => .builtin "min" | .max2 => .builtin "max" | .min2 => .builtin "min" | .repr => .builtin "repr" | .any => .builtin "any" | .all => .builtin "all" | .strI => .type "str"
def rBi (W : Wd) (f : List D → Option R) : List V → Hp → VK → Prop := fun vs H Q => ∃ xc e F m s σ ds r, Sim W xc e F m s σ H ∧ Sees W F m H ds vs ∧ f ds = some r ∧
  ∀ v F' m' H', Sim W xc e F' m' s σ H' → Ext F m F' m' → relV W e F' m' s σ H' r v → Q v H'
theorem foldl_max_spec : ∀ (l : List Int) (x : Int), (l.foldl max x = x ∨ l.foldl max x ∈ l) ∧ x ≤ l.foldl max x ∧ ∀ y ∈ l, y ≤ l.foldl max x
  | [], x => by simp
  | y :: l, x => by
    obtain ⟨h1, h2, h3⟩ := foldl_max_spec l (max x y)
    simp only [List.foldl_cons, List.mem_cons]
    refine ⟨?_, by omega, fun z hz => ?_⟩
    · rcases h1 with h1 | h1
      · rw [h1]
        by_cases c : x ≤ y
        · rw [Int.max_eq_right c]
          exact .inr (.inl rfl)
        · rw [Int.max_eq_left (by omega)]
          exact .inl rfl
      · exact .inr (.inr h1)
    · rcases hz with e | hz
      · omega
      · exact h3 z hz
theorem foldl_min_spec : ∀ (l : List Int) (x : Int), (l.foldl min x = x ∨ l.foldl min x ∈ l) ∧ l.foldl min x ≤ x ∧ ∀ y ∈ l, l.foldl min x ≤ y
  | [], x => by simp
  | y :: l, x => by
    obtain ⟨h1, h2, h3⟩ := foldl_min_spec l (min x y)
    simp only [List.foldl_cons, List.mem_cons]
    refine ⟨?_, by omega, fun z hz => ?_⟩
    · rcases h1 with h1 | h1
      · rw [h1]
        by_cases c : x ≤ y
        · rw [Int.min_eq_left c]
          exact .inl rfl
        · rw [Int.min_eq_right (by omega)]
          exact .inr (.inl rfl)
      · exact .inr (.inr h1)
    · rcases hz with e | hz
      · omega
      · exact h3 z hz
mutual
theorem noD : ∀ {d : D} {p : PyData}, D.pd d = some p → p.hasDict = false
  | .non, _, e => by cases e; rfl
  | .bl _, _, e => by cases e; rfl
  | .int _, _, e => by cases e; rfl
  | .str _, _, e => by cases e; rfl
  | .tup xs, _, e => by
    simp only [D.pd, Option.map_eq_some_iff] at e
    obtain ⟨ps, h, rfl⟩ := e
    simpa [PyData.hasDict] using noDs h
  | .lst xs, _, e => by
    simp only [D.pd, Option.map_eq_some_iff] at e
    obtain ⟨ps, h, rfl⟩ := e
    simpa [PyData.hasDict] using noDs h
  | .ins _ _, _, e => by cases e
  | .cell _, _, e => by cases e
  | .ext _, _, e => by cases e
  | .rng _ _, _, e => by cases e
theorem noDs : ∀ {d : List D} {p : List PyData}, D.pds d = some p → PyData.hasDictAll p = false
  | [], _, e => by cases e; rfl
  | x :: xs, _, e => by
    simp only [D.pds] at e
    split at e
    · cases e
      rename_i h4 h5
      simp [PyData.hasDictAll, noD h4, noDs h5]
    · cases e
end
theorem hasDict_of {d : D} {p : PyData} (h : D.pd d = some p) : p.hasDict = false := noD h
theorem depth_of {d : D} {p : PyData} (h : D.fit depthMax d = true) (e : D.pd d = some p) : p.depth ≤ depthMax := by
  obtain ⟨q, h1, _, h2⟩ := fit_pd _ _ h
  rw [e] at h1
  cases h1
  exact h2
section
variable {W : Wd} {xc : XC} {X : Cx}
/-! sorted, of pairs -/
theorem leP_iff {p q : Int × Int} : leP p q = true ↔ p.1 < q.1 ∨ (p.1 = q.1 ∧ p.2 ≤ q.2) := by
  unfold leP
  simp
theorem leP_total {p q : Int × Int} (h : ¬ leP p q = true) : leP q p = true := by
  rw [leP_iff] at h ⊢
  omega
theorem leP_trans {p q r : Int × Int} (h1 : leP p q = true) (h2 : leP q r = true) : leP p r = true := by
  rw [leP_iff] at h1 h2 ⊢
  omega
theorem leP_anti {p q : Int × Int} (h1 : leP p q = true) (h2 : leP q p = true) : p = q := by
  rw [leP_iff] at h1 h2
  exact Prod.ext (by omega) (by omega)
theorem insP_perm {x : Int × Int} : ∀ l : List (Int × Int), (insP x l).Perm (x :: l)
  | [] => List.Perm.refl _
  | y :: ys => by
    unfold insP
    split
    · exact List.Perm.refl _
    · exact ((insP_perm ys).cons y).trans (List.Perm.swap x y ys)
theorem sortP_perm : ∀ l : List (Int × Int), (sortP l).Perm l
  | [] => List.Perm.refl _
  | x :: l => (insP_perm _).trans ((sortP_perm l).cons x)
theorem insP_sorted {x : Int × Int} : ∀ {l : List (Int × Int)}, l.Pairwise (fun p q => leP p q = true) → (insP x l).Pairwise fun p q => leP p q = true
  | [], _ => by simp [insP]
  | y :: ys, h => by
    obtain ⟨h1, h2⟩ := List.pairwise_cons.mp h
    unfold insP
    split
    · rename_i hx
      refine List.pairwise_cons.mpr ⟨fun z hz => ?_, h⟩
      rcases List.mem_cons.mp hz with rfl | hz
      · exact hx
      · exact leP_trans hx (h1 z hz)
    · rename_i hx
      refine List.pairwise_cons.mpr ⟨fun z hz => ?_, insP_sorted h2⟩
      rcases List.mem_cons.mp ((insP_perm ys).mem_iff.mp hz) with rfl | hz
      · exact leP_total hx
      · exact h1 z hz
theorem sortP_sorted : ∀ l : List (Int × Int), (sortP l).Pairwise fun p q => leP p q = true
  | [] => List.Pairwise.nil
  | x :: l => insP_sorted (sortP_sorted l)
theorem sortedP_unique : ∀ {l k : List (Int × Int)}, l.Perm k → l.Pairwise (fun p q => leP p q = true) → k.Pairwise (fun p q => leP p q = true) → l = k
  | [], k, p, _, _ => p.nil_eq
  | x :: l, [], p, _, _ => absurd p.length_eq (by simp)
  | x :: l, y :: k, p, h1, h2 => by
    obtain ⟨a1, a2⟩ := List.pairwise_cons.mp h1
    obtain ⟨b1, b2⟩ := List.pairwise_cons.mp h2
    have e : x = y := by
      have hx := p.mem_iff.mp (List.mem_cons_self (a := x) (l := l))
      have hy := p.mem_iff.mpr (List.mem_cons_self (a := y) (l := k))
      rcases List.mem_cons.mp hx with e | hx
      · exact e
      · rcases List.mem_cons.mp hy with e | hy
        · exact e.symm
        · exact leP_anti (a1 y hy) (b1 x hx)
    subst e
    rw [sortedP_unique ((List.perm_cons x).mp p) a2 b2]
theorem prs_cons {d : D} {xs : List D} {l : List (Int × Int)} (h : D.prs (d :: xs) = some l) : ∃ i j l', d = .tup [.int i, .int j] ∧ D.prs xs = some l' ∧ l = (i, j) :: l' := by
  unfold D.prs at h
  split at h
  · rename_i e; cases e
  · rename_i i j xs' e
    cases e
    simp only [Option.map_eq_some_iff] at h
    obtain ⟨l', h1, h2⟩ := h
    exact ⟨i, j, l', rfl, h1, h2.symm⟩
  · cases h
theorem rep_pair {W : Wd} {F : Hp} {m : List Addr} {i j : Int} {v : V} (h : Rep W F m (.tup [.int i, .int j]) v) : ∃ t, v = V.ref t ∧ SqT W.K F t [.int i, .int j] := by
  unfold Rep at h
  obtain ⟨a, vs, rfl, h1, h2⟩ := h
  refine ⟨a, rfl, ?_⟩
  unfold Reps at h2
  obtain ⟨v1, r1, rfl, e1, h3⟩ := h2
  unfold Reps at h3
  obtain ⟨v2, r2, rfl, e2, h4⟩ := h3
  unfold Reps at h4
  unfold Rep at e1 e2
  subst e1 e2 h4
  exact h1
theorem pair_rep {W : Wd} {F : Hp} {m : List Addr} {p : Int × Int} {t : Addr} (h : SqT W.K F t [.int p.1, .int p.2]) : Rep W F m (prD p) (V.ref t) := by
  unfold prD Rep
  exact ⟨t, _, rfl, h, Reps.cons rep_int (Reps.cons rep_int Reps.nil)⟩
/-- pairs read from a list of references: by a function that tells each one's numbers -/
theorem prs_reps {W : Wd} {X : Cx} {pins : List (Addr × Obj)} {σ : L2.St} {H F : Hp} {s : Shared} {m : List Addr} {xs : List D} {ws : List V} {l : List (Int × Int)} (I : Inv X pins σ H s) (hK : X.K = W.K) (sub : Same F H) (hp : D.prs xs = some l) (r : Reps W F m xs ws) :
    ∃ k : V → Int × Int, (∀ x ∈ ws, ∃ t, x = V.ref t ∧ SqT X.K H t [.int (k x).1, .int (k x).2]) ∧ ∀ ys, SrtO.Srtd (ltP k) ys → SrtO.Stb (ltP k) ys ws → Reps W F m ((sortP l).map prD) ys := by
  have up : ∀ {t : Addr} {p : Int × Int}, SqT W.K F t [.int p.1, .int p.2] → SqT X.K H t [.int p.1, .int p.2] := fun h => by rw [hK]; exact Same.sqT sub h
  let k : V → Int × Int := fun v => @dite _ (∃ p : Int × Int, ∃ t, v = V.ref t ∧ SqT X.K H t [.int p.1, .int p.2]) (Classical.propDecidable _) (fun h => h.choose) fun _ => (0, 0)
  have hk : ∀ (p : Int × Int) (t : Addr), SqT X.K H t [.int p.1, .int p.2] → k (V.ref t) = p := fun p t h => by
    have ex : ∃ p : Int × Int, ∃ t', V.ref t = V.ref t' ∧ SqT X.K H t' [.int p.1, .int p.2] := ⟨p, t, rfl, h⟩
    have e : k (V.ref t) = ex.choose := dif_pos ex
    obtain ⟨t', e1, h'⟩ := ex.choose_spec
    rw [e]
    cases e1
    have := I.tuple_inj h' h
    simp only [List.cons.injEq, V.int.injEq, and_true] at this
    exact Prod.ext this.1 this.2
  have all : ∀ (xs : List D) (ws : List V) (l : List (Int × Int)), D.prs xs = some l → Reps W F m xs ws → (∀ x ∈ ws, ∃ (t : Addr) (p : Int × Int), x = V.ref t ∧ SqT W.K F t [.int p.1, .int p.2]) ∧ ws.map k = l := fun xs => by
    induction xs with
    | nil =>
      intro ws l h r
      cases h
      unfold Reps at r
      subst r
      exact ⟨(fun x hx => by cases hx), rfl⟩
    | cons d xs ih =>
      intro ws l h r
      obtain ⟨i, j, l', rfl, h1, rfl⟩ := prs_cons h
      unfold Reps at r
      obtain ⟨v, ws', rfl, r1, r2⟩ := r
      obtain ⟨g1, g2⟩ := ih ws' l' h1 r2
      obtain ⟨t, rfl, q⟩ := rep_pair r1
      refine ⟨fun x hx => ?_, ?_⟩
      · rcases List.mem_cons.mp hx with rfl | hx
        · exact ⟨t, (i, j), rfl, q⟩
        · exact g1 x hx
      · rw [List.map_cons, g2, hk (i, j) t (up (p := (i, j)) q)]
  obtain ⟨g1, g2⟩ := all xs ws l hp r
  refine ⟨k, fun x hx => ?_, fun ys s1 s2 => ?_⟩
  · obtain ⟨t, p, rfl, q⟩ := g1 x hx
    exact ⟨t, rfl, by rw [hk p t (up q)]; exact up q⟩
  · have e : sortP l = ys.map k := by
      refine sortedP_unique ((sortP_perm l).trans ?_) (sortP_sorted l) ?_
      · rw [← g2]
        exact (s2.perm.map k).symm
      · refine List.pairwise_map.mpr (List.Pairwise.imp (fun {x y} h => ?_) s1)
        have h' := SrtO.lexB_no.mp h
        rw [leP_iff]
        omega
    rw [e]
    have hy : ∀ y ∈ ys, y ∈ ws := fun y h => s2.perm.mem_iff.mp h
    clear s1 s2 e
    induction ys with
    | nil => exact Reps.nil
    | cons y ys ih =>
      obtain ⟨t, p, rfl, q⟩ := g1 y (hy y List.mem_cons_self)
      rw [List.map_cons, List.map_cons]
      refine Reps.cons ?_ (ih fun z hz => hy z (List.mem_cons_of_mem _ hz))
      rw [hk p t (up q)]
      exact pair_rep q
theorem cr_bi (b : Bi) (hb : b ≠ .sortedSet ∧ b ≠ .strI) (hK : X.K = W.K) (hc : X.calm = true) (hu : X.A.units + 66 < cLine) (hg : X.A.guards = some []) : CallR X (biV b) (rBi W (biSem b)) := by
  intro pins st σ' H vs us Q I r h
  obtain ⟨xc, e, F, m, s, σ, ds, rr, S, hs, hf, q⟩ := h
  have val : ∀ {d : D} {v : V}, rr = .val d → Rep W F m d v → Q v H := fun {d v} e1 r1 => by
    subst e1
    exact q _ F m H S (Ext.refl _ _) r1
  cases b with
  | len =>
    cases ds with
    | nil => cases hf
    | cons d ds =>
      cases ds with
      | cons _ _ => cases d <;> cases hf
      | nil =>
        obtain ⟨v, rfl, h1⟩ := hs.one
        cases d with
        | str x =>
          simp only [biSem] at hf
          split at hf
          · cases hf
            rename_i hl
            cases h1.str
            exact call_len_str pins st σ' H _ us Q I r ⟨x, rfl, big_line hl, val rfl rep_int⟩
          · cases hf
        | lst xs =>
          cases hf
          obtain ⟨a, ws, rfl, g1, g2⟩ := h1
          refine call_len_seq pins st σ' H _ us Q I r ⟨a, ws, rfl, .inl (SqL.of g1), ?_⟩
          rw [g2.length]
          exact val rfl rep_int
        | tup xs =>
          cases hf
          obtain ⟨a, ws, rfl, g1, g2⟩ := h1.tup
          refine call_len_seq pins st σ' H _ us Q I r ⟨a, ws, rfl, .inr (by rw [hK]; exact Same.sqT S.sub g1), ?_⟩
          rw [g2.length]
          exact val rfl rep_int
        | ext xs =>
          cases hf
          obtain ⟨a, ws, rfl, g1, g2⟩ := h1.ext
          refine call_len_seq pins st σ' H _ us Q I r ⟨a, ws, rfl, .inl (by rw [hK]; exact S.sub.seq g1), ?_⟩
          rw [g2.length]
          exact val rfl rep_int
        | _ => cases hf
  | abs =>
    cases ds with
    | nil => cases hf
    | cons d ds =>
      cases ds with
      | cons _ _ => cases d <;> cases hf
      | nil =>
        obtain ⟨v, rfl, h1⟩ := hs.one
        cases d with
        | int i =>
          cases hf
          cases h1.int
          exact call_abs pins st σ' H _ us Q I r ⟨i, rfl, val rfl rep_int⟩
        | _ => cases hf
  | int =>
    cases ds with
    | nil => cases hf
    | cons d ds =>
      cases ds with
      | cons _ _ => cases d <;> cases hf
      | nil =>
        obtain ⟨v, rfl, h1⟩ := hs.one
        cases d with
        | int i =>
          cases hf
          cases h1.int
          exact call_int1 pins st σ' H _ us Q I r (.inl ⟨i, rfl, val rfl rep_int⟩)
        | _ => cases hf
  | tuple =>
    cases ds with
    | nil => cases hf
    | cons d ds =>
      cases ds with
      | cons _ _ => cases d <;> cases hf
      | nil =>
        obtain ⟨v, rfl, h1⟩ := hs.one
        cases d with
        | lst xs =>
          cases hf
          obtain ⟨a, ws, rfl, g1, g2⟩ := h1
          refine call_tuple_of pins st σ' H _ us Q I r ⟨a, ws, rfl, .inl ⟨SqL.of g1, fun p hp => ?_⟩⟩
          obtain ⟨S', x', r'⟩ := S.newTup hp g2
          exact q _ _ m _ S' x' r'
        | tup xs =>
          cases hf
          have h2 : Rep W F m (.tup xs) v := h1
          obtain ⟨a, ws, rfl, g1, g2⟩ := h1.tup
          exact call_tuple_of pins st σ' H _ us Q I r ⟨a, ws, rfl, .inr ⟨by rw [hK]; exact Same.sqT S.sub g1, val rfl h2⟩⟩
        | _ => cases hf
  | list =>
    cases ds with
    | nil => cases hf
    | cons d ds =>
      cases ds with
      | cons _ _ => cases d <;> cases hf
      | nil =>
        obtain ⟨v, rfl, h1⟩ := hs.one
        cases d with
        | lst xs =>
          cases hf
          obtain ⟨a, ws, rfl, g1, g2⟩ := h1
          refine call_list_of pins st σ' H _ us Q I r ⟨a, ws, rfl, .inl (SqL.of g1), fun p hp => ?_⟩
          obtain ⟨S', l⟩ := S.newLst hp g2
          exact q _ F m _ S' (Ext.refl _ _) ⟨p, rfl, l⟩
        | tup xs =>
          cases hf
          obtain ⟨a, ws, rfl, g1, g2⟩ := h1.tup
          refine call_list_of pins st σ' H _ us Q I r ⟨a, ws, rfl, .inr (by rw [hK]; exact Same.sqT S.sub g1), fun p hp => ?_⟩
          obtain ⟨S', l⟩ := S.newLst hp g2
          exact q _ F m _ S' (Ext.refl _ _) ⟨p, rfl, l⟩
        | _ => cases hf
  | sorted =>
    have key : ∀ (xs : List D) (l : List Int) (a : Addr) (ws : List V), vs = [.ref a] → (SqL X.K H a ws ∨ SqT X.K H a ws) → Reps W F m xs ws → D.ints xs = some l → rr = .own ((sortI l).map .int) → wpAny (model X.prog X.w) X.A (call (.builtin "sorted") us) (EP X pins σ' Q) X.xe st := by
      intro xs l a ws e1 hq g2 hl e2
      subst e1 e2
      have ew := ints_reps hl g2
      subst ew
      rw [Vals.ref1 r]
      have fin : ∀ (its : List Value), Vals (l.map V.int) its → (l.map V.int).length ≤ sizeLine → ∀ (h' : Heap) (p : Addr) (out : List Value) (ns' : List Int) (e : Nat), (∀ b u, st.heap.get? b = some u → h'.get? b = some u) → st.heap.objs.size ≤ p → h'.get? p = some { cls := .type "list", data := .seq out.toArray e } → IntsAre out ns' → ns'.Perm l → ns'.Pairwise (· ≤ ·) →
          EP X pins σ' Q (.ref p) { st with heap := h' } := fun its rv hz h' p out ns' e kp hp he hi pm so => by
        have en : ns' = sortI l := sorted_unique (pm.trans (sortI_perm l).symm) so (sortI_sorted l)
        subst en
        have hn := I.hok.fresh hp
        have hlen : ((sortI l).map V.int).length ≤ sizeLine := by
          rw [List.length_map, pm.length_eq]
          rw [List.length_map] at hz
          exact hz
        refine ⟨.ref p, upd H p (.lst ((sortI l).map V.int)), I.laid (t' := st.toks) kp hp ⟨hlen, out, e, vals_of_ints hi, he⟩, rfl, ?_⟩
        obtain ⟨S', l'⟩ := S.newLst hn (reps_ints (W := W) (F := F) (m := m) (sortI l))
        exact q _ F m _ S' (Ext.refl _ _) ⟨p, rfl, l'⟩
      rcases hq with hq | hq
      · obtain ⟨its, rv, hl', hz⟩ := I.list hq
        obtain ⟨o, ho, hcl, n, hd⟩ := hl'.isList
        exact MPX.sorted_seqI (.inl rfl) ho hcl hd rv.ints (by rw [← rv.length]; exact hz) (fin its rv hz)
      · obtain ⟨its, rv, hl', hz⟩ := I.tuple hq
        obtain ⟨o, ho, hcl, n, hd⟩ := hl'
        exact MPX.sorted_seqI (.inr rfl) ho hcl hd rv.ints (by rw [← rv.length]; exact hz) (fin its rv hz)
    cases ds with
    | nil => cases hf
    | cons d ds =>
      cases ds with
      | cons _ _ => cases d <;> cases hf
      | nil =>
        obtain ⟨v, rfl, h1⟩ := hs.one
        cases d with
        | lst xs =>
          simp only [biSem] at hf
          obtain ⟨a, ws, rfl, g1, g2⟩ := h1
          cases hl : D.ints xs with
          | some l =>
            simp only [hl, Option.some.injEq] at hf
            exact key xs l a ws rfl (.inl (SqL.of g1)) g2 hl hf.symm
          | none =>
            simp only [hl, Option.map_eq_some_iff] at hf
            obtain ⟨l, hp, rfl⟩ := hf
            obtain ⟨k, k1, k3⟩ := prs_reps I hK S.sub hp g2
            refine cr_sortedPT pins st σ' H _ us Q I r ⟨a, ws, k, rfl, SqL.of g1, fun x hx => ?_, fun ys p s1 s2 hn => ?_⟩
            · exact k1 x hx
            · obtain ⟨S', l'⟩ := S.newLst hn (k3 ys s1 s2)
              exact q _ F m _ S' (Ext.refl _ _) ⟨p, rfl, l'⟩
        | tup xs =>
          simp only [biSem, Option.map_eq_some_iff] at hf
          obtain ⟨l, hl, rfl⟩ := hf
          obtain ⟨a, ws, rfl, g1, g2⟩ := h1.tup
          exact key xs l a ws rfl (.inr (by rw [hK]; exact Same.sqT S.sub g1)) g2 hl rfl
        | _ => cases hf
  | sortedSet => exact absurd rfl hb.1
  | sum =>
    cases ds with
    | nil => cases hf
    | cons d ds =>
      cases ds with
      | cons _ _ => cases d <;> cases hf
      | nil =>
        obtain ⟨v, rfl, h1⟩ := hs.one
        cases d with
        | lst xs =>
          simp only [biSem, Option.map_eq_some_iff] at hf
          obtain ⟨l, hl, rfl⟩ := hf
          obtain ⟨a, ws, rfl, g1, g2⟩ := h1
          rw [ints_reps hl g2] at g1
          exact cr_sum hc pins st σ' H _ us Q I r ⟨a, l, rfl, SqL.of g1, val rfl rep_int⟩
        | _ => cases hf
  | maxL =>
    cases ds with
    | nil => cases hf
    | cons d ds =>
      cases ds with
      | cons _ _ => cases d <;> cases hf
      | nil =>
        obtain ⟨v, rfl, h1⟩ := hs.one
        cases d with
        | lst xs =>
          simp only [biSem, Option.map_eq_some_iff, Option.bind_eq_some_iff] at hf
          obtain ⟨i, ⟨l, hl, hi⟩, rfl⟩ := hf
          obtain ⟨a, ws, rfl, g1, g2⟩ := h1
          rw [ints_reps hl g2] at g1
          cases l with
          | nil => cases hi
          | cons x l =>
            cases hi
            refine cr_max hc pins st σ' H _ us Q I r ⟨a, x :: l, rfl, SqL.of g1, by simp, fun mx h1 h2 => ?_⟩
            obtain ⟨k1, k2, k3⟩ := foldl_max_spec l x
            have e1 : mx = l.foldl max x := by
              have : l.foldl max x ≤ mx := h2 _ (by rcases k1 with k | k <;> simp [k])
              rcases List.mem_cons.mp h1 with z | z
              · omega
              · have := k3 mx z; omega
            subst e1
            exact val rfl rep_int
        | _ => cases hf
  | minL =>
    cases ds with
    | nil => cases hf
    | cons d ds =>
      cases ds with
      | cons _ _ => cases d <;> cases hf
      | nil =>
        obtain ⟨v, rfl, h1⟩ := hs.one
        cases d with
        | lst xs =>
          simp only [biSem, Option.map_eq_some_iff, Option.bind_eq_some_iff] at hf
          obtain ⟨i, ⟨l, hl, hi⟩, rfl⟩ := hf
          obtain ⟨a, ws, rfl, g1, g2⟩ := h1
          rw [ints_reps hl g2] at g1
          cases l with
          | nil => cases hi
          | cons x l =>
            cases hi
            refine cr_min hc pins st σ' H _ us Q I r ⟨a, x :: l, rfl, SqL.of g1, by simp, fun mx h1 h2 => ?_⟩
            obtain ⟨k1, k2, k3⟩ := foldl_min_spec l x
            have e1 : mx = l.foldl min x := by
              have : mx ≤ l.foldl min x := h2 _ (by rcases k1 with k | k <;> simp [k])
              rcases List.mem_cons.mp h1 with z | z
              · omega
              · have := k3 mx z; omega
            subst e1
            exact val rfl rep_int
        | _ => cases hf
  | max2 =>
    cases ds with
    | nil => cases hf
    | cons d ds =>
      cases d with
      | int i =>
        cases ds with
        | nil => cases hf
        | cons d2 ds =>
          cases d2 with
          | int j =>
            cases ds with
            | cons _ _ => cases hf
            | nil =>
              cases hf
              obtain ⟨v, u, rfl, h1, h2⟩ := hs.two
              cases h1.int
              cases h2.int
              refine call_max2 hc pins st σ' H _ us Q I r ⟨i, j, rfl, ?_⟩
              have : (if j > i then j else i) = max i j := by split <;> omega
              rw [this]
              exact val rfl rep_int
          | _ => cases hf
      | _ => cases hf
  | min2 =>
    cases ds with
    | nil => cases hf
    | cons d ds =>
      cases d with
      | int i =>
        cases ds with
        | nil => cases hf
        | cons d2 ds =>
          cases d2 with
          | int j =>
            cases ds with
            | cons _ _ => cases hf
            | nil =>
              cases hf
              obtain ⟨v, u, rfl, h1, h2⟩ := hs.two
              cases h1.int
              cases h2.int
              refine call_min2 hc pins st σ' H _ us Q I r ⟨i, j, rfl, ?_⟩
              have : (if j < i then j else i) = min i j := by split <;> omega
              rw [this]
              exact val rfl rep_int
          | _ => cases hf
      | _ => cases hf
  | repr =>
    cases ds with
    | nil => cases hf
    | cons d ds =>
      cases ds with
      | cons _ _ => cases hf
      | nil =>
        obtain ⟨v, rfl, h1⟩ := hs.one
        simp only [biSem, Option.map_eq_some_iff] at hf
        obtain ⟨x, hx, rfl⟩ := hf
        unfold reprSem at hx
        cases hp : D.pd d with
        | none => rw [hp] at hx; cases hx
        | some p =>
          rw [hp] at hx
          have hx : (if D.fit depthMax d && p.showable && decide (p.shown.length ≤ big) then some p.shown else none) = some x := hx
          by_cases hc2 : (D.fit depthMax d && p.showable && decide (p.shown.length ≤ big)) = true
          · rw [if_pos hc2] at hx
            cases hx
            simp only [Bool.and_eq_true, decide_eq_true_eq] at hc2
            obtain ⟨⟨c1, c2⟩, c3⟩ := hc2
            have dp := See.dp S.sub h1 hp
            obtain ⟨u, rfl, ru⟩ := vals1 r
            have fin : ∀ (tk : Tok) (st' : Shared), Inv X pins σ' H st' → EP X pins σ' Q (.str p.shown tk) st' := fun tk st' I' => ⟨.str p.shown, H, I', ⟨tk, rfl⟩, q _ F m H S (Ext.refl _ _) (rep_str (W := W) (F := F) (m := m))⟩
            have lenL : p.shown.length ≤ sizeLine := big_line c3
            cases dp with
            | non =>
              cases ru
              exact P.repr_of_none (fin _ _ (I.tok _))
            | bl b =>
              cases ru
              exact P.repr_of_bool (by cases b <;> exact fin _ _ (I.tok _))
            | int i =>
              obtain ⟨t, rfl⟩ := ru
              exact P.repr_of_int (by simpa [PyData.showable] using c2) (fin _ _ (I.tok _))
            | str z =>
              obtain ⟨t, rfl⟩ := ru
              exact P.repr_of_str (fin _ _ (I.tok _)) lenL
            | lst a1 a2 =>
              cases ru
              obtain ⟨as, rd⟩ := Dp.reads I _ _ _ (show Dp X.K H _ _ by rw [hK]; exact Dp.lst a1 a2) (show L2.RelV (.ref _) (.ref _) from rfl)
              exact PySem.repr_of_reads' rd c2 (fun z => by rw [hasDict_of hp] at z; cases z) hg (by have := depth_of c1 hp; unfold depthMax at this; omega) (fun _ _ e => e) (fun h' u tk k => fin _ _ (I.kept k)) lenL
            | tup a1 a2 =>
              cases ru
              obtain ⟨as, rd⟩ := Dp.reads I _ _ _ (show Dp X.K H _ _ by rw [hK]; exact Dp.tup a1 a2) (show L2.RelV (.ref _) (.ref _) from rfl)
              exact PySem.repr_of_reads' rd c2 (fun z => by rw [hasDict_of hp] at z; cases z) hg (by have := depth_of c1 hp; unfold depthMax at this; omega) (fun _ _ e => e) (fun h' u tk k => fin _ _ (I.kept k)) lenL
          · rw [if_neg hc2] at hx
            cases hx
  | any =>
    cases ds with
    | nil => cases hf
    | cons d ds =>
      cases ds with
      | cons _ _ => cases d <;> cases hf
      | nil =>
        obtain ⟨v, rfl, h1⟩ := hs.one
        cases d with
        | lst xs =>
          simp only [biSem, Option.map_eq_some_iff] at hf
          obtain ⟨l, hl, rfl⟩ := hf
          obtain ⟨a, ws, rfl, g1, g2⟩ := h1
          rw [bools_reps hl g2] at g1
          exact cr_any hc pins st σ' H _ us Q I r ⟨a, l, rfl, SqL.of g1, val rfl rep_bl⟩
        | _ => cases hf
  | all =>
    cases ds with
    | nil => cases hf
    | cons d ds =>
      cases ds with
      | cons _ _ => cases d <;> cases hf
      | nil =>
        obtain ⟨v, rfl, h1⟩ := hs.one
        cases d with
        | lst xs =>
          simp only [biSem, Option.map_eq_some_iff] at hf
          obtain ⟨l, hl, rfl⟩ := hf
          obtain ⟨a, ws, rfl, g1, g2⟩ := h1
          rw [bools_reps hl g2] at g1
          exact cr_all hc pins st σ' H _ us Q I r ⟨a, l, rfl, SqL.of g1, val rfl rep_bl⟩
        | _ => cases hf
  | strI => exact absurd rfl hb.2
end
end MP
set_option Elab.async false
set_option linter.all false
set_option maxRecDepth 100000
set_option maxHeartbeats 4000000
/-! MP7: built-ins called, slices, chains, ranges, an exception's fields. -/
namespace MP
open PySem PySem.Spec PyProof.Rows L2

def biName : Bi → Str
  | .len => "len" | .abs => "abs" | .int => "int" | .tuple => "tuple" | .list => "list" | .sorted => "sorted" | .sortedSet => "sorted"
  | .sum => "sum" | .maxL => "max" | .minL => "min" | .max2 => "max" | .min2 => "min" | .repr => "repr" | .any => "any" | .all => "all" | .strI => "str"
section
variable {W : Wd} {xc : XC} {X : Cx} {Wx : WX} {T : Tab} {sc : Scope} {ca : Bool} {G : Env} {k : Nat} {pos p p2 p3 : Pos}
theorem bi_args {b : Bi} {f : List D → Option R} {c : Es} {σ : L2.St} {H : Hp} {Q : VK} (h : Sp1 W xc Wx (fun s => ((evs G c).p s).bind fun ps s => O.opt ((gets s ps).bind f) s) (relV W) σ H Q) :
    tCB (rBi W f) (Sp1 W xc Wx (evs G c).p (relAP W)) σ H Q := by
  refine (h.bind (rel := relAP W)).mono fun vs H1 ⟨e, F, m, ps, s, S, r, g⟩ => ?_
  obtain ⟨rr, e1, g2⟩ := g.opt
  cases q1 : gets s ps with
  | none => rw [q1] at e1; cases e1
  | some ds =>
    rw [q1] at e1
    exact ⟨xc, e, F, m, s, σ, ds, rr, S, sees_of S r q1, e1, fun v F' m' H' h1 h2 h3 => g2 v F' m' H' h1 h2 h3⟩
theorem ok_bi {b : Bi} {c : E} {cs : Es} {x : Expr} {xs : List Expr} (C : Cn W X xc Wx T sc ca) (B : Cf W X T G k ca) (hb : b ≠ .sortedSet ∧ b ≠ .strI) (hc : ca = true) (hg : sc.names.lookup (biName b) = some .globalImplicit) (h : Eok W X xc Wx G c x) (hs : Aok W X xc Wx G cs xs) :
    Eok W X xc Wx G (.bi b (.cons c cs)) (.Call (.Name (biName b) p) (x :: xs) [] pos) := by
  have cr := cr_bi b hb C.K (C.calm hc) C.un C.gd
  have ha := (aok_cons h hs).p
  have fin : ∀ {σ : L2.St} {H : Hp} {Q : VK}, Sp1 W xc Wx (fun s => ((evs G (.cons c cs)).p s).bind fun ps s => O.opt ((gets s ps).bind (biSem b)) s) (relV W) σ H Q → tCB (rBi W (biSem b)) (Sp1 W xc Wx (evs G (.cons c cs)).p (relAP W)) σ H Q := fun q => bi_args (b := b) q
  refine .of rfl C.K ?_ (fun _ => rfl) fun _ => rfl
  cases b with
  | sortedSet => exact absurd rfl hb.1
  | strI => exact absurd rfl hb.2
  | int => exact (pe_callTy cr (C.gl hg) (B.free _ (by decide)) (by decide +kernel) ha (by decide) (by decide) (h.ns xs) hs.any).imp fun _ _ _ q => fin q
  | tuple => exact (pe_callTy cr (C.gl hg) (B.free _ (by decide)) (by decide +kernel) ha (by decide) (by decide) (h.ns xs) hs.any).imp fun _ _ _ q => fin q
  | list => exact (pe_callTy cr (C.gl hg) (B.free _ (by decide)) (by decide +kernel) ha (by decide) (by decide) (h.ns xs) hs.any).imp fun _ _ _ q => fin q
  | _ => exact (pe_callB cr (C.gl hg) (B.free _ (by decide)) (by decide +kernel) ha (by decide) (by decide) (h.ns xs) hs.any).imp fun _ _ _ q => fin q

/-! ### sorted(set(..)) -/
theorem nodup_le : ∀ {l m : List Int}, l.Nodup → (∀ z, z ∈ l → z ∈ m) → l.length ≤ m.length
  | [], _, _, _ => Nat.zero_le _
  | x :: l, m, a, h => by
    obtain ⟨a1, a2⟩ := List.nodup_cons.mp a
    have hx := h x List.mem_cons_self
    have q := nodup_le a2 (m := m.erase x) fun z hz => (List.mem_erase_of_ne (by intro e; rw [e] at hz; exact a1 hz)).mpr (h z (List.mem_cons_of_mem _ hz))
    rw [List.length_erase_of_mem hx] at q
    have := List.length_pos_of_mem hx
    rw [List.length_cons]
    omega
theorem nodup_len {l m : List Int} (a : l.Nodup) (b : m.Nodup) (h : ∀ z, z ∈ l ↔ z ∈ m) : l.length = m.length :=
  Nat.le_antisymm (nodup_le a fun z hz => (h z).mp hz) (nodup_le b fun z hz => (h z).mpr hz)
theorem setR_len {w : World} {h : Heap} {a : Addr} {l : List Int} {n : Nat} (R : SetR w h a (fun j => decide (j ∈ l)) n) : n = (sortU l).length := by
  obtain ⟨o, es, ep, t, _, _, _, _, nd, hm, _, _, hn, _⟩ := R
  have e1 : n = (es.toList.map keyOf).length := by rw [List.length_map, Array.length_toList]; exact hn.symm
  rw [e1]
  refine nodup_len nd ((sortU_sorted l).imp fun {x y} h => by omega) fun z => ?_
  rw [← hm z, sortU_mem]
  simp
/-- set(x), x a list or tuple of ints -/
def rSetI (K : PySem.W.Frag) (w : World) : List V → Hp → VK → Prop := fun vs H Q => ∃ (a : Addr) (l : List Int), vs = [.ref a] ∧ (SqL K H a (l.map V.int) ∨ SqT K H a (l.map V.int)) ∧ l.length < 4000 ∧ ∀ p, H p = none → Q (.ref p) (upd H p (SetO w p (fun j => decide (j ∈ l)) (sortU l).length))
theorem cr_setI (hc : X.calm = true) : CallR X (.type "set") (rSetI X.K X.w) := by
  intro pins s σ H vs us Q I r h
  obtain ⟨a, l, rfl, hq, hl, q⟩ := h
  rw [Vals.ref1 r]
  have fin : ∀ (h' : Heap) (tk c : Nat), SetR X.w h' s.heap.objs.size (fun j => decide (j ∈ l)) c → c ≤ l.length → (∀ b o, s.heap.get? b = some o → h'.get? b = some o) → EP X pins σ Q (.ref s.heap.objs.size) { s with heap := h', toks := tk } := fun h' tk c R _ kp => by
    have ec := setR_len R
    subst ec
    exact ⟨.ref _, _, I.laid (t' := tk) kp (Nat.le_refl _) (setO_new R), rfl, q _ (I.hok.fresh (Nat.le_refl _))⟩
  have hb : l.length + 1 < scanBound := by
    have : scanBound = 4096 := rfl
    omega
  rcases hq with hq | hq
  · obtain ⟨its, rv, hl', hz⟩ := I.list hq
    exact MPX.set_of_list l (I.ok.hd hc) hl'.isList rv.ints hb fin
  · obtain ⟨its, rv, hl', hz⟩ := I.tuple hq
    exact call_set_tupI l (I.ok.hd hc) hl' rv.ints hb fin
theorem ok_sortedSet {c : E} {x : Expr} (C : Cn W X xc Wx T sc ca) (B : Cf W X T G k ca) (hc : ca = true) (hg : sc.names.lookup ("sorted" : Str) = some .globalImplicit) (hg2 : sc.names.lookup ("set" : Str) = some .globalImplicit) (h : Eok W X xc Wx G c x) :
    Eok W X xc Wx G (.bi .sortedSet (.cons c .nil)) (.Call (.Name "sorted" p) [.Call (.Name "set" p2) [x] [] p3] [] pos) := by
  have pset := pe_callTy (p := p2) (pos := p3) (cr_setI (C.calm hc)) (C.gl hg2) (B.free _ (by decide)) (by decide +kernel) (aok_cons h aok_nil).p (by decide) (by decide) (h.ns []) (aok_nil (W := W) (xc := xc) (Wx := Wx) (G := G)).any
  have nsS : ∀ es, starEach (.Call (.Name "set" p2) [x] [] p3 :: es) X.env = (false, eval (.Call (.Name "set" p2) [x] [] p3) X.env) :: starEach es X.env := fun _ => rfl
  refine .of rfl C.K ((pe_callB (cr_sortedSet (C.calm hc)) (C.gl hg) (B.free _ (by decide)) (by decide +kernel) (pa_cons pset pa_nil (nsS [])) (by decide) (by decide) (nsS []) rfl).imp fun σ H Q q => ?_) (fun _ => rfl) fun _ => rfl
  have q : Sp1 W xc Wx (fun s => ((evs G (.cons c .nil)).p s).bind fun ps s => O.opt ((gets s ps).bind (biSem .sortedSet)) s) (relV W) σ H Q := q
  refine (bi_args (b := .sortedSet) q).mono fun vs H1 ⟨xc, e, F, m, s, σ1, ds, r, S, hs, hf, g⟩ => ?_
  have key : ∀ (xs : List D) (l : List Int) (a : Addr) (ws : List V), vs = [.ref a] → (SqL X.K H1 a ws ∨ SqT X.K H1 a ws) → Reps W F m xs ws → D.ints xs = some l → (if l.length < 4000 ∧ (sortU l).length < 64 then some (R.own ((sortU l).map .int)) else none) = some r →
      rSetI X.K X.w vs H1 fun v H2 => rSortedSet X.w [v] H2 Q := by
    intro xs l a ws e1 hq g2 hl e2
    subst e1
    have ew := ints_reps hl g2
    subst ew
    by_cases hc2 : l.length < 4000 ∧ (sortU l).length < 64
    · rw [if_pos hc2] at e2
      cases e2
      refine ⟨a, l, rfl, hq, hc2.1, fun p hp => ⟨p, _, _, rfl, upd_same, hc2.2, fun ns pp h1 h2 h3 hn => ?_⟩⟩
      have en : ns = sortU l := strict_unique h1 (sortU_sorted l) fun z => by rw [h2 z, sortU_mem]; simp
      subst en
      have S1 := S.upd (SetO X.w p (fun j => decide (j ∈ l)) (sortU l).length) hp
      obtain ⟨S', l'⟩ := S1.newLst hn (reps_ints (W := W) (F := F) (m := m) (sortU l))
      exact g _ F m _ S' (Ext.refl _ _) ⟨pp, rfl, l'⟩
    · rw [if_neg hc2] at e2
      cases e2
  have out : rSetI X.K X.w vs H1 fun v H2 => rSortedSet X.w [v] H2 Q := by
    cases ds with
    | nil => cases hf
    | cons d ds =>
      cases ds with
      | cons _ _ => cases d <;> cases hf
      | nil =>
        obtain ⟨v, rfl, h1⟩ := hs.one
        cases d with
        | lst xs =>
          simp only [biSem, Option.bind_eq_some_iff] at hf
          obtain ⟨l, hl, e2⟩ := hf
          obtain ⟨a, ws, rfl, g1, g2⟩ := h1
          exact key xs l a ws rfl (.inl (SqL.of g1)) g2 hl e2
        | tup xs =>
          simp only [biSem, Option.bind_eq_some_iff] at hf
          obtain ⟨l, hl, e2⟩ := hf
          obtain ⟨a, ws, rfl, g1, g2⟩ := h1.tup
          exact key xs l a ws rfl (.inr (by rw [C.K]; exact Same.sqT S.sub g1)) g2 hl e2
        | _ => cases hf
  exact out
/-! ### slices -/
structure Ook (W : Wd) (X : Cx) (xc : XC) (Wx : WX) (G : Env) (c : Op) (e : Option Expr) : Prop where
  v : PO X e (fun σ H Q => Sp1 W xc Wx (evo G c) relO σ H Q)
theorem _root_.L2.PO.imp {t t' : TO} {x : Option Expr} (h : PO X x t) (k : ∀ σ H Q, t' σ H Q → t σ H Q) : PO X x t' := ⟨fun pins s σ H Q I q => h.run pins s σ H Q I (k _ _ _ q)⟩
theorem ook_no : Ook W X xc Wx G .no none := ⟨po_none.imp fun σ H Q ⟨e, F, m, s, S, g⟩ => g none F m H S (Ext.refl _ _) rfl⟩
theorem ook_so {c : E} {x : Expr} (h : Eok W X xc Wx G c x) : Ook W X xc Wx G (.so c) (some x) := by
  refine ⟨(po_some h.p).imp fun σ H Q q => ?_⟩
  have q : Sp1 W xc Wx (fun s => ((ev G c).p s).bind fun p s => match p.get s with
    | some (.int i) => .ok (some i) s
    | _ => .bad) relO σ H Q := q
  refine (q.bind (rel := relP W)).mono fun v H1 ⟨e, F, m, p, s, S, r, g⟩ => ?_
  cases q1 : p.get s with
  | none => rw [q1] at g; exact g.elim
  | some d =>
    rw [q1] at g
    cases d with
    | int i =>
      cases (See.of_get S r q1).int
      exact ⟨i, rfl, g _ F m H1 S (Ext.refl _ _) rfl⟩
    | _ => exact g.elim
theorem cut_reps {F : Hp} {m : List Addr} {xs : List D} {vs : List V} (lo hi : Option Int) (r : Reps W F m xs vs) : Reps W F m (cut xs lo hi) (cutV vs lo hi) := by
  unfold cut cutV
  rw [r.length]
  exact (r.drop _).take _
theorem ok_slc {a : E} {lo hi : Op} {x : Expr} {l h : Option Expr} (C : Cn W X xc Wx T sc ca) (ha : Eok W X xc Wx G a x) (hl : Ook W X xc Wx G lo l) (hh : Ook W X xc Wx G hi h) : Eok W X xc Wx G (.slc a lo hi) (.Subscript x (.Slice l h none p2) pos) := by
  refine .of rfl C.K ((pe_slice (sl_list.or sl_tupA) ha.p hl.v hh.v).imp fun σ H Q q => ?_) (fun _ => rfl) fun _ => rfl
  have q : Sp1 W xc Wx (fun s => ((ev G a).p s).bind fun p s => (evo G lo s).bind fun l s => (evo G hi s).bind fun h s => O.opt ((p.get s).bind fun x => slcSem x l h) s) (relV W) σ H Q := q
  refine (q.bind (rel := relP W)).mono fun v H1 ⟨e, F, m, p, s, S, r, g⟩ => ⟨e, F, m, s, S, (g.bind (rel := relO)).mono fun l2 H2 ⟨l1, s2, F2, m2, S2, x2, r2, g2⟩ => ⟨e, F2, m2, s2, S2, (g2.bind (rel := relO)).mono fun h2 H3 ⟨h1, s3, F3, m3, S3, x3, r3, g3⟩ => ?_⟩⟩
  have r2 : l1 = l2 := r2
  have r3 : h1 = h2 := r3
  subst r2 r3
  obtain ⟨rr, e1, g4⟩ := g3.opt
  cases q1 : p.get s3 with
  | none => rw [q1] at e1; cases e1
  | some d =>
    rw [q1] at e1
    have e1 : slcSem d l1 h1 = some rr := e1
    have sd := See.of_get S3 (r.later (x2.trans x3) (e1 := e) (s1 := s3) (H1 := H3)) q1
    cases d with
    | lst xs =>
      cases e1
      obtain ⟨a', vs, rfl, g5, g6⟩ := sd
      refine .inl ⟨a', vs, rfl, SqL.of g5, fun p hp => ?_⟩
      obtain ⟨S', l'⟩ := S3.newLst hp (cut_reps l1 h1 g6)
      exact g4 _ F3 m3 _ S' (Ext.refl _ _) ⟨p, rfl, l'⟩
    | tup xs =>
      cases e1
      have h0 : Rep W F3 m3 (.tup xs) v := sd
      obtain ⟨a', vs, rfl, g5, g6⟩ := sd.tup
      refine .inr ⟨a', vs, rfl, by rw [C.K]; exact Same.sqT S3.sub g5, fun hw => ?_, fun _ p hp => ?_⟩
      · have ew : cut xs l1 h1 = xs := by
          unfold cut
          rw [← g6.length, hw.1, hw.2]
          simp [g6.length]
        exact g4 _ F3 m3 _ S3 (Ext.refl _ _) (show Rep W F3 m3 (.tup (cut xs l1 h1)) (.ref a') by rw [ew]; exact h0)
      · obtain ⟨S', x', r'⟩ := S3.newTup hp (cut_reps l1 h1 g6)
        exact g4 _ _ m3 _ S' x' r'
    | _ => cases e1
theorem ok_rev {a : E} {x : Expr} {kk : Nat} (C : Cn W X xc Wx T sc ca) (ha : Eok W X xc Wx G a x) : Eok W X xc Wx G (.rev a) (.Subscript x (.Slice none none (some (.UnaryOp .USub (.Constant (.int 1) kk p) p2)) p3) pos) := by
  refine .of rfl C.K ((pe_revL ha.p).imp fun σ H Q q => ?_) (fun _ => rfl) fun _ => rfl
  have q : Sp1 W xc Wx (fun s => ((ev G a).p s).bind fun p s => match p.get s with
    | some (.lst xs) => .ok (.own xs.reverse) s
    | _ => .bad) (relV W) σ H Q := q
  refine (q.bind (rel := relP W)).mono fun v H1 ⟨e, F, m, p, s, S, r, g⟩ => ?_
  cases q1 : p.get s with
  | none => rw [q1] at g; exact g.elim
  | some d =>
    rw [q1] at g
    cases d with
    | lst xs =>
      obtain ⟨a', vs, rfl, g5, g6⟩ := See.of_get S r q1
      refine ⟨a', vs, rfl, SqL.of g5, fun p hp => ?_⟩
      obtain ⟨S', l'⟩ := S.newLst hp g6.reverse
      exact g _ F m _ S' (Ext.refl _ _) ⟨p, rfl, l'⟩
    | _ => exact g.elim

/-! ### a < b < c -/
theorem go_chain {o o2 : COp} {a b c : E} {σ : L2.St} {H : Hp} {Q Q' : VK} (kq : ∀ b H, Q (.bl b) H → Q' (.bl b) H) (h : Sp1 W xc Wx (ev G (.chain o o2 a b c)).v (relV W) σ H Q) :
    tChain (rCmp W (cmpSem o)) (rCmp W (cmpSem o2)) (Sp1 W xc Wx (ev G a).p (relP W)) (Sp1 W xc Wx (ev G b).p (relP W)) (Sp1 W xc Wx (ev G c).p (relP W)) σ H Q' := by
  have h : Sp1 W xc Wx (fun s => ((ev G a).p s).bind fun p s => ((ev G b).p s).bind fun q s => match (p.get s).bind fun x => (q.get s).bind fun y => cmpSem o x y with
    | none => .bad
    | some false => .ok (.val (.bl false)) s
    | some true => ((ev G c).p s).bind fun r s => O.opt ((q.get s).bind fun y => (r.get s).bind fun z => (cmpSem o2 y z).map fun b => R.val (.bl b)) s) (relV W) σ H Q := h
  refine (h.bind (rel := relP W)).mono fun v H1 ⟨e, F, m, p, s, S, r, g⟩ => ⟨e, F, m, s, S, (g.bind (rel := relP W)).mono fun u H2 ⟨q, s2, F2, m2, S2, x2, r2, g2⟩ => ?_⟩
  simp only at g2
  cases q1 : p.get s2 with
  | none => rw [q1] at g2; exact g2.elim
  | some dx =>
    cases q2 : q.get s2 with
    | none => rw [q1, q2] at g2; exact g2.elim
    | some dy =>
      rw [q1, q2] at g2
      cases q3 : cmpSem o dx dy with
      | none =>
        have g2 : Go W xc Wx e F2 m2 σ (match cmpSem o dx dy with
          | none => O.bad
          | some false => .ok (R.val (.bl false)) s2
          | some true => ((ev G c).p s2).bind fun r s => O.opt ((q.get s).bind fun y => (r.get s).bind fun z => (cmpSem o2 y z).map fun b => R.val (.bl b)) s) (relV W) Q := g2
        rw [q3] at g2
        exact g2.elim
      | some kb =>
        have g2 : Go W xc Wx e F2 m2 σ (match cmpSem o dx dy with
          | none => O.bad
          | some false => .ok (R.val (.bl false)) s2
          | some true => ((ev G c).p s2).bind fun r s => O.opt ((q.get s).bind fun y => (r.get s).bind fun z => (cmpSem o2 y z).map fun b => R.val (.bl b)) s) (relV W) Q := g2
        rw [q3] at g2
        refine ⟨xc, e, F2, m2, s2, σ, dx, dy, kb, S2, See.of_get S2 (r.later x2 (e1 := e) (s1 := s2) (H1 := H2)) q1, See.of_get S2 r2 q2, q3, kb, rfl, ?_⟩
        cases kb with
        | false => exact kq _ _ (g2 _ F2 m2 H2 S2 (Ext.refl _ _) rv_bl)
        | true =>
          refine ⟨e, F2, m2, s2, S2, (Go.bind (rel := relP W) g2).mono fun w H3 ⟨r3, s3, F3, m3, S3, x3, rr3, g3⟩ => ?_⟩
          obtain ⟨rr, e1, g4⟩ := g3.opt
          cases q4 : q.get s3 with
          | none => rw [q4] at e1; cases e1
          | some dy' =>
            cases q5 : r3.get s3 with
            | none => rw [q4, q5] at e1; cases e1
            | some dz =>
              rw [q4, q5] at e1
              have e1 : (cmpSem o2 dy' dz).map (fun b => R.val (.bl b)) = some rr := e1
              simp only [Option.map_eq_some_iff] at e1
              obtain ⟨kb, hk, rfl⟩ := e1
              exact ⟨xc, e, F3, m3, s3, σ, dy', dz, kb, S3, See.of_get S3 (r2.later x3 (e1 := e) (s1 := s3) (H1 := H3)) q4, See.of_get S3 rr3 q5, hk, kq _ _ (g4 _ F3 m3 H3 S3 (Ext.refl _ _) rv_bl)⟩
theorem ok_chain {o o2 : COp} {a b c : E} {x y z : Expr} (C : Cn W X xc Wx T sc ca) (ha : Eok W X xc Wx G a x) (hb : Eok W X xc Wx G b y) (hc : Eok W X xc Wx G c z) (hm : lastMarks [cop o, cop o2] [y, z] = false) :
    Eok W X xc Wx G (.chain o o2 a b c) (.Compare x [cop o, cop o2] [y, z] pos) := by
  have ho := op_cmp (X := X) o C.K C.un
  have ho2 := op_cmp (X := X) o2 C.K C.un
  refine .ofT rfl C.K ((pe_chain ho ho2 ha.p hb.p hc.p hm).imp fun σ H Q h => ?_) (fun _ => rfl) ((pt_chain ho ho2 ha.p hb.p hc.p hm).imp fun σ H Q h => ?_)
  · exact go_chain (o := o) (o2 := o2) (a := a) (b := b) (c := c) (fun _ _ z => z) h
  · exact go_chain (o := o) (o2 := o2) (a := a) (b := b) (c := c) (fun b _ z => ⟨b, rfl, z b rfl⟩) (tv_bl h)

/-! ### ranges as values -/
theorem cr_range1 : CallR X (.type "range") (fun vs H Q => ∃ j, vs = [V.int j] ∧ ∀ p, H p = none → Q (.ref p) (upd H p (.rng 0 j))) := by
  intro pins s σ H vs us Q I r h
  obtain ⟨j, rfl, q⟩ := h
  obtain ⟨u1, rfl, ri⟩ := vals1 r
  obtain ⟨t, rfl⟩ := ri
  refine call_range_1 ⟨.ref s.heap.objs.size, upd H s.heap.objs.size (.rng 0 j), I.laid (t' := s.toks + 1 + 1) (fun b o e => Heap.get?_push_of_some _ e) (Nat.le_refl _) ?_, rfl, q _ (I.hok.fresh (Nat.le_refl _))⟩
  exact ⟨s.toks, t, s.toks + 1, Heap.get?_push_size _ rfl⟩
theorem _root_.MP.Sim.newRng {e : En} {F : Hp} {m : List Addr} {s : St} {σ : L2.St} {H : Hp} (S : Sim W xc e F m s σ H) {q : Addr} {lo hi : Int} (hp : H q = none) :
    Sim W xc e (L2.upd F q (.rng lo hi)) m s σ (L2.upd H q (.rng lo hi)) ∧ Ext F m (L2.upd F q (.rng lo hi)) m ∧ Rep W (L2.upd F q (.rng lo hi)) m (.rng lo hi) (.ref q) := by
  have hf := S.not_F hp
  refine ⟨(S.upd (.rng lo hi) hp).frz upd_same hf (S.not_cell hp) (S.not_e hp) fun i ys h z => ?_, ext_upd hf, ?_⟩
  · obtain ⟨o, h1, a, ws, h2, h3, _⟩ := S.getσ h
    rw [z] at h1
    cases h1
    cases h2
    rw [hp] at h3
    cases h3
  · unfold Rep
    exact ⟨q, rfl, upd_same⟩
theorem ok_rng1 {c : E} {x : Expr} (C : Cn W X xc Wx T sc ca) (B : Cf W X T G k ca) (hg : sc.names.lookup ("range" : Str) = some .globalImplicit) (h : Eok W X xc Wx G c x) : Eok W X xc Wx G (.rng1 c) (.Call (.Name "range" p) [x] [] pos) := by
  refine .of rfl C.K ((pe_callTy cr_range1 (C.gl hg) (B.free _ (by decide)) (by decide +kernel) (pa_cons h.p pa_nil (h.ns [])) (by decide) (by decide) (h.ns []) rfl).imp fun σ H Q q => ?_) (fun _ => rfl) fun _ => rfl
  have q : Sp1 W xc Wx (fun s => ((ev G c).p s).bind fun p s => match p.get s with
    | some (.int j) => .ok (.val (.rng 0 j)) s
    | _ => .bad) (relV W) σ H Q := q
  refine (q.bind (rel := relP W)).mono fun v H1 ⟨e, F, m, p, s, S, r, g⟩ => ?_
  cases q1 : p.get s with
  | none => rw [q1] at g; exact g.elim
  | some d =>
    rw [q1] at g
    cases d with
    | int j =>
      cases (See.of_get S r q1).int
      refine ⟨j, rfl, fun p hp => ?_⟩
      obtain ⟨S', x', r'⟩ := S.newRng (lo := 0) (hi := j) hp
      exact g _ _ m _ S' x' r'
    | _ => exact g.elim
theorem ints2_see {e : En} {F2 : Hp} {m2 : List Addr} {s2 : St} {σ : L2.St} {H2 : Hp} {p q : P} {v u : V} {i j : Int} (S2 : Sim W xc e F2 m2 s2 σ H2) (r : relP W e F2 m2 s2 σ H2 p v) (r2 : relP W e F2 m2 s2 σ H2 q u) (h : ints2 p q s2 = some (i, j)) : v = .int i ∧ u = .int j := by
  unfold ints2 at h
  cases q1 : p.get s2 with
  | none => rw [q1] at h; cases h
  | some dx =>
    cases q2 : q.get s2 with
    | none => rw [q1, q2] at h; cases dx <;> cases h
    | some dy =>
      rw [q1, q2] at h
      cases dx <;> cases dy <;> first | (cases h; exact ⟨(See.of_get S2 r q1).int, (See.of_get S2 r2 q2).int⟩) | cases h
theorem ok_rng2 {a b : E} {x y : Expr} (C : Cn W X xc Wx T sc ca) (B : Cf W X T G k ca) (hg : sc.names.lookup ("range" : Str) = some .globalImplicit) (ha : Eok W X xc Wx G a x) (hb : Eok W X xc Wx G b y) : Eok W X xc Wx G (.rng2 a b) (.Call (.Name "range" p) [x, y] [] pos) := by
  refine .of rfl C.K ((pe_callTy cr_range2 (C.gl hg) (B.free _ (by decide)) (by decide +kernel) (pa_cons ha.p (pa_cons hb.p pa_nil (hb.ns [])) (ha.ns [y])) (by decide) (by decide) (ha.ns [y]) (by rw [hb.ns []]; rfl)).imp fun σ H Q q => ?_) (fun _ => rfl) fun _ => rfl
  have q : Sp1 W xc Wx (fun s => ((ev G a).p s).bind fun p s => ((ev G b).p s).bind fun q s => match ints2 p q s with
    | some (i, j) => .ok (.val (.rng i j)) s
    | none => .bad) (relV W) σ H Q := q
  refine (q.bind (rel := relP W)).mono fun v H1 ⟨e, F, m, p, s, S, r, g⟩ => ⟨e, F, m, s, S, (g.bind (rel := relP W)).mono fun u H2 ⟨q, s2, F2, m2, S2, x2, r2, g2⟩ => ?_⟩
  simp only at g2
  cases q1 : ints2 p q s2 with
  | none => rw [q1] at g2; exact g2.elim
  | some ij =>
    obtain ⟨i, j⟩ := ij
    rw [q1] at g2
    obtain ⟨rfl, rfl⟩ := ints2_see S2 (r.later x2 (e1 := e) (s1 := s2) (H1 := H2)) r2 q1
    refine ⟨i, j, rfl, fun p hp => ?_⟩
    obtain ⟨S', x', r'⟩ := S2.newRng (lo := i) (hi := j) hp
    exact g2 _ _ m2 _ S' x' r'
end
end MP
set_option Elab.async false
set_option linter.all false
set_option maxRecDepth 100000
set_option maxHeartbeats 4000000
/-! MPV: == of instances by their own ==; len(set(..)) of tuples. -/
namespace MP
open PySem PySem.Spec PyProof.Rows L2
/-! ### own == -/
section
variable {X : Cx} {k : Nat} {f C : Addr} {fd : FuncData} {ps : List Str} {sp : Sp}
def noE : XK := fun _ _ _ => False
theorem passes_no {σ : L2.St} : PassesAt (L2.CX X.prog X.w) X σ noE := fun pins H s e s' I c => by
  obtain ⟨_, _, _, _, _, _, _, _, _, _, _, _, h⟩ := c
  exact h.elim
def rEqM (C : Addr) (sp : Sp) : R2 := fun x y H Q => ∃ a b dx dy fs gs, x = .ref a ∧ y = .ref b ∧ H a = some (.ins C dx fs) ∧ H b = some (.ins C dy gs) ∧ sp [x, y] H (fun v H' => (∃ c, v = .bl c) ∧ Q v H') noE
theorem op_eqM (F : FnX X k f fd ps sp) (hm : Meth X.K C "__eq__" f) (hb : Binds X.K fd ps []) (hr : Room k X.A) (hgd : X.A.guards = some []) : OpR X (compareOp .Eq) (rEqM C sp) := by
  intro pins s σ H x y v u Q I rx ry h
  obtain ⟨a, b, dx, dy, fs, gs, rfl, rfl, ha, hb', hq⟩ := h
  cases rx
  cases ry
  show wpAny (model X.prog X.w) X.A (richCompare .Eq (.ref a) (.ref b)) (EP X pins σ Q) X.xe s
  obtain ⟨mA, J, _⟩ := ins_get I.hok ha
  obtain ⟨mB, J', _⟩ := ins_get I.hok hb'
  obtain ⟨od, J, _⟩ := J.look
  obtain ⟨od', J', _⟩ := J'.look
  obtain ⟨m, hF⟩ := I.fr
  refine PySem.W.cmp_K (op := .Eq) (tb := .ref C) hr.units0 hF I.ok.mod.kin J J'.type (by simp [PySem.W.notFirst]) hm.at_ hm.fn ?_
  refine wpAny_mono (runG (E := fun _ => noE) (us := [.ref a, .ref b]) (vs := [.ref a, .ref b]) F hr hgd hb .nil passes_no I (.cons rfl (.cons rfl .nil)) hq) (fun v s' q => ?_) fun _ _ z => z
  obtain ⟨w, H', I', rv, ⟨c, rfl⟩, q2⟩ := q
  cases rv
  exact ⟨.bl c, H', I', rfl, q2⟩
end
section
variable {W : Wd} {xc : XC} {X : Cx} {Wx : WX} {T : Tab} {sc : Scope} {ca : Bool} {G : Env} {k : Nat} {pos p p2 p3 : Pos}
theorem go_eqI {c m : Nat} {g : FnSem} {a b : E} {σ : L2.St} {H : Hp} {Q Q' : VK} {Cc : Addr} (hC : W.cad c = Cc) (hf : G.meth c m = some g) (kq : ∀ b H, Q (.bl b) H → Q' (.bl b) H) (q : Sp1 W xc Wx (ev G (.eqI c m a b)).v (relV W) σ H Q) :
    tOp (rEqM Cc (spOf W g)) (Sp1 W xc Wx (fz (ev G a).v) (relD W)) (Sp1 W xc Wx (fz (ev G b).v) (relD W)) σ H Q' := by
  refine (q.bind (rel := relD W)).mono fun u H1 ⟨e, F, mm, d, s, S, r, g1⟩ => ⟨e, F, mm, s, S, (g1.bind (rel := relD W)).mono fun w H2 ⟨d2, s2, F2, m2', S2, x2, r2, g2⟩ => ?_⟩
  have g2 : Go W xc Wx e F2 m2' σ (match D.see s2.hp d, D.see s2.hp d2 with
    | some (.ins e _), some (.ins e' _) => if e = c ∧ e' = c then (noExc (callFn (G.meth c m) [d, d2] s2)).bind fun r s => match r with
      | .val (.bl k) => O.ok (R.val (.bl k)) s
      | _ => .bad
      else .bad
    | _, _ => .bad) (relV W) Q := g2
  have r1 : Rep W F2 m2' d u := Rep.mono x2 r
  cases q1 : D.see s2.hp d with
  | none => rw [q1] at g2; exact g2.elim
  | some v1 =>
    cases q2 : D.see s2.hp d2 with
    | none => rw [q1, q2] at g2; cases v1 <;> exact g2.elim
    | some v2 =>
      rw [q1, q2] at g2
      cases v1 with
      | ins c1 fs1 =>
        cases v2 with
        | ins c2 fs2 =>
          have g2 : Go W xc Wx e F2 m2' σ (if c1 = c ∧ c2 = c then (noExc (callFn (G.meth c m) [d, d2] s2)).bind fun r s => match r with
            | .val (.bl k) => O.ok (R.val (.bl k)) s
            | _ => .bad
            else .bad) (relV W) Q := g2
          by_cases hc : c1 = c ∧ c2 = c
          · rw [if_pos hc] at g2
            obtain ⟨rfl, rfl⟩ := hc
            obtain ⟨a1, dx1, gs1, rfl, h1, _⟩ := Rep.see S2 r1 q1
            obtain ⟨a2, dx2, gs2, rfl, h2, _⟩ := Rep.see S2 r2 q2
            subst hC
            refine ⟨a1, a2, dx1, dx2, gs1, gs2, rfl, rfl, h1, h2, F2, m2', [d, d2], s2.hp, S2.sub, S2.cells, Reps.cons r1 (Reps.cons r2 Reps.nil), ?_⟩
            rw [hf] at g2
            simp only [callFn] at g2
            cases q3 : g [d, d2] s2.hp with
            | bad => rw [q3] at g2; exact g2.elim
            | exc x h' => rw [q3] at g2; exact g2.elim
            | ok rr h' =>
              rw [q3] at g2
              cases rr with
              | own xs => exact g2.elim
              | val dd =>
                cases dd with
                | bl kk =>
                  intro v F' m' H' A bk
                  have bk : Rep W F' m' (.bl kk) v := bk
                  unfold Rep at bk
                  subst bk
                  have g2 : Go W xc Wx e F2 m2' σ (O.ok (R.val (.bl kk)) { s2 with hp := h' }) (relV W) Q := g2
                  exact ⟨⟨kk, rfl⟩, kq _ _ (g2 _ F' m' H' (S2.after A) A.ext rv_bl)⟩
                | _ => exact g2.elim
          · rw [if_neg hc] at g2
            exact g2.elim
        | _ => exact g2.elim
      | _ => cases v2 <;> exact g2.elim
theorem ok_eqI {c m : Nat} {g : FnSem} {a b : E} {x y : Expr} (C : Cn W X xc Wx T sc ca) (B : Cf W X T G k ca) (hca : ca = true) (hm : T.fld m = ("__eq__" : Str)) (hf : G.meth c m = some g) (ha : Eok W X xc Wx G a x) (hb : Eok W X xc Wx G b y) (hmk : behindInMarks .Eq y = false) :
    Eok W X xc Wx G (.eqI c m a b) (.Compare x [.Eq] [y] pos) := by
  obtain ⟨f, fd, ps, F, m1, m2, m3⟩ := B.meth c m g hf
  rw [hm] at m2
  have ho := op_eqM F m2 m3 ((B.room hca).mono (Nat.le_succ _)) C.gd
  refine .ofT rfl C.K ((pe_cmpR ho ha.fz hb.fz hmk).imp fun σ H Q h => ?_) (fun _ => rfl) ((pt_cmpR ho ha.fz hb.fz hmk).imp fun σ H Q h => ?_)
  · exact go_eqI (a := a) (b := b) (m := m) rfl hf (fun _ _ z => z) h
  · exact go_eqI (a := a) (b := b) (m := m) rfl hf (fun b _ z => ⟨b, rfl, z b rfl⟩) (tv_bl h)
end
/-! ### len(set(..)) of tuples -/
theorem unlikes_spec : ∀ l : List (List Int), ∃ u : List (List Int), u.Nodup ∧ (∀ z, z ∈ u ↔ z ∈ l) ∧ u.length = unlikes l
  | [] => ⟨[], List.nodup_nil, fun _ => Iff.rfl, rfl⟩
  | x :: l => by
    obtain ⟨u, h1, h2, h3⟩ := unlikes_spec l
    unfold unlikes
    by_cases hx : x ∈ l
    · rw [if_pos hx]
      refine ⟨u, h1, fun z => ?_, h3⟩
      rw [h2, List.mem_cons]
      exact ⟨.inr, fun h => h.elim (fun e => e ▸ hx) id⟩
    · rw [if_neg hx]
      refine ⟨x :: u, List.nodup_cons.mpr ⟨fun h => hx ((h2 x).mp h), h1⟩, fun z => ?_, by rw [List.length_cons, h3]⟩
      rw [List.mem_cons, List.mem_cons, h2]
theorem nodup_leT {α : Type} [DecidableEq α] : ∀ {l m : List α}, l.Nodup → (∀ z, z ∈ l → z ∈ m) → l.length ≤ m.length
  | [], _, _, _ => Nat.zero_le _
  | x :: l, m, a, h => by
    obtain ⟨a1, a2⟩ := List.nodup_cons.mp a
    have hx := h x List.mem_cons_self
    have q := nodup_leT a2 (m := m.erase x) fun z hz => (List.mem_erase_of_ne (by intro e; rw [e] at hz; exact a1 hz)).mpr (h z (List.mem_cons_of_mem _ hz))
    rw [List.length_erase_of_mem hx] at q
    have := List.length_pos_of_mem hx
    rw [List.length_cons]
    omega
theorem unlikes_len {l m : List (List Int)} (h : m.Nodup) (e : ∀ z, z ∈ m ↔ z ∈ l) : m.length = unlikes l := by
  obtain ⟨u, h1, h2, h3⟩ := unlikes_spec l
  rw [← h3]
  exact Nat.le_antisymm (nodup_leT h fun z hz => (h2 z).mpr ((e z).mp hz)) (nodup_leT h1 fun z hz => (e z).mpr ((h2 z).mp hz))
def rLenSetT (K : PySem.W.Frag) (P : Program) (w : World) : List V → Hp → VK → Prop := fun vs H Q => ∃ (a : Addr) (L : List (Addr × List Int)), vs = [V.ref a] ∧ H a = some (SetTO P w a L) ∧ (∀ p ∈ L, SqT K H p.1 (p.2.map V.int)) ∧ ((L.map (·.2)).Nodup → Q (.int (L.length : Nat)) H)
theorem cr_lenSetT {X : Cx} : CallR X (.builtin "len") (rLenSetT X.K X.prog X.w) := by
  intro pins s σ H vs us Q I r h
  obtain ⟨a, L, rfl, ha, hk, q⟩ := h
  have R0 : SetT0 X.prog X.w s.heap a L := (I.hok a _ ha).1
  obtain ⟨es, ep, t, R⟩ := R0.full fun p hp => I.isT (hk p hp)
  obtain ⟨o, ho, hex, hd⟩ := R.ob
  have hz := R.size
  have h8 := R.few
  rw [Vals.ref1 r]
  refine call_len_set ho hex hd R.fits (by omega) ?_
  rw [hz]
  exact ⟨.int (L.length : Nat), H, I.tok _, ⟨_, rfl⟩, q R.nd⟩
section
variable {W : Wd} {xc : XC} {X : Cx} {Wx : WX} {T : Tab} {sc : Scope} {ca : Bool} {G : Env} {k : Nat} {pos p p2 p3 : Pos}
theorem tups_reps {F : Hp} {m : List Addr} : ∀ {xs : List D} {l : List (List Int)} {ws : List V}, D.tups xs = some l → Reps W F m xs ws → ∃ ks : List (Addr × List Int), ws = ks.map (fun p => V.ref p.1) ∧ ks.map (·.2) = l ∧ ∀ p ∈ ks, SqT W.K F p.1 (p.2.map V.int)
  | [], l, ws, h, r => by
    cases h
    unfold Reps at r
    subst r
    exact ⟨[], rfl, rfl, fun p hp => nomatch hp⟩
  | .tup ys :: xs, l, ws, h, r => by
    unfold D.tups at h
    unfold Reps at r
    obtain ⟨v, ws', rfl, r1, r2⟩ := r
    cases h1 : D.ints ys with
    | none => rw [h1] at h; cases h
    | some l1 =>
      cases h2 : D.tups xs with
      | none => rw [h1, h2] at h; cases h
      | some l2 =>
        rw [h1, h2] at h
        cases h
        obtain ⟨ks, rfl, rfl, k3⟩ := tups_reps h2 r2
        unfold Rep at r1
        obtain ⟨a, vs, rfl, q1, q2⟩ := r1
        have q3 := ints_reps h1 q2
        subst q3
        refine ⟨(a, l1) :: ks, rfl, rfl, fun p hp => ?_⟩
        rcases List.mem_cons.mp hp with rfl | hp
        · exact q1
        · exact k3 p hp
  | .non :: _, _, _, h, _ => by cases h
  | .bl _ :: _, _, _, h, _ => by cases h
  | .int _ :: _, _, _, h, _ => by cases h
  | .str _ :: _, _, _, h, _ => by cases h
  | .lst _ :: _, _, _, h, _ => by cases h
  | .ins _ _ :: _, _, _, h, _ => by cases h
  | .cell _ :: _, _, _, h, _ => by cases h
  | .ext _ :: _, _, _, h, _ => by cases h
  | .rng _ _ :: _, _, _, h, _ => by cases h
theorem ok_lenSet {c : E} {x : Expr} (C : Cn W X xc Wx T sc ca) (B : Cf W X T G k ca) (hc : ca = true) (hg : sc.names.lookup ("len" : Str) = some .globalImplicit) (hg2 : sc.names.lookup ("set" : Str) = some .globalImplicit) (h : Eok W X xc Wx G c x) :
    Eok W X xc Wx G (.lenSet c) (.Call (.Name "len" p) [.Call (.Name "set" p2) [x] [] p3] [] pos) := by
  have pset := pe_callTy (p := p2) (pos := p3) (cr_setOfT (C.calm hc) (by have := C.un; omega)) (C.gl hg2) (B.free _ (by decide)) (by decide +kernel) (pa_cons h.p pa_nil (h.ns [])) (by decide) (by decide) (h.ns []) (aok_nil (W := W) (xc := xc) (Wx := Wx) (G := G)).any
  have nsS : ∀ es, starEach (.Call (.Name "set" p2) [x] [] p3 :: es) X.env = (false, eval (.Call (.Name "set" p2) [x] [] p3) X.env) :: starEach es X.env := fun _ => rfl
  refine .of rfl C.K ((pe_callB cr_lenSetT (C.gl hg) (B.free _ (by decide)) (by decide +kernel) (pa_cons pset pa_nil (nsS [])) (by decide) (by decide) (nsS []) rfl).imp fun σ H Q q => ?_) (fun _ => rfl) fun _ => rfl
  have q : Sp1 W xc Wx (fun s => ((ev G c).p s).bind fun p s => O.opt ((p.get s).bind lenSetSem) s) (relV W) σ H Q := q
  refine (q.bind (rel := relP W)).mono fun v H1 ⟨e, F, m, p, s, S, r, g⟩ => ?_
  obtain ⟨rr, e1, g2⟩ := g.opt
  cases q1 : p.get s with
  | none => rw [q1] at e1; cases e1
  | some d =>
    rw [q1] at e1
    have e1 : lenSetSem d = some rr := e1
    have sd := See.of_get S r q1
    cases d with
    | lst xs =>
      simp only [lenSetSem, Option.bind_eq_some_iff] at e1
      obtain ⟨l, hl, e2⟩ := e1
      by_cases h64 : l.length < 64
      · rw [if_pos h64] at e2
        cases e2
        obtain ⟨a', ws, rfl, g5, g6⟩ := sd
        obtain ⟨ks, rfl, rfl, k3⟩ := tups_reps hl g6
        have kk : ∀ p ∈ ks, SqT X.K H1 p.1 (p.2.map V.int) := fun p hp => by rw [C.K]; exact Same.sqT S.sub (k3 p hp)
        refine ⟨a', ks, rfl, SqL.of g5, kk, by simpa using h64, fun b L hb hL1 hL2 => ?_⟩
        refine ⟨b, L, rfl, upd_same, fun p hp => SqT.ext (kk p (hL1 p hp)) (L2.Ext.upd hb), fun nd => ?_⟩
        have el : L.length = unlikes (ks.map (·.2)) := by
          rw [← List.length_map (f := fun p : Addr × List Int => p.2)]
          refine unlikes_len nd fun z => ⟨fun hz => ?_, fun hz => ?_⟩
          · obtain ⟨p, hp, rfl⟩ := List.mem_map.mp hz
            exact List.mem_map.mpr ⟨p, hL1 p hp, rfl⟩
          · obtain ⟨p, hp, rfl⟩ := List.mem_map.mp hz
            exact hL2 p hp
        rw [el]
        exact g2 _ F m _ (S.upd _ hb) (Ext.refl _ _) rv_int
      · rw [if_neg h64] at e2
        cases e2
    | _ => cases e1
end
end MP
set_option Elab.async false
set_option linter.all false
set_option maxRecDepth 100000
set_option maxHeartbeats 4000000
/-! MP8: what is walked, targets, comprehensions. -/
namespace MP
open PySem PySem.Spec PyProof.Rows L2

/-! ### states -/
section
variable {W : Wd} {xc : XC} {e : En} {F : Hp} {m : List Addr} {s : St} {σ : L2.St} {H : Hp}
theorem Sim.wipe (S : Sim W xc e F m s σ H) : ∀ vs : List Nat, Sim W xc e F m { s with sl := MP.wipe s.sl vs } (L2.wipe σ vs) H
  | [] => S
  | v :: vs => by
    have q := (S.wipe vs).setNone (i := v)
    exact q
def En.pin (e : En) (D : Addr) (o : HO) : En := ⟨e.F, e.m, L2.upd e.H D o⟩
/-- a thing is known to stand as it stands -/
theorem Sim.pin (S : Sim W xc e F m s σ H) {D : Addr} {o : HO} (hD : H D = some o) (hf : F D = none) (hm : D ∉ m) (he : e.H D = none) (hs : ∀ (i : Nat) ys, s.sl[i]? = some (.own ys) → σ[i]? ≠ some (some (.ref D))) : Sim W xc (e.pin D o) F m s σ H where
  sub := S.sub
  cells := S.cells
  len := S.len
  slot := fun i x u h1 h2 => by
    have q := S.slot i x u h1 h2
    cases x with
    | own xs =>
      obtain ⟨a, vs, rfl, h3, h4, h5, h6, h7⟩ := q
      refine ⟨a, vs, rfl, h3, h4, h5, h6, ?_⟩
      show L2.upd e.H D o a = none
      rw [upd_ne (fun z => hs i xs h1 (by rw [h2, z]))]
      exact h7
    | no => exact q
    | val d => exact q
    | exc x => exact q
  apart := S.apart
  ext := S.ext
  fr := fun a u h => (S.fr a u h).imp id fun z => by
    show L2.upd e.H D o a = none
    rw [upd_ne (fun y => by rw [y, hf] at h; cases h)]
    exact z
  keep := fun a u h1 h2 => by
    have h1 : L2.upd e.H D o a = some u := h1
    by_cases q : a = D
    · subst q
      rw [upd_same] at h1
      cases h1
      exact hD
    · rw [upd_ne q] at h1
      exact S.keep a u h1 h2
  new := fun a h1 h2 => by
    show L2.upd e.H D o a = none
    rw [upd_ne (by intro y; rw [y] at h1; exact hm h1)]
    exact S.new a h1 h2
theorem Sim.unpin {D : Addr} {o : HO} (S : Sim W xc (e.pin D o) F m s σ H) (he : e.H D = none) (hf : e.F D = none) (hm : D ∉ e.m) :
    Sim W xc e F m s σ H ∧ H D = some o ∧ F D = none ∧ D ∉ m ∧ ∀ (i : Nat) ys, s.sl[i]? = some (.own ys) → σ[i]? ≠ some (some (.ref D)) := by
  have sm : ∀ {a : Addr}, (e.pin D o).H a = none → e.H a = none ∧ a ≠ D := fun {a} h => by
    have h : L2.upd e.H D o a = none := h
    by_cases q : a = D
    · subst q
      rw [upd_same] at h
      cases h
    · rw [upd_ne q] at h
      exact ⟨h, q⟩
  have pD : (e.pin D o).H D = some o := upd_same
  refine ⟨⟨S.sub, S.cells, S.len, fun i x u h1 h2 => ?_, S.apart, S.ext, fun a u h => (S.fr a u h).imp id fun z => (sm z).1, fun a u h1 h2 => ?_, fun a h1 h2 => (sm (S.new a h1 h2)).1⟩, S.keep D o pD hm, ?_, ?_, fun i ys h1 h2 => ?_⟩
  · have q := S.slot i x u h1 h2
    cases x with
    | own xs =>
      obtain ⟨a, vs, rfl, h3, h4, h5, h6, h7⟩ := q
      exact ⟨a, vs, rfl, h3, h4, h5, h6, (sm h7).1⟩
    | no => exact q
    | val d => exact q
    | exc x => exact q
  · refine S.keep a u ?_ h2
    show L2.upd e.H D o a = some u
    rw [upd_ne (fun z => by rw [z, he] at h1; cases h1)]
    exact h1
  · cases q : F D with
    | none => rfl
    | some u =>
      rcases S.fr D u q with z | z
      · have z : e.F D = some u := z
        rw [hf] at z
        cases z
      · exact absurd rfl (sm z).2
  · intro h
    by_cases q : D ∈ e.m
    · exact hm q
    · exact absurd rfl (sm (S.new D h q)).2
  · have q := S.slot i _ _ h1 h2
    obtain ⟨a, vs, e1, h3, h4, h5, h6, h7⟩ := q
    cases e1
    exact absurd rfl (sm h7).2
/-- a thing that nothing names is changed -/
theorem Sim.poke (S : Sim W xc e F m s σ H) {D : Addr} (o : HO) (hf : F D = none) (hm : D ∉ m) (he : e.H D = none) (hs : ∀ (i : Nat) ys, s.sl[i]? = some (.own ys) → σ[i]? ≠ some (some (.ref D))) : Sim W xc e F m s σ (L2.upd H D o) where
  sub := fun a u h => by
    rw [upd_ne (fun z => by rw [z, hf] at h; cases h)]
    exact S.sub a u h
  cells := ⟨S.cells.len, S.cells.nd, fun i c a h1 h2 => by
    obtain ⟨q1, q2⟩ := S.cells.ok i c a h1 h2
    refine ⟨q1, q2.mono (Ext.refl F m) fun u hu => ?_⟩
    rw [upd_ne (by intro z; rw [z] at h2; exact hm (List.mem_of_getElem? h2))]
    exact hu⟩
  len := S.len
  slot := fun i x u h1 h2 => by
    have q := S.slot i x u h1 h2
    cases x with
    | own xs =>
      obtain ⟨a, vs, rfl, h3, h4, h5, h6, h7⟩ := q
      refine ⟨a, vs, rfl, ?_, h4, h5, h6, h7⟩
      rw [upd_ne (fun z => hs i xs h1 (by rw [h2, z]))]
      exact h3
    | no => exact q
    | val d => exact q
    | exc x => exact q
  apart := S.apart
  ext := S.ext
  fr := S.fr
  keep := fun a u h1 h2 => by
    rw [upd_ne (fun z => by rw [z, he] at h1; cases h1)]
    exact S.keep a u h1 h2
  new := S.new
end
/-! ### what is walked -/
/-- J yields ds -/
def Wk (W : Wd) (F : Hp) (m : List Addr) (ds : List D) (J : It) : Prop := ∀ (i : Nat) (xc : XC) (e : En) (F1 : Hp) (m1 : List Addr) (s : St) (σ : L2.St) (H : Hp), Sim W xc e F1 m1 s σ H → Ext F m F1 m1 →
  (∀ d, ds[i]? = some d → J.go i H ∧ ∀ x H', J.yld i H x H' → ∃ F2, Sim W xc e F2 m1 s σ H' ∧ Ext F1 m1 F2 m1 ∧ Rep W F2 m1 d x) ∧ (ds.length ≤ i → J.stop i H)
def relI (W : Wd) : Rl (List D) It := fun _ F m _ _ _ ds J => Wk W F m ds J
structure Iok (W : Wd) (X : Cx) (xc : XC) (Wx : WX) (G : Env) (c : Src) (tg iter : Expr) : Prop where
  pi : PI X tg iter (fun σ H R => Sp1 W xc Wx (evr G c) (relI W) σ H R)
  fs : ∀ x, foldedSetIterable iter X.env x = pure x
theorem _root_.L2.PI.imp {X : Cx} {tg iter : Expr} {t t' : TI} (h : PI X tg iter t) (k : ∀ σ H R, t' σ H R → t σ H R) : PI X tg iter t' := ⟨fun pins s σ H R I q => h.run pins s σ H R I (k _ _ _ q)⟩
theorem runRange_get : ∀ (n : Nat) (lo : Int) (i : Nat) (d : D), (runRange lo n)[i]? = some d → i < n ∧ d = .int (lo + i)
  | 0, _, _, _, h => by simp [runRange] at h
  | n + 1, lo, 0, d, h => by
    simp [runRange] at h
    exact ⟨Nat.succ_pos _, by rw [← h]; simp⟩
  | n + 1, lo, i + 1, d, h => by
    have h : (runRange (lo + 1) n)[i]? = some d := by simpa [runRange] using h
    obtain ⟨h1, h2⟩ := runRange_get n (lo + 1) i d h
    refine ⟨by omega, ?_⟩
    rw [h2]
    congr 1
    omega
theorem runRange_len : ∀ (n : Nat) (lo : Int), (runRange lo n).length = n
  | 0, _ => rfl
  | n + 1, lo => by simp [runRange, runRange_len n]
section
variable {W : Wd} {xc : XC} {X : Cx} {Wx : WX} {T : Tab} {sc : Scope} {ca : Bool} {G : Env} {k : Nat} {pos p p2 p3 : Pos} {F : Hp} {m : List Addr}
theorem wk_list {a : Addr} {vs : List V} {xs : List D} (h : SqL W.K F a vs) (r : Reps W F m xs vs) : Wk W F m xs (Itl W.K a) := by
  intro i xc e F1 m1 s σ H S x
  have hq : SqL W.K H a vs := S.sub.seq (x.fx.seq h)
  refine ⟨fun d hd => ?_, fun hl => ⟨vs, hq, by rw [r.length]; exact hl⟩⟩
  obtain ⟨v, h1, h2⟩ := r.get hd
  refine ⟨⟨vs, v, hq, h1⟩, fun x' H' ⟨e1, e2⟩ => ?_⟩
  subst e1
  have e3 := e2 vs hq
  rw [h1] at e3
  cases e3
  exact ⟨F1, S, Ext.refl _ _, h2.mono x⟩
theorem wk_tup {a : Addr} {vs : List V} {xs : List D} (h : SqT W.K F a vs) (r : Reps W F m xs vs) : Wk W F m xs (Itt W.K a) := by
  intro i xc e F1 m1 s σ H S x
  have hq : SqT W.K H a vs := Same.sqT S.sub (Same.sqT x.fx h)
  refine ⟨fun d hd => ?_, fun hl => ⟨vs, hq, by rw [r.length]; exact hl⟩⟩
  obtain ⟨v, h1, h2⟩ := r.get hd
  refine ⟨⟨vs, v, hq, h1⟩, fun x' H' ⟨e1, e2⟩ => ?_⟩
  subst e1
  have e3 := e2 vs hq
  rw [h1] at e3
  cases e3
  exact ⟨F1, S, Ext.refl _ _, h2.mono x⟩
theorem wk_range {lo : Int} {n : Nat} : Wk W F m (runRange lo n) (Itr lo n) := by
  intro i xc e F1 m1 s σ H S x
  refine ⟨fun d hd => ?_, fun hl => by rw [runRange_len] at hl; exact hl⟩
  obtain ⟨h1, rfl⟩ := runRange_get _ _ _ _ hd
  refine ⟨h1, fun x' H' ⟨e1, e2⟩ => ?_⟩
  subst e1 e2
  exact ⟨F1, S, Ext.refl _ _, rep_int⟩
theorem runSeq_get : ∀ (ds : List D) (j i : Nat) (d : D), (runSeq ds j)[i]? = some d → ∃ y, ds[i]? = some y ∧ d = .tup [.int ((j + i : Nat) : Int), y]
  | [], _, _, _, h => by simp [runSeq] at h
  | y :: ds, j, 0, d, h => by
    simp [runSeq] at h
    exact ⟨y, rfl, by rw [← h]; simp⟩
  | y :: ds, j, i + 1, d, h => by
    have h : (runSeq ds (j + 1))[i]? = some d := by simpa [runSeq] using h
    obtain ⟨z, h1, h2⟩ := runSeq_get ds (j + 1) i d h
    refine ⟨z, by simpa using h1, ?_⟩
    rw [h2]
    congr 4
    omega
theorem runSeq_len : ∀ (ds : List D) (j : Nat), (runSeq ds j).length = ds.length
  | [], _ => rfl
  | _ :: ds, j => by simp [runSeq, runSeq_len ds]
theorem wk_enum {a : Addr} {vs : List V} {xs : List D} (h : SqL W.K F a vs) (r : Reps W F m xs vs) : Wk W F m (runSeq xs 0) (Ite W.K a) := by
  intro i xc e F1 m1 s σ H S x
  have hq : SqL W.K H a vs := S.sub.seq (x.fx.seq h)
  refine ⟨fun d hd => ?_, fun hl => ⟨vs, hq, by rw [r.length]; rw [runSeq_len] at hl; exact hl⟩⟩
  obtain ⟨y, hy, rfl⟩ := runSeq_get _ _ _ _ hd
  obtain ⟨v, h1, h2⟩ := r.get hy
  refine ⟨⟨vs, v, hq, h1⟩, fun x' H' ⟨t, u, e1, e2, e3, e4⟩ => ?_⟩
  subst e1 e3
  have e5 := e4 vs hq
  rw [h1] at e5
  cases e5
  obtain ⟨S', x', r'⟩ := S.newTup e2 (Reps.cons (rep_int (i := (i : Int))) (Reps.cons (h2.mono x) Reps.nil))
  exact ⟨_, S', x', by simpa using r'⟩
theorem runZip_get : ∀ (xs ys : List D) (i : Nat) (d : D), (runZip xs ys)[i]? = some d → ∃ x y, xs[i]? = some x ∧ ys[i]? = some y ∧ d = .tup [x, y]
  | [], _, _, _, h => by simp [runZip] at h
  | _ :: _, [], _, _, h => by simp [runZip] at h
  | x :: xs, y :: ys, 0, d, h => by
    simp [runZip] at h
    exact ⟨x, y, rfl, rfl, h.symm⟩
  | x :: xs, y :: ys, i + 1, d, h => by
    have h : (runZip xs ys)[i]? = some d := by simpa [runZip] using h
    obtain ⟨x', y', h1, h2, h3⟩ := runZip_get xs ys i d h
    exact ⟨x', y', by simpa using h1, by simpa using h2, h3⟩
theorem runZip_len : ∀ (xs ys : List D), (runZip xs ys).length = min xs.length ys.length
  | [], _ => by simp [runZip]
  | _ :: _, [] => by simp [runZip]
  | x :: xs, y :: ys => by simp [runZip, runZip_len xs ys, Nat.add_min_add_right]
theorem wk_zip {a b : Addr} {vs us : List V} {xs ys : List D} (h : SqL W.K F a vs) (r : Reps W F m xs vs) (h' : SqL W.K F b us) (r' : Reps W F m ys us) : Wk W F m (runZip xs ys) (Itz W.K a b) := by
  intro i xc e F1 m1 s σ H S x
  have hq : SqL W.K H a vs := S.sub.seq (x.fx.seq h)
  have hq' : SqL W.K H b us := S.sub.seq (x.fx.seq h')
  refine ⟨fun d hd => ?_, fun hl => ⟨vs, us, hq, hq', ?_⟩⟩
  · obtain ⟨y, z, hy, hz, rfl⟩ := runZip_get _ _ _ _ hd
    obtain ⟨v, h1, h2⟩ := r.get hy
    obtain ⟨u, h3, h4⟩ := r'.get hz
    refine ⟨⟨vs, us, v, u, hq, hq', h1, h3⟩, fun x' H' ⟨t, v', u', e1, e2, e3, e4, e5⟩ => ?_⟩
    subst e1 e3
    have e6 := e4 vs hq
    have e7 := e5 us hq'
    rw [h1] at e6
    rw [h3] at e7
    cases e6
    cases e7
    obtain ⟨S', x', r'⟩ := S.newTup e2 (Reps.cons (h2.mono x) (Reps.cons (h4.mono x) Reps.nil))
    exact ⟨_, S', x', r'⟩
  · rw [r.length, r'.length]
    rw [runZip_len] at hl
    omega
theorem wk_zipT {a b : Addr} {vs us : List V} {xs ys : List D} (h : SqT W.K F a vs) (r : Reps W F m xs vs) (h' : SqT W.K F b us) (r' : Reps W F m ys us) : Wk W F m (runZip xs ys) (RZ.ItzT W.K a b) := by
  intro i xc e F1 m1 s σ H S x
  have hq : SqT W.K H a vs := Same.sqT S.sub (Same.sqT x.fx h)
  have hq' : SqT W.K H b us := Same.sqT S.sub (Same.sqT x.fx h')
  refine ⟨fun d hd => ?_, fun hl => ⟨vs, us, hq, hq', ?_⟩⟩
  · obtain ⟨y, z, hy, hz, rfl⟩ := runZip_get _ _ _ _ hd
    obtain ⟨v, h1, h2⟩ := r.get hy
    obtain ⟨u, h3, h4⟩ := r'.get hz
    refine ⟨⟨vs, us, v, u, hq, hq', h1, h3⟩, fun x' H' ⟨t, v', u', e1, e2, e3, e4, e5⟩ => ?_⟩
    subst e1 e3
    have e6 := e4 vs hq
    have e7 := e5 us hq'
    rw [h1] at e6
    rw [h3] at e7
    cases e6
    cases e7
    obtain ⟨S', x', r'⟩ := S.newTup e2 (Reps.cons (h2.mono x) (Reps.cons (h4.mono x) Reps.nil))
    exact ⟨_, S', x', r'⟩
  · rw [r.length, r'.length]
    rw [runZip_len] at hl
    omega
/-- what seqP gives -/
theorem seqP_ok {e : En} {s : St} {σ : L2.St} {H : Hp} {q : P} {v : V} {o : O (Bool × List D)} (S : Sim W xc e F m s σ H) (r : relP W e F m s σ H q v) (h : seqP q s = o) :
    o = .bad ∨ ∃ k xs s' F', o = .ok (k, xs) s' ∧ Sim W xc e F' m s' σ H ∧ Ext F m F' m ∧ ∃ a vs, v = .ref a ∧ (if k = true then SqT W.K F' a vs else SqL W.K F' a vs) ∧ Reps W F' m xs vs := by
  have dat : ∀ {d : D}, Rep W F m d v → O.opt d.seq s = o → o = .bad ∨ ∃ k xs s' F', o = .ok (k, xs) s' ∧ Sim W xc e F' m s' σ H ∧ Ext F m F' m ∧ ∃ a vs, v = .ref a ∧ (if k = true then SqT W.K F' a vs else SqL W.K F' a vs) ∧ Reps W F' m xs vs := fun {d} rr h => by
    cases d with
    | tup xs =>
      unfold Rep at rr
      obtain ⟨a, vs, e1, e2, e3⟩ := rr
      exact .inr ⟨true, xs, s, F, h.symm, S, Ext.refl _ _, a, vs, e1, e2, e3⟩
    | lst xs =>
      unfold Rep at rr
      obtain ⟨a, vs, e1, e2, e3⟩ := rr
      exact .inr ⟨false, xs, s, F, h.symm, S, Ext.refl _ _, a, vs, e1, SqL.of e2, e3⟩
    | ext xs =>
      unfold Rep at rr
      obtain ⟨a, vs, e1, e2, e3⟩ := rr
      exact .inr ⟨false, xs, s, F, h.symm, S, Ext.refl _ _, a, vs, e1, e2, e3⟩
    | _ => exact .inl h.symm
  cases q with
  | dat d => exact dat r h
  | sl i =>
    have r : σ[i]? = some (some v) := r
    have h : (match s.sl[i]? with
      | some (.val d) => O.opt d.seq s
      | some (.own xs) => .ok (false, xs) (s.put i (.val (.lst xs)))
      | _ => .bad) = o := h
    cases q : s.sl[i]? with
    | none => rw [q] at h; exact .inl h.symm
    | some x =>
      rw [q] at h
      cases x with
      | val d =>
        obtain ⟨u, e1, e2⟩ := S.slot i _ _ q r
        cases e1
        exact dat e2 h
      | own xs =>
        obtain ⟨F', v', h1, S', x', r'⟩ := S.giveSlot q
        rw [r] at h1
        cases h1
        unfold Rep at r'
        obtain ⟨a, vs, e1, e2, e3⟩ := r'
        exact .inr ⟨false, xs, _, F', h.symm, S', x', a, vs, e1, SqL.of e2, e3⟩
      | no => exact .inl h.symm
      | exc x => exact .inl h.symm
/-- what walkP gives -/
theorem walkP_ok {e : En} {s : St} {σ : L2.St} {H : Hp} {q : P} {v : V} {o : O (List D)} (S : Sim W xc e F m s σ H) (r : relP W e F m s σ H q v) (h : walkP q s = o) :
    o = .bad ∨ ∃ xs s' F', o = .ok xs s' ∧ Sim W xc e F' m s' σ H ∧ Ext F m F' m ∧ ((∃ a vs, v = .ref a ∧ SqL W.K H a vs ∧ Wk W F' m xs (Itl W.K a)) ∨ (∃ a vs, v = .ref a ∧ SqT W.K H a vs ∧ Wk W F' m xs (Itt W.K a)) ∨
      ∃ a lo hi, v = .ref a ∧ H a = some (.rng lo hi) ∧ (-(2 ^ 62) ≤ lo ∧ lo < 2 ^ 62 ∧ -(2 ^ 62) ≤ hi ∧ hi < 2 ^ 62) ∧ Wk W F' m xs (Itr lo (hi - lo).toNat)) := by
  have dat : ∀ {d : D}, Rep W F m d v → O.opt d.items s = o → o = .bad ∨ ∃ xs s' F', o = .ok xs s' ∧ Sim W xc e F' m s' σ H ∧ Ext F m F' m ∧ ((∃ a vs, v = .ref a ∧ SqL W.K H a vs ∧ Wk W F' m xs (Itl W.K a)) ∨ (∃ a vs, v = .ref a ∧ SqT W.K H a vs ∧ Wk W F' m xs (Itt W.K a)) ∨
      ∃ a lo hi, v = .ref a ∧ H a = some (.rng lo hi) ∧ (-(2 ^ 62) ≤ lo ∧ lo < 2 ^ 62 ∧ -(2 ^ 62) ≤ hi ∧ hi < 2 ^ 62) ∧ Wk W F' m xs (Itr lo (hi - lo).toNat)) := fun {d} rr h => by
    cases d with
    | tup xs =>
      unfold Rep at rr
      obtain ⟨a, vs, e1, e2, e3⟩ := rr
      exact .inr ⟨xs, s, F, h.symm, S, Ext.refl _ _, .inr (.inl ⟨a, vs, e1, Same.sqT S.sub e2, wk_tup e2 e3⟩)⟩
    | lst xs =>
      unfold Rep at rr
      obtain ⟨a, vs, e1, e2, e3⟩ := rr
      exact .inr ⟨xs, s, F, h.symm, S, Ext.refl _ _, .inl ⟨a, vs, e1, SqL.of (S.sub _ _ e2), wk_list (SqL.of e2) e3⟩⟩
    | ext xs =>
      unfold Rep at rr
      obtain ⟨a, vs, e1, e2, e3⟩ := rr
      exact .inr ⟨xs, s, F, h.symm, S, Ext.refl _ _, .inl ⟨a, vs, e1, S.sub.seq e2, wk_list e2 e3⟩⟩
    | rng lo hi =>
      unfold Rep at rr
      obtain ⟨a, e1, e2⟩ := rr
      have h : O.opt (if small lo && small hi then some (runRange lo (hi - lo).toNat) else none) s = o := h
      by_cases hc : (small lo && small hi) = true
      · rw [if_pos hc] at h
        have hc := Bool.and_eq_true_iff.mp hc
        exact .inr ⟨_, s, F, h.symm, S, Ext.refl _ _, .inr (.inr ⟨a, lo, hi, e1, S.sub _ _ e2, ⟨(small_le hc.1).1, (small_le hc.1).2, (small_le hc.2).1, (small_le hc.2).2⟩, wk_range⟩)⟩
      · rw [if_neg hc] at h
        exact .inl h.symm
    | _ => exact .inl h.symm
  cases q with
  | dat d => exact dat r h
  | sl i =>
    have r : σ[i]? = some (some v) := r
    have h : (match s.sl[i]? with
      | some (.val d) => O.opt d.items s
      | some (.own xs) => .ok xs (s.put i (.val (.lst xs)))
      | _ => .bad) = o := h
    cases q : s.sl[i]? with
    | none => rw [q] at h; exact .inl h.symm
    | some x =>
      rw [q] at h
      cases x with
      | val d =>
        obtain ⟨u, e1, e2⟩ := S.slot i _ _ q r
        cases e1
        exact dat e2 h
      | own xs =>
        obtain ⟨F', v', h1, S', x', r'⟩ := S.giveSlot q
        rw [r] at h1
        cases h1
        unfold Rep at r'
        obtain ⟨a, vs, e1, e2, e3⟩ := r'
        exact .inr ⟨xs, _, F', h.symm, S', x', .inl ⟨a, vs, e1, SqL.of (S'.sub _ _ e2), wk_list (SqL.of e2) e3⟩⟩
      | no => exact .inl h.symm
      | exc x => exact .inl h.symm
def iAny (K : PySem.W.Frag) (tl : TE) : TI := fun σ H R => tl σ H fun x H1 => (∃ a, x = .ref a ∧ (∃ xs, SqL K H1 a xs) ∧ R (Itl K a) H1) ∨ (∃ a, x = .ref a ∧ (∃ xs, SqT K H1 a xs) ∧ R (Itt K a) H1) ∨
  ∃ a lo hi, x = .ref a ∧ H1 a = some (.rng lo hi) ∧ (-(2 ^ 62) ≤ lo ∧ lo < 2 ^ 62 ∧ -(2 ^ 62) ≤ hi ∧ hi < 2 ^ 62) ∧ R (Itr lo (hi - lo).toNat) H1
theorem pi_any {tg l : Expr} {tl : TE} (hl : PE X l tl) : PI X tg l (iAny X.K tl) := by
  refine ⟨fun pins s σ H R I h => ?_⟩
  refine thn (hl.run pins s σ H _ I h) fun v s1 ⟨x, H1, I1, r1, q1⟩ => ?_
  rcases q1 with ⟨a, e, ⟨xs, hq⟩, q⟩ | ⟨a, e, ⟨xs, hq⟩, q⟩ | ⟨a, lo, hi, e, ha, ⟨b1, b2, b3, b4⟩, q⟩
  · subst e
    cases r1
    obtain ⟨its, rv, p, hz⟩ := I1.list hq
    refine wpAny_pyIter_list p.isList ?_
    refine ⟨s1.heap.objs.size, [s1.heap.objs.size], _, _, H1, rfl, I1.kept (t' := s1.toks) fun b o e => Heap.get?_push_of_some _ e, turn_list a _, ⟨_, Heap.get?_push_size _ rfl, rfl, rfl⟩, fun b hb => ?_, q⟩
    have e : b = s1.heap.objs.size := by simpa using hb
    subst e
    exact I1.fpOk (Nat.le_refl _) (I1.hok.fresh (Nat.le_refl _))
  · subst e
    cases r1
    obtain ⟨its, rv, p, hz⟩ := I1.tuple hq
    refine wpAny_pyIter_tuple (show s1.heap.IsTuple a its.toArray from p) ?_
    refine ⟨s1.heap.objs.size, [s1.heap.objs.size], _, _, H1, rfl, I1.kept (t' := s1.toks) fun b o e => Heap.get?_push_of_some _ e, turn_tuple a _, ⟨_, Heap.get?_push_size _ rfl, rfl, rfl⟩, fun b hb => ?_, q⟩
    have e : b = s1.heap.objs.size := by simpa using hb
    subst e
    exact I1.fpOk (Nat.le_refl _) (I1.hok.fresh (Nat.le_refl _))
  · subst e
    cases r1
    obtain ⟨t, u, w, ho⟩ := I1.hok a _ ha
    refine wpAny_pyIter_range (show IsRange s1.heap a lo hi 1 t u w from ho) (small_one b1 b2 b3 b4) ?_
    refine ⟨s1.heap.objs.size, [s1.heap.objs.size], _, _, H1, rfl, I1.kept (t' := s1.toks) fun b o e => Heap.get?_push_of_some _ e, turn_range _ lo (hi - lo).toNat, ?_, fun b hb => ?_, q⟩
    · have e1 : lo + ((0 : Nat) : Int) * 1 = lo := by simp
      have e2 : (((hi - lo).toNat : Nat) : Int) - ((0 : Nat) : Int) = Builtin.Range.rangeSize lo hi 1 := by rw [rangeSize_one]; split <;> omega
      show IsRangeIter _ _ (lo + ((0 : Nat) : Int) * 1) ((((hi - lo).toNat : Nat) : Int) - ((0 : Nat) : Int)) 1
      rw [e1, e2]
      exact Heap.get?_push_size _ rfl
    · have e : b = s1.heap.objs.size := by simpa using hb
      subst e
      exact I1.fpOk (Nat.le_refl _) (I1.hok.fresh (Nat.le_refl _))
def noSet : Expr → Bool
  | .Set .. => false
  | _ => true
theorem noSet_ok {e : Expr} {env : PySem.Env} (h : noSet e = true) : ∀ x, foldedSetIterable e env x = pure x := by
  intro x
  cases e <;> first | rfl | cases h
theorem iok_seq {tg : Expr} {c : E} {x : Expr} (C : Cn W X xc Wx T sc ca) (h : Eok W X xc Wx G c x) (hn : noSet x = true) : Iok W X xc Wx G (.seq c) tg x := by
  refine ⟨(pi_any h.p).imp fun σ H R q => ?_, noSet_ok hn⟩
  have q : Sp1 W xc Wx (fun s => ((ev G c).p s).bind walkP) (relI W) σ H R := q
  refine (q.bind (rel := relP W)).mono fun v H1 ⟨e, F, m, p, s, S, r, g⟩ => ?_
  rcases walkP_ok S r rfl with hb | ⟨xs, s', F', ho, S', x', hw⟩
  · rw [hb] at g
    exact g.elim
  · rw [ho] at g
    rw [C.K]
    rcases hw with ⟨a, vs, e1, e2, w⟩ | ⟨a, vs, e1, e2, w⟩ | ⟨a, lo, hi, e1, e2, e3, w⟩
    · exact .inl ⟨a, e1, ⟨vs, e2⟩, g.ok S' x' w⟩
    · exact .inr (.inl ⟨a, e1, ⟨vs, e2⟩, g.ok S' x' w⟩)
    · exact .inr (.inr ⟨a, lo, hi, e1, e2, e3, g.ok S' x' w⟩)
theorem iok_r1 {tg : Expr} {c : E} {x : Expr} (C : Cn W X xc Wx T sc ca) (B : Cf W X T G k ca) (hg : sc.names.lookup ("range" : Str) = some .globalImplicit) (h : Eok W X xc Wx G c x) : Iok W X xc Wx G (.r1 c) tg (.Call (.Name "range" p) [x] [] pos) := by
  refine ⟨(pi_range1 (C.gl hg) (B.free _ (by decide)) (pa_cons h.p pa_nil (h.ns [])) (h.ns [])).imp fun σ H R q => ?_, fun _ => rfl⟩
  have q : Sp1 W xc Wx (fun s => ((ev G c).p s).bind fun p s => match p.get s with
    | some (.int j) => if small j then .ok (runRange 0 j.toNat) s else .bad
    | _ => .bad) (relI W) σ H R := q
  refine (q.bind (rel := relP W)).mono fun v H1 ⟨e, F, m, p, s, S, r, g⟩ => ?_
  cases q1 : p.get s with
  | none => rw [q1] at g; exact g.elim
  | some d =>
    rw [q1] at g
    cases d with
    | int j =>
      cases (See.of_get S r q1).int
      have g : Go W xc Wx e F m σ (if small j then .ok (runRange 0 j.toNat) s else .bad) (relI W) R := g
      by_cases hc : small j = true
      · rw [if_pos hc] at g
        exact ⟨j, rfl, (small_le hc).1, (small_le hc).2, g.ok S (Ext.refl _ _) wk_range⟩
      · rw [if_neg hc] at g
        exact g.elim
    | _ => exact g.elim
theorem iok_r2 {tg : Expr} {a b : E} {x y : Expr} (C : Cn W X xc Wx T sc ca) (B : Cf W X T G k ca) (hg : sc.names.lookup ("range" : Str) = some .globalImplicit) (ha : Eok W X xc Wx G a x) (hb : Eok W X xc Wx G b y) : Iok W X xc Wx G (.r2 a b) tg (.Call (.Name "range" p) [x, y] [] pos) := by
  refine ⟨(pi_range2 (C.gl hg) (B.free _ (by decide)) (pa_cons ha.p (pa_cons hb.p pa_nil (hb.ns [])) (ha.ns [y])) (by rw [ha.ns [y], hb.ns []]; rfl) (hb.ns [])).imp fun σ H R q => ?_, fun _ => rfl⟩
  have q : Sp1 W xc Wx (fun s => ((ev G a).p s).bind fun p s => ((ev G b).p s).bind fun q s => match ints2 p q s with
    | some (i, j) => if small i && small j then .ok (runRange i (j - i).toNat) s else .bad
    | none => .bad) (relI W) σ H R := q
  refine (q.bind (rel := relP W)).mono fun v H1 ⟨e, F, m, p, s, S, r, g⟩ => ⟨e, F, m, s, S, (g.bind (rel := relP W)).mono fun u H2 ⟨q, s2, F2, m2, S2, x2, r2, g2⟩ => ?_⟩
  simp only at g2
  cases q1 : ints2 p q s2 with
  | none => rw [q1] at g2; exact g2.elim
  | some ij =>
    obtain ⟨i, j⟩ := ij
    rw [q1] at g2
    obtain ⟨rfl, rfl⟩ := ints2_see S2 (r.later x2 (e1 := e) (s1 := s2) (H1 := H2)) r2 q1
    have g2 : Go W xc Wx e F2 m2 σ (if small i && small j then .ok (runRange i (j - i).toNat) s2 else .bad) (relI W) R := g2
    by_cases hc : (small i && small j) = true
    · rw [if_pos hc] at g2
      have hc := Bool.and_eq_true_iff.mp hc
      exact ⟨i, j, rfl, ⟨(small_le hc.1).1, (small_le hc.1).2, (small_le hc.2).1, (small_le hc.2).2⟩, g2.ok S2 (Ext.refl _ _) wk_range⟩
    · rw [if_neg hc] at g2
      exact g2.elim
theorem wk_enumT {a : Addr} {vs : List V} {xs : List D} (h : SqT W.K F a vs) (r : Reps W F m xs vs) : Wk W F m (runSeq xs 0) (IteT W.K a) := by
  intro i xc e F1 m1 s σ H S x
  have hq : SqT W.K H a vs := Same.sqT S.sub (Same.sqT x.fx h)
  refine ⟨fun d hd => ?_, fun hl => ⟨vs, hq, by rw [r.length]; rw [runSeq_len] at hl; exact hl⟩⟩
  obtain ⟨y, hy, rfl⟩ := runSeq_get _ _ _ _ hd
  obtain ⟨v, h1, h2⟩ := r.get hy
  refine ⟨⟨vs, v, hq, h1⟩, fun x' H' ⟨t, u, e1, e2, e3, e4⟩ => ?_⟩
  subst e1 e3
  have e5 := e4 vs hq
  rw [h1] at e5
  cases e5
  obtain ⟨S', x', r'⟩ := S.newTup e2 (Reps.cons (rep_int (i := (i : Int))) (Reps.cons (h2.mono x) Reps.nil))
  exact ⟨_, S', x', by simpa using r'⟩
theorem iok_enum {elts : List Expr} {kk : Nat} {tpos : Pos} {c : E} {x : Expr} (C : Cn W X xc Wx T sc ca) (B : Cf W X T G k ca) (hg : sc.names.lookup ("enumerate" : Str) = some .globalImplicit) (h : Eok W X xc Wx G c x) : Iok W X xc Wx G (.enum c) (.Tuple elts kk tpos) (.Call (.Name "enumerate" p) [x] [] pos) := by
  refine ⟨(pi_enumT (C.gl hg) (B.free _ (by decide)) (pa_cons h.p pa_nil (h.ns [])) (h.ns [])).imp fun σ H R q => ?_, fun _ => rfl⟩
  have q : Sp1 W xc Wx (fun s => ((ev G c).p s).bind fun p s => (seqP p s).bind fun k s => .ok (runSeq k.2 0) s) (relI W) σ H R := q
  refine (q.bind (rel := relP W)).mono fun v H1 ⟨e, F, m, p, s, S, r, g⟩ => ?_
  rcases seqP_ok S r rfl with hb | ⟨t, xs, s', F', ho, S', x', a, vs, e1, hw, rr⟩
  · rw [hb] at g
    exact g.elim
  · rw [ho] at g
    have g : Go W xc Wx e F m σ (.ok (runSeq xs 0) s') (relI W) R := g
    cases t with
    | true =>
      have hw : SqT W.K F' a vs := hw
      rw [C.K]
      exact ⟨a, vs, by rw [e1], .inr ⟨Same.sqT S'.sub hw, Go.ok g S' x' (wk_enumT hw rr)⟩⟩
    | false =>
      have hw : SqL W.K F' a vs := hw
      rw [C.K]
      exact ⟨a, vs, by rw [e1], .inl ⟨S'.sub.seq hw, Go.ok g S' x' (wk_enum hw rr)⟩⟩
theorem iok_zip {elts : List Expr} {kk : Nat} {tpos : Pos} {a b : E} {x y : Expr} (C : Cn W X xc Wx T sc ca) (B : Cf W X T G k ca) (hg : sc.names.lookup ("zip" : Str) = some .globalImplicit) (ha : Eok W X xc Wx G a x) (hb : Eok W X xc Wx G b y) : Iok W X xc Wx G (.zip a b) (.Tuple elts kk tpos) (.Call (.Name "zip" p) [x, y] [] pos) := by
  refine ⟨(RZ.pi_zipA (C.gl hg) (B.free _ (by decide)) (pa_cons ha.p (pa_cons hb.p pa_nil (hb.ns [])) (ha.ns [y])) (ha.ns [y]) (by rw [hb.ns []]; rfl)).imp fun σ H R q => ?_, fun _ => rfl⟩
  have q : Sp1 W xc Wx (fun s => ((ev G a).p s).bind fun p s => ((ev G b).p s).bind fun q s => (seqP p s).bind fun k s => (seqP q s).bind fun l s => if k.1 = l.1 then .ok (runZip k.2 l.2) s else .bad) (relI W) σ H R := q
  refine (q.bind (rel := relP W)).mono fun v H1 ⟨e, F, m, p, s, S, r, g⟩ => ⟨e, F, m, s, S, (g.bind (rel := relP W)).mono fun u H2 ⟨q, s2, F2, m2, S2, x2, r2, g2⟩ => ?_⟩
  simp only at g2
  rcases seqP_ok S2 (r.later x2 (e1 := e) (s1 := s2) (H1 := H2)) rfl with hb | ⟨t, xs, s3, F3, ho, S3, x3, a1, vs, e1, hw, rr⟩
  · rw [hb] at g2
    exact g2.elim
  · rw [ho] at g2
    simp only [O.bind_ok] at g2
    rcases seqP_ok S3 (r2.later x3 (e1 := e) (s1 := s3) (H1 := H2)) rfl with hb | ⟨t2, ys, s4, F4, ho2, S4, x4, a2, us, e2, hw2, rr2⟩
    · rw [hb] at g2
      exact g2.elim
    · rw [ho2] at g2
      simp only [O.bind_ok] at g2
      by_cases hc : t = t2
      · subst hc
        rw [if_pos rfl] at g2
        rw [C.K]
        cases t with
        | true =>
          have hw : SqT W.K F3 a1 vs := hw
          have hw2 : SqT W.K F4 a2 us := hw2
          have hw' := Same.sqT x4.fx hw
          exact ⟨a1, a2, vs, us, by rw [e1, e2], .inr ⟨Same.sqT S4.sub hw', Same.sqT S4.sub hw2, g2.ok S4 (x3.trans x4) (wk_zipT hw' (rr.mono x4) hw2 rr2)⟩⟩
        | false =>
          have hw : SqL W.K F3 a1 vs := hw
          have hw2 : SqL W.K F4 a2 us := hw2
          have hw' := x4.fx.seq hw
          exact ⟨a1, a2, vs, us, by rw [e1, e2], .inl ⟨S4.sub.seq hw', S4.sub.seq hw2, g2.ok S4 (x3.trans x4) (wk_zip hw' (rr.mono x4) hw2 rr2)⟩⟩
      · rw [if_neg hc] at g2
        exact g2.elim
end
end MP
set_option Elab.async false
set_option linter.all false
set_option maxRecDepth 100000
set_option maxHeartbeats 4000000
/-! MP9: targets, comprehensions. -/
namespace MP
open PySem PySem.Spec PyProof.Rows L2
section
variable {W : Wd} {xc : XC} {X : Cx} {Wx : WX} {T : Tab} {sc : Scope} {ca : Bool} {G : Env} {k : Nat} {pos p p2 p3 : Pos} {F : Hp} {m : List Addr}
/-- names may be stored in X as they stand in ws -/
structure Wsc (X : Cx) (ws : Scope) : Prop where
  loc : ∀ x, ws.names.lookup x = some .local → X.env.scope.names.lookup x = some .local
  cel : ∀ x, ws.names.lookup x = some .cell → X.env.scope.names.lookup x = some .cell ∧ X.fn x = true
def gT (W : Wd) (xc : XC) (c : Tg) : TG := fun v σ H Q => ∃ e F m s d s', Sim W xc e F m s σ H ∧ Rep W F m d v ∧ setTg c d s = some s' ∧ ∀ σ', Sim W xc e F m s' σ' H → (∀ i, i ∉ c.own → σ'[i]? = σ[i]?) → σ'.length = σ.length → Q σ' H
structure Gok (W : Wd) (X : Cx) (xc : XC) (c : Tg) (tg : Expr) : Prop where
  pg : PG X tg (gT W xc c)
theorem _root_.L2.PG.imp {tg : Expr} {t t' : TG} (h : PG X tg t) (k : ∀ v σ H Q, t' v σ H Q → t v σ H Q) : PG X tg t' := ⟨fun pins s σ H v u Q I r q => h.run pins s σ H v u Q I r (k _ _ _ _ q)⟩
def nmOk (N : List Str) (ws : Scope) (i : Nat) : Expr → Bool
  | .Name x _ => decide (N[i]? = some x) && match ws.names.lookup x with
    | some .local => true
    | some .cell => true
    | _ => false
  | _ => false
def nmsOk (N : List Str) (ws : Scope) : List Nat → List Expr → Bool
  | [], [] => true
  | i :: is, e :: es => nmOk N ws i e && nmsOk N ws is es
  | _, _ => false
def tgOk (N : List Str) (ws : Scope) : Tg → Expr → Bool
  | .name i, e => nmOk N ws i e
  | .tup is, .Tuple es _ _ => nmsOk N ws is es && decide (is.Nodup)
  | _, _ => false
theorem nm_pg {ws : Scope} {i : Nat} {e : Expr} (hN : X.N.Nodup) (w : Wsc X ws) (h : nmOk X.N ws i e = true) : ∃ x pos, e = .Name x pos ∧ PG X e (gName i) := by
  cases e with
  | Name x pos =>
    simp only [nmOk, Bool.and_eq_true, decide_eq_true_eq] at h
    obtain ⟨h1, h2⟩ := h
    refine ⟨x, pos, rfl, ?_⟩
    cases q : ws.names.lookup x with
    | none => rw [q] at h2; cases h2
    | some kd =>
      rw [q] at h2
      cases kd with
      | «local» => exact pg_name hN h1 (.inl (w.loc x q)) (.inr (w.loc x q))
      | cell => exact pg_name hN h1 (.inr (w.cel x q).1) (.inl (w.cel x q).2)
      | _ => cases h2
  | _ => cases h
def gs : List Nat → TGs
  | [] => gNil
  | i :: is => gCons (gName i) (gs is)
theorem nms_pg {ws : Scope} (hN : X.N.Nodup) (w : Wsc X ws) : ∀ {is : List Nat} {es : List Expr}, nmsOk X.N ws is es = true → PGs X es (gs is) ∧ (assignEach es X.env).length = is.length ∧ (assignEach es X.env).findIdx? (·.1) = none
  | [], [], _ => ⟨pgs_nil, rfl, rfl⟩
  | i :: is, e :: es, h => by
    simp only [nmsOk, Bool.and_eq_true] at h
    obtain ⟨x, pos, rfl, p1⟩ := nm_pg hN w h.1
    obtain ⟨p2, l2, f2⟩ := nms_pg hN w h.2
    have e1 : assignEach (.Name x pos :: es) X.env = (false, assign (.Name x pos) X.env) :: assignEach es X.env := rfl
    refine ⟨pgs_cons p1 p2 (by rw [e1]; rfl), by rw [e1]; simp [l2], ?_⟩
    rw [e1, List.findIdx?_cons]
    simp [f2]
  | [], _ :: _, h => by cases h
  | _ :: _, [], h => by cases h
theorem gs_of {e : En} {H : Hp} {Q : L2.St → Hp → Prop} : ∀ {is : List Nat} {xs : List D} {vs : List V} {s : St} {σ : L2.St}, Sim W xc e F m s σ H → Reps W F m xs vs → is.length = xs.length →
    (∀ σ', Sim W xc e F m ((is.zip xs).foldl (fun s p => s.put p.1 (.val p.2)) s) σ' H → (∀ i, i ∉ is → σ'[i]? = σ[i]?) → σ'.length = σ.length → Q σ' H) → gs is vs σ H Q
  | [], [], vs, s, σ, S, r, _, h => by
    unfold Reps at r
    subst r
    exact ⟨rfl, h σ S (fun _ _ => rfl) rfl⟩
  | i :: is, x :: xs, vs, s, σ, S, r, hl, h => by
    unfold Reps at r
    obtain ⟨v, w, rfl, r1, r2⟩ := r
    refine ⟨v, w, rfl, ?_⟩
    refine gs_of (S.setVal (i := i) r1) r2 (by simpa using hl) fun σ' S' h1 h2 => h σ' S' (fun j hj => ?_) ?_
    · simp only [List.mem_cons, not_or] at hj
      rw [h1 j hj.2, List.getElem?_set_ne (Ne.symm hj.1)]
    · rw [h2, List.length_set]
  | [], _ :: _, _, _, _, _, _, hl, _ => by cases hl
  | _ :: _, [], _, _, _, _, _, hl, _ => by cases hl
theorem gok {ws : Scope} {c : Tg} {tg : Expr} (hN : X.N.Nodup) (hK : X.K = W.K) (hc : X.calm = true) (w : Wsc X ws) (h : tgOk X.N ws c tg = true) : Gok W X xc c tg := by
  cases c with
  | name i =>
    have h : nmOk X.N ws i tg = true := by cases tg <;> exact h
    obtain ⟨x, pos, rfl, p⟩ := nm_pg hN w h
    refine ⟨p.imp fun v σ H Q ⟨e, F, m, s, d, s', S, r, hs, q⟩ => ?_⟩
    cases hs
    refine q _ (S.setVal r) (fun j hj => ?_) (by rw [List.length_set])
    rw [List.getElem?_set_ne (fun z => hj (by simp [Tg.own, z]))]
  | tup is =>
    cases tg with
    | Tuple es kk pos =>
      simp only [tgOk, Bool.and_eq_true] at h
      obtain ⟨p1, l1, f1⟩ := nms_pg hN w h.1
      refine ⟨(pg_tup hc p1 l1 f1).imp fun v σ H Q ⟨e, F, m, s, d, s', S, r, hs, q⟩ => ?_⟩
      cases d with
      | tup xs =>
        have hs : (if is.length = xs.length then some ((is.zip xs).foldl (fun s p => s.put p.1 (.val p.2)) s) else none) = some s' := hs
        by_cases hl : is.length = xs.length
        · rw [if_pos hl] at hs
          cases hs
          unfold Rep at r
          obtain ⟨a, vs, rfl, h1, h2⟩ := r
          rw [hK]
          exact ⟨a, vs, rfl, Same.sqT S.sub h1, by rw [h2.length, hl], gs_of S h2 hl q⟩
        · rw [if_neg hl] at hs
          cases hs
      | _ => cases hs
    | _ => cases h

/-! ### a clause's tests -/
theorem _root_.L2.PTs.imp {t t' : TT} {x : List Expr} (h : PTs X x t) (k : ∀ σ H Q, t' σ H Q → t σ H Q) : PTs X x t' := ⟨fun pins s σ H Q I q => h.run pins s σ H Q I (k _ _ _ q)⟩
structure Tsk (W : Wd) (X : Cx) (xc : XC) (Wx : WX) (G : Env) (c : Es) (es : List Expr) : Prop where
  t : PTs X es (Sp1 W xc Wx (evi G c) relT)
theorem tsk_nil : Tsk W X xc Wx G .nil [] := ⟨pts_nil.imp fun σ H Q ⟨e, F, m, s, S, g⟩ => g true F m H S (Ext.refl _ _) rfl⟩
theorem tsk_one {c : E} {x : Expr} (h : Eok W X xc Wx G c x) : Tsk W X xc Wx G (.cons c .nil) [x] := by
  refine ⟨(pts_one h.t).imp fun σ H Q q => ?_⟩
  have q : Sp1 W xc Wx (fun s => ((ev G c).t s).bind fun b s => if b then .ok true s else .ok false s) relT σ H Q := q
  refine (q.bind (rel := relT)).mono fun u H1 ⟨e, F, m, b, s, S, r, g⟩ => ?_
  have r : b = u := r
  subst r
  cases b <;> exact g _ F m H1 S (Ext.refl _ _) rfl
end
end MP
set_option Elab.async false
set_option linter.all false
set_option maxRecDepth 100000
set_option maxHeartbeats 4000000
/-! MPC: comprehensions. -/
namespace MP
open PySem PySem.Spec PyProof.Rows L2
theorem wipe_get {sl : List Slot} {i : Nat} : ∀ vs : List Nat, (MP.wipe sl vs)[i]? = (if i ∈ vs then (if i < sl.length then some .no else none) else sl[i]?) ∧ (MP.wipe sl vs).length = sl.length
  | [] => by simp [MP.wipe]
  | v :: vs => by
    obtain ⟨h1, h2⟩ := wipe_get (sl := sl) (i := i) vs
    unfold MP.wipe
    rw [List.length_set, h2, List.getElem?_set, h1, h2]
    refine ⟨?_, rfl⟩
    by_cases q : v = i
    · subst q
      simp
    · have q' : ¬ i = v := fun e => q e.symm
      simp [q, q']
theorem unwipe_get {old sl : List Slot} {i : Nat} : ∀ vs : List Nat, (unwipe old sl vs)[i]? = (if i ∈ vs then (if i < sl.length then some (match old[i]? with
    | some (.val d) => .val d
    | _ => .no) else none) else sl[i]?) ∧ (unwipe old sl vs).length = sl.length
  | [] => by simp [unwipe]
  | v :: vs => by
    obtain ⟨h1, h2⟩ := unwipe_get (old := old) (sl := sl) (i := i) vs
    have e : unwipe old sl (v :: vs) = (unwipe old sl vs).set v (match old[v]? with
      | some (.val d) => .val d
      | _ => .no) := by
      show (match old[v]? with
        | some (.val d) => (unwipe old sl vs).set v (.val d)
        | _ => (unwipe old sl vs).set v .no) = _
      cases old[v]? with
      | none => rfl
      | some z => cases z <;> rfl
    rw [e, List.length_set, h2, List.getElem?_set, h1, h2]
    refine ⟨?_, rfl⟩
    by_cases q : v = i
    · subst q
      simp
    · have q' : ¬ i = v := fun e => q e.symm
      simp [q, q']
theorem wipeL_get {σ : L2.St} {i : Nat} : ∀ vs : List Nat, (L2.wipe σ vs)[i]? = if i ∈ vs then (if i < σ.length then some none else none) else σ[i]?
  | [] => by simp [L2.wipe]
  | v :: vs => by
    have h1 := wipeL_get (σ := σ) (i := i) vs
    unfold L2.wipe
    rw [List.getElem?_set, h1, L2.wipe_length]
    by_cases q : v = i
    · subst q
      simp
    · have q' : ¬ i = v := fun e => q e.symm
      simp [q, q']
theorem wipe_same {σ σ' : L2.St} {vs : List Nat} (h : ∀ i, i ∉ vs → σ'[i]? = (L2.wipe σ vs)[i]?) (hl : σ'.length = (L2.wipe σ vs).length) : L2.wipe σ' vs = L2.wipe σ vs := by
  rw [L2.wipe_length] at hl
  refine List.ext_getElem? fun i => ?_
  rw [wipeL_get, wipeL_get]
  by_cases q : i ∈ vs
  · rw [if_pos q, if_pos q, hl]
  · rw [if_neg q, if_neg q, h i q, wipeL_get, if_neg q]
section
variable {W : Wd} {xc : XC} {X : Cx} {Wx : WX} {T : Tab} {sc : Scope} {ca : Bool} {G : Env} {k : Nat} {pos p p2 p3 : Pos} {F F0 : Hp} {m m0 : List Addr} {e : En} {s s0 : St} {σ : L2.St} {H H0 : Hp}
/-- a comprehension's names are put back -/
theorem Sim.unwipe {vs : List Nat} (S0 : Sim W xc e F0 m0 s0 σ H0) (x : Ext F0 m0 F m) (S : Sim W xc e F m { s with sl := MP.wipe s.sl vs } (L2.wipe σ vs) H) : Sim W xc e F m { s with sl := MP.unwipe s0.sl s.sl vs } σ H where
  sub := S.sub
  cells := S.cells
  len := by
    have q := S.len
    rw [L2.wipe_length] at q
    have q : (MP.wipe s.sl vs).length = σ.length := q
    rw [(wipe_get (i := 0) vs).2] at q
    show (MP.unwipe s0.sl s.sl vs).length = σ.length
    rw [(unwipe_get (i := 0) vs).2]
    exact q
  slot := fun i y o h1 h2 => by
    have h1 : (MP.unwipe s0.sl s.sl vs)[i]? = some y := h1
    rw [(unwipe_get vs).1] at h1
    by_cases q : i ∈ vs
    · rw [if_pos q] at h1
      split at h1
      · cases h1
        cases q2 : s0.sl[i]? with
        | none => exact trivial
        | some z =>
          cases z with
          | val d =>
            obtain ⟨v, e1, e2⟩ := S0.slot i _ _ q2 h2
            exact ⟨v, e1, e2.mono x⟩
          | _ => exact trivial
      · cases h1
    · rw [if_neg q] at h1
      exact S.slot i y o (by show (MP.wipe s.sl vs)[i]? = _; rw [(wipe_get vs).1, if_neg q]; exact h1) (by rw [wipeL_get, if_neg q]; exact h2)
  apart := fun i j xs ys a h1 h2 h3 h4 => by
    have h1 : (MP.unwipe s0.sl s.sl vs)[i]? = some (.own xs) := h1
    have h2 : (MP.unwipe s0.sl s.sl vs)[j]? = some (.own ys) := h2
    rw [(unwipe_get vs).1] at h1 h2
    have no : ∀ {i : Nat} {xs : List D}, (if i ∈ vs then (if i < s.sl.length then some (match s0.sl[i]? with
      | some (.val d) => Slot.val d
      | _ => .no) else none) else s.sl[i]?) = some (.own xs) → i ∉ vs ∧ s.sl[i]? = some (.own xs) := fun {i xs} h => by
      by_cases q : i ∈ vs
      · rw [if_pos q] at h
        split at h
        · split at h <;> cases h
        · cases h
      · rw [if_neg q] at h
        exact ⟨q, h⟩
    obtain ⟨n1, g1⟩ := no h1
    obtain ⟨n2, g2⟩ := no h2
    exact S.apart i j xs ys a (by show (MP.wipe s.sl vs)[i]? = _; rw [(wipe_get vs).1, if_neg n1]; exact g1) (by show (MP.wipe s.sl vs)[j]? = _; rw [(wipe_get vs).1, if_neg n2]; exact g2) (by rw [wipeL_get, if_neg n1]; exact h3) (by rw [wipeL_get, if_neg n2]; exact h4)
  ext := S.ext
  fr := S.fr
  keep := S.keep
  new := S.new
theorem unwipe_own {vs : List Nat} {i : Nat} {ys : List D} (h : (MP.unwipe s0.sl s.sl vs)[i]? = some (.own ys)) : i ∉ vs ∧ (MP.wipe s.sl vs)[i]? = some (.own ys) := by
  rw [(unwipe_get vs).1] at h
  by_cases q : i ∈ vs
  · rw [if_pos q] at h
    split at h
    · split at h <;> cases h
    · cases h
  · rw [if_neg q] at h
    exact ⟨q, by rw [(wipe_get vs).1, if_neg q]; exact h⟩
theorem bind_ok_inv {α β : Type} {o : O α} {f : α → St → O β} {b : β} {s : St} (h : o.bind f = .ok b s) : ∃ a s1, o = .ok a s1 ∧ f a s1 = .ok b s := by
  cases o with
  | bad => cases h
  | ok a s1 => exact ⟨a, s1, rfl, h⟩
  | exc x s1 => cases h
abbrev Wf : WX := fun _ _ _ _ => False
theorem lc_sem {elt : E} {tg : Tg} {src : Src} {ifs : Es} {Q : VK} (h : Sp1 W none Wx (ev G (.lc elt tg src ifs)).v (relV W) σ H Q) :
    tLc (fun σ H R => Sp1 W none Wx (evr G src) (relI W) σ H R) (gT W none tg) (Sp1 W none Wf (evi G ifs) relT) (Sp1 W none Wf (fz (ev G elt).v) (relD W)) tg.own σ H Q := by
  have h : Sp1 W none Wx (fun s => (evr G src s).bind fun ds s => noExc ((runComp (ev G elt).v (evi G ifs) tg tg.own s.sl ds [] s).bind fun acc s2 => .ok (.own acc) { s2 with sl := unwipe s.sl s2.sl tg.own })) (relV W) σ H Q := h
  refine (h.bind (rel := relI W)).mono fun J H1 ⟨e, F0, m0, ds, s0, S0, wk, g⟩ => ?_
  have wk : Wk W F0 m0 ds J := wk
  generalize hrun : runComp (ev G elt).v (evi G ifs) tg tg.own s0.sl = run at g
  generalize hvs : tg.own = vs at g hrun
  intro D hD
  cases hr : run ds [] s0 with
  | bad => rw [hr] at g; exact g.elim
  | exc x s' => rw [hr] at g; exact g.elim
  | ok accF sF =>
    rw [hr] at g
    have g : Go W none Wx e F0 m0 σ (.ok (.own accF) { sF with sl := unwipe s0.sl sF.sl vs }) (relV W) Q := g
    have heH := S0.not_e hD
    have hF0 := S0.not_F hD
    have hm0 := S0.not_cell hD
    have heF : e.F D = none := by
      cases q : e.F D with
      | none => rfl
      | some u =>
        have := S0.ext.fx D u q
        rw [hF0] at this
        cases this
    have hem : D ∉ e.m := fun q => by
      obtain ⟨i, hi⟩ := List.mem_iff_getElem?.mp q
      exact hm0 (List.mem_of_getElem? (S0.ext.mx i D hi))
    let Wi : Nat → Nat → Hp → Prop := fun i n H => ∃ F m sA acc ws, Sim W none e F m { sA with sl := MP.wipe sA.sl vs } (L2.wipe σ vs) H ∧ Ext F0 m0 F m ∧ H D = some (.lst ws) ∧ Reps W F m acc ws ∧ F D = none ∧ D ∉ m ∧
      (∀ (i : Nat) ys, (MP.wipe sA.sl vs)[i]? = some (.own ys) → (L2.wipe σ vs)[i]? ≠ some (some (.ref D))) ∧ acc.length ≤ big ∧ n = ds.length - i ∧ i ≤ ds.length ∧ run (ds.drop i) acc sA = .ok accF sF
    refine ⟨Wi, ⟨ds.length, F0, m0, s0, [], [], (S0.upd (.lst []) hD).wipe vs, Ext.refl _ _, upd_same, Reps.nil, hF0, hm0, fun i ys h1 h2 => ?_, Nat.zero_le _, rfl, Nat.zero_le _, hr⟩, fun i n H2 hw => ?_⟩
    · obtain ⟨o, q1, a, ws, q2, q3, _⟩ := (S0.wipe vs).getσ h1
      rw [h2] at q1
      cases q1
      cases q2
      rw [hD] at q3
      cases q3
    · obtain ⟨F, m, sA, acc, ws, S, x, hDl, rp, hfD, hmD, ns, hbig, hn, hi, hrest⟩ := hw
      by_cases hend : i = ds.length
      · subst hend
        rw [List.drop_length] at hrest
        have hrest : (.ok acc sA : O (List MP.D)) = .ok accF sF := by rw [← hrest, ← hrun]; rfl
        cases hrest
        refine .inl ⟨(wk _ none e F m _ _ H2 S x).2 (Nat.le_refl _), ?_⟩
        refine g _ F m H2 (S0.unwipe x S) x ⟨D, rfl, ⟨ws, hDl, rp⟩, hfD, hmD, heH, fun j ys q1 q2 => ?_⟩
        obtain ⟨n1, n2⟩ := unwipe_own q1
        exact ns j ys n2 (by rw [wipeL_get, if_neg n1]; exact q2)
      · have hlt : i < ds.length := by omega
        have hd : ds[i]? = some ds[i] := List.getElem?_eq_getElem hlt
        have hdrop : ds.drop i = ds[i] :: ds.drop (i + 1) := List.drop_eq_getElem_cons hlt
        rw [hdrop] at hrest
        refine .inr ⟨((wk i none e F m _ _ H2 S x).1 _ hd).1, fun H' => Wi (i + 1) (n - 1) H', fun H' w => ⟨n - 1, by omega, w⟩, fun xv H' hy => ?_⟩
        have Sp := S.pin hDl hfD hmD heH ns
        obtain ⟨F2, S2, x2, r2⟩ := ((wk i none _ F m _ _ H2 Sp x).1 _ hd).2 xv H' hy
        have hrest : (match setTg tg ds[i] { sA with sl := MP.wipe sA.sl vs } with
          | none => O.bad
          | some s1 => (evi G ifs s1).bind fun b s2 => if b then (fz (ev G elt).v s2).bind fun x s3 => if acc.length < big then run (ds.drop (i + 1)) (acc ++ [x]) s3 else .bad else run (ds.drop (i + 1)) acc s2) = .ok accF sF := by
          rw [← hrest, ← hrun]
          rfl
        cases hs : setTg tg ds[i] { sA with sl := MP.wipe sA.sl vs } with
        | none => rw [hs] at hrest; cases hrest
        | some s1 =>
          rw [hs] at hrest
          obtain ⟨b, s2, hb, hrest⟩ := bind_ok_inv hrest
          refine ⟨_, F2, m, _, _, s1, S2, r2, hs, fun σ' S1 h1 h2 => ?_⟩
          rw [hvs] at h1
          have hwp := wipe_same h1 h2
          refine ⟨hwp, _, F2, m, s1, S1, ?_⟩
          rw [hb]
          intro b' F3 m3 H3 S3 x3 eb
          have eb : b = b' := eb
          subst eb
          cases b with
          | false =>
            obtain ⟨S4, hD4, hf4, hm4, ns4⟩ := S3.unpin heH heF hem
            have S5 := S4.wipe vs
            rw [hwp] at S5
            refine ⟨F3, m3, s2, acc, ws, S5, x.trans (x2.trans x3), hD4, rp.mono (x2.trans x3), hf4, hm4, fun j ys q1 q2 => ?_, hbig, by omega, hlt, hrest⟩
            rw [(wipe_get vs).1] at q1
            rw [← hwp, wipeL_get] at q2
            by_cases q : j ∈ vs
            · rw [if_pos q] at q1
              split at q1 <;> cases q1
            · rw [if_neg q] at q1 q2
              exact ns4 j ys q1 q2
          | true =>
            obtain ⟨xd, s3, hx, hrest⟩ := bind_ok_inv hrest
            by_cases hlen : acc.length < big
            · rw [if_pos hlen] at hrest
              refine ⟨_, F3, m3, s2, S3, ?_⟩
              rw [hx]
              intro y F4 m4 H4 S4 x4 ry
              obtain ⟨S5, hD5, hf5, hm5, ns5⟩ := S4.unpin heH heF hem
              have x14 := x2.trans (x3.trans x4)
              refine ⟨ws, hD5, by rw [rp.length]; exact Nat.lt_of_lt_of_le hlen (big_line (Nat.le_refl _)), ?_⟩
              have S6 := (S5.poke (.lst (ws ++ [y])) hf5 hm5 heH ns5).wipe vs
              rw [hwp] at S6
              refine ⟨F4, m4, s3, acc ++ [xd], ws ++ [y], S6, x.trans x14, upd_same, (rp.mono x14).append (Reps.cons ry Reps.nil), hf5, hm5, fun j ys q1 q2 => ?_, by simp; omega, by omega, hlt, hrest⟩
              rw [(wipe_get vs).1] at q1
              rw [← hwp, wipeL_get] at q2
              by_cases q : j ∈ vs
              · rw [if_pos q] at q1
                split at q1 <;> cases q1
              · rw [if_neg q] at q1 q2
                exact ns5 j ys q1 q2
            · rw [if_neg hlen] at hrest
              cases hrest
end
end MP
set_option Elab.async false
set_option linter.all false
set_option maxRecDepth 100000
set_option maxHeartbeats 4000000
/-! MPL: comprehensions as expressions, methods of lists, an exception's fields. -/
namespace MP
open PySem PySem.Spec PyProof.Rows L2
section
variable {W : Wd} {xc : XC} {X : Cx} {Wx : WX} {T : Tab} {sc : Scope} {ca : Bool} {G : Env} {k : Nat} {pos p p2 p3 : Pos} {F F0 : Hp} {m m0 : List Addr} {e : En} {s s0 : St} {σ : L2.St} {H H0 : Hp}
def blkOk (N : List Str) (sc scope : Scope) (tg : Tg) : Bool := decide (scope.kind = .function) && (scope.names.all fun y => decide (scope.names.lookup y.1 = some y.2)) && (tg.own.all fun i => decide (i < N.length)) &&
  (scope.names.all fun y => match y.2 with
    | .free => decide (sc.names.lookup y.1 = some .cell ∨ sc.names.lookup y.1 = some .free)
    | .local => tg.own.any (fun i => decide (N[i]? = some y.1)) || decide (y.1 ∉ N)
    | .cell => tg.own.any (fun i => decide (N[i]? = some y.1)) || decide (y.1 ∉ N)
    | _ => true)
def ownOf (N : List Str) (tg : Tg) : List (Str × Nat) := tg.own.map fun i => (N.getD i "", i)
theorem ownOf_snd {N : List Str} {tg : Tg} : (ownOf N tg).map (·.2) = tg.own := by
  unfold ownOf
  rw [List.map_map]
  exact List.map_id _
theorem blkOk_ok {N : List Str} {sc scope : Scope} {tg : Tg} (h : blkOk N sc scope tg = true) : BlkOk N sc scope (ownOf N tg) := by
  simp only [blkOk, Bool.and_eq_true, decide_eq_true_eq, List.all_eq_true] at h
  obtain ⟨⟨⟨h1, h2⟩, h3⟩, h4⟩ := h
  have inOwn : ∀ {x : Str}, (tg.own.any fun i => decide (N[i]? = some x)) = true → x ∈ (ownOf N tg).map (·.1) := fun {x} h => by
    obtain ⟨i, hi, e⟩ := List.any_eq_true.mp h
    refine List.mem_map.mpr ⟨(N.getD i "", i), List.mem_map.mpr ⟨i, hi, rfl⟩, ?_⟩
    have e := of_decide_eq_true e
    simp [List.getD, e]
  refine ⟨h1, fun y hy => h2 y hy, fun q hq => ?_, fun y hy e => ?_, fun y hy e => ?_⟩
  · obtain ⟨i, hi, rfl⟩ := List.mem_map.mp hq
    have := h3 i hi
    simp [List.getD, List.getElem?_eq_getElem this]
  · have := h4 y hy
    rw [e] at this
    simpa using this
  · have := h4 y hy
    have key : ((tg.own.any fun i => decide (N[i]? = some y.1)) || decide (y.1 ∉ N)) = true := by
      rcases e with e | e <;> (rw [e] at this; exact this)
    rcases Bool.or_eq_true_iff.mp key with z | z
    · exact .inl (inOwn z)
    · exact .inr (of_decide_eq_true z)
theorem Cf.move {X' : Cx} {ca' : Bool} (B : Cf W X T G k ca) (h1 : X'.prog = X.prog) (h2 : X'.w = X.w) (h3 : X'.K = X.K) (h4 : X'.mg = X.mg) (h5 : X'.base = X.base) (hr : ca' = true → Room (k + 1) X'.A) : Cf W X' T G k ca' := by
  obtain ⟨p1, p2, p3, p4, p5, a, b, c, d, e, f, g, h, i, j, l, m⟩ := X
  obtain ⟨q1, q2, q3, q4, q5, a', b', c', d', e', f', g', h', i', j', l', m'⟩ := X'
  cases h1
  cases h2
  cases h3
  cases h4
  cases h5
  exact ⟨B.free, B.fa, fun c h => let I := B.ic c h; ⟨I.mg, I.cls, I.ha, I.hn, I.htk, I.hm, I.down, I.up, I.own⟩, hr, B.xa, fun c fl h => let x := B.xc c fl h; ⟨x.ex, x.ne, x.nd, x.lt, x.inj, x.len⟩, B.xn, B.xk, fun f g d h => let ⟨⟨x⟩, y⟩ := B.fn f g d h; ⟨⟨x⟩, y⟩, fun c g h => let ⟨⟨x⟩, y⟩ := B.made c g h; ⟨⟨x⟩, y⟩, fun c m g h => let ⟨x⟩ := B.meth c m g h; ⟨x⟩⟩
theorem ok_lc {elt : E} {tg : Tg} {src : Src} {ifs : Es} {eE tgE iter : Expr} {ifsE : List Expr} {scope : Scope} (C : Cn W X xc Wx T sc ca) (B : Cf W X T G k ca) (hca : ca = true) (hi : Iok W X xc Wx G src tgE iter) (hb : blkOk T.N sc scope tg = true) (ht : tgOk T.N scope tg tgE = true)
    (h1 : ∀ X', Cn W X' none Wf T (relS scope sc) true → Cf W X' T G k true → Tsk W X' none Wf G ifs ifsE ∧ Eok W X' none Wf G elt eE) : Eok W X xc Wx G (.lc elt tg src ifs) (.ListComp eE [⟨tgE, iter, ifsE, 0⟩] scope pos) := by
  have hxc := C.nx hca
  subst hxc
  have ok : BlkOk X.N X.env.scope scope (ownOf X.N tg) := by rw [C.N, C.sc]; exact blkOk_ok hb
  have cn : ∀ (s : Shared) (H : Hp) (L : Addr) (cl : List (Str × Addr)) (fp : List Addr), Cn W (X.blk s H scope (compEnvC scope cl L X.env) fp) none Wf T (relS scope sc) true := fun s H L cl fp => by
    refine ⟨fun _ => C.calm hca, fun _ => rfl, .inl rfl, C.nd, C.N, ?_, C.K, C.fld, C.nf, takes_none5, C.un, C.gd⟩
    rw [← C.sc]
    rfl
  have cf : ∀ (s : Shared) (H : Hp) (L : Addr) (cl : List (Str × Addr)) (fp : List Addr), Cf W (X.blk s H scope (compEnvC scope cl L X.env) fp) T G k true := fun s H L cl fp =>
    B.move rfl rfl rfl rfl rfl fun _ => B.room hca
  have ws : ∀ (s : Shared) (H : Hp) (L : Addr) (cl : List (Str × Addr)) (fp : List Addr), Wsc (X.blk s H scope (compEnvC scope cl L X.env) fp) scope := fun s H L cl fp =>
    ⟨fun x hx => lookup_relS_keep (by decide) hx, fun x hx => ⟨lookup_relS_keep (by decide) hx, by show (scope.names.lookup x == some .cell) = true; rw [hx]; rfl⟩⟩
  refine .of rfl C.K ((pe_lc (C.calm hca) C.nd hi.pi ok (fun s H L cl fp => (gok (X := X.blk s H scope (compEnvC scope cl L X.env) fp) (W := W) (xc := none) C.nd C.K (C.calm hca) (ws s H L cl fp) (by rw [← C.N] at ht; exact ht)).pg) (fun s H L cl fp => (h1 _ (cn s H L cl fp) (cf s H L cl fp)).1.t) (fun s H L cl fp => (h1 _ (cn s H L cl fp) (cf s H L cl fp)).2.fz) hi.fs).imp fun σ H Q q => ?_) (fun _ => rfl) fun _ => rfl
  rw [ownOf_snd]
  exact lc_sem q

/-! ### methods of lists -/
def lmId : LM → String
  | .append => "list.append" | .insert => "list.insert" | .extend => "list.extend" | .popAt => "list.pop" | .pop => "list.pop" | .remove => "list.remove" | .reverse => "list.reverse" | .index => "list.index" | .count => "list.count"
def lmName : LM → Str
  | .append => "append" | .insert => "insert" | .extend => "extend" | .popAt => "pop" | .pop => "pop" | .remove => "remove" | .reverse => "reverse" | .index => "index" | .count => "count"
/-- the list and what it becomes -/
def rLm (W : Wd) (f : List D → List D → Option (List D × D)) : V → List V → Hp → VK → Prop := fun x us H Q => ∃ (F : Hp) (m : List Addr) (l : Addr) (xs : List D) (vs : List V) (ds ys : List D) (d : D), x = .ref l ∧ H l = some (.lst vs) ∧ Reps W F m xs vs ∧ Reps W F m ds us ∧ f xs ds = some (ys, d) ∧
  ∀ ws r, Reps W F m ys ws → Rep W F m d r → Q r (upd H l (.lst ws))
theorem lm_step {md : LM} {q : P} {x : V} {ds : List D} {us : List V} {Q : VK} (hmd : md ≠ .index) (S : Sim W xc e F m s σ H) (r : relP W e F m s σ H q x) (rd : Reps W F m ds us) (g : Go W xc Wx e F m σ (lmRun md q ds s) (relV W) Q) : rLm W (lmSem md) x us H Q := by
  have dat : ∀ {j : Nat}, Rep W F m (.cell j) x → Go W xc Wx e F m σ (match s.hp[j]? with
      | some (.lst xs) => (match lmSem md xs ds with
        | some (ys, d) => O.ok (R.val d) { s with hp := s.hp.set j (.lst ys) }
        | none => .bad)
      | _ => .bad) (relV W) Q → rLm W (lmSem md) x us H Q := fun {j} rr g => by
    unfold Rep at rr
    obtain ⟨a, hm, rfl⟩ := rr
    cases q1 : s.hp[j]? with
    | none => rw [q1] at g; exact g.elim
    | some c =>
      rw [q1] at g
      cases c with
      | ins c fs => exact g.elim
      | lst xs =>
        obtain ⟨_, vs, h1, h2⟩ := S.cells.ok j _ a q1 hm
        cases q2 : lmSem md xs ds with
        | none =>
          have g : Go W xc Wx e F m σ (match lmSem md xs ds with
            | some (ys, d) => O.ok (R.val d) { s with hp := s.hp.set j (.lst ys) }
            | none => .bad) (relV W) Q := g
          rw [q2] at g
          exact g.elim
        | some yd =>
          obtain ⟨ys, d⟩ := yd
          have g : Go W xc Wx e F m σ (match lmSem md xs ds with
            | some (ys, d) => O.ok (R.val d) { s with hp := s.hp.set j (.lst ys) }
            | none => .bad) (relV W) Q := g
          rw [q2] at g
          refine ⟨F, m, a, xs, vs, ds, ys, d, rfl, h1, h2, rd, q2, fun ws r hw hr => ?_⟩
          exact g r F m _ (S.changeCell q1 hm ⟨ws, upd_same, hw⟩) (Ext.refl _ _) hr
  cases q with
  | dat d =>
    cases d with
    | cell j => exact dat r g
    | lst xs =>
      have g : Go W xc Wx e F m σ (match md, lmSem md xs ds with
        | .index, some (_, d) => O.ok (R.val d) s
        | _, _ => .bad) (relV W) Q := g
      cases md <;> first | exact absurd rfl hmd | exact g.elim
    | _ => exact g.elim
  | sl i =>
    have r : σ[i]? = some (some x) := r
    cases q1 : s.sl[i]? with
    | none => simp only [lmRun, q1] at g; exact g.elim
    | some z =>
      have ok := S.slot i z _ q1 r
      cases z with
      | no => simp only [lmRun, q1] at g; exact g.elim
      | exc x => simp only [lmRun, q1] at g; exact g.elim
      | own xs =>
        obtain ⟨a, vs, e1, h1, h2, _⟩ := ok
        cases e1
        cases q2 : lmSem md xs ds with
        | none => simp only [lmRun, q1, q2] at g; exact g.elim
        | some yd =>
          obtain ⟨ys, d⟩ := yd
          simp only [lmRun, q1, q2] at g
          refine ⟨F, m, a, xs, vs, ds, ys, d, rfl, h1, h2, rd, q2, fun ws r' hw hr => ?_⟩
          exact g r' F m _ (S.changeOwn q1 r hw) (Ext.refl _ _) hr
      | val d =>
        obtain ⟨v, e1, rr⟩ := ok
        cases e1
        cases d with
        | cell j =>
          refine dat rr ?_
          simp only [lmRun, q1] at g
          exact g
        | lst xs => cases md <;> first | exact absurd rfl hmd | (simp only [lmRun, q1] at g; exact g.elim)
        | _ => simp only [lmRun, q1] at g; exact g.elim
theorem one_reps {d : D} {us : List V} (h : Reps W F m [d] us) : ∃ u, us = [u] ∧ Rep W F m d u := by
  unfold Reps at h
  obtain ⟨v, r, rfl, h1, h2⟩ := h
  unfold Reps at h2
  subst h2
  exact ⟨v, rfl, h1⟩
theorem none_reps {us : List V} (h : Reps W F m [] us) : us = [] := by unfold Reps at h; exact h
theorem mt_lm (md : LM) (hmd : md = .append ∨ md = .insert ∨ md = .pop ∨ md = .popAt ∨ md = .reverse) : MtR X (lmId md) (rLm W (lmSem md)) := by
  intro pins st σ' H x us v uv Q I rx ru h
  obtain ⟨F, m, l, xs, vs, ds, ys, d, rfl, hl, hx, hd, hf, q⟩ := h
  rcases hmd with rfl | rfl | rfl | rfl | rfl
  · cases ds with
    | nil => cases hf
    | cons d1 ds =>
      cases ds with
      | cons _ _ => cases hf
      | nil =>
        obtain ⟨u, rfl, r1⟩ := one_reps hd
        have hf : (if xs.length < big then some (xs ++ [d1], D.non) else none) = some (ys, d) := hf
        by_cases hb : xs.length < big
        · rw [if_pos hb] at hf
          cases hf
          exact mt_append pins st σ' H _ [u] v uv Q I rx ru ⟨l, vs, u, rfl, rfl, hl, by rw [hx.length]; exact Nat.lt_of_lt_of_le hb (big_line (Nat.le_refl _)), q _ _ (hx.append (Reps.cons r1 Reps.nil)) rep_non⟩
        · rw [if_neg hb] at hf
          cases hf
  · cases ds with
    | nil => cases hf
    | cons d1 ds =>
      cases d1 with
      | int i =>
        cases ds with
        | nil => cases hf
        | cons d2 ds =>
          cases ds with
          | cons _ _ => cases hf
          | nil =>
            unfold Reps at hd
            obtain ⟨u1, r, rfl, r1, hd⟩ := hd
            unfold Rep at r1
            subst r1
            obtain ⟨u, rfl, r2⟩ := one_reps hd
            have hf : (if xs.length < big ∧ 0 ≤ i ∧ i ≤ xs.length then some (xs.take i.toNat ++ d2 :: xs.drop i.toNat, D.non) else none) = some (ys, d) := hf
            by_cases hb : xs.length < big ∧ 0 ≤ i ∧ i ≤ xs.length
            · rw [if_pos hb] at hf
              cases hf
              refine mt_insert pins st σ' H _ _ v uv Q I rx ru ⟨l, vs, i, u, rfl, rfl, hl, by rw [hx.length]; exact Nat.lt_of_lt_of_le hb.1 (big_line (Nat.le_refl _)), hb.2.1, ?_, ?_⟩
              · have := hb.2.2
                have h2 := hb.1
                unfold big at h2
                omega
              · refine q _ _ ?_ rep_non
                rw [List.append_assoc]
                exact (hx.take _).append (Reps.cons r2 (hx.drop _))
            · rw [if_neg hb] at hf
              cases hf
      | _ => cases hf
  · cases ds with
    | cons _ _ => cases hf
    | nil =>
      have := none_reps hd
      subst this
      have hf : (match xs.getLast? with
        | some d => some (xs.dropLast, d)
        | none => none) = some (ys, d) := hf
      cases q1 : xs.getLast? with
      | none => rw [q1] at hf; cases hf
      | some z =>
        rw [q1] at hf
        cases hf
        rw [List.getLast?_eq_getElem?] at q1
        obtain ⟨u, h1, h2⟩ := hx.get q1
        refine mt_pop pins st σ' H _ [] v uv Q I rx ru ⟨l, vs, u, rfl, rfl, hl, by rw [hx.length]; exact h1, q _ _ ?_ h2⟩
        rw [List.dropLast_eq_take, List.dropLast_eq_take, hx.length]
        exact hx.take _
  · cases ds with
    | nil => cases hf
    | cons d1 ds =>
      cases d1 with
      | int i =>
        cases ds with
        | cons _ _ => cases hf
        | nil =>
          obtain ⟨u, rfl, r1⟩ := one_reps hd
          unfold Rep at r1
          subst r1
          have hf : (match L2.ixN xs.length i with
            | some j => (xs[j]?).map fun d => (xs.eraseIdx j, d)
            | none => none) = some (ys, d) := hf
          cases q1 : L2.ixN xs.length i with
          | none => rw [q1] at hf; cases hf
          | some j =>
            rw [q1] at hf
            simp only [Option.map_eq_some_iff] at hf
            obtain ⟨z, hz, e1⟩ := hf
            cases e1
            obtain ⟨w, h1, h2⟩ := hx.get hz
            have hb : xs.length ≤ sizeLine := by rw [← hx.length]; exact (I.lstM hl).1
            refine mt_popAt pins st σ' H _ _ v uv Q I rx ru ⟨l, vs, i, j, w, rfl, rfl, hl, ?_, ?_, ?_, h1, q _ _ ?_ h2⟩
            · have := (ixN_seq q1).2.2.1
              rw [sizeLine_eq] at hb
              omega
            · have := (ixN_seq q1).2.2.2
              rw [sizeLine_eq] at hb
              omega
            · rw [hx.length]; exact (ixN_seq q1).1
            · rw [List.eraseIdx_eq_take_drop_succ, List.eraseIdx_eq_take_drop_succ]
              exact (hx.take _).append (hx.drop _)
      | _ => cases hf
  · cases ds with
    | cons _ _ => cases hf
    | nil =>
      have := none_reps hd
      subst this
      cases hf
      exact mt_reverse pins st σ' H _ [] v uv Q I rx ru ⟨l, vs, rfl, rfl, hl, q _ _ hx.reverse rep_non⟩
theorem few2 {args : List Expr} {env : PySem.Env} {pos : Pos} (ns : ∀ q ∈ starEach args env, q.1 = false) (hn : args.length < 30) : ((backTo pos (starEach args env)).all (fun x => !x.1) && (backToKw pos (keywordEach [] env)).all (fun x => x.1.isSome)
      && decide (args.length + ([] : List Keyword).length + (if ([] : List Keyword).isEmpty then 0 else 1) < 30)) = true := by
  have e1 : (backTo pos (starEach args env)).all (fun x => !x.1) = true := by
    rw [List.all_eq_true]
    intro q hq
    unfold backTo at hq
    obtain ⟨⟨z1, z2⟩, hz, e⟩ := List.mem_map.mp hq
    have := ns _ hz
    simp only at this
    subst this
    rw [← e]
    rfl
  rw [e1]
  simp [backToKw, keywordEach, hn]
def lmGood (md : LM) : Bool := match md with
  | .append => true | .insert => true | .pop => true | .popAt => true | .reverse => true | _ => false
theorem lmGood_ok {md : LM} (h : lmGood md = true) : md = .append ∨ md = .insert ∨ md = .pop ∨ md = .popAt ∨ md = .reverse := by
  cases md <;> first | (cases h; done) | simp
theorem lm_facts (md : LM) (h : lmGood md = true) : PySem.Slot "list" (lmName md) (lmId md) ∧ typeOf (.builtin (lmId md)) = pure (.type "method_descriptor") := by
  cases md with
  | append => exact ⟨F.slot_list_append, F.type_list_append⟩
  | insert => exact ⟨F.slot_list_insert, F.type_list_insert⟩
  | pop => exact ⟨F.slot_list_pop, F.type_list_pop⟩
  | popAt => exact ⟨F.slot_list_pop, F.type_list_pop⟩
  | reverse => exact ⟨F.slot_list_reverse, F.type_list_reverse⟩
  | _ => cases h
theorem lm_of {md : LM} (h : lmGood md = true) {a : E} {es : Es} {σ : L2.St} {H : Hp} {Q : VK} (q : Sp1 W xc Wx (ev G (.lm md a es)).v (relV W) σ H Q) :
    tBM W.K "list" (rLm W (lmSem md)) (Sp1 W xc Wx (ev G a).p (relP W)) (Sp1 W xc Wx (evs G es).v (relA W)) σ H Q := by
  have q : Sp1 W xc Wx (fun s => ((ev G a).p s).bind fun p s => match p.get s with
    | some (.lst _) => ((evs G es).v s).bind fun ds s => lmRun md p ds s
    | _ => .bad) (relV W) σ H Q := q
  refine (q.bind (rel := relP W)).mono fun v H1 ⟨e, F, m, p, s, S, r, g⟩ => ?_
  cases q1 : p.get s with
  | none => rw [q1] at g; exact g.elim
  | some d =>
    rw [q1] at g
    cases d with
    | lst xs =>
      obtain ⟨a', vs, rfl, h1, h2⟩ := See.of_get S r q1
      refine ⟨.inl ⟨rfl, vs, SqL.of h1⟩, e, F, m, s, S, (Go.bind (rel := relA W) g).mono fun us H2 ⟨ds, s2, F2, m2, S2, x2, r2, g2⟩ => ?_⟩
      exact lm_step (by cases md <;> first | (intro z; cases z; done) | cases h) S2 (r.later x2 (e1 := e) (s1 := s2) (H1 := H2)) r2 g2
    | _ => exact g.elim
theorem ok_lm {md : LM} {a b : E} {cs : Es} {y x : Expr} {xs : List Expr} (C : Cn W X xc Wx T sc ca) (h : lmGood md = true) (hn : (x :: xs).length < 30) (hl : (p.endLine == pos.line) = true) (hd : dotOk y = true) (ho : Eok W X xc Wx G a y) (hb : Eok W X xc Wx G b x) (hs : Aok W X xc Wx G cs xs) :
    Eok W X xc Wx G (.lm md a (.cons b cs)) (.Call (.Attribute y (lmName md) p) (x :: xs) [] pos) := by
  obtain ⟨f1, f2⟩ := lm_facts md h
  refine .of rfl C.K ((pe_bm F.plainAttrs_list f1 f2 (mt_lm (W := W) md (lmGood_ok h)) ho.p (aok_cons hb hs).v (base_ok hd) (few2 (aok_cons hb hs).ns hn) hl (hb.ns xs) hs.any).imp fun σ H Q q => ?_) (fun _ => rfl) fun _ => rfl
  rw [C.K]
  exact lm_of h q
theorem ok_lm0 {md : LM} {a : E} {y : Expr} (C : Cn W X xc Wx T sc ca) (h : lmGood md = true) (hl : (p.endLine == pos.line) = true) (hd : dotOk y = true) (ho : Eok W X xc Wx G a y) :
    Eok W X xc Wx G (.lm md a .nil) (.Call (.Attribute y (lmName md) p) [] [] pos) := by
  obtain ⟨f1, f2⟩ := lm_facts md h
  refine .of rfl C.K ((pe_bm0 F.plainAttrs_list f1 f2 (mt_lm (W := W) md (lmGood_ok h)) ho.p (base_ok hd) hl).imp fun σ H Q q => ?_) (fun _ => rfl) fun _ => rfl
  rw [C.K]
  have q := lm_of h q
  refine Sp1.mono q fun v H1 ⟨z1, z2⟩ => ⟨z1, ?_⟩
  obtain ⟨e, F, m, s, S, g⟩ := z2
  exact g [] F m H1 S (Ext.refl _ _) Reps.nil

/-! ### an exception's fields -/
theorem ok_xf {i f : Nat} {x : Str} (C : Cn W X xc Wx T sc ca) (B : Cf W X T G k ca) (hN : T.N[i]? = some x) (hv : Vis sc x) (hd : (x == ("__debug__" : Str)) = false) (hcd : (x == ("__classdict__" : Str)) = false) :
    Eok W X xc Wx G (.xf i f) (.Attribute (.Name x p2) (T.fld f) p) := by
  have nm := pe_name (pos := p2) C hN hv hd hcd
  have go : ∀ {σ : L2.St} {H : Hp} {Q : VK}, Sp1 W xc Wx (fun s => match s.sl[i]? with
      | some (.exc x) => if G.xa x.c f then O.opt ((x.fs.lookup f).map R.val) s else .bad
      | _ => .bad) (relV W) σ H Q → ∃ (a : Addr) (cls : Value) (d : Option Addr), xc = some (a, cls, d) ∧ ∃ C0, XfC X.K C0 ∧ PySem.W.findIn X.K (.ref C0) (T.fld f) = some none ∧ tXf a cls d C0 (T.fld f) (tVar i) σ H Q := fun {σ H Q} ⟨e, F, m, s, S, g⟩ => by
    cases q1 : s.sl[i]? with
    | none => simp only [q1] at g; exact g.elim
    | some z =>
      simp only [q1] at g
      cases z with
      | exc x =>
        obtain ⟨o, h1, a, cls, d, e1, e2, e3⟩ := S.getσ q1
        subst e2
        have g : Go W xc Wx e F m σ (if G.xa x.c f then O.opt ((x.fs.lookup f).map R.val) s else .bad) (relV W) Q := g
        by_cases hx : G.xa x.c f = true
        · rw [if_pos hx] at g
          obtain ⟨b1, b2, b3⟩ := B.xa x.c f hx
          obtain ⟨rr, e4, g2⟩ := g.opt
          simp only [Option.map_eq_some_iff] at e4
          obtain ⟨dd, hdd, rfl⟩ := e4
          refine ⟨a, cls, d, e1, W.cad x.c, b1, b2, _, h1, rfl, e3.1, ?_⟩
          rcases e3.2 with z | ⟨dd2, gs, z1, z2, z3⟩
          · rw [z] at hdd; cases hdd
          · obtain ⟨v, z4, z5⟩ := z3 f dd hdd
            rw [C.fld] at z4
            exact ⟨dd2, gs, v, z1, S.sub _ _ z2, z4, g2 v F m H S (Ext.refl _ _) z5⟩
        · rw [if_neg hx] at g
          exact g.elim
      | _ => exact g.elim
  refine .of rfl C.K ⟨fun pins st σ H Q I h => ?_⟩ (fun _ => rfl) fun _ => rfl
  obtain ⟨a, cls, d, e1, C0, b1, b2, q⟩ := go h
  rcases C.held with z | ⟨X0, a2, oe, cls2, d2, pn, e2, rfl, hz, hvs⟩
  · rw [z] at e1; cases e1
  · rw [e2] at e1
    cases e1
    exact (pe_xf b1 b2 hz hvs nm (by rfl)).run pins st σ H Q I q
end
end MP
set_option Elab.async false
set_option linter.all false
set_option maxRecDepth 100000
set_option maxHeartbeats 4000000
/-! MPT: statements. -/
namespace MP
open PySem PySem.Spec PyProof.Rows L2
/-- what is told of an end o of a statement that began over F, m -/
def GoS (W : Wd) (xc : XC) (Wx : WX) (e : En) (F : Hp) (m : List Addr) (o : O Flow) (D : Ends) : Prop := match o with
  | .bad => False
  | .ok .next s' => ∀ σ' F' m' H', Sim W xc e F' m' s' σ' H' → Ext F m F' m' → D.nx σ' H'
  | .ok .brk s' => ∀ σ' F' m' H', Sim W xc e F' m' s' σ' H' → Ext F m F' m' → D.bk σ' H'
  | .ok .cont s' => ∀ σ' F' m' H', Sim W xc e F' m' s' σ' H' → Ext F m F' m' → D.ct σ' H'
  | .ok (.ret r) s' => ∀ σ' F' m' H' v, Sim W xc e F' m' s' σ' H' → Ext F m F' m' → relV W e F' m' s' σ' H' r v → D.rt v H'
  | .exc x s' => ∀ cls d σ' F' m' H', Sim W xc e F' m' s' σ' H' → Ext F m F' m' → RepX W F' m' x cls d → Wx cls d σ' H'
def SpS (W : Wd) (xc : XC) (Wx : WX) (run : St → O Flow) : TS := fun D σ H => ∃ e F m s, Sim W xc e F m s σ H ∧ GoS W xc Wx e F m (run s) D
section
variable {W : Wd} {xc : XC} {X : Cx} {Wx : WX} {T : Tab} {sc : Scope} {ca : Bool} {G : Env} {k : Nat} {pos p p2 p3 : Pos} {F F1 : Hp} {m m1 : List Addr} {e : En} {s : St} {σ : L2.St} {H : Hp} {D D' : Ends}
theorem GoS.ext {o : O Flow} (x : Ext F m F1 m1) (h : GoS W xc Wx e F m o D) : GoS W xc Wx e F1 m1 o D := by
  cases o with
  | bad => exact h
  | ok f s' =>
    cases f with
    | next => exact fun σ' F' m' H' h1 h2 => h σ' F' m' H' h1 (x.trans h2)
    | brk => exact fun σ' F' m' H' h1 h2 => h σ' F' m' H' h1 (x.trans h2)
    | cont => exact fun σ' F' m' H' h1 h2 => h σ' F' m' H' h1 (x.trans h2)
    | ret r => exact fun σ' F' m' H' v h1 h2 h3 => h σ' F' m' H' v h1 (x.trans h2) h3
  | exc y s' => exact fun cls d σ' F' m' H' h1 h2 h3 => h cls d σ' F' m' H' h1 (x.trans h2) h3
theorem GoS.bind {α β : Type} {o : O α} {f : α → St → O Flow} {rel : Rl α β} (h : GoS W xc Wx e F m (o.bind f) D) : Go W xc Wx e F m σ o rel fun b H1 => ∃ a s1 F1 m1, Sim W xc e F1 m1 s1 σ H1 ∧ Ext F m F1 m1 ∧ rel e F1 m1 s1 σ H1 a b ∧ GoS W xc Wx e F1 m1 (f a s1) D := by
  cases o with
  | bad => exact h
  | ok a s' => exact fun b F' m' H' h1 h2 h3 => ⟨a, s', F', m', h1, h2, h3, GoS.ext h2 h⟩
  | exc y s' => exact fun cls d F' m' H' h1 h2 h3 => h cls d σ F' m' H' h1 h2 h3
theorem SpS.bind {α β : Type} {r1 : St → O α} {f : α → St → O Flow} {rel : Rl α β} (h : SpS W xc Wx (fun s => (r1 s).bind f) D σ H) :
    Sp1 W xc Wx r1 rel σ H fun b H1 => ∃ e F m a s, Sim W xc e F m s σ H1 ∧ rel e F m s σ H1 a b ∧ GoS W xc Wx e F m (f a s) D := by
  obtain ⟨e, F, m, s, S, g⟩ := h
  exact ⟨e, F, m, s, S, g.bind.mono fun b H1 ⟨a, s1, F1, m1, S1, x1, r1, g1⟩ => ⟨e, F1, m1, a, s1, S1, r1, g1⟩⟩
theorem GoS.next (h : GoS W xc Wx e F m (.ok .next s) D) (S : Sim W xc e F1 m1 s σ H) (x : Ext F m F1 m1) : D.nx σ H := h σ F1 m1 H S x
structure Sok (W : Wd) (X : Cx) (xc : XC) (Wx : WX) (G : Env) (c : S) (st : Stmt) : Prop where
  ps : PS X st (SpS W xc Wx (ex G c))
structure SSok (W : Wd) (X : Cx) (xc : XC) (Wx : WX) (G : Env) (c : Ss) (sts : List Stmt) : Prop where
  ps : PSs X sts (SpS W xc Wx (exs G c))
theorem _root_.L2.PS.imp {t t' : TS} {x : Stmt} (h : PS X x t) (k : ∀ D σ H, t' D σ H → t D σ H) : PS X x t' := ⟨fun pins s σ H D I q => h.run pins s σ H D I (k _ _ _ q)⟩
theorem _root_.L2.PSs.imp {t t' : TS} {x : List Stmt} (h : PSs X x t) (k : ∀ D σ H, t' D σ H → t D σ H) : PSs X x t' := ⟨fun pins s σ H D I q => h.run pins s σ H D I (k _ _ _ q)⟩
/-- what stands around a statement of a def -/
structure Dn (X : Cx) (ca : Bool) : Prop where
  own : ca = true → PassesOwn (model X.prog X.w) X.A X.env X.xe
  st : X.stack = X.env :: X.outer
  fr : X.env.frame = some X.env.locals
  fn : ∀ x, X.fn x = true

/-! ### one after the other -/
theorem sok_nil : SSok W X xc Wx G .nil [] := ⟨pss_nil.imp fun D σ H ⟨e, F, m, s, S, g⟩ => GoS.next g S (Ext.refl _ _)⟩
theorem sok_cons {c : S} {cs : Ss} {st : Stmt} {sts : List Stmt} (h : Sok W X xc Wx G c st) (hs : SSok W X xc Wx G cs sts) : SSok W X xc Wx G (.cons c cs) (st :: sts) := by
  refine ⟨(pss_cons h.ps hs.ps).imp fun D σ H ⟨e, F, m, s, S, g⟩ => ⟨e, F, m, s, S, ?_⟩⟩
  have g : GoS W xc Wx e F m ((ex G c s).bind fun f s => match f with
    | .next => exs G cs s
    | f => .ok f s) D := g
  cases hx : ex G c s with
  | bad => rw [hx] at g; exact g
  | exc y s' => rw [hx] at g; exact g
  | ok f s' =>
    rw [hx] at g
    cases f with
    | next => exact fun σ' F' m' H' S' x' => ⟨e, F', m', s', S', GoS.ext x' g⟩
    | brk => exact g
    | cont => exact g
    | ret r => exact g

/-! ### plain statements -/
theorem sok_pass : Sok W X xc Wx G .pass (.Pass pos) := ⟨ps_pass.imp fun D σ H ⟨e, F, m, s, S, g⟩ => GoS.next g S (Ext.refl _ _)⟩
theorem sok_brk : Sok W X xc Wx G .brk (.Break pos) := ⟨ps_break.imp fun D σ H ⟨e, F, m, s, S, g⟩ => g σ F m H S (Ext.refl _ _)⟩
theorem sok_cont : Sok W X xc Wx G .cont (.Continue pos) := ⟨ps_continue.imp fun D σ H ⟨e, F, m, s, S, g⟩ => g σ F m H S (Ext.refl _ _)⟩
theorem sok_retN : Sok W X xc Wx G .retN (.Return none pos) := ⟨ps_retN.imp fun D σ H ⟨e, F, m, s, S, g⟩ => g σ F m H .non S (Ext.refl _ _) rv_non⟩
theorem retV_ok {c : E} {x : Expr} (C : Cn W X xc Wx T sc ca) (h : Eok W X xc Wx G c x) (hv : ∀ i, c = .var i → ∃ y p, x = .Name y p ∧ T.N[i]? = some y ∧ Vis sc y ∧ (y == ("__debug__" : Str)) = false ∧ (y == ("__classdict__" : Str)) = false) : PE X x (Sp1 W xc Wx (retV G c) (relV W)) := by
  cases c with
  | var i =>
    obtain ⟨y, p, rfl, h1, h2, h3, h4⟩ := hv i rfl
    exact (pe_name C h1 h2 h3 h4).imp fun σ H Q ⟨e, F, m, s, S, g⟩ => go_varR S g
  | _ => exact h.v
theorem sok_ret {c : E} {x : Expr} (C : Cn W X xc Wx T sc ca) (h : PE X x (Sp1 W xc Wx (retV G c) (relV W))) : Sok W X xc Wx G (.ret c) (.Return (some x) pos) := by
  refine ⟨(ps_ret h).imp fun D σ H q => ?_⟩
  have q : SpS W xc Wx (fun s => (retV G c s).bind fun r s => .ok (.ret r) s) D σ H := q
  exact (q.bind (rel := relV W)).mono fun v H1 ⟨e, F, m, r, s, S, rr, g⟩ => g σ F m H1 v S (Ext.refl _ _) rr
def noComp : Expr → Bool
  | .ListComp .. => false
  | .SetComp .. => false
  | .DictComp .. => false
  | _ => true
theorem sw_no {e : Expr} {t : Option Expr} {l : Nat} {env : PySem.Env} (h : noComp e = true) : swapsWith e t l env = pure false := by
  cases e <;> first | rfl | cases h
theorem sok_ex {c : E} {x : Expr} (h : Eok W X xc Wx G c x) (hn : noComp x = true) : Sok W X xc Wx G (.ex c) (.Expr x pos) := by
  refine ⟨(ps_expr h.v (sw_no hn)).imp fun D σ H q => ?_⟩
  have q : SpS W xc Wx (fun s => ((ev G c).v s).bind fun _ s => .ok .next s) D σ H := q
  exact (q.bind (rel := relV W)).mono fun v H1 ⟨e, F, m, r, s, S, rr, g⟩ => g.next S (Ext.refl _ _)
theorem sok_doc {x : Str} {j : Nat} {pos' : Pos} : Sok W X xc Wx G .pass (.Expr (.Constant (.str x) j pos) pos') := ⟨ps_doc.imp fun D σ H ⟨e, F, m, s, S, g⟩ => GoS.next g S (Ext.refl _ _)⟩
theorem sok_ite {c : E} {a b : Ss} {x : Expr} {as bs : List Stmt} (hc : Eok W X xc Wx G c x) (ha : SSok W X xc Wx G a as) (hb : SSok W X xc Wx G b bs) : Sok W X xc Wx G (.ite c a b) (.If x as bs pos) := by
  refine ⟨(ps_if hc.t ha.ps hb.ps).imp fun D σ H q => ?_⟩
  have q : SpS W xc Wx (fun s => ((ev G c).t s).bind fun x s => if x then exs G a s else exs G b s) D σ H := q
  refine (q.bind (rel := relT)).mono fun v H1 ⟨e, F, m, r, s, S, rr, g⟩ => ?_
  have rr : r = v := rr
  subst rr
  cases r with
  | true => exact ⟨e, F, m, s, S, g⟩
  | false => exact ⟨e, F, m, s, S, g⟩

/-! ### stores -/
theorem Sim.newCell {xs : List MP.D} {a : Addr} (S : Sim W xc e F m s σ H) (l : Lone W e F m s σ H xs a) : Sim W xc e F (m ++ [a]) ⟨s.sl, s.hp ++ [.lst xs]⟩ σ H ∧ Ext F m F (m ++ [a]) ∧ Rep W F (m ++ [a]) (.cell s.hp.length) (.ref a) := by
  have x : Ext F m F (m ++ [a]) := ⟨Same.refl F, fun i b z => by rw [List.getElem?_append_left (List.getElem?_eq_some_iff.mp z).1]; exact z⟩
  have lenm := S.cells.len
  refine ⟨⟨S.sub, ⟨by simp [lenm], ?_, fun i c b h1 h2 => ?_⟩, S.len, fun i y o h1 h2 => ?_, S.apart, S.ext.trans x, S.fr, S.keep, fun b h1 h2 => ?_⟩, x, ?_⟩
  · rw [List.nodup_append]
    refine ⟨S.cells.nd, by simp, fun b hb c hc => ?_⟩
    have : c = a := by simpa using hc
    subst this
    intro e
    subst e
    exact l.nm hb
  · by_cases hi : i < s.hp.length
    · rw [List.getElem?_append_left hi] at h1
      rw [List.getElem?_append_left (by rw [lenm]; exact hi)] at h2
      obtain ⟨g1, g2⟩ := S.cells.ok i c b h1 h2
      exact ⟨g1, g2.mono x fun _ z => z⟩
    · have hl := (List.getElem?_eq_some_iff.mp h1).1
      have hi2 : i = s.hp.length := by simp at hl; omega
      subst hi2
      rw [List.getElem?_append_right (Nat.le_refl _)] at h1
      rw [List.getElem?_append_right (by rw [lenm]; exact Nat.le_refl _)] at h2
      simp at h1
      simp [lenm] at h2
      subst h1 h2
      obtain ⟨vs, g1, g2⟩ := l.at_
      exact ⟨l.nf, vs, g1, g2.mono x⟩
  · have q := S.slot i y o h1 h2
    cases y with
    | no => exact trivial
    | val d =>
      obtain ⟨v, e1, r⟩ := q
      exact ⟨v, e1, r.mono x⟩
    | own ys =>
      obtain ⟨b, vs, rfl, g1, g2, g3, g4, g5⟩ := q
      refine ⟨b, vs, rfl, g1, g2.mono x, g3, fun z => ?_, g5⟩
      rcases List.mem_append.mp z with z | z
      · exact g4 z
      · have : b = a := by simpa using z
        subst this
        exact l.ns i ys h1 h2
    | exc z =>
      obtain ⟨b, cls, d, g1, g2, g3⟩ := q
      exact ⟨b, cls, d, g1, g2, g3.mono x⟩
  · rcases List.mem_append.mp h1 with z | z
    · exact S.new b z h2
    · have : b = a := by simpa using z
      subst this
      exact l.ne
  · unfold Rep
    exact ⟨a, by rw [List.getElem?_append_right (by rw [lenm]; exact Nat.le_refl _)]; simp [lenm], rfl⟩
theorem asg_ok {i : Nat} {md : Md} {r : R} {v : V} (S : Sim W xc e F m s σ H) (rr : relV W e F m s σ H r v) (g : GoS W xc Wx e F m (.ok .next (s.asg i md r)) D) : D.nx (σ.set i (some v)) H := by
  cases r with
  | val d => exact g.next (S.setVal rr) (Ext.refl _ _)
  | own xs =>
    obtain ⟨a, rfl, l⟩ := rr
    cases md with
    | own => exact g.next (S.setOwn l) (Ext.refl _ _)
    | val =>
      obtain ⟨F2, S2, x2, r2⟩ := S.give l
      exact g.next (S2.setVal r2) x2
    | cell =>
      obtain ⟨S2, x2, r2⟩ := S.newCell l
      exact g.next (S2.setVal r2) x2
theorem asg_of {i : Nat} {md : Md} {c : E} (q : SpS W xc Wx (ex G (.asg i md c)) D σ H) : tAsg (Sp1 W xc Wx (ev G c).v (relV W)) (gName i) D σ H := by
  have q : SpS W xc Wx (fun s => ((ev G c).v s).bind fun r s => .ok .next (s.asg i md r)) D σ H := q
  exact (q.bind (rel := relV W)).mono fun v H1 ⟨e, F, m, r, s, S, rr, g⟩ => asg_ok S rr g
theorem locs {sc : Scope} {i : Nat} {x : Str} {pos : Pos} {N : List Str} (h : nmOk N sc i (.Name x pos) = true) : N[i]? = some x ∧ Loc sc x := by
  simp only [nmOk, Bool.and_eq_true, decide_eq_true_eq] at h
  obtain ⟨h1, h2⟩ := h
  refine ⟨h1, ?_⟩
  cases q : sc.names.lookup x with
  | none => rw [q] at h2; cases h2
  | some kd =>
    rw [q] at h2
    cases kd with
    | «local» => exact .inl q
    | cell => exact .inr q
    | _ => cases h2
theorem sok_asg {i : Nat} {own : Md} {c : E} {y : Str} {x : Expr} {pos' : Pos} (C : Cn W X xc Wx T sc ca) (Dx : Dn X ca) (hy : nmOk T.N sc i (.Name y pos') = true) (hn : noComp x = true) (h : Eok W X xc Wx G c x) : Sok W X xc Wx G (.asg i own c) (.Assign [.Name y pos'] x pos) := by
  obtain ⟨h1, h2⟩ := locs hy
  exact ⟨(ps_set C.nd (by rw [C.N]; exact h1) (by rw [C.sc]; exact h2) h.v (sw_no hn) (.inl (Dx.fn _))).imp fun D σ H q => asg_of q⟩
/-- a comprehension is stored: swapped with the name's old value, or not -/
def swB (sc : Scope) (scope : Scope) (y : Str) (lt lv : Nat) : Bool := decide (sc.names.lookup y = some .local) && (lt == lv) && !(scope.names.any fun q => q.1 == y && (q.2 == .local || q.2 == .cell))
theorem sok_asgLc {i : Nat} {own : Md} {elt : E} {tg : Tg} {src : Src} {ifs : Es} {eE tgE iter : Expr} {ifsE : List Expr} {scope : Scope} {y : Str} {pos' : Pos} (C : Cn W X xc Wx T sc ca) (B : Cf W X T G k ca) (Dx : Dn X ca) (hk : sc.kind = .function) (hca : ca = true) (hy : nmOk T.N sc i (.Name y pos') = true) (hi : Iok W X xc Wx G src tgE iter) (hb : blkOk T.N sc scope tg = true) (ht : tgOk T.N scope tg tgE = true)
    (h1 : ∀ X', Cn W X' none Wf T (relS scope sc) true → Cf W X' T G k true → Tsk W X' none Wf G ifs ifsE ∧ Eok W X' none Wf G elt eE) : Sok W X xc Wx G (.asg i own (.lc elt tg src ifs)) (.Assign [.Name y pos'] (.ListComp eE [⟨tgE, iter, ifsE, 0⟩] scope p) pos) := by
  obtain ⟨g1, g2⟩ := locs hy
  have esw : swapsWith (.ListComp eE [⟨tgE, iter, ifsE, 0⟩] scope p) (some (.Name y pos')) pos.line X.env = pure (swB sc scope y pos'.line p.line) := by
    have hk' : X.env.scope.kind = .function := by rw [C.sc]; exact hk
    have hb' : X.env.blockKind = .function := by unfold PySem.Env.blockKind; rw [hk']; rfl
    have ek : X.env.kindOf y = sc.names.lookup y := by rw [← C.sc]; rfl
    unfold swapsWith swB
    simp only [hb', ek, Expr.pos]
    cases q : sc.names.lookup y with
    | none => rfl
    | some kd => cases kd <;> rfl
  cases hb2 : swB sc scope y pos'.line p.line with
  | false =>
    rw [hb2] at esw
    exact ⟨(ps_set C.nd (by rw [C.N]; exact g1) (by rw [C.sc]; exact g2) (ok_lc C B hca hi hb ht h1).v esw (.inl (Dx.fn _))).imp fun D σ H q => asg_of q⟩
  | true =>
    rw [hb2] at esw
    have hl : sc.names.lookup y = some .local := by
      simp only [swB, Bool.and_eq_true, decide_eq_true_eq] at hb2
      exact hb2.1.1
    have hxc := C.nx hca
    subst hxc
    have ok : BlkOk X.N X.env.scope scope (ownOf X.N tg) := by rw [C.N, C.sc]; exact blkOk_ok hb
    have cn : ∀ (s : Shared) (H : Hp) (L : Addr) (cl : List (Str × Addr)) (fp : List Addr), Cn W (X.blk s H scope (compEnvC scope cl L X.env) fp) none Wf T (relS scope sc) true := fun s H L cl fp => by
      refine ⟨fun _ => C.calm hca, fun _ => rfl, .inl rfl, C.nd, C.N, ?_, C.K, C.fld, C.nf, takes_none5, C.un, C.gd⟩
      rw [← C.sc]
      rfl
    have cf : ∀ (s : Shared) (H : Hp) (L : Addr) (cl : List (Str × Addr)) (fp : List Addr), Cf W (X.blk s H scope (compEnvC scope cl L X.env) fp) T G k true := fun s H L cl fp =>
      B.move rfl rfl rfl rfl rfl fun _ => B.room hca
    have ws : ∀ (s : Shared) (H : Hp) (L : Addr) (cl : List (Str × Addr)) (fp : List Addr), Wsc (X.blk s H scope (compEnvC scope cl L X.env) fp) scope := fun s H L cl fp =>
      ⟨fun x hx => lookup_relS_keep (by decide) hx, fun x hx => ⟨lookup_relS_keep (by decide) hx, by show (scope.names.lookup x == some .cell) = true; rw [hx]; rfl⟩⟩
    refine ⟨(ps_setLc (C.calm hca) C.nd (by rw [C.N]; exact g1) (by rw [C.sc]; exact hl) esw hi.pi ok (fun s H L cl fp => (gok (X := X.blk s H scope (compEnvC scope cl L X.env) fp) (W := W) (xc := none) C.nd C.K (C.calm hca) (ws s H L cl fp) (by rw [← C.N] at ht; exact ht)).pg) (fun s H L cl fp => (h1 _ (cn s H L cl fp) (cf s H L cl fp)).1.t) (fun s H L cl fp => (h1 _ (cn s H L cl fp) (cf s H L cl fp)).2.fz) hi.fs).imp fun D σ H q => ?_⟩
    rw [ownOf_snd]
    exact lc_sem (asg_of q)
theorem sok_asgT {is : List Nat} {c : E} {es : List Expr} {kk : Nat} {x : Expr} {pos' : Pos} (C : Cn W X xc Wx T sc ca) (Dx : Dn X ca) (hca : ca = true) (hn : noComp x = true) (ht : tgOk T.N sc (.tup is) (.Tuple es kk pos') = true) (hw : ∀ env, swappedStores [.Tuple es kk pos'] x env = pure none) (h : Eok W X xc Wx G c x) : Sok W X xc Wx G (.asgT is c) (.Assign [.Tuple es kk pos'] x pos) := by
  have ws : Wsc X sc := ⟨fun x hx => by rw [C.sc]; exact hx, fun x hx => ⟨by rw [C.sc]; exact hx, Dx.fn x⟩⟩
  refine ⟨(ps_asg h.fz (gok (W := W) (xc := xc) C.nd C.K (C.calm hca) ws (by rw [C.N]; exact ht)).pg (sw_no hn) (hw _)).imp fun D σ H q => ?_⟩
  have q : SpS W xc Wx (fun s => (fz (ev G c).v s).bind fun d s => match setTg (.tup is) d s with
    | some s => .ok .next s
    | none => .bad) D σ H := q
  refine (q.bind (rel := relD W)).mono fun v H1 ⟨e, F, m, d, s, S, r, g⟩ => ?_
  cases hs : setTg (.tup is) d s with
  | none => simp only [hs] at g; exact g.elim
  | some s' =>
    simp only [hs] at g
    exact ⟨e, F, m, s, d, s', S, r, hs, fun σ' S' _ _ => g.next S' (Ext.refl _ _)⟩
theorem sok_setIx {a i c : E} {x y z : Expr} {pos' : Pos} (C : Cn W X xc Wx T sc ca) (ha : Eok W X xc Wx G a x) (hi : Eok W X xc Wx G i y) (hc : Eok W X xc Wx G c z)
    (hsub : ∀ v, assign (.Subscript x y pos') X.env v = (do
      let ov ← holding [v] (eval x X.env)
      let iv ← holding [v, ov] (eval y X.env)
      standAt pos'
      holding [v, ov, iv] (setItem ov iv v)
      release [v, ov, iv] [])) : Sok W X xc Wx G (.setIx a i c) (.Assign [.Subscript x y pos'] z pos) := by
  refine ⟨(ps_asg hc.fz (pg_sub ha.p hi.p set_list hsub) (by cases z <;> rfl) (by cases z <;> rfl) rfl).imp fun D σ H q => ?_⟩
  have q : SpS W xc Wx (fun s => (fz (ev G c).v s).bind fun d s => ((ev G a).p s).bind fun p s => ((ev G i).p s).bind fun q s => match q.get s with
    | some (.int k) => setIxRun p k d s
    | _ => .bad) D σ H := q
  refine (q.bind (rel := relD W)).mono fun v H1 ⟨e, F, m, d, s, S, r, g⟩ => ⟨e, F, m, s, S, (GoS.bind (rel := relP W) g).mono fun o H2 ⟨p, s2, F2, m2, S2, x2, r2, g2⟩ => ⟨e, F2, m2, s2, S2, (GoS.bind (rel := relP W) g2).mono fun j H3 ⟨q, s3, F3, m3, S3, x3, r3, g3⟩ => ?_⟩⟩
  cases q1 : q.get s3 with
  | none => simp only [q1] at g3; exact g3.elim
  | some di =>
    simp only [q1] at g3
    cases di with
    | int kk =>
      cases (See.of_get S3 r3 q1).int
      have r := r.mono (x2.trans x3)
      have r2 := r2.later x3 (e1 := e) (s1 := s3) (H1 := H3)
      have cell : ∀ {j : Nat}, Rep W F3 m3 (.cell j) o → GoS W xc Wx e F3 m3 (setIxRun (.dat (.cell j)) kk d s3) D → rSetL o (.int kk) v H3 fun H4 => D.nx σ H4 := fun {j} rr g => by
        unfold Rep at rr
        obtain ⟨a', hm, rfl⟩ := rr
        cases q2 : s3.hp[j]? with
        | none => simp only [setIxRun, q2] at g; exact g.elim
        | some cc =>
          simp only [setIxRun, q2] at g
          cases cc with
          | ins _ _ => exact g.elim
          | lst xs =>
            obtain ⟨_, vs, h1, h2⟩ := S3.cells.ok j _ a' q2 hm
            cases q3 : L2.ixN xs.length kk with
            | none => simp only [q3] at g; exact g.elim
            | some jj =>
              simp only [q3] at g
              exact ⟨a', vs, kk, jj, rfl, rfl, h1, by rw [h2.length]; exact q3, g.next (S3.changeCell q2 hm ⟨_, upd_same, h2.set jj r⟩) (Ext.refl _ _)⟩
      cases p with
      | dat dd =>
        cases dd with
        | cell j => exact cell r2 g3
        | _ => exact g3.elim
      | sl ii =>
        have r2 : σ[ii]? = some (some o) := r2
        cases q4 : s3.sl[ii]? with
        | none => simp only [setIxRun, q4] at g3; exact g3.elim
        | some zz =>
          have ok := S3.slot ii zz _ q4 r2
          cases zz with
          | no => simp only [setIxRun, q4] at g3; exact g3.elim
          | exc _ => simp only [setIxRun, q4] at g3; exact g3.elim
          | own xs =>
            obtain ⟨a', vs, e1, h1, h2, _⟩ := ok
            cases e1
            cases q3 : L2.ixN xs.length kk with
            | none => simp only [setIxRun, q4, q3] at g3; exact g3.elim
            | some jj =>
              simp only [setIxRun, q4, q3] at g3
              exact ⟨a', vs, kk, jj, rfl, rfl, h1, by rw [h2.length]; exact q3, g3.next (S3.changeOwn q4 r2 (h2.set jj r)) (Ext.refl _ _)⟩
          | val dd =>
            obtain ⟨w, e1, rr⟩ := ok
            cases e1
            cases dd with
            | cell j =>
              refine cell rr ?_
              have eq : setIxRun (.sl ii) kk d s3 = setIxRun (.dat (.cell j)) kk d s3 := by simp only [setIxRun, q4]
              rw [← eq]
              exact g3
            | _ => simp only [setIxRun, q4] at g3; exact g3.elim
    | _ => exact g3.elim
theorem sok_setF {a c : E} {f : Nat} {x z : Expr} {pos' : Pos} (C : Cn W X xc Wx T sc ca) (B : Cf W X T G k ca) (ha : Eok W X xc Wx G a x) (hc : Eok W X xc Wx G c z) : Sok W X xc Wx G (.setF a f c) (.Assign [.Attribute x (T.fld f) pos'] z pos) := by
  refine ⟨(ps_fld ha.fz hc.fz (by cases z <;> rfl)).imp fun D σ H q => ?_⟩
  have q : SpS W xc Wx (fun s => (fz (ev G c).v s).bind fun d s => (fz (ev G a).v s).bind fun x s => match x with
    | .cell c => (match s.hp[c]? with
      | some (.ins k fs) => if fs.length < 900 ∧ G.fa k f then .ok .next { s with hp := s.hp.set c (.ins k (putF f d fs)) } else .bad
      | _ => .bad)
    | _ => .bad) D σ H := q
  refine (q.bind (rel := relD W)).mono fun v H1 ⟨e, F, m, d, s, S, r, g⟩ => ⟨e, F, m, s, S, (GoS.bind (rel := relD W) g).mono fun o H2 ⟨xd, s2, F2, m2, S2, x2, r2, g2⟩ => ?_⟩
  cases xd with
  | cell j =>
    have r2 : Rep W F2 m2 (.cell j) o := r2
    unfold Rep at r2
    obtain ⟨a', hm, rfl⟩ := r2
    cases q2 : s2.hp[j]? with
    | none => simp only [q2] at g2; exact g2.elim
    | some cc =>
      simp only [q2] at g2
      cases cc with
      | lst _ => exact g2.elim
      | ins cl fs =>
        obtain ⟨_, dx, gs, h1, h2⟩ := S2.cells.ok j _ a' q2 hm
        have g2 : GoS W xc Wx e F2 m2 (if fs.length < 900 ∧ G.fa cl f then .ok .next { s2 with hp := s2.hp.set j (.ins cl (putF f d fs)) } else .bad) D := g2
        by_cases hx : fs.length < 900 ∧ G.fa cl f
        · rw [if_pos hx] at g2
          obtain ⟨b1, b2, b3⟩ := B.fa cl f hx.2
          refine ⟨a', W.cad cl, dx, gs, rfl, h1, b1, b2, by rw [h2.length]; omega, ?_⟩
          rw [← C.fld]
          exact g2.next (S2.changeCell q2 hm ⟨dx, _, upd_same, h2.put b3 (r.mono x2)⟩) (Ext.refl _ _)
        · rw [if_neg hx] at g2
          exact g2.elim
  | _ => exact g2.elim

/-! ### loops -/
theorem sok_for {tg : Tg} {src : Src} {body : Ss} {tgE iter : Expr} {sts : List Stmt} (C : Cn W X xc Wx T sc ca) (Dx : Dn X ca) (hca : ca = true) (hi : Iok W X xc Wx G src tgE iter) (ht : tgOk T.N sc tg tgE = true) (hb : SSok W X xc Wx G body sts) : Sok W X xc Wx G (.for_ tg src body) (.For tgE iter sts [] pos) := by
  have ws : Wsc X sc := ⟨fun x hx => by rw [C.sc]; exact hx, fun x hx => ⟨by rw [C.sc]; exact hx, Dx.fn x⟩⟩
  refine ⟨(ps_for (Dx.own hca) (C.calm hca) hi.pi (gok (W := W) (xc := xc) C.nd C.K (C.calm hca) ws (by rw [C.N]; exact ht)).pg hb.ps hi.fs).imp fun D σ H q => ?_⟩
  have q : SpS W xc Wx (fun s => (evr G src s).bind fun ds s => runFor (exs G body) tg ds s) D σ H := q
  refine (q.bind (rel := relI W)).mono fun J H1 ⟨e, F0, m0, ds, s0, S0, wk, g⟩ => ?_
  have wk : Wk W F0 m0 ds J := wk
  refine ⟨fun i n σ H => ∃ F m s, Sim W xc e F m s σ H ∧ Ext F0 m0 F m ∧ n = ds.length - i ∧ i ≤ ds.length ∧ GoS W xc Wx e F m (runFor (exs G body) tg (ds.drop i) s) D, ⟨_, F0, m0, s0, S0, Ext.refl _ _, rfl, Nat.zero_le _, g⟩, fun i n σ2 H2 hw => ?_⟩
  obtain ⟨F, m, s, S, x, hn, hi, g⟩ := hw
  by_cases hend : i = ds.length
  · subst hend
    rw [List.drop_length] at g
    exact .inl ⟨(wk _ xc e F m _ _ H2 S x).2 (Nat.le_refl _), GoS.next g S (Ext.refl _ _)⟩
  · have hlt : i < ds.length := by omega
    have hd : ds[i]? = some ds[i] := List.getElem?_eq_getElem hlt
    rw [List.drop_eq_getElem_cons hlt] at g
    obtain ⟨w1, w2⟩ := (wk i xc e F m _ _ H2 S x).1 _ hd
    refine .inr ⟨w1, fun σ' H' => ∃ F m s, Sim W xc e F m s σ' H' ∧ Ext F0 m0 F m ∧ n - 1 = ds.length - (i + 1) ∧ i + 1 ≤ ds.length ∧ GoS W xc Wx e F m (runFor (exs G body) tg (ds.drop (i + 1)) s) D, fun σ' H' w => ⟨n - 1, by omega, w⟩, fun xv H' hy => ?_⟩
    obtain ⟨F2, S2, x2, r2⟩ := w2 xv H' hy
    cases hs : setTg tg ds[i] s with
    | none => simp only [runFor, hs] at g; exact g.elim
    | some s1 =>
      simp only [runFor, hs] at g
      refine ⟨e, F2, m, s, _, s1, S2, r2, hs, fun σ' S1 _ _ => ⟨e, F2, m, s1, S1, ?_⟩⟩
      have g := GoS.ext x2 g
      cases hx : exs G body s1 with
      | bad => rw [hx] at g; exact g
      | exc y s' => rw [hx] at g; exact g
      | ok f s' =>
        rw [hx] at g
        cases f with
        | next => exact fun σ3 F3 m3 H3 S3 x3 => ⟨F3, m3, s', S3, x.trans (x2.trans x3), by omega, hlt, GoS.ext x3 g⟩
        | cont => exact fun σ3 F3 m3 H3 S3 x3 => ⟨F3, m3, s', S3, x.trans (x2.trans x3), by omega, hlt, GoS.ext x3 g⟩
        | brk => exact fun σ3 F3 m3 H3 S3 x3 => g σ3 F3 m3 H3 S3 x3
        | ret r => exact g
theorem sok_whl {nn : Nat} {c : E} {body : Ss} {x : Expr} {sts : List Stmt} (Dx : Dn X ca) (hca : ca = true) (hc : Eok W X xc Wx G c x) (hb : SSok W X xc Wx G body sts) : Sok W X xc Wx G (.whl nn c body) (.While x sts [] pos) := by
  refine ⟨(ps_while (Dx.own hca) hc.t hb.ps).imp fun D σ H ⟨e, F, m, s, S, g⟩ => ?_⟩
  refine ⟨fun n σ H => ∃ F m s, Sim W xc e F m s σ H ∧ GoS W xc Wx e F m (runWhl (ev G c).t (exs G body) n s) D, ⟨nn, F, m, s, S, g⟩, fun n σ2 H2 hw => ?_⟩
  obtain ⟨F, m, s, S, g⟩ := hw
  cases n with
  | zero => exact g.elim
  | succ n =>
    simp only [runWhl] at g
    refine ⟨e, F, m, s, S, (GoS.bind (rel := relT) g).mono fun b H3 ⟨b', s1, F1, m1, S1, x1, eb, g1⟩ => ?_⟩
    have eb : b' = b := eb
    subst eb
    cases b' with
    | false => exact GoS.next g1 S1 (Ext.refl _ _)
    | true =>
      refine ⟨fun σ' H' => ∃ F m s, Sim W xc e F m s σ' H' ∧ GoS W xc Wx e F m (runWhl (ev G c).t (exs G body) n s) D, fun σ' H' w => ⟨n, Nat.lt_succ_self _, w⟩, ⟨e, F1, m1, s1, S1, ?_⟩⟩
      have g1 : GoS W xc Wx e F1 m1 ((exs G body s1).bind fun f s => match f with
        | .next => runWhl (ev G c).t (exs G body) n s
        | .cont => runWhl (ev G c).t (exs G body) n s
        | .brk => .ok .next s
        | .ret r => .ok (.ret r) s) D := g1
      cases hx : exs G body s1 with
      | bad => rw [hx] at g1; exact g1
      | exc y s' => rw [hx] at g1; exact g1
      | ok f s' =>
        rw [hx] at g1
        cases f with
        | next => exact fun σ3 F3 m3 H3 S3 x3 => ⟨F3, m3, s', S3, GoS.ext x3 g1⟩
        | cont => exact fun σ3 F3 m3 H3 S3 x3 => ⟨F3, m3, s', S3, GoS.ext x3 g1⟩
        | brk => exact fun σ3 F3 m3 H3 S3 x3 => g1 σ3 F3 m3 H3 S3 x3
        | ret r => exact g1
end
end MP
set_option Elab.async false
set_option linter.all false
set_option maxRecDepth 100000
set_option maxHeartbeats 4000000
/-! MPE: exceptions that store their arguments, raise. -/
namespace MP
open PySem PySem.Spec PyProof.Rows L2
theorem exH_put {H : Hp} {a C dx : Addr} {acc acc' : List (Str × V)} (ne : dx ≠ a) : upd (exH H a C dx acc) dx (exd dx acc') = exH H a C dx acc' := by
  funext b
  unfold exH
  by_cases h1 : b = dx
  · subst h1
    rw [upd_same, upd_ne ne, upd_same]
  · rw [upd_ne h1]
    by_cases h2 : b = a
    · subst h2
      rw [upd_same, upd_same]
    · rw [upd_ne h2, upd_ne h2, upd_ne h1, upd_ne h1]
def visB (sc : Scope) (x : Str) : Bool := match sc.names.lookup x with
  | some .local => true
  | some .cell => true
  | some .free => true
  | _ => false
theorem visB_ok {sc : Scope} {x : Str} (h : visB sc x = true) : Vis sc x := by
  unfold visB at h
  cases q : sc.names.lookup x with
  | none => rw [q] at h; cases h
  | some kd =>
    rw [q] at h
    cases kd with
    | «local» => exact .inl q
    | cell => exact .inr (.inl q)
    | free => exact .inr (.inr q)
    | _ => cases h
def nameB (N : List Str) (sc : Scope) (i : Nat) (x : Str) : Bool := decide (N[i]? = some x) && visB sc x && !(x == ("__debug__" : Str)) && !(x == ("__classdict__" : Str))
theorem nameB_ok {N : List Str} {sc : Scope} {i : Nat} {x : Str} (h : nameB N sc i x = true) : N[i]? = some x ∧ Vis sc x ∧ (x == ("__debug__" : Str)) = false ∧ (x == ("__classdict__" : Str)) = false := by
  simp only [nameB, Bool.and_eq_true, decide_eq_true_eq, Bool.not_eq_true'] at h
  exact ⟨h.1.1.1, visB_ok h.1.1.2, h.1.2, h.2⟩
def initB (N : List Str) (sc : Scope) : List Str → Nat → List Stmt → Bool
  | [], _, [] => true
  | f :: fs, j, .Assign [.Attribute (.Name s _) f' _] (.Name x _) _ :: rest => decide (f' = f) && nameB N sc 0 s && nameB N sc j x && initB N sc fs (j + 1) rest
  | _, _, _ => false
section
variable {X : Cx} {C : Addr} {sc : Scope}
theorem init_step {f s x : Str} {j : Nat} {p1 p2 p3 pos : Pos} (hN : X.env.scope = sc) (h0 : nameB X.N sc 0 s = true) (hj : nameB X.N sc j x = true) : PS X (.Assign [.Attribute (.Name s p1) f p2] (.Name x p3) pos) (tOst X.K f (tVar 0) (tVar j)) := by
  obtain ⟨a1, a2, a3, a4⟩ := nameB_ok h0
  obtain ⟨b1, b2, b3, b4⟩ := nameB_ok hj
  exact ps_ost (pe_var a1 (by rw [hN]; exact a2) a3 a4) (pe_var b1 (by rw [hN]; exact b2) b3 b4) rfl
/-- the further fields -/
def tMore (C : Addr) (fs : List Str) (j : Nat) : TS := fun D σ H => ∃ H0 dx a acc ws, dx ≠ a ∧ H = exH H0 a C dx acc ∧ σ[0]? = some (some (.ref a)) ∧ (∀ i y, ws[i]? = some y → σ[j + i]? = some (some y)) ∧ ws.length = fs.length ∧ acc.length + fs.length ≤ 900 ∧ D.nx σ (exH H0 a C dx ((fs.zip ws).reverse ++ acc))
theorem init_more (T : OexC X.K C) (hN : X.env.scope = sc) : ∀ {fs : List Str} {j : Nat} {body : List Stmt}, (∀ f ∈ fs, PySem.W.findIn X.K (.ref C) f = some none) → initB X.N sc fs j body = true → PSs X body (tMore C fs j)
  | [], j, [], _, _ => by
    refine pss_nil.imp fun D σ H ⟨H0, dx, a, acc, ws, ne, e, h0, hw, hl, _, q⟩ => ?_
    subst e
    exact q
  | f :: fs, j, st :: rest, hf, h => by
    cases st with
    | Assign ts v pos =>
      cases ts with
      | nil => cases h
      | cons t ts =>
        cases ts with
        | cons _ _ => cases t <;> first | cases h | (rename_i e _ _; cases e <;> cases h)
        | nil =>
          cases t with
          | Attribute o f' p2 =>
            cases o with
            | Name s p1 =>
              cases v with
              | Name x p3 =>
                simp only [initB, Bool.and_eq_true, decide_eq_true_eq] at h
                obtain ⟨⟨⟨e1, e2⟩, e3⟩, e4⟩ := h
                subst e1
                refine (pss_cons (init_step hN e2 e3) (init_more T hN (fun g hg => hf g (List.mem_cons_of_mem _ hg)) e4)).imp fun D σ H ⟨H0, dx, a, acc, ws, ne, e, h0, hw, hl, hk, q⟩ => ?_
                subst e
                cases ws with
                | nil => cases hl
                | cons y ws =>
                  refine ⟨y, by simpa using hw 0 y rfl, .ref a, h0, a, C, rfl, T, hf _ List.mem_cons_self, .inr ⟨dx, acc, ?_, ?_, by simp at hk; omega, ?_⟩⟩
                  · unfold exH; exact upd_same
                  · unfold exH; rw [upd_ne ne, upd_same]
                  · rw [exH_put ne]
                    refine ⟨H0, dx, a, (f', y) :: acc, ws, ne, rfl, h0, fun i z hz => ?_, by simpa using hl, by simp at hk ⊢; omega, ?_⟩
                    · have := hw (i + 1) z (by simpa using hz)
                      rw [← this]
                      congr 1
                      omega
                    · simpa using q
              | _ => cases h
            | _ => cases h
          | _ => cases h
    | _ => cases h
  | [], _, _ :: _, _, h => by cases h
  | _ :: _, _, [], _, h => by cases h
theorem init_first (T : OexC X.K C) (hN : X.env.scope = sc) {f : Str} {fs : List Str} {body : List Stmt} (hf : ∀ g ∈ f :: fs, PySem.W.findIn X.K (.ref C) g = some none) (h : initB X.N sc (f :: fs) 1 body = true) :
    PSs X body (fun D σ H => ∃ a ws, σ[0]? = some (some (.ref a)) ∧ (∀ i y, ws[i]? = some y → σ[1 + i]? = some (some y)) ∧ ws.length = (f :: fs).length ∧ ws.length ≤ 800 ∧ H a = some (exo a C none) ∧ ∀ d, H d = none → d ≠ a → D.nx σ (exH H a C d ((f :: fs).zip ws).reverse)) := by
  cases body with
  | nil => cases h
  | cons st rest =>
    cases st with
    | Assign ts v pos =>
      cases ts with
      | nil => cases h
      | cons t ts =>
        cases ts with
        | cons _ _ => cases t <;> first | cases h | (rename_i e _ _; cases e <;> cases h)
        | nil =>
          cases t with
          | Attribute o f' p2 =>
            cases o with
            | Name s p1 =>
              cases v with
              | Name x p3 =>
                simp only [initB, Bool.and_eq_true, decide_eq_true_eq] at h
                obtain ⟨⟨⟨e1, e2⟩, e3⟩, e4⟩ := h
                subst e1
                refine (pss_cons (init_step hN e2 e3) (init_more T hN (fun g hg => hf g (List.mem_cons_of_mem _ hg)) e4)).imp fun D σ H ⟨a, ws, h0, hw, hl, hk, ha, q⟩ => ?_
                cases ws with
                | nil => cases hl
                | cons y ws =>
                  refine ⟨y, by simpa using hw 0 y rfl, .ref a, h0, a, C, rfl, T, hf _ List.mem_cons_self, .inl ⟨ha, fun d hd ne => ?_⟩⟩
                  refine ⟨H, d, a, [(f', y)], ws, ne, rfl, h0, fun i z hz => ?_, by simpa using hl, by simp at hk hl ⊢; omega, ?_⟩
                  · have := hw (i + 1) z (by simpa using hz)
                    rw [← this]
                    congr 1
                    omega
                  · simpa using q d hd ne
              | _ => cases h
            | _ => cases h
          | _ => cases h
    | _ => cases h
end
theorem start_get {N : List Str} {vs : List V} {i : Nat} {v : V} (h : vs[i]? = some v) : (L2.start N vs)[i]? = some (some v) := by
  unfold L2.start
  rw [List.getElem?_append_left (by rw [List.length_map]; exact (List.getElem?_eq_some_iff.mp h).1), List.getElem?_map, h]
  rfl
theorem fnX_of {P : Program} {w : World} {K : PySem.W.Frag} {mg : Str → Option Value} {base : Heap} {k : Nat} {x qual : Str} {params : Arguments} {body : List Stmt} {scope : Scope} {fI C : Addr} {fd : FuncData} {N ps : List Str} {f : Str} {fs : List Str}
    (Fd : FunD K x qual params body scope [] [] fI fd) (S : FnScope N ps scope) (hps : ps.length = (f :: fs).length + 1) (hk : ps.length ≤ 800) (T : OexC K C) (hf : ∀ g ∈ f :: fs, PySem.W.findIn K (.ref C) g = some none) (hb : initB N scope (f :: fs) 1 body = true) :
    FnOk P w K mg base (L2.CX P w) (k + 1) fI fd ps (spX C (f :: fs)) := by
  refine Fd.ok S (fun vs H Q E ⟨a, ws, e, hl, _⟩ => by rw [e, List.length_cons, hl, hps]) fun cdv A outer s H vs Q E hr ⟨a, ws, e, hl, ha, q⟩ => ?_
  subst e
  refine ⟨_, init_first (sc := scope) T rfl hf hb, a, ws, start_get rfl, fun i y hy => start_get ?_, hl, by rw [hl]; omega, ha, q⟩
  rw [Nat.add_comm]
  simpa using hy

/-! ### raise -/
section
variable {W : Wd} {xc : XC} {X : Cx} {Wx : WX} {T : Tab} {sc : Scope} {ca : Bool} {G : Env} {k : Nat} {pos p p2 p3 : Pos}
theorem lookup_zip {F : Hp} {m : List Addr} : ∀ {fl : List Nat} {ds : List D} {ws : List V} {f : Nat} {y : D}, Reps W F m ds ws → fl.length = ds.length → fl.Nodup → (fl.zip ds).lookup f = some y → ∃ v, (f, y) ∈ fl.zip ds ∧ (T.fld f, v) ∈ (fl.map T.fld).zip ws ∧ Rep W F m y v
  | [], _, _, _, _, _, _, _, h => by simp at h
  | g :: fl, [], _, _, _, _, hl, _, _ => by cases hl
  | g :: fl, d :: ds, ws, f, y, r, hl, nd, h => by
    unfold Reps at r
    obtain ⟨v, w, rfl, r1, r2⟩ := r
    rw [List.zip_cons_cons, List.lookup_cons] at h
    cases q : f == g with
    | true =>
      rw [q] at h
      cases h
      have := beq_iff_eq.mp q
      subst this
      exact ⟨v, List.mem_cons_self, List.mem_cons_self, r1⟩
    | false =>
      rw [q] at h
      obtain ⟨v', h1, h2, h3⟩ := lookup_zip r2 (by simpa using hl) (List.nodup_cons.mp nd).2 h
      exact ⟨v', List.mem_cons_of_mem _ h1, List.mem_cons_of_mem _ h2, h3⟩
theorem lookup_of_mem {α : Type} : ∀ {l : List (Str × α)} {x : Str} {v : α}, (l.map (·.1)).Nodup → (x, v) ∈ l → l.lookup x = some v
  | [], _, _, _, h => by cases h
  | (y, u) :: l, x, v, nd, h => by
    rw [List.map_cons, List.nodup_cons] at nd
    rw [List.lookup_cons]
    rcases List.mem_cons.mp h with e | h
    · cases e
      simp
    · have ne : x ≠ y := fun e => nd.1 (by rw [← e]; exact List.mem_map.mpr ⟨_, h, rfl⟩)
      rw [beq_eq_false_iff_ne.mpr ne]
      exact lookup_of_mem nd.2 h
theorem sok_raise {c : Nat} {fl : List Nat} {a : E} {cs : Es} {x : Expr} {xs : List Expr} (C : Cn W X xc Wx T sc ca) (B : Cf W X T G k ca) (hca : ca = true) (hc : G.xc c = some fl) (hg : sc.names.lookup (T.cnm c) = some .globalImplicit) (h : Eok W X xc Wx G a x) (hs : Aok W X xc Wx G cs xs) :
    Sok W X xc Wx G (.raise c (.cons a cs)) (.Raise (some (.Call (.Name (T.cnm c) p) (x :: xs) [] p2)) none pos) := by
  have XF := B.xc c fl hc
  obtain ⟨fI, fd, ps, f1, f2, f3, f4, f5, f6, f7⟩ := XF.ex
  have mk := pmk_oex (p := p) (pos := p2) (dvs := []) f1 f2 f3 f4 (B.room hca) f5 .nil (passes_call C.tk fun _ _ _ _ z => z.elim) (C.gl hg) f6 (aok_cons h hs).v f7 (h.ns xs) hs.any
  refine ⟨(ps_raise (C.calm hca) C.tk mk).imp fun D σ H q => ?_⟩
  have q : SpS W xc Wx (fun s => ((evs G (.cons a cs)).v s).bind fun ds s => match G.xc c with
    | some fl => if fl.length = ds.length then .exc ⟨c, fl.zip ds⟩ s else .bad
    | none => .bad) D σ H := q
  refine (q.bind (rel := relA W)).mono fun ws H1 ⟨e, F, m, ds, s, S, r, g⟩ => ?_
  have r : Reps W F m ds ws := r
  rw [hc] at g
  have g : GoS W xc Wx e F m (if fl.length = ds.length then .exc ⟨c, fl.zip ds⟩ s else .bad) D := g
  by_cases hl : fl.length = ds.length
  · rw [if_pos hl] at g
    have hlw : ws.length = fl.length := by rw [r.length, hl]
    refine ⟨by rw [hlw]; exact Nat.le_trans XF.len (by omega), fun a' ha' => ?_⟩
    rw [List.append_nil]
    refine ⟨a', ws, rfl, by rw [hlw, List.length_map], upd_same, fun d hd ne => ⟨rfl, d, ((fl.map T.fld).zip ws).reverse, ?_, ?_, ?_, ?_⟩⟩
    · unfold exH; exact upd_same
    · unfold exH; rw [upd_ne ne]; exact upd_same
    · rw [upd_ne ne] at hd; exact hd
    · rw [upd_ne ne] at hd
      have eH : upd (del (exH (upd H1 a' (exo a' (W.cad c) none)) a' (W.cad c) d ((fl.map T.fld).zip ws).reverse) a') d (.xd ((fl.map T.fld).zip ws).reverse) = upd H1 d (.xd ((fl.map T.fld).zip ws).reverse) := by
        funext b
        by_cases h1 : b = d
        · subst h1
          rw [upd_same, upd_same]
        · rw [upd_ne h1, upd_ne h1]
          by_cases h2 : b = a'
          · subst h2
            rw [del_same, ha']
          · rw [del_ne h2]
            unfold exH
            rw [upd_ne h2, upd_ne h1, upd_ne h2]
      rw [eH]
      have hf := S.not_F hd
      have S2 := (S.upd (.xd ((fl.map T.fld).zip ws).reverse) hd).frz upd_same hf (S.not_cell hd) (S.not_e hd) fun i ys h1 h2 => by
        obtain ⟨o, q1, b, us, q2, q3, _⟩ := S.getσ h1
        rw [h2] at q1
        cases q1
        cases q2
        rw [hd] at q3
        cases q3
      refine g _ _ σ _ m _ S2 (ext_upd hf) ⟨rfl, .inr ⟨d, _, rfl, upd_same, fun f y hy => ?_⟩⟩
      obtain ⟨v, z1, z2, z3⟩ := lookup_zip (T := T) r hl XF.nd hy
      refine ⟨v, ?_, z3.mono (ext_upd hf)⟩
      rw [C.fld]
      refine lookup_of_mem ?_ (List.mem_reverse.mpr z2)
      rw [List.map_reverse]
      rw [List.map_fst_zip (by rw [List.length_map, hlw]; exact Nat.le_refl _)]
      have nd : List.Pairwise (fun a b : Nat => a ≠ b) fl := XF.nd
      show List.Pairwise (fun a b : Str => a ≠ b) _
      rw [List.pairwise_reverse, List.pairwise_map]
      refine List.Pairwise.imp_of_mem ?_ nd
      intro f1 f2 hf1 hf2 hne e
      exact hne (XF.inj f1 hf1 f2 (XF.lt f2 hf2) e.symm)
  · rw [if_neg hl] at g
    exact g.elim
end
end MP
set_option Elab.async false
set_option linter.all false
set_option maxRecDepth 100000
set_option maxHeartbeats 4000000
/-! MPY: try with several clauses, some of them with a name. -/
namespace MP
open PySem PySem.Spec PyProof.Rows L2
abbrev Cl3 := Value × Option Nat × (Addr → Value → Option Addr → TS)
/-- the ends of a suite whose clause names its exception -/
def endN (i : Option Nat) (D : Ends) : Ends := match i with
  | none => D
  | some i => { nx := fun σ' H' => D.nx (σ'.set i none) H', rt := D.rt, bk := fun σ' H' => D.bk (σ'.set i none) H', ct := fun σ' H' => D.ct (σ'.set i none) H' }
def putN (i : Option Nat) (a : Addr) (σ : L2.St) : L2.St := match i with
  | none => σ
  | some i => σ.set i (some (.ref a))
def wCl (K : PySem.W.Frag) (Wout : WX) (D : Ends) : List Cl3 → WX
  | [] => Wout
  | (c, i, ts) :: r => fun cls d σ H => ∃ b, PySem.W.exmOne K cls c = some b ∧ (b = true → ∀ a, H a = none → ts a cls d (endN i D) (putN i a σ) H) ∧ (b = false → wCl K Wout D r cls d σ H)
inductive ClsOk (X : Cx) : List ExceptHandler → List Cl3 → Prop
  | nil : ClsOk X [] []
  | cons {x : Str} {c : Value} {nm : Option Str} {i : Option Nat} {ts : Addr → Value → Option Addr → TS} {b₀ : Stmt} {suite : List Stmt} {np pos' : Pos} {hds : List ExceptHandler} {l : List Cl3} (hc : Names X x c)
      (hn : (nm = none ∧ i = none) ∨ ∃ n j, nm = some n ∧ i = some j ∧ X.N[j]? = some n ∧ X.env.kindOf n = some .local)
      (hsu : ∀ (a : Addr) (oe : Obj) (cls : Value) (d : Option Addr) (pn : List (Addr × Obj)), Zc cls d oe → (∃ vs, oe.data = .fields vs) → PSs (X.suite a ((a, oe) :: pn)) (b₀ :: suite) (ts a cls d)) (r : ClsOk X hds l) :
      ClsOk X (.ExceptHandler (some (.Name x np)) nm (b₀ :: suite) pos' :: hds) ((c, i, ts) :: l)
section
variable {X : Cx} {body : List Stmt} {h₀ : ExceptHandler} {hds : List ExceptHandler} {l : List Cl3} {pos : Pos} {tb : WX → TS} {Wout : WX}
theorem ps_tryM (hs : X.stack = X.env :: X.outer) (hf : X.env.frame = some X.env.locals) (hN : X.N.Nodup) (tk : Takes X Wout)
    (hb : ∀ (W : WX) (pn : List (Addr × Obj)) (xe : Value → Shared → Prop), Takes (X.tr pn xe) W → PassesOwn (model X.prog X.w) X.A X.env xe → PSs (X.tr pn xe) body (tb W))
    (hh : ClsOk X (h₀ :: hds) l) : PS X (.Try body (h₀ :: hds) [] [] pos) (fun D σ H => tb (wCl X.K Wout D l) D σ H) := by
  refine ⟨fun pins s σ H D I h => ?_⟩
  have ok := I.ok
  have hfr : X.A.frames = some (X.env :: X.outer) := by rw [ok.frames, hs]
  refine wpAny_Try_except ?_
  refine wpAny_mono ((hb (wCl X.K Wout D l) (X.pn ++ pins) (fun e s₁ => wpAny (model X.prog X.w) X.A (noteFrame e X.env) (fun _ s₂ => wpAny (model X.prog X.w) X.A (setFlight e none) (fun _ s₃ =>
    wpAny (model X.prog X.w) X.A (handleBy e X.env (h₀ :: hds)) (SP X pins D) X.xe s₃) X.xe s₂) X.xe s₁) (fun u s' xx => ?_) PassesOwn.looking).run [] s σ H D (I.toTry _) h) (fun f s1 hsp => ?_) (fun e s1 he => he)
  · obtain ⟨a, B, sI, pins', σ', H', cls, d, rfl, J', nb, up, sky, na, os, ag, w⟩ := xx
    have J : Inv X pins σ' H' sI := J'.ofTry ok
    have sky' : Sky B (X.env :: X.outer) a (Zc cls d) X.env.locals s'.heap := by rw [← hs]; exact sky
    show wpAny (model X.prog X.w) X.A (noteFrame (.ref a) X.env) _ _ _
    refine Sky.land Zc.steady hfr hf sky' fun h3 fl3 up3 => ?_
    have J3 : Inv X pins σ' H' { s' with heap := h3 } := J.landed nb fl3.1 (up.trans up3) os ag
    obtain ⟨oe3, vs3, he3, hz3, hd3⟩ := fl3.there
    have nfr : a ∉ frs (X.env :: X.outer) := fun hm => by
      obtain ⟨_, o', e', hnf⟩ := fl3.2.2.1.mem hm
      rw [he3] at e'; cases e'
      exact hnf _ hd3
    have nL : a ≠ X.env.locals := fun z => nfr (List.mem_filterMap.mpr ⟨X.env, List.mem_cons_self, by rw [hf, z]⟩)
    have nF : a ∉ X.fs := fun hm => by
      obtain ⟨e, he, q⟩ := List.mem_filterMap.mp hm
      exact nfr (List.mem_filterMap.mpr ⟨e, List.mem_cons_of_mem _ he, q⟩)
    have S3 := J3.suite he3 hd3 na nL nF
    have go : ∀ {hds' : List ExceptHandler} {l' : List Cl3}, ClsOk X hds' l' → wCl X.K Wout D l' cls d σ' H' →
        wpAny (model X.prog X.w) X.A (handleBy (.ref a) X.env hds') (SP X pins D) X.xe { s' with heap := h3 } := by
      intro hds' l' hk
      induction hk with
      | nil =>
        intro w
        refine wpAny_handleBy_nil ?_
        obtain ⟨k1, k2, k3, oe, vs, T, oT, ts', he, hz, hd, h1, hr⟩ := id fl3
        unfold PySem.passOn
        refine wpAny_bind (wpAny_field he hd h1 ?_)
        rw [if_neg (show ¬ ((Value.ref T == Value.none) = true) from by simp)]
        have fin : wpAny (model X.prog X.w) X.A (setFlight (.ref a) X.env.frame) (fun _ s4 => wpAny (model X.prog X.w) X.A (throw (.ref a) : Sem PySem.Flow) (SP X pins D) X.xe s4) X.xe { s' with heap := h3 } := by
          rw [hf]
          refine HandSPX.setFlight_upZ fl3 fun h4 hh4 up4 => wpAny_throw (tk _ _ ?_)
          exact ⟨a, B, sI, pins, σ', H', cls, d, rfl, J, nb, (up.trans up3).trans up4, .inr (.inr (by rw [hs]; exact hh4)), na, os, ag, w⟩
        first
          | exact wpAny_bind (wpAny_pure (wpAny_bind fin))
          | exact wpAny_bind fin
      | @cons x c nm i ts b₀ suite np pos' hds2 l2 hc hn hsu r ih =>
        intro w
        obtain ⟨b, hb1, hyes, hno⟩ := w
        refine wpAny_handleBy_cons (codeAny_handlers_test ?_) (by intro q; cases q)
        have LT : PySem.W.Looks (model X.prog X.w) h3 (typeOf (.ref a)) cls := fun A Q E s k q => wpAny_typeOf_ref (k _ _ he3) (by rw [hz3.1]; exact q)
        have LM := PySem.W.exm_one (M := model X.prog X.w) (J3.kIn) LT hb1
        have test : ∀ {Q : Value → Shared → Prop} {E : Value → Shared → Prop}, Q c { s' with heap := h3 } → wpAny (model X.prog X.w) (X.A.mark (some (.ref a))) (eval (.Name x np) X.env) Q E { s' with heap := h3 } := fun {Q E} q => by
          obtain ⟨hg, hdbg, hm | ⟨hm, hv, hnn⟩⟩ := hc
          · exact ld_glob (X := X.suite a ((a, oe3) :: (X.pn ++ pins))) S3 hg hm q hdbg
          · exact ld_blt (X := X.suite a ((a, oe3) :: (X.pn ++ pins))) S3 hg hm hv q hnn hdbg
        refine test (LM.here ?_)
        cases b with
        | true =>
          rcases hn with ⟨rfl, rfl⟩ | ⟨n, j, rfl, rfl, hj, hln⟩
          · refine codeAny_handlers_suite ?_
            refine HandSPX.lands_againZ fl3 fun h4 fl4 up4 => ?_
            have J4 : Inv X pins σ' H' { s' with heap := h4 } := J.landed nb fl4.1 ((up.trans up3).trans up4) os ag
            obtain ⟨oe4, vs4, he4, hz4, hd4⟩ := fl4.there
            have S4 := J4.suite he4 hd4 na nL nF
            refine wpAny_mono ((hsu a oe4 cls d (X.pn ++ pins) hz4 ⟨_, hd4⟩).run [] _ _ H' _ S4 (hyes rfl a na)) (fun f s6 hsp => ?_) (fun _ _ z => False.elim z)
            cases f with
            | next =>
              obtain ⟨σ6, H6, S6, q6⟩ := hsp
              exact ⟨_, _, S6.unsuite ok, q6⟩
            | brk =>
              obtain ⟨σ6, H6, S6, q6⟩ := hsp
              exact ⟨_, _, S6.unsuite ok, q6⟩
            | cont =>
              obtain ⟨σ6, H6, S6, q6⟩ := hsp
              exact ⟨_, _, S6.unsuite ok, q6⟩
            | ret u =>
              obtain ⟨v6, σ6, H6, S6, r6, q6⟩ := hsp
              exact ⟨_, _, _, S6.unsuite ok, r6, q6⟩
          · refine codeAny_handlers_suite_as ?_
            refine HandSPX.lands_againZ fl3 fun h4 fl4 up4 => ?_
            have J4 : Inv X pins σ' H' { s' with heap := h4 } := J.landed nb fl4.1 ((up.trans up3).trans up4) os ag
            obtain ⟨oe4, vs4, he4, hz4, hd4⟩ := fl4.there
            have S4 := J4.suite he4 hd4 na nL nF
            refine store_ok (X := X.suite a ((a, oe4) :: (X.pn ++ pins))) (v := .ref a) S4 hN hj (.inl hln) rfl (fun s5 S5 => ?_) (.inr hln)
            refine wpAny_mono ((hsu a oe4 cls d (X.pn ++ pins) hz4 ⟨_, hd4⟩).run [] s5 _ H' _ S5 (hyes rfl a na)) (fun f s6 hsp => ?_) (fun _ _ z => False.elim z)
            have end_ : ∀ {σ6 : L2.St} {H6 : Hp} {Q : Shared → Prop}, Inv (X.suite a ((a, oe4) :: (X.pn ++ pins))) [] σ6 H6 s6 → (∀ s7, Inv X pins (σ6.set j none) H6 s7 → Q s7) →
                wpAny (model X.prog X.w) X.A (do bindName X.env n .none; unbindBehindTheSuite X.env n pos') (fun _ s7 => Q s7) X.xe s6 := fun {σ6 H6 Q} S6 hq => gone_ok (S6.unsuite ok) hN hj hln hq
            cases f with
            | next =>
              obtain ⟨σ6, H6, S6, q6⟩ := hsp
              exact end_ S6 fun s7 J7 => ⟨_, _, J7, q6⟩
            | brk =>
              obtain ⟨σ6, H6, S6, q6⟩ := hsp
              exact end_ S6 fun s7 J7 => ⟨_, _, J7, q6⟩
            | cont =>
              obtain ⟨σ6, H6, S6, q6⟩ := hsp
              exact end_ S6 fun s7 J7 => ⟨_, _, J7, q6⟩
            | ret u =>
              obtain ⟨v6, σ6, H6, S6, r6, q6⟩ := hsp
              exact end_ S6 fun s7 J7 => ⟨_, _, _, J7, r6, q6⟩
        | false =>
          show wpAny _ X.A (handleBy (.ref a) X.env hds2) _ _ _
          exact ih (hno rfl)
    exact go hh w
  · cases f with
    | next =>
      obtain ⟨σ', H', J', q⟩ := hsp
      exact wpAny_execs_nil ⟨σ', H', J'.ofTry ok, q⟩
    | brk =>
      obtain ⟨σ', H', J', q⟩ := hsp
      exact ⟨σ', H', J'.ofTry ok, q⟩
    | cont =>
      obtain ⟨σ', H', J', q⟩ := hsp
      exact ⟨σ', H', J'.ofTry ok, q⟩
    | ret u =>
      obtain ⟨v, σ', H', J', r, q⟩ := hsp
      exact ⟨v, σ', H', J'.ofTry ok, r, q⟩
end
end MP
set_option Elab.async false
set_option linter.all false
set_option maxRecDepth 100000
set_option maxHeartbeats 4000000
/-! MPZ: try as a statement of the evaluator. -/
namespace MP
open PySem PySem.Spec PyProof.Rows L2
section
variable {W : Wd} {xc : XC} {X : Cx} {Wx : WX} {T : Tab} {sc : Scope} {ca : Bool} {G : Env} {k : Nat} {pos p p2 p3 : Pos} {F F1 : Hp} {m m1 : List Addr} {e : En} {s : St} {σ : L2.St} {H : Hp} {D : Ends}
/-- slots are told anew, by a map that keeps or forgets -/
theorem Sim.recast {xc' : XC} (S : Sim W xc e F m s σ H) (h : ∀ (i : Nat) (x : MP.X) o, s.sl[i]? = some (.exc x) → σ[i]? = some o → SlotOk W xc' e F m H (.exc x) o) : Sim W xc' e F m s σ H where
  sub := S.sub
  cells := S.cells
  len := S.len
  slot := fun i x o h1 h2 => by
    cases x with
    | exc x => exact h i x o h1 h2
    | no => exact S.slot i _ o h1 h2
    | val d => exact S.slot i _ o h1 h2
    | own xs => exact S.slot i _ o h1 h2
  apart := S.apart
  ext := S.ext
  fr := S.fr
  keep := S.keep
  new := S.new
theorem Sim.hold {xc' : XC} (S : Sim W none e F m s σ H) : Sim W xc' e F m s σ H := S.recast fun i x o h1 h2 => by
  obtain ⟨a, cls, d, e1, _⟩ := S.slot i _ o h1 h2
  cases e1
theorem Sim.drop {xc' : XC} (S : Sim W xc e F m s σ H) (h : s.clean = true) : Sim W xc' e F m s σ H := S.recast fun i x o h1 h2 => by
  have h : (s.sl.all fun
    | .exc _ => false
    | _ => true) = true := h
  have := List.all_eq_true.mp h _ (List.mem_of_getElem? h1)
  cases this
theorem Sim.setExc {a : Addr} {cls : Value} {d : Option Addr} {x : MP.X} (S : Sim W none e F m s σ H) (i : Nat) (r : RepX W F m x cls d) : Sim W (some (a, cls, d)) e F m (s.put i (.exc x)) (σ.set i (some (.ref a))) H := by
  have S0 : Sim W (some (a, cls, d)) e F m (s.put i .no) (σ.set i (some (.ref a))) H := by
    have q := (S.hold (xc' := some (a, cls, d))).setNone (i := i)
    refine ⟨q.sub, q.cells, by simpa using q.len, fun j y o h1 h2 => ?_, fun j k xs ys b h1 h2 h3 h4 => ?_, q.ext, q.fr, q.keep, q.new⟩
    · rcases put_sl h1 with ⟨rfl, _, rfl⟩ | ⟨ne, h⟩
      · exact trivial
      · rw [List.getElem?_set_ne ne] at h2
        exact (S.hold (xc' := some (a, cls, d))).slot j y o h h2
    · rcases put_sl h1 with ⟨_, _, z⟩ | ⟨n1, h1⟩
      · cases z
      · rcases put_sl h2 with ⟨_, _, z⟩ | ⟨n2, h2⟩
        · cases z
        · rw [List.getElem?_set_ne n1] at h3
          rw [List.getElem?_set_ne n2] at h4
          exact S.apart j k xs ys b h1 h2 h3 h4
  have e1 : (s.put i .no).put i (.exc x) = s.put i (.exc x) := by simp [St.put]
  rw [← e1]
  refine S0.retell (fun xs z => by cases z) fun o ho => ?_
  by_cases hl : i < σ.length
  · rw [List.getElem?_set_self hl] at ho
    cases ho
    exact ⟨a, cls, d, rfl, rfl, r⟩
  · rw [List.getElem?_eq_none (by simpa using hl)] at ho
    cases ho
theorem Lone.put {xs : List MP.D} {a : Addr} (l : Lone W e F m s σ H xs a) (i : Nat) : Lone W e F m (s.put i .no) (σ.set i none) H xs a := by
  refine ⟨l.at_, l.nf, l.nm, l.ne, fun j ys h1 h2 => ?_⟩
  rcases put_sl h1 with ⟨_, _, z⟩ | ⟨ne, h⟩
  · cases z
  · rw [List.getElem?_set_ne ne] at h2
    exact l.ns j ys h h2
theorem relV_put {r : R} {v : V} (i : Nat) (h : relV W e F m s σ H r v) : relV W e F m (s.put i .no) (σ.set i none) H r v := by
  cases r with
  | val d => exact h
  | own xs =>
    obtain ⟨a, e1, l⟩ := h
    exact ⟨a, e1, l.put i⟩
/-- clauses of the text -/
inductive HsOk (W : Wd) (X : Cx) (T : Tab) (sc : Scope) (G : Env) : Hs → List ExceptHandler → List Cl3 → Prop
  | nil : HsOk W X T sc G .nil [] []
  | cons {c : Nat} {i : Option Nat} {body : Ss} {hs : Hs} {nm : Option Str} {b₀ : Stmt} {suite : List Stmt} {np pos' : Pos} {hds : List ExceptHandler} {l : List Cl3}
      (hc : Names X (T.cnm c) (.ref (W.cad c))) (hn : (nm = none ∧ i = none) ∨ ∃ n j, nm = some n ∧ i = some j ∧ T.N[j]? = some n ∧ sc.names.lookup n = some .local)
      (hsu : ∀ (a : Addr) (oe : Obj) (cls : Value) (d : Option Addr) (pn : List (Addr × Obj)), Zc cls d oe → (∃ vs, oe.data = .fields vs) → SSok W (X.suite a ((a, oe) :: pn)) (some (a, cls, d)) Wf G body (b₀ :: suite)) (r : HsOk W X T sc G hs hds l) :
      HsOk W X T sc G (.cons c i body hs) (.ExceptHandler (some (.Name (T.cnm c) np)) nm (b₀ :: suite) pos' :: hds) ((.ref (W.cad c), i, fun a cls d => SpS W (some (a, cls, d)) Wf (exs G body)) :: l)
theorem HsOk.cls {hs : Hs} {hds : List ExceptHandler} {l : List Cl3} (C : Cn W X xc Wx T sc ca) (h : HsOk W X T sc G hs hds l) : ClsOk X hds l := by
  induction h with
  | nil => exact .nil
  | @cons c i body hs nm b₀ suite np pos' hds l hc hn hsu r ih =>
    refine .cons hc ?_ (fun a oe cls d pn hz hv => (hsu a oe cls d pn hz hv).ps) ih
    rcases hn with h | ⟨n, j, h1, h2, h3, h4⟩
    · exact .inl h
    · refine .inr ⟨n, j, h1, h2, by rw [C.N]; exact h3, ?_⟩
      show X.env.scope.names.lookup n = some .local
      rw [C.sc]
      exact h4
theorem noExc_Wf {o : O Flow} {f : Flow → St → O Flow} (h : GoS W xc Wx e F m ((noExc o).bind f) D) : ∃ fl s', o = .ok fl s' ∧ GoS W xc Wx e F m (f fl s') D := by
  cases o with
  | bad => exact h.elim
  | ok fl s' => exact ⟨fl, s', rfl, h⟩
  | exc x s' => exact h.elim
theorem hs_of {hs : Hs} {hds : List ExceptHandler} {l : List Cl3} (B : Cf W X T G k ca) (h : HsOk W X T sc G hs hds l) {x : MP.X} {s : St} {cls : Value} {d : Option Addr} (S : Sim W none e F m s σ H) (r : RepX W F m x cls d) (g : GoS W none Wx e F m (exh G hs x s) D) : wCl X.K Wx D l cls d σ H := by
  induction h with
  | nil => exact g cls d σ F m H S (Ext.refl _ _) r
  | @cons c i body hs nm b₀ suite np pos' hds l hc hn hsu rr ih =>
    cases hk : G.xk x.c c with
    | none => simp only [exh, hk] at g; exact g.elim
    | some b =>
      have ecls : cls = .ref (W.cad x.c) := r.1
      refine ⟨b, by rw [ecls]; exact B.xk _ _ _ hk, fun hb a ha => ?_, fun hb => ?_⟩
      · subst hb
        cases i with
        | none =>
          simp only [exh, hk] at g
          obtain ⟨fl, s2, ho, g2⟩ := noExc_Wf g
          refine ⟨e, F, m, s, S.hold, ?_⟩
          rw [ho]
          by_cases hcl : s2.clean = true
          · rw [if_pos hcl] at g2
            cases fl with
            | next => exact fun σ' F' m' H' S' x' => g2 σ' F' m' H' (S'.drop hcl) x'
            | brk => exact fun σ' F' m' H' S' x' => g2 σ' F' m' H' (S'.drop hcl) x'
            | cont => exact fun σ' F' m' H' S' x' => g2 σ' F' m' H' (S'.drop hcl) x'
            | ret rv => exact fun σ' F' m' H' v S' x' rv' => g2 σ' F' m' H' v (S'.drop hcl) x' rv'
          · rw [if_neg hcl] at g2
            exact g2.elim
        | some i =>
          simp only [exh, hk] at g
          obtain ⟨fl, s2, ho, g2⟩ := noExc_Wf g
          refine ⟨e, F, m, _, S.setExc i r, ?_⟩
          rw [ho]
          by_cases hcl : (s2.put i .no).clean = true
          · rw [if_pos hcl] at g2
            cases fl with
            | next => exact fun σ' F' m' H' S' x' => g2 _ F' m' H' (S'.setNone.drop hcl) x'
            | brk => exact fun σ' F' m' H' S' x' => g2 _ F' m' H' (S'.setNone.drop hcl) x'
            | cont => exact fun σ' F' m' H' S' x' => g2 _ F' m' H' (S'.setNone.drop hcl) x'
            | ret rv => exact fun σ' F' m' H' v S' x' rv' => g2 _ F' m' H' v (S'.setNone.drop hcl) x' (relV_put i rv')
          · rw [if_neg hcl] at g2
            exact g2.elim
      · subst hb
        simp only [exh, hk] at g
        exact ih g
theorem sok_try {body : Ss} {c : Nat} {i : Option Nat} {cb : Ss} {hs : Hs} {bodyE : List Stmt} {h₀ : ExceptHandler} {hds : List ExceptHandler} {l : List Cl3} (C : Cn W X none Wx T sc true) (B : Cf W X T G k true) (Dx : Dn X true)
    (hb : ∀ (X' : Cx) (Wx' : WX), Cn W X' none Wx' T sc true → Cf W X' T G k true → Dn X' true → SSok W X' none Wx' G body bodyE) (hh : HsOk W X T sc G (.cons c i cb hs) (h₀ :: hds) l) : Sok W X none Wx G (.try_ body (.cons c i cb hs)) (.Try bodyE (h₀ :: hds) [] [] pos) := by
  refine ⟨(ps_tryM (tb := fun W' => SpS W none W' (exs G body)) Dx.st Dx.fr C.nd C.tk (fun W' pn xe tk po => ?_) (hh.cls C)).imp fun D σ H ⟨e, F, m, s, S, g⟩ => ⟨e, F, m, s, S, ?_⟩⟩
  · refine (hb (X.tr pn xe) W' ⟨fun h => C.calm h, fun _ => rfl, .inl rfl, C.nd, C.N, C.sc, C.K, C.fld, C.nf, tk, C.un, C.gd⟩ (B.move rfl rfl rfl rfl rfl fun h => B.room h) ⟨fun _ => po, Dx.st, Dx.fr, Dx.fn⟩).ps
  · have g : GoS W none Wx e F m (match exs G body s with
      | .exc x s => exh G (.cons c i cb hs) x s
      | o => o) D := g
    cases hx : exs G body s with
    | bad => simp only [hx] at g; exact g
    | ok f s' =>
      simp only [hx] at g
      cases f <;> exact g
    | exc x s' =>
      simp only [hx] at g
      exact fun cls d σ' F' m' H' S' x' r => hs_of B hh S' r (GoS.ext x' g)
end
end MP
set_option Elab.async false
set_option linter.all false
set_option maxRecDepth 100000
set_option maxHeartbeats 4000000
/-! MPK: that a text is the compact syntax, checked; what is checked is sound. -/
namespace MP
open PySem PySem.Spec PyProof.Rows L2
structure Chk where
  e : Expr → Bool
  b : BoolOp → List Expr → Bool
def mkC (f : Expr → Bool) : Chk := ⟨f, fun _ es => match es with
  | [x] => f x
  | _ => false⟩
def isGl (sc : Scope) (x : Str) : Bool := match sc.names.lookup x with
  | some .globalImplicit => true
  | _ => false
theorem isGl_ok {sc : Scope} {x : Str} (h : isGl sc x = true) : sc.names.lookup x = some .globalImplicit := by
  unfold isGl at h
  cases q : sc.names.lookup x with
  | none => rw [q] at h; cases h
  | some kd => rw [q] at h; cases kd <;> first | rfl | cases h
def tyOf (T : Tab) (sc : Scope) (G : Env) : Ty → Expr → Bool
  | .cls c, .Name y _ => decide (y = T.cnm c) && isGl sc y && G.ic c && !(y == ("__debug__" : Str))
  | t, .Name y _ => decide (y = tyName t) && isGl sc y
  | _, _ => false
mutual
def ckE (T : Tab) (G : Env) : E → Scope → Bool → Chk
  | .var i, sc, ca => mkC fun
    | .Name x _ => nameB T.N sc i x
    | _ => false
  | .int i, sc, ca => mkC fun
    | .Constant (.int j) _ _ => decide (j = i)
    | _ => false
  | .bl i, sc, ca => mkC fun
    | .Constant (.bool j) _ _ => decide (j = i)
    | _ => false
  | .non, sc, ca => mkC fun
    | .Constant .none _ _ => true
    | _ => false
  | .str i, sc, ca => mkC fun
    | .Constant (.str j) _ _ => decide (j = i)
    | _ => false
  | .glob _, _, _ => mkC fun _ => false
  | .bin op a b, sc, ca => mkC fun
    | .BinOp x o y _ => decide (o = bop op) && (ckE T G a sc ca).e x && (ckE T G b sc ca).e y
    | _ => false
  | .neg a, sc, ca => mkC fun
    | .UnaryOp .USub x _ => (ckE T G a sc ca).e x
    | _ => false
  | .not a, sc, ca => mkC fun
    | .UnaryOp .Not x _ => (ckE T G a sc ca).e x
    | _ => false
  | .cmp op a b, sc, ca => mkC fun
    | .Compare x [o] [y] _ => decide (o = cop op) && (ckE T G a sc ca).e x && (ckE T G b sc ca).e y && !(behindInMarks (cop op) y)
    | _ => false
  | .chain op op2 a b c, sc, ca => mkC fun
    | .Compare x [o, o2] [y, z] _ => decide (o = cop op) && decide (o2 = cop op2) && (ckE T G a sc ca).e x && (ckE T G b sc ca).e y && (ckE T G c sc ca).e z && !(lastMarks [cop op, cop op2] [y, z])
    | _ => false
  | .and a b, sc, ca =>
    let l : BoolOp → List Expr → Bool := fun op es => match op, es with
      | .And, x :: y :: r => (ckE T G a sc ca).e x && (ckE T G b sc ca).b .And (y :: r)
      | _, _ => false
    let f : Expr → Bool := fun
      | .BoolOp op es _ => l op es
      | _ => false
    ⟨f, fun op es => match es with
      | [x] => f x
      | es => l op es⟩
  | .or a b, sc, ca =>
    let l : BoolOp → List Expr → Bool := fun op es => match op, es with
      | .Or, x :: y :: r => (ckE T G a sc ca).e x && (ckE T G b sc ca).b .Or (y :: r)
      | _, _ => false
    let f : Expr → Bool := fun
      | .BoolOp op es _ => l op es
      | _ => false
    ⟨f, fun op es => match es with
      | [x] => f x
      | es => l op es⟩
  | .ite c a b, sc, ca => mkC fun
    | .IfExp x y z _ => (ckE T G c sc ca).e x && (ckE T G a sc ca).e y && (ckE T G b sc ca).e z
    | _ => false
  | .tup es, sc, ca => mkC fun
    | .Tuple xs _ _ => ckEs T G es sc ca xs
    | _ => false
  | .lst es, sc, ca => mkC fun
    | .List xs _ => ckEs T G es sc ca xs
    | _ => false
  | .ix a i, sc, ca => mkC fun
    | .Subscript x y _ => (ckE T G a sc ca).e x && (ckE T G i sc ca).e y && plainIx y
    | _ => false
  | .slc a lo hi, sc, ca => mkC fun
    | .Subscript x (.Slice l h none _) _ => (ckE T G a sc ca).e x && ckO T G lo sc ca l && ckO T G hi sc ca h
    | _ => false
  | .rev a, sc, ca => mkC fun
    | .Subscript x (.Slice none none (some (.UnaryOp .USub (.Constant (.int j) _ _) _)) _) _ => (ckE T G a sc ca).e x && decide (j = 1)
    | _ => false
  | .fld a f, sc, ca => mkC fun
    | .Attribute y n _ => decide (n = T.fld f) && dotOk y && (ckE T G a sc ca).e y
    | _ => false
  | .call f es n, sc, ca => mkC fun
    | .Call (.Name y _) (x :: xs) [] _ => decide (y = T.fnm f) && isGl sc y && ca && (match G.fn f with
      | some (_, dfl) => decide (n ≤ dfl.length)
      | none => false) && ckEs T G es sc ca (x :: xs)
    | _ => false
  | .mk c es, sc, ca => mkC fun
    | .Call (.Name y _) (x :: xs) [] _ => decide (y = T.cnm c) && isGl sc y && ca && (G.made c).isSome && ckEs T G es sc ca (x :: xs)
    | _ => false
  | .bi b es, sc, ca => mkC fun
    | .Call (.Name y _) (x :: xs) [] _ => (decide (b ≠ .sortedSet) && decide (b ≠ .strI) && ca && decide (y = biName b) && isGl sc y && ckEs T G es sc ca (x :: xs)) ||
      (decide (b = .sortedSet) && ca && decide (y = ("sorted" : Str)) && isGl sc y && (match x, xs with
        | .Call (.Name z _) (x2 :: xs2) [] _, [] => decide (z = ("set" : Str)) && isGl sc z && xs2.isEmpty && ckEs T G es sc ca (x2 :: xs2)
        | _, _ => false))
    | _ => false
  | .isi t a, sc, ca => mkC fun
    | .Call (.Name y _) [x, z] [] _ => decide (y = ("isinstance" : Str)) && isGl sc y && (ckE T G a sc ca).e x && tyOf T sc G t z
    | _ => false
  | .im c a m es, sc, ca => mkC fun
    | .Call (.Attribute y n p) xs [] pos => decide (n = T.fld m) && decide (m < T.nf) && ca && (G.meth c m).isSome && dotOk y && (ckE T G a sc ca).e y && (p.endLine == pos.line) && decide (xs.length < 30) && ckEs T G es sc ca xs
    | _ => false
  | .lm m a es, sc, ca => mkC fun
    | .Call (.Attribute y n p) xs [] pos => decide (n = lmName m) && lmGood m && dotOk y && (ckE T G a sc ca).e y && (p.endLine == pos.line) && decide (xs.length < 30) && ckEs T G es sc ca xs
    | _ => false
  | .lc elt tg src ifs, sc, ca => mkC fun
    | .ListComp eE [⟨tgE, iter, ifsE, 0⟩] scope _ => ca && ckR T G src sc ca tgE iter && blkOk T.N sc scope tg && tgOk T.N scope tg tgE && ckI T G ifs (relS scope sc) true ifsE && (ckE T G elt (relS scope sc) true).e eE
    | _ => false
  | .xf i f, sc, ca => mkC fun
    | .Attribute (.Name x _) n _ => decide (n = T.fld f) && nameB T.N sc i x
    | _ => false
  | .lend i a, sc, ca => mkC fun x => (ckE T G a sc ca).e x
  | .eqI c m a b, sc, ca => mkC fun
    | .Compare x [.Eq] [y] _ => decide (T.fld m = ("__eq__" : Str)) && ca && (G.meth c m).isSome && (ckE T G a sc ca).e x && (ckE T G b sc ca).e y && !(behindInMarks .Eq y)
    | _ => false
  | .lenSet a, sc, ca => mkC fun
    | .Call (.Name y _) [.Call (.Name z _) [x] [] _] [] _ => decide (y = ("len" : Str)) && isGl sc y && decide (z = ("set" : Str)) && isGl sc z && ca && (ckE T G a sc ca).e x
    | _ => false
  | .rng1 a, sc, ca => mkC fun
    | .Call (.Name y _) [x] [] _ => decide (y = ("range" : Str)) && isGl sc y && (ckE T G a sc ca).e x
    | _ => false
  | .rng2 a b, sc, ca => mkC fun
    | .Call (.Name y _) [x, z] [] _ => decide (y = ("range" : Str)) && isGl sc y && (ckE T G a sc ca).e x && (ckE T G b sc ca).e z
    | _ => false
def ckEs (T : Tab) (G : Env) : Es → Scope → Bool → List Expr → Bool
  | .nil, _, _, xs => xs.isEmpty
  | .cons e es, sc, ca, xs => match xs with
    | x :: xs => (ckE T G e sc ca).e x && ckEs T G es sc ca xs
    | [] => false
/-- a clause's tests -/
def ckI (T : Tab) (G : Env) : Es → Scope → Bool → List Expr → Bool
  | .nil, _, _, xs => xs.isEmpty
  | .cons e es, sc, ca, xs => match xs with
    | [x] => (ckE T G e sc ca).e x && (match es with
      | .nil => true
      | _ => false)
    | _ => false
def ckO (T : Tab) (G : Env) : Op → Scope → Bool → Option Expr → Bool
  | .no, _, _, x => x.isNone
  | .so e, sc, ca, x => match x with
    | some x => (ckE T G e sc ca).e x
    | none => false
def ckR (T : Tab) (G : Env) : Src → Scope → Bool → Expr → Expr → Bool
  | .seq e, sc, ca, _, x => (ckE T G e sc ca).e x && noSet x
  | .r1 e, sc, ca, _, x => match x with
    | .Call (.Name y _) [x] [] _ => decide (y = ("range" : Str)) && isGl sc y && (ckE T G e sc ca).e x
    | _ => false
  | .r2 a b, sc, ca, _, x => match x with
    | .Call (.Name y _) [x, z] [] _ => decide (y = ("range" : Str)) && isGl sc y && (ckE T G a sc ca).e x && (ckE T G b sc ca).e z
    | _ => false
  | .enum e, sc, ca, tg, x => match tg, x with
    | .Tuple _ _ _, .Call (.Name y _) [x] [] _ => decide (y = ("enumerate" : Str)) && isGl sc y && (ckE T G e sc ca).e x
    | _, _ => false
  | .zip a b, sc, ca, tg, x => match tg, x with
    | .Tuple _ _ _, .Call (.Name y _) [x, z] [] _ => decide (y = ("zip" : Str)) && isGl sc y && (ckE T G a sc ca).e x && (ckE T G b sc ca).e z
    | _, _ => false
end
end MP
set_option Elab.async false
set_option linter.all false
set_option maxRecDepth 100000
set_option maxHeartbeats 8000000
/-! MPN: the checker of expressions is sound. -/
namespace MP
open PySem PySem.Spec PyProof.Rows L2
section
variable {W : Wd} {xc : XC} {X : Cx} {Wx : WX} {T : Tab} {sc : Scope} {ca : Bool} {G : Env} {k : Nat}
def Csd (W : Wd) (X : Cx) (xc : XC) (Wx : WX) (G : Env) (c : E) (ch : Chk) : Prop := (∀ x, ch.e x = true → Eok W X xc Wx G c x) ∧ ∀ op es pos, ch.b op es = true → Bok W X xc Wx G c op es pos
theorem mkC_ok {c : E} {f : Expr → Bool} (h : ∀ x, f x = true → Eok W X xc Wx G c x) : Csd W X xc Wx G c (mkC f) := by
  refine ⟨h, fun op es pos hb => ?_⟩
  simp only [mkC] at hb
  split at hb
  · exact bok_one (h _ hb)
  · cases hb
theorem var_ok {i : Nat} {x : Str} {p : Pos} (C : Cn W X xc Wx T sc ca) (h : nameB T.N sc i x = true) : Eok W X xc Wx G (.var i) (.Name x p) := by
  obtain ⟨h1, h2, h3, h4⟩ := nameB_ok h
  exact ok_var C h1 h2 h3 h4
theorem tyOf_ok {t : Ty} {a : E} {x y : Expr} {p pos : Pos} (C : Cn W X xc Wx T sc ca) (B : Cf W X T G k ca) (hg : sc.names.lookup ("isinstance" : Str) = some .globalImplicit) (ha : Eok W X xc Wx G a x) (h : tyOf T sc G t y = true) : Eok W X xc Wx G (.isi t a) (.Call (.Name "isinstance" p) [x, y] [] pos) := by
  cases y with
  | Name y p2 =>
    cases t with
    | cls c =>
      simp only [tyOf, Bool.and_eq_true, decide_eq_true_eq, Bool.not_eq_true'] at h
      obtain ⟨⟨⟨rfl, h2⟩, h3⟩, h4⟩ := h
      exact ok_isi C B hg ha (pe_glob (C.gl (isGl_ok h2)) (B.ic c h3).mg (show RelV (.ref _) (.ref _) from rfl) h4) (.inl ⟨c, rfl, rfl⟩) fun _ => rfl
    | int =>
      simp only [tyOf, tyName, Bool.and_eq_true] at h
      obtain ⟨h1, h2⟩ := h
      have h1 := of_decide_eq_true h1
      subst h1
      exact ok_isi (cv := .ty "int") C B hg ha (pe_bltn (C.gl (isGl_ok h2)) (B.free _ (by decide)) (by decide +kernel) rfl) (.inr ⟨fun c z => (by cases z), rfl⟩) fun _ => rfl
    | bool =>
      simp only [tyOf, tyName, Bool.and_eq_true] at h
      obtain ⟨h1, h2⟩ := h
      have h1 := of_decide_eq_true h1
      subst h1
      exact ok_isi (cv := .ty "bool") C B hg ha (pe_bltn (C.gl (isGl_ok h2)) (B.free _ (by decide)) (by decide +kernel) rfl) (.inr ⟨fun c z => (by cases z), rfl⟩) fun _ => rfl
    | str =>
      simp only [tyOf, tyName, Bool.and_eq_true] at h
      obtain ⟨h1, h2⟩ := h
      have h1 := of_decide_eq_true h1
      subst h1
      exact ok_isi (cv := .ty "str") C B hg ha (pe_bltn (C.gl (isGl_ok h2)) (B.free _ (by decide)) (by decide +kernel) rfl) (.inr ⟨fun c z => (by cases z), rfl⟩) fun _ => rfl
    | list =>
      simp only [tyOf, tyName, Bool.and_eq_true] at h
      obtain ⟨h1, h2⟩ := h
      have h1 := of_decide_eq_true h1
      subst h1
      exact ok_isi (cv := .ty "list") C B hg ha (pe_bltn (C.gl (isGl_ok h2)) (B.free _ (by decide)) (by decide +kernel) rfl) (.inr ⟨fun c z => (by cases z), rfl⟩) fun _ => rfl
    | tuple =>
      simp only [tyOf, tyName, Bool.and_eq_true] at h
      obtain ⟨h1, h2⟩ := h
      have h1 := of_decide_eq_true h1
      subst h1
      exact ok_isi (cv := .ty "tuple") C B hg ha (pe_bltn (C.gl (isGl_ok h2)) (B.free _ (by decide)) (by decide +kernel) rfl) (.inr ⟨fun c z => (by cases z), rfl⟩) fun _ => rfl
  | _ => cases t <;> cases h
theorem bok_e {c : E} {op : BoolOp} {es : List Expr} {pos : Pos} (hp : (ev G c).p = pOf (ev G c).v) (h : Bok W X xc Wx G c op es pos) : Eok W X xc Wx G c (.BoolOp op es pos) := h.eok hp
theorem aok_inv {c : E} {cs : Es} {sc : Scope} {x : Expr} {xs : List Expr} (h : ckEs T G (.cons c cs) sc ca (x :: xs) = true) : (ckE T G c sc ca).e x = true ∧ ckEs T G cs sc ca xs = true := by
  simpa [ckEs] using h
theorem aok_ne {es : Es} {sc : Scope} {x : Expr} {xs : List Expr} (h : ckEs T G es sc ca (x :: xs) = true) : ∃ c cs, es = .cons c cs := by
  cases es with
  | nil => simp [ckEs] at h
  | cons c cs => exact ⟨c, cs, rfl⟩
mutual
theorem ckE_ok (W : Wd) (T : Tab) (G : Env) (k : Nat) : ∀ (c : E) (sc : Scope) (ca : Bool) (X : Cx) (xc : XC) (Wx : WX), Cn W X xc Wx T sc ca → Cf W X T G k ca → Csd W X xc Wx G c (ckE T G c sc ca)
  | .var i, sc, ca, X, xc, Wx, C, B => by
    unfold ckE
    refine mkC_ok fun x h => ?_
    split at h
    · exact var_ok C h
    · cases h
  | .int i, sc, ca, X, xc, Wx, C, B => by
    unfold ckE
    refine mkC_ok fun x h => ?_
    split at h
    · cases of_decide_eq_true h
      exact ok_int C
    · cases h
  | .bl i, sc, ca, X, xc, Wx, C, B => by
    unfold ckE
    refine mkC_ok fun x h => ?_
    split at h
    · cases of_decide_eq_true h
      exact ok_bl C
    · cases h
  | .non, sc, ca, X, xc, Wx, C, B => by
    unfold ckE
    refine mkC_ok fun x h => ?_
    split at h
    · exact ok_non C
    · cases h
  | .str i, sc, ca, X, xc, Wx, C, B => by
    unfold ckE
    refine mkC_ok fun x h => ?_
    split at h
    · cases of_decide_eq_true h
      exact ok_str C
    · cases h
  | .glob g, sc, ca, X, xc, Wx, C, B => by
    unfold ckE
    exact mkC_ok fun x h => by cases h
  | .bin op a b, sc, ca, X, xc, Wx, C, B => by
    unfold ckE
    refine mkC_ok fun x h => ?_
    split at h
    · simp only [Bool.and_eq_true, decide_eq_true_eq] at h
      obtain ⟨⟨rfl, h1⟩, h2⟩ := h
      exact ok_bin C ((ckE_ok W T G k a sc ca X xc Wx C B).1 _ h1) ((ckE_ok W T G k b sc ca X xc Wx C B).1 _ h2)
    · cases h
  | .neg a, sc, ca, X, xc, Wx, C, B => by
    unfold ckE
    refine mkC_ok fun x h => ?_
    split at h
    · exact ok_neg C ((ckE_ok W T G k a sc ca X xc Wx C B).1 _ h)
    · cases h
  | .not a, sc, ca, X, xc, Wx, C, B => by
    unfold ckE
    refine mkC_ok fun x h => ?_
    split at h
    · exact ok_not C ((ckE_ok W T G k a sc ca X xc Wx C B).1 _ h)
    · cases h
  | .cmp op a b, sc, ca, X, xc, Wx, C, B => by
    unfold ckE
    refine mkC_ok fun x h => ?_
    split at h
    · simp only [Bool.and_eq_true, decide_eq_true_eq, Bool.not_eq_true'] at h
      obtain ⟨⟨⟨rfl, h1⟩, h2⟩, h3⟩ := h
      exact ok_cmp C ((ckE_ok W T G k a sc ca X xc Wx C B).1 _ h1) ((ckE_ok W T G k b sc ca X xc Wx C B).1 _ h2) h3
    · cases h
  | .chain op op2 a b c, sc, ca, X, xc, Wx, C, B => by
    unfold ckE
    refine mkC_ok fun x h => ?_
    split at h
    · simp only [Bool.and_eq_true, decide_eq_true_eq, Bool.not_eq_true'] at h
      obtain ⟨⟨⟨⟨⟨rfl, rfl⟩, h1⟩, h2⟩, h3⟩, h4⟩ := h
      exact ok_chain C ((ckE_ok W T G k a sc ca X xc Wx C B).1 _ h1) ((ckE_ok W T G k b sc ca X xc Wx C B).1 _ h2) ((ckE_ok W T G k c sc ca X xc Wx C B).1 _ h3) h4
    · cases h
  | .and a b, sc, ca, X, xc, Wx, C, B => by
    unfold ckE
    have l : ∀ (op : BoolOp) (es : List Expr) (pos : Pos), (match op, es with
      | .And, x :: y :: r => (ckE T G a sc ca).e x && (ckE T G b sc ca).b .And (y :: r)
      | _, _ => false) = true → Bok W X xc Wx G (.and a b) op es pos := fun op es pos h => by
      split at h
      · simp only [Bool.and_eq_true] at h
        exact bok_and C ((ckE_ok W T G k a sc ca X xc Wx C B).1 _ h.1) ((ckE_ok W T G k b sc ca X xc Wx C B).2 _ _ _ h.2)
      · cases h
    have f : ∀ x : Expr, (match x with
      | .BoolOp op es _ => (match op, es with
        | .And, x :: y :: r => (ckE T G a sc ca).e x && (ckE T G b sc ca).b .And (y :: r)
        | _, _ => false)
      | _ => false) = true → Eok W X xc Wx G (.and a b) x := fun x h => by
      cases x with
      | BoolOp op es pos => exact (l op es pos h).eok rfl
      | _ => cases h
    refine ⟨fun x h => f x (by cases x <;> exact h), fun op es pos h => ?_⟩
    cases es with
    | nil => exact l op [] pos h
    | cons x r =>
      cases r with
      | nil => exact bok_one (f x (by cases x <;> exact h))
      | cons y r => exact l op (x :: y :: r) pos h
  | .or a b, sc, ca, X, xc, Wx, C, B => by
    unfold ckE
    have l : ∀ (op : BoolOp) (es : List Expr) (pos : Pos), (match op, es with
      | .Or, x :: y :: r => (ckE T G a sc ca).e x && (ckE T G b sc ca).b .Or (y :: r)
      | _, _ => false) = true → Bok W X xc Wx G (.or a b) op es pos := fun op es pos h => by
      split at h
      · simp only [Bool.and_eq_true] at h
        exact bok_or C ((ckE_ok W T G k a sc ca X xc Wx C B).1 _ h.1) ((ckE_ok W T G k b sc ca X xc Wx C B).2 _ _ _ h.2)
      · cases h
    have f : ∀ x : Expr, (match x with
      | .BoolOp op es _ => (match op, es with
        | .Or, x :: y :: r => (ckE T G a sc ca).e x && (ckE T G b sc ca).b .Or (y :: r)
        | _, _ => false)
      | _ => false) = true → Eok W X xc Wx G (.or a b) x := fun x h => by
      cases x with
      | BoolOp op es pos => exact (l op es pos h).eok rfl
      | _ => cases h
    refine ⟨fun x h => f x (by cases x <;> exact h), fun op es pos h => ?_⟩
    cases es with
    | nil => exact l op [] pos h
    | cons x r =>
      cases r with
      | nil => exact bok_one (f x (by cases x <;> exact h))
      | cons y r => exact l op (x :: y :: r) pos h
  | .ite c a b, sc, ca, X, xc, Wx, C, B => by
    unfold ckE
    refine mkC_ok fun x h => ?_
    split at h
    · simp only [Bool.and_eq_true] at h
      obtain ⟨⟨h1, h2⟩, h3⟩ := h
      exact ok_ite ((ckE_ok W T G k c sc ca X xc Wx C B).1 _ h1) ((ckE_ok W T G k a sc ca X xc Wx C B).1 _ h2) ((ckE_ok W T G k b sc ca X xc Wx C B).1 _ h3)
    · cases h
  | .tup es, sc, ca, X, xc, Wx, C, B => by
    unfold ckE
    refine mkC_ok fun x h => ?_
    split at h
    · exact ok_tup C (ckEs_ok W T G k es sc ca X xc Wx C B _ h)
    · cases h
  | .lst es, sc, ca, X, xc, Wx, C, B => by
    unfold ckE
    refine mkC_ok fun x h => ?_
    split at h
    · exact ok_lst C (ckEs_ok W T G k es sc ca X xc Wx C B _ h)
    · cases h
  | .ix a i, sc, ca, X, xc, Wx, C, B => by
    unfold ckE
    refine mkC_ok fun x h => ?_
    split at h
    · simp only [Bool.and_eq_true] at h
      obtain ⟨⟨h1, h2⟩, h3⟩ := h
      exact ok_ix C ((ckE_ok W T G k a sc ca X xc Wx C B).1 _ h1) ((ckE_ok W T G k i sc ca X xc Wx C B).1 _ h2) h3
    · cases h
  | .slc a lo hi, sc, ca, X, xc, Wx, C, B => by
    unfold ckE
    refine mkC_ok fun x h => ?_
    split at h
    · simp only [Bool.and_eq_true] at h
      obtain ⟨⟨h1, h2⟩, h3⟩ := h
      exact ok_slc C ((ckE_ok W T G k a sc ca X xc Wx C B).1 _ h1) (ckO_ok W T G k lo sc ca X xc Wx C B _ h2) (ckO_ok W T G k hi sc ca X xc Wx C B _ h3)
    · cases h
  | .rev a, sc, ca, X, xc, Wx, C, B => by
    unfold ckE
    refine mkC_ok fun x h => ?_
    split at h
    · simp only [Bool.and_eq_true, decide_eq_true_eq] at h
      obtain ⟨h1, rfl⟩ := h
      exact ok_rev C ((ckE_ok W T G k a sc ca X xc Wx C B).1 _ h1)
    · cases h
  | .fld a f, sc, ca, X, xc, Wx, C, B => by
    unfold ckE
    refine mkC_ok fun x h => ?_
    split at h
    · simp only [Bool.and_eq_true, decide_eq_true_eq] at h
      obtain ⟨⟨rfl, h1⟩, h2⟩ := h
      exact ok_fld C B h1 ((ckE_ok W T G k a sc ca X xc Wx C B).1 _ h2)
    · cases h
  | .call f es n, sc, ca, X, xc, Wx, C, B => by
    unfold ckE
    refine mkC_ok fun x h => ?_
    split at h
    · simp only [Bool.and_eq_true, decide_eq_true_eq] at h
      obtain ⟨⟨⟨⟨rfl, h1⟩, h2⟩, h3⟩, h4⟩ := h
      have ha := ckEs_ok W T G k es sc ca X xc Wx C B _ h4
      obtain ⟨c, cs, rfl⟩ := aok_ne h4
      obtain ⟨i1, i2⟩ := aok_inv h4
      cases hf : G.fn f with
      | none => rw [hf] at h3; cases h3
      | some gd =>
        obtain ⟨g, dfl⟩ := gd
        rw [hf] at h3
        exact ok_call C B h2 hf (of_decide_eq_true h3) (isGl_ok h1) ((ckEh_ok W T G k (.cons c cs) sc ca X xc Wx C B).1 _ _ rfl _ i1) ((ckEh_ok W T G k (.cons c cs) sc ca X xc Wx C B).2 _ _ rfl _ i2)
    · cases h
  | .mk c es, sc, ca, X, xc, Wx, C, B => by
    unfold ckE
    refine mkC_ok fun x h => ?_
    split at h
    · simp only [Bool.and_eq_true, decide_eq_true_eq] at h
      obtain ⟨⟨⟨⟨rfl, h1⟩, h2⟩, h3⟩, h4⟩ := h
      obtain ⟨a, cs, rfl⟩ := aok_ne h4
      obtain ⟨i1, i2⟩ := aok_inv h4
      obtain ⟨g, hg⟩ := Option.isSome_iff_exists.mp h3
      exact ok_mk C B h2 hg (isGl_ok h1) ((ckEh_ok W T G k (.cons a cs) sc ca X xc Wx C B).1 _ _ rfl _ i1) ((ckEh_ok W T G k (.cons a cs) sc ca X xc Wx C B).2 _ _ rfl _ i2)
    · cases h
  | .bi b es, sc, ca, X, xc, Wx, C, B => by
    unfold ckE
    refine mkC_ok fun x h => ?_
    split at h
    · rename_i y p x xs pos
      rw [Bool.or_eq_true] at h
      rcases h with h | h
      · simp only [Bool.and_eq_true, decide_eq_true_eq] at h
        obtain ⟨⟨⟨⟨⟨h1, h2⟩, h3⟩, rfl⟩, h4⟩, h5⟩ := h
        obtain ⟨a, cs, rfl⟩ := aok_ne h5
        obtain ⟨i1, i2⟩ := aok_inv h5
        exact ok_bi C B ⟨h1, h2⟩ h3 (isGl_ok h4) ((ckEh_ok W T G k (.cons a cs) sc ca X xc Wx C B).1 _ _ rfl _ i1) ((ckEh_ok W T G k (.cons a cs) sc ca X xc Wx C B).2 _ _ rfl _ i2)
      · simp only [Bool.and_eq_true, decide_eq_true_eq] at h
        obtain ⟨⟨⟨⟨rfl, h2⟩, rfl⟩, h3⟩, h4⟩ := h
        split at h4
        · simp only [Bool.and_eq_true, decide_eq_true_eq, List.isEmpty_iff] at h4
          obtain ⟨⟨⟨rfl, h5⟩, rfl⟩, h6⟩ := h4
          obtain ⟨a, cs, rfl⟩ := aok_ne h6
          obtain ⟨i1, i2⟩ := aok_inv h6
          cases cs with
          | nil => exact ok_sortedSet C B h2 (isGl_ok h3) (isGl_ok h5) ((ckEh_ok W T G k (.cons a .nil) sc ca X xc Wx C B).1 _ _ rfl _ i1)
          | cons _ _ => simp [ckEs] at i2
        · cases h4
    · cases h
  | .isi t a, sc, ca, X, xc, Wx, C, B => by
    unfold ckE
    refine mkC_ok fun x h => ?_
    split at h
    · simp only [Bool.and_eq_true, decide_eq_true_eq] at h
      obtain ⟨⟨⟨rfl, h1⟩, h2⟩, h3⟩ := h
      exact tyOf_ok C B (isGl_ok h1) ((ckE_ok W T G k a sc ca X xc Wx C B).1 _ h2) h3
    · cases h
  | .im c a m es, sc, ca, X, xc, Wx, C, B => by
    unfold ckE
    refine mkC_ok fun x h => ?_
    split at h
    · rename_i y n p xs pos
      simp only [Bool.and_eq_true, decide_eq_true_eq] at h
      obtain ⟨⟨⟨⟨⟨⟨⟨⟨rfl, h1⟩, h2⟩, h3⟩, h4⟩, h5⟩, h6⟩, h7⟩, h8⟩ := h
      obtain ⟨g, hg⟩ := Option.isSome_iff_exists.mp h3
      have ho := (ckE_ok W T G k a sc ca X xc Wx C B).1 _ h5
      cases xs with
      | nil =>
        cases es with
        | nil => exact ok_im0 C B h2 h6 hg (by rw [C.nf]; exact h1) h4 ho
        | cons _ _ => simp [ckEs] at h8
      | cons x xs =>
        obtain ⟨b, cs, rfl⟩ := aok_ne h8
        obtain ⟨i1, i2⟩ := aok_inv h8
        exact ok_im C B h2 h7 h6 hg (by rw [C.nf]; exact h1) h4 ho ((ckEh_ok W T G k (.cons b cs) sc ca X xc Wx C B).1 _ _ rfl _ i1) ((ckEh_ok W T G k (.cons b cs) sc ca X xc Wx C B).2 _ _ rfl _ i2)
    · cases h
  | .lm m a es, sc, ca, X, xc, Wx, C, B => by
    unfold ckE
    refine mkC_ok fun x h => ?_
    split at h
    · rename_i y n p xs pos
      simp only [Bool.and_eq_true, decide_eq_true_eq] at h
      obtain ⟨⟨⟨⟨⟨⟨rfl, h1⟩, h2⟩, h3⟩, h4⟩, h5⟩, h6⟩ := h
      have ho := (ckE_ok W T G k a sc ca X xc Wx C B).1 _ h3
      cases xs with
      | nil =>
        cases es with
        | nil => exact ok_lm0 C h1 h4 h2 ho
        | cons _ _ => simp [ckEs] at h6
      | cons x xs =>
        obtain ⟨b, cs, rfl⟩ := aok_ne h6
        obtain ⟨i1, i2⟩ := aok_inv h6
        exact ok_lm C h1 h5 h4 h2 ho ((ckEh_ok W T G k (.cons b cs) sc ca X xc Wx C B).1 _ _ rfl _ i1) ((ckEh_ok W T G k (.cons b cs) sc ca X xc Wx C B).2 _ _ rfl _ i2)
    · cases h
  | .lc elt tg src ifs, sc, ca, X, xc, Wx, C, B => by
    unfold ckE
    refine mkC_ok fun x h => ?_
    split at h
    · simp only [Bool.and_eq_true] at h
      obtain ⟨⟨⟨⟨⟨h1, h2⟩, h3⟩, h4⟩, h5⟩, h6⟩ := h
      exact ok_lc C B h1 (ckR_ok W T G k src sc ca X xc Wx C B _ _ h2) h3 h4 fun X' C' B' => ⟨ckI_ok W T G k ifs (relS _ _) true X' none Wf C' B' _ h5, (ckE_ok W T G k elt (relS _ _) true X' none Wf C' B').1 _ h6⟩
    · cases h
  | .xf i f, sc, ca, X, xc, Wx, C, B => by
    unfold ckE
    refine mkC_ok fun x h => ?_
    split at h
    · simp only [Bool.and_eq_true, decide_eq_true_eq] at h
      obtain ⟨rfl, h1⟩ := h
      obtain ⟨a1, a2, a3, a4⟩ := nameB_ok h1
      exact ok_xf C B a1 a2 a3 a4
    · cases h
  | .lend i a, sc, ca, X, xc, Wx, C, B => by unfold ckE; refine mkC_ok fun x h => ?_; exact ok_lend ((ckE_ok W T G k a sc ca X xc Wx C B).1 _ h)
  | .eqI c m a b, sc, ca, X, xc, Wx, C, B => by
    unfold ckE
    refine mkC_ok fun x h => ?_
    split at h
    · simp only [Bool.and_eq_true, decide_eq_true_eq, Bool.not_eq_true'] at h
      obtain ⟨⟨⟨⟨⟨h1, h2⟩, h3⟩, h4⟩, h5⟩, h6⟩ := h
      obtain ⟨g, hg⟩ := Option.isSome_iff_exists.mp h3
      exact ok_eqI C B h2 h1 hg ((ckE_ok W T G k a sc ca X xc Wx C B).1 _ h4) ((ckE_ok W T G k b sc ca X xc Wx C B).1 _ h5) h6
    · cases h
  | .lenSet a, sc, ca, X, xc, Wx, C, B => by
    unfold ckE
    refine mkC_ok fun x h => ?_
    split at h
    · simp only [Bool.and_eq_true, decide_eq_true_eq] at h
      obtain ⟨⟨⟨⟨⟨rfl, h1⟩, rfl⟩, h2⟩, h3⟩, h4⟩ := h
      exact ok_lenSet C B h3 (isGl_ok h1) (isGl_ok h2) ((ckE_ok W T G k a sc ca X xc Wx C B).1 _ h4)
    · cases h
  | .rng1 a, sc, ca, X, xc, Wx, C, B => by
    unfold ckE
    refine mkC_ok fun x h => ?_
    split at h
    · simp only [Bool.and_eq_true, decide_eq_true_eq] at h
      obtain ⟨⟨rfl, h1⟩, h2⟩ := h
      exact ok_rng1 C B (isGl_ok h1) ((ckE_ok W T G k a sc ca X xc Wx C B).1 _ h2)
    · cases h
  | .rng2 a b, sc, ca, X, xc, Wx, C, B => by
    unfold ckE
    refine mkC_ok fun x h => ?_
    split at h
    · simp only [Bool.and_eq_true, decide_eq_true_eq] at h
      obtain ⟨⟨⟨rfl, h1⟩, h2⟩, h3⟩ := h
      exact ok_rng2 C B (isGl_ok h1) ((ckE_ok W T G k a sc ca X xc Wx C B).1 _ h2) ((ckE_ok W T G k b sc ca X xc Wx C B).1 _ h3)
    · cases h
/-- the head and the rest of arguments -/
theorem ckEh_ok (W : Wd) (T : Tab) (G : Env) (k : Nat) : ∀ (es : Es) (sc : Scope) (ca : Bool) (X : Cx) (xc : XC) (Wx : WX), Cn W X xc Wx T sc ca → Cf W X T G k ca →
    (∀ c cs, es = .cons c cs → ∀ x, (ckE T G c sc ca).e x = true → Eok W X xc Wx G c x) ∧ ∀ c cs, es = .cons c cs → ∀ xs, ckEs T G cs sc ca xs = true → Aok W X xc Wx G cs xs
  | .nil, _, _, _, _, _, _, _ => ⟨fun _ _ z => (by cases z), fun _ _ z => (by cases z)⟩
  | .cons c cs, sc, ca, X, xc, Wx, C, B => ⟨fun _ _ z x h => (by cases z; exact (ckE_ok W T G k c sc ca X xc Wx C B).1 x h), fun _ _ z xs h => by cases z; exact ckEs_ok W T G k cs sc ca X xc Wx C B xs h⟩
theorem ckEs_ok (W : Wd) (T : Tab) (G : Env) (k : Nat) : ∀ (es : Es) (sc : Scope) (ca : Bool) (X : Cx) (xc : XC) (Wx : WX), Cn W X xc Wx T sc ca → Cf W X T G k ca → ∀ xs, ckEs T G es sc ca xs = true → Aok W X xc Wx G es xs
  | .nil, _, _, _, _, _, _, _, xs, h => by
    cases xs with
    | nil => exact aok_nil
    | cons _ _ => simp [ckEs] at h
  | .cons c cs, sc, ca, X, xc, Wx, C, B, xs, h => by
    cases xs with
    | nil => simp [ckEs] at h
    | cons x xs =>
      obtain ⟨i1, i2⟩ := aok_inv h
      exact aok_cons ((ckE_ok W T G k c sc ca X xc Wx C B).1 x i1) (ckEs_ok W T G k cs sc ca X xc Wx C B xs i2)
theorem ckI_ok (W : Wd) (T : Tab) (G : Env) (k : Nat) : ∀ (es : Es) (sc : Scope) (ca : Bool) (X : Cx) (xc : XC) (Wx : WX), Cn W X xc Wx T sc ca → Cf W X T G k ca → ∀ xs, ckI T G es sc ca xs = true → Tsk W X xc Wx G es xs
  | .nil, _, _, _, _, _, _, _, xs, h => by
    cases xs with
    | nil => exact tsk_nil
    | cons _ _ => simp [ckI] at h
  | .cons c cs, sc, ca, X, xc, Wx, C, B, xs, h => by
    unfold ckI at h
    split at h
    · simp only [Bool.and_eq_true] at h
      obtain ⟨h1, h2⟩ := h
      cases cs with
      | nil => exact tsk_one ((ckE_ok W T G k c sc ca X xc Wx C B).1 _ h1)
      | cons _ _ => cases h2
    · cases h
theorem ckO_ok (W : Wd) (T : Tab) (G : Env) (k : Nat) : ∀ (o : Op) (sc : Scope) (ca : Bool) (X : Cx) (xc : XC) (Wx : WX), Cn W X xc Wx T sc ca → Cf W X T G k ca → ∀ x, ckO T G o sc ca x = true → Ook W X xc Wx G o x
  | .no, _, _, _, _, _, _, _, x, h => by
    cases x with
    | none => exact ook_no
    | some _ => simp [ckO] at h
  | .so e, sc, ca, X, xc, Wx, C, B, x, h => by
    cases x with
    | none => simp [ckO] at h
    | some x => exact ook_so ((ckE_ok W T G k e sc ca X xc Wx C B).1 x (by simpa [ckO] using h))
theorem ckR_ok (W : Wd) (T : Tab) (G : Env) (k : Nat) : ∀ (o : Src) (sc : Scope) (ca : Bool) (X : Cx) (xc : XC) (Wx : WX), Cn W X xc Wx T sc ca → Cf W X T G k ca → ∀ tg x, ckR T G o sc ca tg x = true → Iok W X xc Wx G o tg x
  | .seq e, sc, ca, X, xc, Wx, C, B, tg, x, h => by
    simp only [ckR, Bool.and_eq_true] at h
    exact iok_seq C ((ckE_ok W T G k e sc ca X xc Wx C B).1 x h.1) h.2
  | .r1 e, sc, ca, X, xc, Wx, C, B, tg, x, h => by
    unfold ckR at h
    split at h
    · simp only [Bool.and_eq_true, decide_eq_true_eq] at h
      obtain ⟨⟨rfl, h1⟩, h2⟩ := h
      exact iok_r1 C B (isGl_ok h1) ((ckE_ok W T G k e sc ca X xc Wx C B).1 _ h2)
    · cases h
  | .r2 a b, sc, ca, X, xc, Wx, C, B, tg, x, h => by
    unfold ckR at h
    split at h
    · simp only [Bool.and_eq_true, decide_eq_true_eq] at h
      obtain ⟨⟨⟨rfl, h1⟩, h2⟩, h3⟩ := h
      exact iok_r2 C B (isGl_ok h1) ((ckE_ok W T G k a sc ca X xc Wx C B).1 _ h2) ((ckE_ok W T G k b sc ca X xc Wx C B).1 _ h3)
    · cases h
  | .enum e, sc, ca, X, xc, Wx, C, B, tg, x, h => by
    unfold ckR at h
    split at h
    · simp only [Bool.and_eq_true, decide_eq_true_eq] at h
      obtain ⟨⟨rfl, h1⟩, h2⟩ := h
      exact iok_enum C B (isGl_ok h1) ((ckE_ok W T G k e sc ca X xc Wx C B).1 _ h2)
    · cases h
  | .zip a b, sc, ca, X, xc, Wx, C, B, tg, x, h => by
    unfold ckR at h
    split at h
    · simp only [Bool.and_eq_true, decide_eq_true_eq] at h
      obtain ⟨⟨⟨rfl, h1⟩, h2⟩, h3⟩ := h
      exact iok_zip C B (isGl_ok h1) ((ckE_ok W T G k a sc ca X xc Wx C B).1 _ h2) ((ckE_ok W T G k b sc ca X xc Wx C B).1 _ h3)
    · cases h
end
end
end MP
set_option Elab.async false
set_option linter.all false
set_option maxRecDepth 100000
set_option maxHeartbeats 8000000
/-! MPW: the checker of statements; a def by its checked body. -/
namespace MP
open PySem PySem.Spec PyProof.Rows L2
def isLc : E → Bool
  | .lc .. => true
  | _ => false
def noTup : Expr → Bool
  | .Tuple .. => false
  | _ => true
def retOk (T : Tab) (sc : Scope) : E → Expr → Bool
  | .var i, .Name x _ => nameB T.N sc i x
  | .var _, _ => false
  | _, _ => true
def cnB (T : Tab) (sc : Scope) (c : Nat) (y : Str) : Bool := decide (y = T.cnm c) && isGl sc y && !(y == ("__debug__" : Str))
mutual
def ckS (T : Tab) (G : Env) : S → Scope → Bool → Stmt → Bool
  | .asg i _ e, sc, ca, st => match st with
    | .Assign [.Name y p] x _ => nmOk T.N sc i (.Name y p) && (ckE T G e sc ca).e x && (noComp x || (isLc e && ca && decide (sc.kind = .function)))
    | _ => false
  | .asgT ts e, sc, ca, st => match st with
    | .Assign [.Tuple es kk p] x _ => ca && tgOk T.N sc (.tup ts) (.Tuple es kk p) && noComp x && noTup x && (ckE T G e sc ca).e x
    | _ => false
  | .setIx a i e, sc, ca, st => match st with
    | .Assign [.Subscript x y _] z _ => (ckE T G a sc ca).e x && (ckE T G i sc ca).e y && (ckE T G e sc ca).e z && plainIx y
    | _ => false
  | .setF a f e, sc, ca, st => match st with
    | .Assign [.Attribute x n _] z _ => decide (n = T.fld f) && (ckE T G a sc ca).e x && (ckE T G e sc ca).e z
    | _ => false
  | .ex e, sc, ca, st => match st with
    | .Expr x _ => noComp x && (ckE T G e sc ca).e x
    | _ => false
  | .ret e, sc, ca, st => match st with
    | .Return (some x) _ => retOk T sc e x && (ckE T G e sc ca).e x
    | _ => false
  | .retN, _, _, st => match st with
    | .Return none _ => true
    | _ => false
  | .ite c a b, sc, ca, st => match st with
    | .If x as bs _ => (ckE T G c sc ca).e x && ckSs T G a sc ca as && ckSs T G b sc ca bs
    | _ => false
  | .for_ tg src body, sc, ca, st => match st with
    | .For tgE iter sts [] _ => ca && ckR T G src sc ca tgE iter && tgOk T.N sc tg tgE && ckSs T G body sc ca sts
    | _ => false
  | .whl _ c body, sc, ca, st => match st with
    | .While x sts [] _ => ca && (ckE T G c sc ca).e x && ckSs T G body sc ca sts
    | _ => false
  | .brk, _, _, st => match st with
    | .Break _ => true
    | _ => false
  | .cont, _, _, st => match st with
    | .Continue _ => true
    | _ => false
  | .pass, _, _, st => match st with
    | .Pass _ => true
    | .Expr (.Constant (.str _) _ _) _ => true
    | _ => false
  | .raise c es, sc, ca, st => match st with
    | .Raise (some (.Call (.Name y _) (x :: xs) [] _)) none _ => cnB T sc c y && ca && (G.xc c).isSome && ckEs T G es sc ca (x :: xs)
    | _ => false
  | .try_ body hs, sc, ca, st => match st with
    | .Try bodyE hds [] [] _ => ca && ckSs T G body sc true bodyE && ckH T G hs sc hds && !hds.isEmpty
    | _ => false
def ckSs (T : Tab) (G : Env) : Ss → Scope → Bool → List Stmt → Bool
  | .nil, _, _, sts => sts.isEmpty
  | .cons c cs, sc, ca, sts => match sts with
    | st :: sts => ckS T G c sc ca st && ckSs T G cs sc ca sts
    | [] => false
def ckH (T : Tab) (G : Env) : Hs → Scope → List ExceptHandler → Bool
  | .nil, _, hds => hds.isEmpty
  | .cons c i body hs, sc, hds => match hds with
    | .ExceptHandler (some (.Name y _)) nm (b₀ :: suite) _ :: hds => cnB T sc c y && G.xn c && (match nm, i with
      | none, none => true
      | some n, some j => decide (T.N[j]? = some n) && decide (sc.names.lookup n = some .local)
      | _, _ => false) && ckSs T G body sc false (b₀ :: suite) && ckH T G hs sc hds
    | _ => false
end
section
variable {W : Wd} {xc : XC} {X : Cx} {Wx : WX} {T : Tab} {sc : Scope} {ca : Bool} {G : Env} {k : Nat}
theorem cnB_ok {c : Nat} {y : Str} (h : cnB T sc c y = true) : y = T.cnm c ∧ sc.names.lookup y = some .globalImplicit ∧ (y == ("__debug__" : Str)) = false := by
  simp only [cnB, Bool.and_eq_true, decide_eq_true_eq, Bool.not_eq_true'] at h
  exact ⟨h.1.1, isGl_ok h.1.2, h.2⟩
theorem lc_parts {elt : E} {tg : Tg} {src : Src} {ifs : Es} {x : Expr} (h : (ckE T G (.lc elt tg src ifs) sc ca).e x = true) : ∃ eE tgE iter ifsE scope p, x = .ListComp eE [⟨tgE, iter, ifsE, 0⟩] scope p ∧ ckR T G src sc ca tgE iter = true ∧ blkOk T.N sc scope tg = true ∧ tgOk T.N scope tg tgE = true ∧ ckI T G ifs (relS scope sc) true ifsE = true ∧ (ckE T G elt (relS scope sc) true).e eE = true := by
  unfold ckE at h
  simp only [mkC] at h
  split at h
  · simp only [Bool.and_eq_true] at h
    obtain ⟨⟨⟨⟨⟨h1, h2⟩, h3⟩, h4⟩, h5⟩, h6⟩ := h
    exact ⟨_, _, _, _, _, _, rfl, h2, h3, h4, h5, h6⟩
  · cases h
theorem asg_sub {x y : Expr} {p : Pos} {env : PySem.Env} {v : Value} (h : plainIx y = true) : assign (.Subscript x y p) env v = (do
      let ov ← holding [v] (eval x env)
      let iv ← holding [v, ov] (eval y env)
      standAt p
      holding [v, ov, iv] (setItem ov iv v)
      release [v, ov, iv] []) := by
  cases y <;> first | rfl | cases h
mutual
theorem ckS_ok (W : Wd) (T : Tab) (G : Env) (k : Nat) : ∀ (c : S) (sc : Scope) (ca : Bool) (X : Cx) (xc : XC) (Wx : WX), Cn W X xc Wx T sc ca → Cf W X T G k ca → Dn X ca → ∀ st, ckS T G c sc ca st = true → Sok W X xc Wx G c st
  | .asg i own e, sc, ca, X, xc, Wx, C, B, Dx, st, h => by
    unfold ckS at h
    split at h
    · simp only [Bool.and_eq_true, Bool.or_eq_true, decide_eq_true_eq] at h
      obtain ⟨⟨h1, h2⟩, h3⟩ := h
      rcases h3 with h3 | ⟨⟨h3, h4⟩, h5⟩
      · exact sok_asg C Dx h1 h3 ((ckE_ok W T G k e sc ca X xc Wx C B).1 _ h2)
      · cases e with
        | lc elt tg src ifs =>
          obtain ⟨eE, tgE, iter, ifsE, scope, p, rfl, a1, a2, a3, a4, a5⟩ := lc_parts h2
          exact sok_asgLc C B Dx h5 h4 h1 (ckR_ok W T G k src sc ca X xc Wx C B _ _ a1) a2 a3 fun X' C' B' => ⟨ckI_ok W T G k ifs _ true X' none Wf C' B' _ a4, (ckE_ok W T G k elt _ true X' none Wf C' B').1 _ a5⟩
        | _ => cases h3
    · cases h
  | .asgT ts e, sc, ca, X, xc, Wx, C, B, Dx, st, h => by
    unfold ckS at h
    split at h
    · rename_i es kk p x pos
      simp only [Bool.and_eq_true] at h
      obtain ⟨⟨⟨⟨h1, h2⟩, h3⟩, h4⟩, h5⟩ := h
      exact sok_asgT C Dx h1 h3 h2 (fun env => by cases x <;> first | rfl | cases h4) ((ckE_ok W T G k e sc ca X xc Wx C B).1 _ h5)
    · cases h
  | .setIx a i e, sc, ca, X, xc, Wx, C, B, Dx, st, h => by
    unfold ckS at h
    split at h
    · simp only [Bool.and_eq_true] at h
      obtain ⟨⟨⟨h1, h2⟩, h3⟩, h4⟩ := h
      exact sok_setIx C ((ckE_ok W T G k a sc ca X xc Wx C B).1 _ h1) ((ckE_ok W T G k i sc ca X xc Wx C B).1 _ h2) ((ckE_ok W T G k e sc ca X xc Wx C B).1 _ h3) fun v => asg_sub h4
    · cases h
  | .setF a f e, sc, ca, X, xc, Wx, C, B, Dx, st, h => by
    unfold ckS at h
    split at h
    · simp only [Bool.and_eq_true, decide_eq_true_eq] at h
      obtain ⟨⟨rfl, h2⟩, h3⟩ := h
      exact sok_setF C B ((ckE_ok W T G k a sc ca X xc Wx C B).1 _ h2) ((ckE_ok W T G k e sc ca X xc Wx C B).1 _ h3)
    · cases h
  | .ex e, sc, ca, X, xc, Wx, C, B, Dx, st, h => by
    unfold ckS at h
    split at h
    · simp only [Bool.and_eq_true] at h
      exact sok_ex ((ckE_ok W T G k e sc ca X xc Wx C B).1 _ h.2) h.1
    · cases h
  | .ret e, sc, ca, X, xc, Wx, C, B, Dx, st, h => by
    unfold ckS at h
    split at h
    · rename_i x pos
      simp only [Bool.and_eq_true] at h
      refine sok_ret C (retV_ok C ((ckE_ok W T G k e sc ca X xc Wx C B).1 _ h.2) fun i z => ?_)
      subst z
      have h1 := h.1
      cases x with
      | Name y p => exact ⟨y, p, rfl, nameB_ok h1⟩
      | _ => cases h1
    · cases h
  | .retN, sc, ca, X, xc, Wx, C, B, Dx, st, h => by
    unfold ckS at h
    split at h
    · exact sok_retN
    · cases h
  | .ite c a b, sc, ca, X, xc, Wx, C, B, Dx, st, h => by
    unfold ckS at h
    split at h
    · simp only [Bool.and_eq_true] at h
      obtain ⟨⟨h1, h2⟩, h3⟩ := h
      exact sok_ite ((ckE_ok W T G k c sc ca X xc Wx C B).1 _ h1) (ckSs_ok W T G k a sc ca X xc Wx C B Dx _ h2) (ckSs_ok W T G k b sc ca X xc Wx C B Dx _ h3)
    · cases h
  | .for_ tg src body, sc, ca, X, xc, Wx, C, B, Dx, st, h => by
    unfold ckS at h
    split at h
    · simp only [Bool.and_eq_true] at h
      obtain ⟨⟨⟨h1, h2⟩, h3⟩, h4⟩ := h
      exact sok_for C Dx h1 (ckR_ok W T G k src sc ca X xc Wx C B _ _ h2) h3 (ckSs_ok W T G k body sc ca X xc Wx C B Dx _ h4)
    · cases h
  | .whl n c body, sc, ca, X, xc, Wx, C, B, Dx, st, h => by
    unfold ckS at h
    split at h
    · simp only [Bool.and_eq_true] at h
      obtain ⟨⟨h1, h2⟩, h3⟩ := h
      exact sok_whl Dx h1 ((ckE_ok W T G k c sc ca X xc Wx C B).1 _ h2) (ckSs_ok W T G k body sc ca X xc Wx C B Dx _ h3)
    · cases h
  | .brk, sc, ca, X, xc, Wx, C, B, Dx, st, h => by
    unfold ckS at h
    split at h
    · exact sok_brk
    · cases h
  | .cont, sc, ca, X, xc, Wx, C, B, Dx, st, h => by
    unfold ckS at h
    split at h
    · exact sok_cont
    · cases h
  | .pass, sc, ca, X, xc, Wx, C, B, Dx, st, h => by
    unfold ckS at h
    split at h
    · exact sok_pass
    · exact sok_doc
    · cases h
  | .raise c es, sc, ca, X, xc, Wx, C, B, Dx, st, h => by
    unfold ckS at h
    split at h
    · simp only [Bool.and_eq_true] at h
      obtain ⟨⟨⟨h1, h2⟩, h3⟩, h4⟩ := h
      obtain ⟨rfl, g1, g2⟩ := cnB_ok h1
      obtain ⟨fl, hfl⟩ := Option.isSome_iff_exists.mp h3
      obtain ⟨a, cs, rfl⟩ := aok_ne h4
      obtain ⟨i1, i2⟩ := aok_inv h4
      exact sok_raise C B h2 hfl g1 ((ckE_ok W T G k a sc ca X xc Wx C B).1 _ i1) (ckEs_ok W T G k cs sc ca X xc Wx C B _ i2)
    · cases h
  | .try_ body hs, sc, ca, X, xc, Wx, C, B, Dx, st, h => by
    unfold ckS at h
    split at h
    · rename_i bodyE hds pos
      simp only [Bool.and_eq_true, Bool.not_eq_true'] at h
      obtain ⟨⟨⟨h1, h2⟩, h3⟩, h4⟩ := h
      subst h1
      have hxc := C.nx rfl
      subst hxc
      obtain ⟨l, hl⟩ := ckH_ok W T G k hs sc X Wx C B Dx hds h3
      cases hds with
      | nil => cases h4
      | cons h₀ hds =>
        cases hs with
        | nil => simp [ckH] at h3
        | cons c i cb hs =>
          exact sok_try C B Dx (fun X' Wx' C' B' D' => ckSs_ok W T G k body sc true X' none Wx' C' B' D' _ h2) hl
    · cases h
theorem ckSs_ok (W : Wd) (T : Tab) (G : Env) (k : Nat) : ∀ (c : Ss) (sc : Scope) (ca : Bool) (X : Cx) (xc : XC) (Wx : WX), Cn W X xc Wx T sc ca → Cf W X T G k ca → Dn X ca → ∀ sts, ckSs T G c sc ca sts = true → SSok W X xc Wx G c sts
  | .nil, sc, ca, X, xc, Wx, C, B, Dx, sts, h => by
    cases sts with
    | nil => exact sok_nil
    | cons _ _ => simp [ckSs] at h
  | .cons c cs, sc, ca, X, xc, Wx, C, B, Dx, sts, h => by
    cases sts with
    | nil => simp [ckSs] at h
    | cons st sts =>
      simp only [ckSs, Bool.and_eq_true] at h
      exact sok_cons (ckS_ok W T G k c sc ca X xc Wx C B Dx _ h.1) (ckSs_ok W T G k cs sc ca X xc Wx C B Dx _ h.2)
theorem ckH_ok (W : Wd) (T : Tab) (G : Env) (k : Nat) : ∀ (c : Hs) (sc : Scope) (X : Cx) (Wx : WX), Cn W X none Wx T sc true → Cf W X T G k true → Dn X true → ∀ hds, ckH T G c sc hds = true → ∃ l, HsOk W X T sc G c hds l
  | .nil, sc, X, Wx, C, B, Dx, hds, h => by
    cases hds with
    | nil => exact ⟨_, .nil⟩
    | cons _ _ => simp [ckH] at h
  | .cons c i body hs, sc, X, Wx, C, B, Dx, hds, h => by
    unfold ckH at h
    split at h
    · rename_i y np nm b₀ suite pos' hds'
      simp only [Bool.and_eq_true] at h
      obtain ⟨⟨⟨⟨h1, h2⟩, h3⟩, h4⟩, h5⟩ := h
      obtain ⟨rfl, g1, g2⟩ := cnB_ok h1
      obtain ⟨l, hl⟩ := ckH_ok W T G k hs sc X Wx C B Dx _ h5
      refine ⟨_, .cons ⟨C.gl g1, g2, .inl (B.xn c h2)⟩ ?_ (fun a oe cls d pn hz hv => ?_) hl⟩
      · cases nm with
        | none =>
          cases i with
          | none => exact .inl ⟨rfl, rfl⟩
          | some j => cases h3
        | some n =>
          cases i with
          | none => cases h3
          | some j =>
            simp only [Bool.and_eq_true, decide_eq_true_eq] at h3
            exact .inr ⟨n, j, rfl, rfl, h3.1, h3.2⟩
      · exact ckSs_ok W T G k body sc false (X.suite a ((a, oe) :: pn)) (some (a, cls, d)) Wf ⟨fun z => (by cases z), fun z => (by cases z), .inr ⟨X, a, oe, cls, d, pn, rfl, rfl, hz, hv⟩, C.nd, C.N, C.sc, C.K, C.fld, C.nf, takes_none5, C.un, C.gd⟩ (B.move rfl rfl rfl rfl rfl fun z => (by cases z)) ⟨fun z => (by cases z), Dx.st, Dx.fr, Dx.fn⟩ _ h4
    · cases h
end
end
end MP
set_option Elab.async false
set_option linter.all false
set_option maxRecDepth 100000
set_option maxHeartbeats 8000000
/-! MPJ: a def keeps the promise of its run; a class made by its __init__. -/
namespace MP
open PySem PySem.Spec PyProof.Rows L2
def Tab.at (T : Tab) (N : List Str) : Tab := ⟨N, T.fnm, T.cnm, T.gnm, T.fld, T.nf⟩
section
variable {W : Wd} {xc : XC} {X : Cx} {Wx : WX} {T : Tab} {sc : Scope} {ca : Bool} {G : Env} {k : Nat} {F F1 : Hp} {m m1 : List Addr} {e : En} {s : St} {σ : L2.St} {H : Hp}
theorem Cf.names (B : Cf W X T G k ca) (N : List Str) : Cf W X (T.at N) G k ca :=
  ⟨B.free, B.fa, B.ic, B.room, B.xa, fun c fl h => let x := B.xc c fl h; ⟨x.ex, x.ne, x.nd, x.lt, x.inj, x.len⟩, B.xn, B.xk, B.fn, B.made, B.meth⟩
theorem Sim.done (S : Sim W xc ⟨F, m, H⟩ F1 m1 s σ H') : After W F m H F1 m1 s.hp H' := ⟨S.ext, S.sub, S.cells, S.fr, S.keep, S.new⟩
theorem relV_back {H' : Hp} {r : R} {v : V} (h : relV W ⟨F, m, H⟩ F1 m1 s σ H' r v) : Back W m H F1 m1 H' r v := by
  cases r with
  | val d => exact h
  | own xs =>
    obtain ⟨a, rfl, l⟩ := h
    obtain ⟨vs, h1, h2⟩ := l.at_
    exact ⟨a, vs, rfl, h1, h2, l.nf, l.nm, l.ne⟩
theorem reps_get {ds : List D} {vs : List V} {i : Nat} {d : D} {o : Option V} (r : Reps W F m ds vs) (n : Nat) (h1 : (ds.map Slot.val ++ List.replicate n .no)[i]? = some (.val d)) (h2 : ∀ v, vs[i]? = some v → o = some v) : ∃ v, o = some v ∧ Rep W F m d v := by
  by_cases hl : i < ds.length
  · rw [List.getElem?_append_left (by rw [List.length_map]; exact hl), List.getElem?_map] at h1
    rw [List.getElem?_eq_getElem hl] at h1
    cases h1
    obtain ⟨v, g1, g2⟩ := r.get (List.getElem?_eq_getElem hl)
    exact ⟨v, h2 v g1, g2⟩
  · rw [List.getElem?_append_right (by rw [List.length_map]; omega)] at h1
    rw [List.getElem?_replicate] at h1
    split at h1 <;> cases h1
theorem slot_val {ds : List D} {n i : Nat} {x : Slot} (h : (ds.map Slot.val ++ List.replicate n .no)[i]? = some x) : x = .no ∨ ∃ d, x = .val d := by
  have hm := List.mem_of_getElem? h
  rcases List.mem_append.mp hm with z | z
  · obtain ⟨d, _, rfl⟩ := List.mem_map.mp z
    exact .inr ⟨d, rfl⟩
  · exact .inl (List.eq_of_mem_replicate z)
/-- a def's entry -/
theorem Sim.entry {h : List Cell} {ds : List D} {vs : List V} {N : List Str} (s1 : Same F H) (s2 : Cells W F m h H) (r : Reps W F m ds vs) (hn : ds.length ≤ N.length) : Sim W none ⟨F, m, H⟩ F m ⟨ds.map .val ++ List.replicate (N.length - ds.length) .no, h⟩ (L2.start N vs) H := by
  refine ⟨s1, s2, ?_, fun i x o h1 h2 => ?_, fun i j xs ys a h1 h2 h3 h4 => ?_, Ext.refl _ _, fun a o z => .inl z, fun a o z _ => z, fun a h1 h2 => absurd h1 h2⟩
  · show (ds.map Slot.val ++ List.replicate (N.length - ds.length) Slot.no).length = (L2.start N vs).length
    unfold L2.start
    simp [r.length]
  · rcases slot_val h1 with rfl | ⟨d, rfl⟩
    · exact trivial
    · exact reps_get r _ h1 fun v hv => by
        rw [start_get hv] at h2
        exact (Option.some.inj h2).symm
  · rcases slot_val h1 with z | ⟨d, z⟩ <;> cases z
theorem def_ok {P : Program} {w : World} {K : PySem.W.Frag} {mg : Str → Option Value} {base : Heap} {x qual : Str} {params : Arguments} {body : List Stmt} {scope : Scope} {dvs : List V} {kws : List (Str × V)} {f : Addr} {fd : FuncData} {N ps : List Str} {c : Ss}
    (X0 : Cx) (e1 : X0.prog = P) (e2 : X0.w = w) (e3 : X0.K = K) (e4 : X0.mg = mg) (e5 : X0.base = base) (hK : W.K = K) (hf : W.fld = T.fld) (hnf : W.nf = T.nf) (B : Cf W X0 T G k false) (Fd : FunD K x qual params body scope dvs kws f fd) (S : FnScope N ps scope) (hlen : ps.length ≤ N.length) (hc : ckSs (T.at N) G c scope true body = true) :
    FnG P w K mg base (k + 2) f fd ps (spOf W (runFn G ps.length N.length c)) := by
  refine fnG_of Fd S (fun vs H Q E ⟨F, m, ds, h, _, _, r, q⟩ => ?_) fun cdv A outer s H vs Q E hr hg ⟨F, m, ds, h, s1, s2, r, q⟩ => ?_
  · unfold runFn at q
    by_cases hl : ds.length = ps.length
    · rw [r.length, hl]
    · rw [if_neg hl] at q
      exact q.elim
  · unfold runFn at q
    by_cases hl : ds.length = ps.length
    · rw [if_pos hl] at q
      let XX : Cx := cxOf (L2.CX P w) P w K mg base N qual scope f cdv A outer s H E
      have cn : Cn W XX none (fun cls d _ H' => E cls d H') (T.at N) scope true := ⟨fun _ => rfl, fun _ => rfl, .inl rfl, S.nd, rfl, rfl, hK.symm, hf, hnf, takes_of rfl rfl rfl rfl, by have := hr.un; show (A.deeper _).units + 66 < cLine; omega, hg⟩
      have cf : Cf W XX (T.at N) G k true := (B.names N).move e1.symm e2.symm e3.symm e4.symm e5.symm fun _ => hr
      have dn : Dn XX true := ⟨fun _ => passes_of rfl, rfl, rfl, fun _ => rfl⟩
      refine ⟨_, (ckSs_ok W (T.at N) G k c scope true XX none _ cn cf dn body hc).ps, ⟨F, m, H⟩, F, m, _, Sim.entry s1 s2 r (by rw [hl]; exact hlen), ?_⟩
      cases hx : exs G c ⟨ds.map .val ++ List.replicate (N.length - ds.length) .no, h⟩ with
      | bad => rw [hx] at q; exact q.elim
      | ok fl s' =>
        rw [hx] at q
        cases fl with
        | next => exact fun σ' F' m' H' S' _ => q _ F' m' H' S'.done (rep_non (W := W) (F := F') (m := m'))
        | brk => exact q.elim
        | cont => exact q.elim
        | ret rv => exact fun σ' F' m' H' v S' _ rr => q _ F' m' H' S'.done (relV_back rr)
      | exc y s' =>
        rw [hx] at q
        exact fun cls d σ' F' m' H' S' _ rr => q cls d F' m' H' S'.done rr
    · rw [if_neg hl] at q
      exact q.elim
/-- a def of which nothing is promised -/
theorem def_bad {P : Program} {w : World} {K : PySem.W.Frag} {mg : Str → Option Value} {base : Heap} {x qual : Str} {params : Arguments} {body : List Stmt} {scope : Scope} {dvs : List V} {kws : List (Str × V)} {f : Addr} {fd : FuncData} {N ps : List Str} (Fd : FunD K x qual params body scope dvs kws f fd) (S : FnScope N ps scope) :
    FnG P w K mg base (k + 1) f fd ps (spOf W fun _ _ => .bad) :=
  fnG_of Fd S (fun vs H Q E ⟨F, m, ds, h, _, _, r, q⟩ => (show False from q).elim) fun cdv A outer s H vs Q E hr hg ⟨F, m, ds, h, s1, s2, r, q⟩ => (show False from q).elim
/-! ### a class made -/
mutual
theorem Rep.cut {x : Addr} : ∀ {d : D} {v : V}, D.bel m.length d = true → Rep W F (m ++ [x]) d v → Rep W F m d v
  | .non, _, _, h => by unfold Rep at h ⊢; exact h
  | .bl _, _, _, h => by unfold Rep at h ⊢; exact h
  | .int _, _, _, h => by unfold Rep at h ⊢; exact h
  | .str _, _, _, h => by unfold Rep at h ⊢; exact h
  | .rng _ _, _, _, h => by unfold Rep at h ⊢; exact h
  | .tup xs, _, b, h => by
    unfold Rep at h ⊢
    obtain ⟨a, vs, h1, h2, h3⟩ := h
    exact ⟨a, vs, h1, h2, Reps.cut (by simpa [D.bel] using b) h3⟩
  | .lst xs, _, b, h => by
    unfold Rep at h ⊢
    obtain ⟨a, vs, h1, h2, h3⟩ := h
    exact ⟨a, vs, h1, h2, Reps.cut (by simpa [D.bel] using b) h3⟩
  | .ext xs, _, b, h => by
    unfold Rep at h ⊢
    obtain ⟨a, vs, h1, h2, h3⟩ := h
    exact ⟨a, vs, h1, h2, Reps.cut (by simpa [D.bel] using b) h3⟩
  | .ins c fs, _, b, h => by
    unfold Rep at h ⊢
    obtain ⟨a, dx, gs, h1, h2, h3⟩ := h
    exact ⟨a, dx, gs, h1, h2, Repf.cut (by simpa [D.bel] using b) h3⟩
  | .cell i, _, b, h => by
    unfold Rep at h ⊢
    obtain ⟨a, h1, h2⟩ := h
    have hb : i < m.length := by simpa [D.bel] using b
    rw [List.getElem?_append_left hb] at h1
    exact ⟨a, h1, h2⟩
theorem Reps.cut {x : Addr} : ∀ {ds : List D} {vs : List V}, D.bels m.length ds = true → Reps W F (m ++ [x]) ds vs → Reps W F m ds vs
  | [], _, _, h => by unfold Reps at h ⊢; exact h
  | d :: ds, _, b, h => by
    unfold Reps at h ⊢
    obtain ⟨v, r, h1, h2, h3⟩ := h
    simp only [D.bels, Bool.and_eq_true] at b
    exact ⟨v, r, h1, Rep.cut b.1 h2, Reps.cut b.2 h3⟩
theorem Repf.cut {x : Addr} : ∀ {fs : List (Nat × D)} {gs : List (Str × V)}, D.belf m.length fs = true → Repf W F (m ++ [x]) fs gs → Repf W F m fs gs
  | [], _, _, h => by unfold Repf at h ⊢; exact h
  | (f, d) :: fs, _, b, h => by
    unfold Repf at h ⊢
    obtain ⟨h0, v, r, h1, h2, h3⟩ := h
    simp only [D.belf, Bool.and_eq_true] at b
    exact ⟨h0, v, r, h1, Rep.cut b.1 h2, Repf.cut b.2 h3⟩
end
theorem lookup_mem : ∀ {fs : List (Nat × D)} {f : Nat} {y : D}, fs.lookup f = some y → (f, y) ∈ fs
  | [], _, _, h => by cases h
  | (g, z) :: fs, f, y, h => by
    rw [List.lookup_cons] at h
    cases q : f == g with
    | true =>
      rw [q] at h
      cases h
      rw [beq_iff_eq.mp q]
      exact List.mem_cons_self
    | false =>
      rw [q] at h
      exact List.mem_cons_of_mem _ (lookup_mem h)
theorem make_ok {c : Nat} {init : FnSem} {vs : List V} {Q : VK} {E : XK} (h : spOf W (runMake c init) vs H Q E) {x dx : Addr} (hx : H x = none) (hdx : H dx = none) (ne : dx ≠ x) :
    spOf W init (.ref x :: vs) (upd (upd H dx (.own x)) x (.ins (W.cad c) dx [])) (fun v H2 => v = .non ∧ Q (.ref x) H2) E := by
  obtain ⟨F, m, ds, hp, s1, s2, r, q⟩ := h
  have hH : ∀ {a : Addr} {o : HO}, H a = some o → upd (upd H dx (.own x)) x (.ins (W.cad c) dx []) a = some o := fun {a o} z => by
    rw [upd_ne (ne_of_none z hx), upd_ne (ne_of_none z hdx)]
    exact z
  have hF : ∀ {a : Addr}, H a = none → F a = none := fun {a} z => by
    cases y : F a with
    | none => rfl
    | some o =>
      have := s1 a o y
      rw [z] at this
      cases this
  have hm : ∀ {a : Addr}, H a = none → a ∉ m := fun {a} z y => by
    obtain ⟨i, hi⟩ := List.mem_iff_getElem?.mp y
    have hl : i < hp.length := by rw [← s2.len]; exact (List.getElem?_eq_some_iff.mp hi).1
    obtain ⟨_, ok⟩ := s2.ok i hp[i] a (List.getElem?_eq_getElem hl) hi
    cases y2 : hp[i] with
    | lst xs =>
      rw [y2] at ok
      obtain ⟨vs, g1, _⟩ := ok
      rw [z] at g1
      cases g1
    | ins c fs =>
      rw [y2] at ok
      obtain ⟨d, gs, g1, _⟩ := ok
      rw [z] at g1
      cases g1
  have lenm : m.length = hp.length := s2.len
  have x0 : Ext F m F (m ++ [x]) := ⟨Same.refl F, fun i a z => by rw [List.getElem?_append_left (List.getElem?_eq_some_iff.mp z).1]; exact z⟩
  refine ⟨F, m ++ [x], .cell hp.length :: ds, hp ++ [.ins c []], fun a o z => hH (s1 a o z), ⟨by simp [lenm], ?_, fun i cl a h1 h2 => ?_⟩, Reps.cons ?_ (r.mono x0), ?_⟩
  · rw [List.nodup_append]
    refine ⟨s2.nd, by simp, fun a ha b hb => ?_⟩
    have : b = x := by simpa using hb
    subst this
    exact fun e => hm hx (e ▸ ha)
  · by_cases hi : i < hp.length
    · rw [List.getElem?_append_left hi] at h1
      rw [List.getElem?_append_left (by rw [lenm]; exact hi)] at h2
      obtain ⟨g1, g2⟩ := s2.ok i cl a h1 h2
      exact ⟨g1, g2.mono x0 fun o z => hH z⟩
    · have hl := (List.getElem?_eq_some_iff.mp h1).1
      have hi2 : i = hp.length := by simp at hl; omega
      subst hi2
      rw [List.getElem?_append_right (Nat.le_refl _)] at h1
      rw [List.getElem?_append_right (by rw [lenm]; exact Nat.le_refl _)] at h2
      simp at h1
      simp [lenm] at h2
      subst h1 h2
      refine ⟨hF hx, dx, [], upd_same, ?_⟩
      unfold Repf
      rfl
  · unfold Rep
    exact ⟨x, by rw [List.getElem?_append_right (by rw [lenm]; exact Nat.le_refl _)]; simp [lenm], rfl⟩
  · have hH0 : ∀ {a : Addr}, a ≠ x → upd (upd H dx (.own x)) x (.ins (W.cad c) dx []) a = none → H a = none := fun {a} na z => by
      rw [upd_ne na] at z
      by_cases y : a = dx
      · rw [y]; exact hdx
      · rw [upd_ne y] at z; exact z
    have q2 : (match (match init (.cell hp.length :: ds) (hp ++ [.ins c []]) with
      | .ok (.val .non) h2 => (match h2[hp.length]? with
        | some (.ins e fs) => if e = c ∧ h2.length = hp.length + 1 ∧ D.belf hp.length fs ∧ (h2.take hp.length).all (Cell.below hp.length) then Fo.ok (.val (.ins c fs)) (h2.take hp.length) else .bad
        | _ => .bad)
      | .exc x h2 => if x.fs.all (fun p => D.bel hp.length p.2) ∧ (h2.take hp.length).all (Cell.below hp.length) ∧ hp.length ≤ h2.length then .exc x (h2.take hp.length) else .bad
      | _ => .bad) with
      | .bad => False
      | .ok r h' => ∀ v F' m' H', After W F m H F' m' h' H' → Back W m H F' m' H' r v → Q v H'
      | .exc x h' => ∀ cls d F' m' H', After W F m H F' m' h' H' → RepX W F' m' x cls d → E cls d H') := q
    generalize init (.cell hp.length :: ds) (hp ++ [.ins c []]) = o at q2 ⊢
    cases o with
    | bad => exact q2
    | ok rr h2 =>
      cases rr with
      | own _ => exact q2.elim
      | val d =>
        cases d with
        | non =>
          intro v F2 m2 H2 A b
          have b : Rep W F2 m2 .non v := b
          unfold Rep at b
          refine ⟨b, ?_⟩
          simp only at q2
          cases hg : h2[hp.length]? with
          | none => simp only [hg] at q2
          | some cl =>
            simp only [hg] at q2
            cases cl with
            | lst _ => exact q2.elim
            | ins e fs =>
              simp only at q2
              by_cases hc : e = c ∧ h2.length = hp.length + 1 ∧ D.belf hp.length fs ∧ (h2.take hp.length).all (Cell.below hp.length)
              · rw [if_pos hc] at q2
                obtain ⟨rfl, c2, c3, c4⟩ := hc
                obtain ⟨rr, em⟩ := pre_of (m := m ++ [x]) A.ext.mx
                have er : rr = [] := by
                  have l1 := A.cells.len
                  rw [em, c2] at l1
                  simp [lenm] at l1
                  exact l1
                subst er
                rw [List.append_nil] at em
                subst em
                have xg : (m ++ [x])[hp.length]? = some x := by rw [List.getElem?_append_right (by rw [lenm]; exact Nat.le_refl _)]; simp [lenm]
                obtain ⟨fx, dx2, gs, g1, g2⟩ := A.cells.ok _ _ x hg xg
                have sF : Same F2 (upd F2 x (.ins (W.cad e) dx2 gs)) := fun a o z => by
                  rw [upd_ne (fun y => by rw [y, fx] at z; cases z)]
                  exact z
                have g3 : Repf W (upd F2 x (.ins (W.cad e) dx2 gs)) m fs gs := (Repf.cut (by rw [lenm]; exact c3) g2).mono ⟨sF, fun _ _ z => z⟩
                refine q2 (.ref x) (upd F2 x (.ins (W.cad e) dx2 gs)) m H2 ⟨⟨fun a o z => sF a o (A.ext.fx a o z), fun _ _ z => z⟩, fun a o z => ?_, ?_, fun a o z => ?_, fun a o z1 z2 => ?_, fun a z1 z2 => absurd z1 z2⟩ ?_
                · by_cases y : a = x
                  · subst y
                    rw [upd_same] at z
                    cases z
                    exact g1
                  · rw [upd_ne y] at z
                    exact A.sub a o z
                · refine cells_cut hp.length lenm.symm A.cells sF (fun a ha => ?_) c4
                  rw [upd_ne (by intro y; rw [y] at ha; exact hm hx ha)]
                  obtain ⟨i, hi⟩ := List.mem_iff_getElem?.mp ha
                  have hl : i < h2.length := by rw [c2, ← lenm]; exact Nat.lt_succ_of_lt (List.getElem?_eq_some_iff.mp hi).1
                  exact (A.cells.ok i h2[i] a (List.getElem?_eq_getElem hl) (by rw [List.getElem?_append_left (List.getElem?_eq_some_iff.mp hi).1]; exact hi)).1
                · by_cases y : a = x
                  · exact .inr (y ▸ hx)
                  · rw [upd_ne y] at z
                    exact (A.fr a o z).imp id fun w => hH0 y w
                · refine A.keep a o (hH z1) fun y => ?_
                  rcases List.mem_append.mp y with y | y
                  · exact z2 y
                  · have : a = x := by simpa using y
                    rw [this, hx] at z1
                    cases z1
                · show Rep W _ m (.ins e fs) (.ref x)
                  unfold Rep
                  exact ⟨x, dx2, gs, rfl, upd_same, g3⟩
              · rw [if_neg hc] at q2
                exact q2.elim
        | _ => exact q2.elim
    | exc y h2 =>
      intro cls d F2 m2 H2 A rx
      simp only at q2
      by_cases hc : (y.fs.all (fun p => D.bel hp.length p.2)) = true ∧ (h2.take hp.length).all (Cell.below hp.length) = true ∧ hp.length ≤ h2.length
      · rw [if_pos hc] at q2
        obtain ⟨c1, c2, c3⟩ := hc
        obtain ⟨rr, em⟩ := pre_of (m := m ++ [x]) A.ext.mx
        rw [List.append_assoc] at em
        subst em
        refine q2 cls d F2 m H2 ⟨⟨A.ext.fx, fun _ _ z => z⟩, A.sub, ?_, fun a o z => ?_, fun a o z1 z2 => ?_, fun a z1 z2 => absurd z1 z2⟩ ⟨rx.1, ?_⟩
        · refine cells_cut hp.length lenm.symm A.cells (Same.refl _) (fun a ha => ?_) c2
          obtain ⟨i, hi⟩ := List.mem_iff_getElem?.mp ha
          have hl : i < h2.length := by rw [← A.cells.len, List.length_append]; exact Nat.lt_of_lt_of_le (List.getElem?_eq_some_iff.mp hi).1 (Nat.le_add_right _ _)
          exact (A.cells.ok i h2[i] a (List.getElem?_eq_getElem hl) (by rw [List.getElem?_append_left (List.getElem?_eq_some_iff.mp hi).1]; exact hi)).1
        · by_cases y : a = x
          · exact .inr (y ▸ hx)
          · exact (A.fr a o z).imp id fun w => hH0 y w
        · refine A.keep a o (hH z1) fun y => ?_
          rcases List.mem_append.mp y with y | y
          · exact z2 y
          · have : a = x := by simpa using y
            rw [this, hx] at z1
            cases z1
        · rcases rx.2 with z | ⟨dd, gs, z1, z2, z3⟩
          · exact .inl z
          · refine .inr ⟨dd, gs, z1, z2, fun f yv hy => ?_⟩
            obtain ⟨v, y1, y2⟩ := z3 f yv hy
            refine ⟨v, y1, Rep.cutL ?_ y2⟩
            rw [lenm]
            exact List.all_eq_true.mp c1 (f, yv) (lookup_mem hy)
      · rw [if_neg hc] at q2
        exact q2.elim
end
end MP
set_option Elab.async false
set_option linter.all false
set_option maxRecDepth 100000
set_option maxHeartbeats 4000000
/-! MPX: the evaluator run head first, in continuations: rules for simp only. -/
namespace MP
open PySem
/-- a mark that keeps what it names from being rewritten -/
inductive Is {α : Sort u} (a : α) : Type
  | mk
def wp {α : Type} (o : O α) (K : α → St → Prop) (E : X → St → Prop) (_ : Is (K, E) := .mk) : Prop := match o with
  | .bad => False
  | .ok a s => K a s
  | .exc x s => E x s
def ow {α : Type} (o : Option α) (K : α → Prop) (_ : Is K := .mk) : Prop := match o with
  | some a => K a
  | none => False
def fow (o : Fo) (K : R → List Cell → Prop) (E : X → List Cell → Prop) (_ : Is (K, E) := .mk) : Prop := match o with
  | .bad => False
  | .ok r h => K r h
  | .exc x h => E x h
/-- a test -/
def bK (b : Bool) (A B : Unit → Prop) (_ : Is (A, B) := .mk) : Prop := match b with
  | true => A ()
  | false => B ()
/-- a slot looked up -/
def lkR : List Slot → Nat → (Slot → Prop) → Prop
  | [], _, _ => False
  | x :: _, 0, k => k x
  | _ :: xs, n + 1, k => lkR xs n k
def lk (l : List Slot) (i : Nat) (k : Slot → Prop) (_ : Is k := .mk) : Prop := lkR l i k
/-- a slot stored -/
def stR : List Slot → Nat → Slot → (List Slot → Prop) → Prop
  | [], _, _, k => k []
  | _ :: xs, 0, y, k => k (y :: xs)
  | x :: xs, n + 1, y, k => stR xs n y fun l => k (x :: l)
def stK (l : List Slot) (i : Nat) (y : Slot) (k : List Slot → Prop) (_ : Is k := .mk) : Prop := stR l i y k
def seeK (h : List Cell) (d : D) (k : D → Prop) (_ : Is k := .mk) : Prop := ow (D.see h d) k
def slotP (h : List Cell) (x : Slot) (k : D → Prop) (_ : Is k := .mk) : Prop := match x with
  | .val d => seeK h d k
  | .own xs => k (.lst xs)
  | _ => False
def getK (s : St) (p : P) (k : D → Prop) (_ : Is k := .mk) : Prop := ow (p.get s) k
section
variable {α β : Type} {G : Env} {s : St} {sl : List Slot} {hp : List Cell} {a b c e : E} {es : Es} {x y d : D} {E' : X → St → Prop} {K : R → St → Prop} {KB : Bool → St → Prop} {KP : P → St → Prop} {KD : D → St → Prop} {KF : Flow → St → Prop}
/-! ### basics -/
theorem wp_cg {o : O α} {K K' : α → St → Prop} (h : ∀ a s, K a s = K' a s) : wp o K E' = wp o K' E' := by
  have e : K = K' := funext fun a => funext fun s => h a s
  subst e
  rfl
theorem ow_cg {o : Option α} {K K' : α → Prop} (h : ∀ a, K a = K' a) : ow o K = ow o K' := by
  have e : K = K' := funext fun a => h a
  subst e
  rfl
theorem wp_ok {a : α} {K : α → St → Prop} : wp (.ok a s) K E' = K a s := rfl
theorem wp_bad {K : α → St → Prop} : wp (.bad : O α) K E' = False := rfl
theorem wp_exc {K : α → St → Prop} {x : X} : wp (.exc x s : O α) K E' = E' x s := rfl
theorem wp_bind {o : O α} {f : α → St → O β} {K : β → St → Prop} : wp (o.bind f) K E' = wp o (fun a s => wp (f a s) K E') E' := by cases o <;> rfl
theorem wp_opt {o : Option α} {K : α → St → Prop} : wp (O.opt o s) K E' = ow o fun a => K a s := by cases o <;> rfl
theorem ow_bind {o : Option α} {f : α → Option β} {k : β → Prop} : ow (o.bind f) k = ow o fun a => ow (f a) k := by cases o <;> rfl
theorem ow_map {o : Option α} {f : α → β} {k : β → Prop} : ow (o.map f) k = ow o fun a => k (f a) := by cases o <;> rfl
theorem ow_some {a : α} {k : α → Prop} : ow (some a) k = k a := rfl
theorem ow_none {k : α → Prop} : ow (none : Option α) k = False := rfl
theorem fow_ok {r : R} {K : R → List Cell → Prop} {E2 : X → List Cell → Prop} : fow (.ok r hp) K E2 = K r hp := rfl
theorem fow_exc {x : X} {K : R → List Cell → Prop} {E2 : X → List Cell → Prop} : fow (.exc x hp) K E2 = E2 x hp := rfl
theorem bK_t {A B : Unit → Prop} : bK true A B = A () := rfl
theorem bK_f {A B : Unit → Prop} : bK false A B = B () := rfl
theorem bK_not {p : Bool} {A B : Unit → Prop} : bK (!p) A B = bK p B A := by cases p <;> rfl
theorem lk0 {x : Slot} {xs : List Slot} {k : Slot → Prop} : lk (x :: xs) 0 k = k x := rfl
theorem lkS {x : Slot} {xs : List Slot} {n : Nat} {k : Slot → Prop} : lk (x :: xs) (n + 1) k = lk xs n k := rfl
theorem stK0 {x y : Slot} {xs : List Slot} {k : List Slot → Prop} : stK (x :: xs) 0 y k = k (y :: xs) := rfl
theorem stKS {x y : Slot} {xs : List Slot} {n : Nat} {k : List Slot → Prop} : stK (x :: xs) (n + 1) y k = stK xs n y fun l => k (x :: l) := rfl
theorem lk_eq {i : Nat} {k : Slot → Prop} : ow (sl[i]?) k = lk sl i k := by
  induction sl generalizing i with
  | nil => rfl
  | cons x xs ih => cases i with
    | zero => rfl
    | succ n => rw [List.getElem?_cons_succ]; exact ih
theorem stK_eq {i : Nat} {y : Slot} {k : List Slot → Prop} : stK sl i y k = k (sl.set i y) := by
  induction sl generalizing i k with
  | nil => rfl
  | cons x xs ih => cases i with
    | zero => rfl
    | succ n => exact ih
/-! ### what is seen -/
theorem see_int {i : Int} {k : D → Prop} : seeK hp (.int i) k = k (.int i) := rfl
theorem see_bl {i : Bool} {k : D → Prop} : seeK hp (.bl i) k = k (.bl i) := rfl
theorem see_str {i : Str} {k : D → Prop} : seeK hp (.str i) k = k (.str i) := rfl
theorem see_non {k : D → Prop} : seeK hp .non k = k .non := rfl
theorem see_tup {l : List D} {k : D → Prop} : seeK hp (.tup l) k = k (.tup l) := rfl
theorem see_lst {l : List D} {k : D → Prop} : seeK hp (.lst l) k = k (.lst l) := rfl
theorem see_ext {l : List D} {k : D → Prop} : seeK hp (.ext l) k = k (.ext l) := rfl
theorem see_rng {l h : Int} {k : D → Prop} : seeK hp (.rng l h) k = k (.rng l h) := rfl
theorem see_ins {c : Nat} {l : List (Nat × D)} {k : D → Prop} : seeK hp (.ins c l) k = k (.ins c l) := rfl
def cellD : Cell → D
  | .lst xs => .lst xs
  | .ins c fs => .ins c fs
def hpK (h : List Cell) (i : Nat) (k : Cell → Prop) (_ : Is k := .mk) : Prop := ow h[i]? k
theorem see_cell {i : Nat} {k : D → Prop} : seeK hp (.cell i) k = hpK hp i fun c => k (cellD c) := by
  unfold seeK hpK
  show ow (match hp[i]? with
    | some (.lst xs) => some (D.lst xs)
    | some (.ins c fs) => some (.ins c fs)
    | none => none) k = _
  cases hp[i]? with
  | none => rfl
  | some c => cases c <;> rfl
theorem cellD_lst {l : List D} : cellD (.lst l) = .lst l := rfl
theorem cellD_ins {c : Nat} {l : List (Nat × D)} : cellD (.ins c l) = .ins c l := rfl
theorem hpK_0 {c : Cell} {k : Cell → Prop} : hpK (c :: hp) 0 k = k c := rfl
theorem hpK_end {c : Cell} {k : Cell → Prop} : hpK (hp ++ [c]) hp.length k = k c := by unfold hpK; simp [ow]
theorem get_dat {k : D → Prop} : getK s (.dat d) k = seeK s.hp d k := rfl
theorem get_sl {i : Nat} {k : D → Prop} : getK ⟨sl, hp⟩ (.sl i) k = lk sl i fun x => slotP hp x k := by
  rw [← lk_eq]
  unfold getK
  show ow (match sl[i]? with
    | some (.val d) => D.see hp d
    | some (.own xs) => some (.lst xs)
    | _ => none) k = _
  cases sl[i]? with
  | none => rfl
  | some x => cases x <;> rfl
theorem slotP_val {k : D → Prop} : slotP hp (.val d) k = seeK hp d k := rfl
theorem slotP_own {l : List D} {k : D → Prop} : slotP hp (.own l) k = k (.lst l) := rfl
theorem ow_get {p : P} {k : D → Prop} : ow (p.get s) k = getK s p k := rfl
/-! ### names -/
def varK (x : Slot) (i : Nat) (sl : List Slot) (hp : List Cell) (K : R → St → Prop) (_ : Is K := .mk) : Prop := match x with
  | .val d => K (.val d) ⟨sl, hp⟩
  | .own xs => stK sl i (.val (.lst xs)) fun l => K (.val (.lst xs)) ⟨l, hp⟩
  | _ => False
def varRK (x : Slot) (i : Nat) (sl : List Slot) (hp : List Cell) (K : R → St → Prop) (_ : Is K := .mk) : Prop := match x with
  | .val d => K (.val d) ⟨sl, hp⟩
  | .own xs => stK sl i .no fun l => K (.own xs) ⟨l, hp⟩
  | _ => False
def varPK (x : Slot) (A : Unit → Prop) (_ : Is A := .mk) : Prop := match x with
  | .val _ => A ()
  | .own _ => A ()
  | _ => False
theorem varK_val {i : Nat} : varK (.val d) i sl hp K = K (.val d) ⟨sl, hp⟩ := rfl
theorem varK_own {i : Nat} {l : List D} : varK (.own l) i sl hp K = stK sl i (.val (.lst l)) fun l' => K (.val (.lst l)) ⟨l', hp⟩ := rfl
theorem varRK_val {i : Nat} : varRK (.val d) i sl hp K = K (.val d) ⟨sl, hp⟩ := rfl
theorem varRK_own {i : Nat} {l : List D} : varRK (.own l) i sl hp K = stK sl i .no fun l' => K (.own l) ⟨l', hp⟩ := rfl
theorem varPK_val {A : Unit → Prop} : varPK (.val d) A = A () := rfl
theorem varPK_own {l : List D} {A : Unit → Prop} : varPK (.own l) A = A () := rfl
theorem x_var_v {i : Nat} : wp ((ev G (.var i)).v ⟨sl, hp⟩) K E' = lk sl i fun x => varK x i sl hp K := by
  rw [← lk_eq]
  show wp (match sl[i]? with
    | some (.val d) => .ok (.val d) ⟨sl, hp⟩
    | some (.own xs) => .ok (.val (.lst xs)) (St.put ⟨sl, hp⟩ i (.val (.lst xs)))
    | _ => .bad) K E' = _
  cases sl[i]? with
  | none => rfl
  | some x => cases x <;> first | rfl | (simp only [ow, varK, stK_eq]; rfl)
theorem x_var_p {i : Nat} : wp ((ev G (.var i)).p ⟨sl, hp⟩) KP E' = lk sl i fun x => varPK x fun _ => KP (.sl i) ⟨sl, hp⟩ := by
  rw [← lk_eq]
  show wp (match sl[i]? with
    | some (.val _) => .ok (.sl i) ⟨sl, hp⟩
    | some (.own _) => .ok (.sl i) ⟨sl, hp⟩
    | _ => .bad) KP E' = _
  cases sl[i]? with
  | none => rfl
  | some x => cases x <;> rfl
theorem x_var_t {i : Nat} : wp ((ev G (.var i)).t ⟨sl, hp⟩) KB E' = lk sl i fun x => slotP hp x fun d => ow (tru d) fun b => KB b ⟨sl, hp⟩ := by
  show wp (truthP (varP i ⟨sl, hp⟩)) KB E' = _
  unfold truthP
  rw [wp_bind]
  have e := x_var_p (G := G) (sl := sl) (hp := hp) (i := i) (E' := E') (KP := fun p s => wp (O.opt ((P.get s p).bind tru) s) KB E')
  have e2 : wp (varP i ⟨sl, hp⟩) (fun p s => wp (O.opt ((P.get s p).bind tru) s) KB E') E' = wp ((ev G (.var i)).p ⟨sl, hp⟩) (fun p s => wp (O.opt ((P.get s p).bind tru) s) KB E') E' := rfl
  rw [e2, e, ← lk_eq, ← lk_eq]
  cases h : sl[i]? with
  | none => rfl
  | some x =>
    have k : ∀ d, x = .val d ∨ (∃ l, x = .own l) → wp (O.opt ((P.get ⟨sl, hp⟩ (.sl i)).bind tru) ⟨sl, hp⟩) KB E' = slotP hp x fun d => ow (tru d) fun b => KB b ⟨sl, hp⟩ := fun d _ => by
      rw [wp_opt, ow_bind, ow_get, get_sl, ← lk_eq, h]
      rfl
    cases x with
    | no => rfl
    | val d => exact k d (.inl rfl)
    | own l => exact k .non (.inr ⟨l, rfl⟩)
    | exc _ => rfl
theorem x_ret_var {i : Nat} : wp (retV G (.var i) ⟨sl, hp⟩) K E' = lk sl i fun x => varRK x i sl hp K := by
  rw [← lk_eq]
  show wp (match sl[i]? with
    | some (.val d) => .ok (.val d) ⟨sl, hp⟩
    | some (.own xs) => .ok (.own xs) (St.put ⟨sl, hp⟩ i .no)
    | _ => .bad) K E' = _
  cases sl[i]? with
  | none => rfl
  | some x => cases x <;> first | rfl | (simp only [ow, varRK, stK_eq]; rfl)
theorem x_fz {v : St → O R} {K : D → St → Prop} : wp (fz v s) K E' = wp (v s) (fun r s => K r.d s) E' := by
  show wp ((v s).bind _) K E' = _
  rw [wp_bind]
  rfl
theorem x_den_p {v : St → O R} : wp ((den v).p s) KP E' = wp (v s) (fun r s => KP (.dat r.d) s) E' := by
  show wp ((v s).bind _) KP E' = _
  rw [wp_bind]
  rfl
theorem x_den_t {v : St → O R} : wp ((den v).t s) KB E' = wp (v s) (fun r s => seeK s.hp r.d fun d => ow (tru d) fun b => KB b s) E' := by
  show wp (((v s).bind _).bind _) KB E' = _
  rw [wp_bind, wp_bind]
  refine wp_cg fun r s => ?_
  show wp (O.opt ((P.get s (.dat r.d)).bind tru) s) KB E' = _
  rw [wp_opt, ow_bind]
  rfl
def negK (x : D) (k : Int → Prop) (_ : Is k := .mk) : Prop := match x with
  | .int i => k (-i)
  | _ => False
def intK (x : D) (k : Int → Prop) (_ : Is k := .mk) : Prop := match x with
  | .int i => k i
  | _ => False
def lstK (x : D) (k : List D → Prop) (_ : Is k := .mk) : Prop := match x with
  | .lst l => k l
  | _ => False
def insK (x : D) (k : Nat → List (Nat × D) → Prop) (_ : Is k := .mk) : Prop := match x with
  | .ins c fs => k c fs
  | _ => False
def excK (x : Slot) (k : X → Prop) (_ : Is k := .mk) : Prop := match x with
  | .exc x => k x
  | _ => False
def bigK (l : List D) (A : Unit → Prop) (_ : Is A := .mk) : Prop := if l.length ≤ big then A () else False
def fnK (f : Option (FnSem × List D)) (n : Nat) (ds : List D) (h : List Cell) (K : R → List Cell → Prop) (E : X → List Cell → Prop) (_ : Is (K, E) := .mk) : Prop := match f with
  | none => False
  | some (g, dfl) => if n ≤ dfl.length then fow (g (ds ++ dfl.drop (dfl.length - n)) h) K E else False
def mkK (f : Option FnSem) (ds : List D) (h : List Cell) (K : R → List Cell → Prop) (E : X → List Cell → Prop) (_ : Is (K, E) := .mk) : Prop := match f with
  | none => False
  | some g => fow (g ds h) K E
def imK (c e m : Nat) (fs : List (Nat × D)) (A : Unit → Prop) (_ : Is A := .mk) : Prop := if e = c ∧ (fs.lookup m).isNone then A () else False
def getsK (s : St) (ps : List P) (k : List D → Prop) (_ : Is k := .mk) : Prop := ow (gets s ps) k
def lcK (elt : St → O R) (ifs : St → O Bool) (tg : Tg) (ds : List D) (s0 : St) (K : R → St → Prop) (_ : Is K := .mk) : Prop := wp (runComp elt ifs tg tg.own s0.sl ds [] s0) (fun acc s2 => K (.own acc) ⟨unwipe s0.sl s2.sl tg.own, s2.hp⟩) fun _ _ => False
theorem wp_noExc {o : O α} {K : α → St → Prop} : wp (noExc o) K E' = wp o K fun _ _ => False := by cases o <;> rfl
theorem x_int_v {i : Int} : wp ((ev G (.int i)).v s) K E' = K (.val (.int i)) s := rfl
theorem x_int_p {i : Int} : wp ((ev G (.int i)).p s) KP E' = wp ((ev G (.int i)).v s) (fun r s => KP (.dat r.d) s) E' := x_den_p
theorem x_int_t {i : Int} : wp ((ev G (.int i)).t s) KB E' = wp ((ev G (.int i)).v s) (fun r s => seeK s.hp r.d fun d => ow (tru d) fun b => KB b s) E' := x_den_t
theorem x_bl_v {i : Bool} : wp ((ev G (.bl i)).v s) K E' = K (.val (.bl i)) s := rfl
theorem x_bl_p {i : Bool} : wp ((ev G (.bl i)).p s) KP E' = wp ((ev G (.bl i)).v s) (fun r s => KP (.dat r.d) s) E' := x_den_p
theorem x_bl_t {i : Bool} : wp ((ev G (.bl i)).t s) KB E' = wp ((ev G (.bl i)).v s) (fun r s => seeK s.hp r.d fun d => ow (tru d) fun b => KB b s) E' := x_den_t
theorem x_non_v  : wp ((ev G .non).v s) K E' = K (.val .non) s := rfl
theorem x_non_p  : wp ((ev G .non).p s) KP E' = wp ((ev G .non).v s) (fun r s => KP (.dat r.d) s) E' := x_den_p
theorem x_non_t  : wp ((ev G .non).t s) KB E' = wp ((ev G .non).v s) (fun r s => seeK s.hp r.d fun d => ow (tru d) fun b => KB b s) E' := x_den_t
theorem x_str_v {i : Str} : wp ((ev G (.str i)).v s) K E' = K (.val (.str i)) s := rfl
theorem x_str_p {i : Str} : wp ((ev G (.str i)).p s) KP E' = wp ((ev G (.str i)).v s) (fun r s => KP (.dat r.d) s) E' := x_den_p
theorem x_str_t {i : Str} : wp ((ev G (.str i)).t s) KB E' = wp ((ev G (.str i)).v s) (fun r s => seeK s.hp r.d fun d => ow (tru d) fun b => KB b s) E' := x_den_t
theorem x_bin_v {op : BOp} : wp ((ev G (.bin op a b)).v s) K E' = wp ((ev G a).p s) (fun p s => wp ((ev G b).p s) (fun q s => getK s p fun x => getK s q fun y => ow (binSem op x y) fun r => K r s) E') E' := by
  show wp (((ev G a).p s).bind _) K E' = _
  rw [wp_bind]; refine wp_cg fun p s => ?_; rw [wp_bind]; refine wp_cg fun q s => ?_; rw [wp_opt, ow_bind]; unfold getK; refine ow_cg fun x => ?_; rw [ow_bind]
theorem x_bin_p {op : BOp} : wp ((ev G (.bin op a b)).p s) KP E' = wp ((ev G (.bin op a b)).v s) (fun r s => KP (.dat r.d) s) E' := x_den_p
theorem x_bin_t {op : BOp} : wp ((ev G (.bin op a b)).t s) KB E' = wp ((ev G (.bin op a b)).v s) (fun r s => seeK s.hp r.d fun d => ow (tru d) fun b => KB b s) E' := x_den_t
theorem x_neg_v  : wp ((ev G (.neg a)).v s) K E' = wp ((ev G a).p s) (fun p s => getK s p fun x => negK x fun i => K (.val (.int i)) s) E' := by
  show wp (((ev G a).p s).bind _) K E' = _
  rw [wp_bind]; refine wp_cg fun p s => ?_; unfold getK
  cases P.get s p with
  | none => rfl
  | some x => cases x <;> rfl
theorem x_neg_p  : wp ((ev G (.neg a)).p s) KP E' = wp ((ev G (.neg a)).v s) (fun r s => KP (.dat r.d) s) E' := x_den_p
theorem x_neg_t  : wp ((ev G (.neg a)).t s) KB E' = wp ((ev G (.neg a)).v s) (fun r s => seeK s.hp r.d fun d => ow (tru d) fun b => KB b s) E' := x_den_t
theorem x_cmp_v {op : COp} : wp ((ev G (.cmp op a b)).v s) K E' = wp ((ev G a).p s) (fun p s => wp ((ev G b).p s) (fun q s => getK s p fun x => getK s q fun y => ow (cmpSem op x y) fun r => K (.val (.bl r)) s) E') E' := by
  show wp (((ev G a).p s).bind _) K E' = _
  rw [wp_bind]; refine wp_cg fun p s => ?_; rw [wp_bind]; refine wp_cg fun q s => ?_; rw [wp_opt, ow_bind]; unfold getK; refine ow_cg fun x => ?_; rw [ow_bind]; refine ow_cg fun y => ?_; rw [ow_map]
theorem x_cmp_p {op : COp} : wp ((ev G (.cmp op a b)).p s) KP E' = wp ((ev G (.cmp op a b)).v s) (fun r s => KP (.dat r.d) s) E' := x_den_p
theorem x_cmp_t {op : COp} : wp ((ev G (.cmp op a b)).t s) KB E' = wp ((ev G (.cmp op a b)).v s) (fun r s => seeK s.hp r.d fun d => ow (tru d) fun b => KB b s) E' := x_den_t
theorem x_chain_v {o o2 : COp} : wp ((ev G (.chain o o2 a b c)).v s) K E' = wp ((ev G a).p s) (fun p s => wp ((ev G b).p s) (fun q s => getK s p fun x => getK s q fun y => ow (cmpSem o x y) fun r => bK r (fun _ => wp ((ev G c).p s) (fun r s => getK s q fun y => getK s r fun z => ow (cmpSem o2 y z) fun b => K (.val (.bl b)) s) E') (fun _ => K (.val (.bl false)) s)) E') E' := by
  show wp (((ev G a).p s).bind _) K E' = _
  rw [wp_bind]; refine wp_cg fun p s => ?_; rw [wp_bind]; refine wp_cg fun q s => ?_; unfold getK
  cases P.get s p with
  | none => rfl
  | some x => cases P.get s q with
    | none => rfl
    | some y =>
      show wp (match cmpSem o x y with
        | none => O.bad
        | some false => .ok (.val (.bl false)) s
        | some true => ((ev G c).p s).bind fun r s => O.opt ((P.get s q).bind fun y => (P.get s r).bind fun z => (cmpSem o2 y z).map fun b => R.val (.bl b)) s) K E' = ow (cmpSem o x y) _
      cases cmpSem o x y with
      | none => rfl
      | some t => cases t with
        | false => rfl
        | true =>
          show wp (((ev G c).p s).bind _) K E' = wp _ _ E'
          rw [wp_bind]; refine wp_cg fun r s => ?_; rw [wp_opt, ow_bind]; refine ow_cg fun y => ?_; rw [ow_bind]; refine ow_cg fun z => ?_; rw [ow_map]
theorem x_chain_p {o o2 : COp} : wp ((ev G (.chain o o2 a b c)).p s) KP E' = wp ((ev G (.chain o o2 a b c)).v s) (fun r s => KP (.dat r.d) s) E' := x_den_p
theorem x_chain_t {o o2 : COp} : wp ((ev G (.chain o o2 a b c)).t s) KB E' = wp ((ev G (.chain o o2 a b c)).v s) (fun r s => seeK s.hp r.d fun d => ow (tru d) fun b => KB b s) E' := x_den_t
theorem x_tup_v  : wp ((ev G (.tup es)).v s) K E' = wp ((evs G es).v s) (fun ds s => bigK ds fun _ => K (.val (.tup ds)) s) E' := by
  show wp (((evs G es).v s).bind _) K E' = _
  rw [wp_bind]; refine wp_cg fun ds s => ?_; unfold bigK; split <;> simp_all [wp]
theorem x_tup_p  : wp ((ev G (.tup es)).p s) KP E' = wp ((ev G (.tup es)).v s) (fun r s => KP (.dat r.d) s) E' := x_den_p
theorem x_tup_t  : wp ((ev G (.tup es)).t s) KB E' = wp ((ev G (.tup es)).v s) (fun r s => seeK s.hp r.d fun d => ow (tru d) fun b => KB b s) E' := x_den_t
theorem x_lst_v  : wp ((ev G (.lst es)).v s) K E' = wp ((evs G es).v s) (fun ds s => bigK ds fun _ => K (.own ds) s) E' := by
  show wp (((evs G es).v s).bind _) K E' = _
  rw [wp_bind]; refine wp_cg fun ds s => ?_; unfold bigK; split <;> simp_all [wp]
theorem x_lst_p  : wp ((ev G (.lst es)).p s) KP E' = wp ((ev G (.lst es)).v s) (fun r s => KP (.dat r.d) s) E' := x_den_p
theorem x_lst_t  : wp ((ev G (.lst es)).t s) KB E' = wp ((ev G (.lst es)).v s) (fun r s => seeK s.hp r.d fun d => ow (tru d) fun b => KB b s) E' := x_den_t
theorem x_ix_v  : wp ((ev G (.ix a b)).v s) K E' = wp ((ev G a).p s) (fun p s => wp ((ev G b).p s) (fun q s => getK s p fun x => getK s q fun y => ow (ixSem x y) fun r => K (.val r) s) E') E' := by
  show wp (((ev G a).p s).bind _) K E' = _
  rw [wp_bind]; refine wp_cg fun p s => ?_; rw [wp_bind]; refine wp_cg fun q s => ?_; rw [wp_opt, ow_bind]; unfold getK; refine ow_cg fun x => ?_; rw [ow_bind]; refine ow_cg fun y => ?_; rw [ow_map]
theorem x_ix_p  : wp ((ev G (.ix a b)).p s) KP E' = wp ((ev G (.ix a b)).v s) (fun r s => KP (.dat r.d) s) E' := x_den_p
theorem x_ix_t  : wp ((ev G (.ix a b)).t s) KB E' = wp ((ev G (.ix a b)).v s) (fun r s => seeK s.hp r.d fun d => ow (tru d) fun b => KB b s) E' := x_den_t
theorem x_slc_v {lo hi : Op} : wp ((ev G (.slc a lo hi)).v s) K E' = wp ((ev G a).p s) (fun p s => wp (evo G lo s) (fun l s => wp (evo G hi s) (fun h s => getK s p fun x => ow (slcSem x l h) fun r => K r s) E') E') E' := by
  show wp (((ev G a).p s).bind _) K E' = _
  rw [wp_bind]; refine wp_cg fun p s => ?_; rw [wp_bind]; refine wp_cg fun q s => ?_; rw [wp_bind]; refine wp_cg fun h s => ?_; rw [wp_opt, ow_bind]; rfl
theorem x_slc_p {lo hi : Op} : wp ((ev G (.slc a lo hi)).p s) KP E' = wp ((ev G (.slc a lo hi)).v s) (fun r s => KP (.dat r.d) s) E' := x_den_p
theorem x_slc_t {lo hi : Op} : wp ((ev G (.slc a lo hi)).t s) KB E' = wp ((ev G (.slc a lo hi)).v s) (fun r s => seeK s.hp r.d fun d => ow (tru d) fun b => KB b s) E' := x_den_t
theorem x_rev_v  : wp ((ev G (.rev a)).v s) K E' = wp ((ev G a).p s) (fun p s => getK s p fun x => lstK x fun l => K (.own l.reverse) s) E' := by
  show wp (((ev G a).p s).bind _) K E' = _
  rw [wp_bind]; refine wp_cg fun p s => ?_; unfold getK
  cases P.get s p with
  | none => rfl
  | some x => cases x <;> rfl
theorem x_rev_p  : wp ((ev G (.rev a)).p s) KP E' = wp ((ev G (.rev a)).v s) (fun r s => KP (.dat r.d) s) E' := x_den_p
theorem x_rev_t  : wp ((ev G (.rev a)).t s) KB E' = wp ((ev G (.rev a)).v s) (fun r s => seeK s.hp r.d fun d => ow (tru d) fun b => KB b s) E' := x_den_t
def fldK (fa : Nat → Nat → Bool) (x : D) (f : Nat) (k : D → Prop) (_ : Is k := .mk) : Prop := insK x fun c fs => bK (fa c f) (fun _ => ow (fs.lookup f) k) fun _ => False
theorem fldK_ins {fa : Nat → Nat → Bool} {c f : Nat} {fs : List (Nat × D)} {k : D → Prop} : fldK fa (.ins c fs) f k = bK (fa c f) (fun _ => ow (fs.lookup f) k) fun _ => False := rfl
theorem x_fld_v {f : Nat} : wp ((ev G (.fld a f)).v s) K E' = wp ((ev G a).p s) (fun p s => getK s p fun x => fldK G.fa x f fun d => K (.val d) s) E' := by
  show wp (((ev G a).p s).bind _) K E' = _
  rw [wp_bind]; refine wp_cg fun p s => ?_; unfold getK
  cases P.get s p with
  | none => rfl
  | some x => cases x <;> first | rfl | skip
              rename_i c fs
              simp only [ow, insK, fldK]
              cases G.fa c f with
              | false => rfl
              | true =>
                rw [if_pos rfl, wp_opt, ow_map]
                simp only [bK, ow]
theorem x_fld_p {f : Nat} : wp ((ev G (.fld a f)).p s) KP E' = wp ((ev G (.fld a f)).v s) (fun r s => KP (.dat r.d) s) E' := x_den_p
theorem x_fld_t {f : Nat} : wp ((ev G (.fld a f)).t s) KB E' = wp ((ev G (.fld a f)).v s) (fun r s => seeK s.hp r.d fun d => ow (tru d) fun b => KB b s) E' := x_den_t
theorem x_call_v {f n : Nat} : wp ((ev G (.call f es n)).v s) K E' = wp ((evs G es).v s) (fun ds s => fnK (G.fn f) n ds s.hp (fun r h => K r ⟨s.sl, h⟩) (fun x h => E' x ⟨s.sl, h⟩)) E' := by
  show wp (((evs G es).v s).bind _) K E' = _
  rw [wp_bind]; refine wp_cg fun ds s => ?_; unfold fnK
  cases G.fn f with
  | none => rfl
  | some g =>
    obtain ⟨g, dfl⟩ := g
    show wp (if n ≤ dfl.length then callFn (some g) (ds ++ dfl.drop (dfl.length - n)) s else .bad) K E' = ite _ _ _
    split
    · unfold callFn fow; dsimp only; cases g (ds ++ dfl.drop (dfl.length - n)) s.hp <;> rfl
    · rfl
theorem x_call_p {f n : Nat} : wp ((ev G (.call f es n)).p s) KP E' = wp ((ev G (.call f es n)).v s) (fun r s => KP (.dat r.d) s) E' := x_den_p
theorem x_call_t {f n : Nat} : wp ((ev G (.call f es n)).t s) KB E' = wp ((ev G (.call f es n)).v s) (fun r s => seeK s.hp r.d fun d => ow (tru d) fun b => KB b s) E' := x_den_t
theorem x_mk_v {c : Nat} : wp ((ev G (.mk c es)).v s) K E' = wp ((evs G es).v s) (fun ds s => mkK (G.made c) ds s.hp (fun r h => K r ⟨s.sl, h⟩) (fun x h => E' x ⟨s.sl, h⟩)) E' := by
  show wp (((evs G es).v s).bind _) K E' = _
  rw [wp_bind]; refine wp_cg fun ds s => ?_; unfold mkK
  cases G.made c with
  | none => rfl
  | some g => unfold callFn fow; dsimp only; cases g ds s.hp <;> rfl
theorem x_mk_p {c : Nat} : wp ((ev G (.mk c es)).p s) KP E' = wp ((ev G (.mk c es)).v s) (fun r s => KP (.dat r.d) s) E' := x_den_p
theorem x_mk_t {c : Nat} : wp ((ev G (.mk c es)).t s) KB E' = wp ((ev G (.mk c es)).v s) (fun r s => seeK s.hp r.d fun d => ow (tru d) fun b => KB b s) E' := x_den_t
theorem x_bi_v {bi : Bi} : wp ((ev G (.bi bi es)).v s) K E' = wp ((evs G es).p s) (fun ps s => getsK s ps fun ds => ow (biSem bi ds) fun r => K r s) E' := by
  show wp (((evs G es).p s).bind _) K E' = _
  rw [wp_bind]; refine wp_cg fun ps s => ?_; rw [wp_opt, ow_bind]; rfl
theorem x_bi_p {bi : Bi} : wp ((ev G (.bi bi es)).p s) KP E' = wp ((ev G (.bi bi es)).v s) (fun r s => KP (.dat r.d) s) E' := x_den_p
theorem x_bi_t {bi : Bi} : wp ((ev G (.bi bi es)).t s) KB E' = wp ((ev G (.bi bi es)).v s) (fun r s => seeK s.hp r.d fun d => ow (tru d) fun b => KB b s) E' := x_den_t
theorem x_isi_v {t : Ty} : wp ((ev G (.isi t a)).v s) K E' = wp ((ev G a).p s) (fun p s => getK s p fun d => ow (isiRun G.ic t d) fun b => K (.val (.bl b)) s) E' := by
  show wp (((ev G a).p s).bind _) K E' = _
  rw [wp_bind]; refine wp_cg fun p s => ?_; rw [wp_opt, ow_bind]; unfold getK; refine ow_cg fun d => ?_; rw [ow_map]
theorem x_isi_p {t : Ty} : wp ((ev G (.isi t a)).p s) KP E' = wp ((ev G (.isi t a)).v s) (fun r s => KP (.dat r.d) s) E' := x_den_p
theorem x_isi_t {t : Ty} : wp ((ev G (.isi t a)).t s) KB E' = wp ((ev G (.isi t a)).v s) (fun r s => seeK s.hp r.d fun d => ow (tru d) fun b => KB b s) E' := x_den_t
theorem imK_ins {c m : Nat} {fs : List (Nat × D)} {A : Unit → Prop} : imK c c m fs A = bK (fs.lookup m).isNone (fun _ => A ()) fun _ => False := by
  unfold imK
  cases (fs.lookup m).isNone
  · simp [bK]
  · simp [bK]
theorem wp_lend {i : Nat} {xs : List D} (a : sl[i]? = some (.own xs))
    (w : wp ((ev G e).v ⟨sl.set i (.val (.cell hp.length)), hp ++ [.lst xs]⟩) (fun r s2 => ∃ sl2 hp2 ys, s2 = ⟨sl2, hp2 ++ [.lst ys]⟩ ∧ hp2.length = hp.length ∧ sl2[i]? = some (.val (.cell hp.length)) ∧ R.bel hp.length r = true ∧ D.bels hp.length ys = true ∧ hp2.all (Cell.below hp.length) = true ∧ (sl2.set i .no).all (Slot.bel hp.length) = true ∧ K r ⟨sl2.set i (.own ys), hp2⟩) fun _ _ => False) :
    wp ((ev G (.lend i e)).v ⟨sl, hp⟩) K E' := by
  show wp (lendV i (ev G e).v ⟨sl, hp⟩) K E'
  unfold lendV
  simp only [a]
  cases q : (ev G e).v ⟨sl.set i (.val (.cell hp.length)), hp ++ [.lst xs]⟩ with
  | bad => rw [q] at w; exact w.elim
  | exc _ _ => rw [q] at w; exact w.elim
  | ok r s2 =>
    rw [q] at w
    obtain ⟨sl2, hp2, ys, rfl, l, h1, h2, h3, h4, h5, h6⟩ := w
    have e1 : (hp2 ++ [Cell.lst ys])[hp.length]? = some (.lst ys) := by rw [← l]; simp
    have e2 : (hp2 ++ [Cell.lst ys]).take hp.length = hp2 := by rw [← l]; simp
    simp only [e1, h1, e2]
    rw [if_pos ⟨trivial, by simp [l], h2, h3, h4, h5⟩]
    exact h6
/-- .. to what leaves all as it was -/
theorem wp_lendP {i : Nat} {xs : List D} (a : sl[i]? = some (.own xs)) (bx : D.bels hp.length xs = true) (bh : hp.all (Cell.below hp.length) = true) (bs : (sl.set i .no).all (Slot.bel hp.length) = true)
    (w : wp ((ev G e).v ⟨sl.set i (.val (.cell hp.length)), hp ++ [.lst xs]⟩) (fun r s2 => s2 = ⟨sl.set i (.val (.cell hp.length)), hp ++ [.lst xs]⟩ ∧ R.bel hp.length r = true ∧ K r ⟨sl, hp⟩) fun _ _ => False) :
    wp ((ev G (.lend i e)).v ⟨sl, hp⟩) K E' := by
  have hi := (List.getElem?_eq_some_iff.mp a).1
  have h2 : ∀ y : Slot, (sl.set i y).set i (.own xs) = sl := fun y => by
    apply List.ext_getElem?
    intro j
    rw [List.getElem?_set, List.getElem?_set]
    by_cases e : i = j
    · subst e; rw [a]; simp [hi]
    · simp [e]
  refine wp_lend a ?_
  cases q : (ev G e).v ⟨sl.set i (.val (.cell hp.length)), hp ++ [.lst xs]⟩ with
  | bad => rw [q] at w; exact w.elim
  | exc _ _ => rw [q] at w; exact w.elim
  | ok r s2 =>
    rw [q] at w
    obtain ⟨rfl, w1, w2⟩ := w
    refine ⟨_, hp, xs, rfl, rfl, by simp [hi], w1, bx, bh, ?_, ?_⟩
    · simpa using bs
    · rw [h2]; exact w2
theorem x_lend_p {i : Nat} : wp ((ev G (.lend i e)).p s) KP E' = wp ((ev G (.lend i e)).v s) (fun r s => KP (.dat r.d) s) E' := by
  show wp (pOf (lendV i (ev G e).v) s) KP E' = wp (lendV i (ev G e).v s) _ E'
  unfold pOf
  rw [wp_bind]
  rfl
theorem x_im_v {c m : Nat} : wp ((ev G (.im c a m es)).v s) K E' = wp ((ev G a).v s) (fun r s => seeK s.hp r.d fun d => insK d fun e fs => imK c e m fs fun _ => wp ((evs G es).v s) (fun ds s => mkK (G.meth c m) (r.d :: ds) s.hp (fun r h => K r ⟨s.sl, h⟩) (fun x h => E' x ⟨s.sl, h⟩)) E') E' := by
  show wp ((fz (ev G a).v s).bind _) K E' = _
  rw [wp_bind, x_fz]; refine wp_cg fun r s => ?_; unfold seeK
  cases D.see s.hp r.d with
  | none => rfl
  | some x => cases x <;> first | rfl | skip
              rename_i e fs
              simp only [ow, insK, imK]
              split
              · rw [wp_bind]; refine wp_cg fun ds s => ?_; unfold mkK
                cases G.meth c m with
                | none => rfl
                | some g => unfold callFn fow; dsimp only; cases g (r.d :: ds) s.hp <;> rfl
              · rfl
theorem x_im_p {c m : Nat} : wp ((ev G (.im c a m es)).p s) KP E' = wp ((ev G (.im c a m es)).v s) (fun r s => KP (.dat r.d) s) E' := x_den_p
theorem x_im_t {c m : Nat} : wp ((ev G (.im c a m es)).t s) KB E' = wp ((ev G (.im c a m es)).v s) (fun r s => seeK s.hp r.d fun d => ow (tru d) fun b => KB b s) E' := x_den_t
theorem x_lm_v {m : LM} : wp ((ev G (.lm m a es)).v s) K E' = wp ((ev G a).p s) (fun p s => getK s p fun x => lstK x fun _ => wp ((evs G es).v s) (fun ds s => wp (lmRun m p ds s) K E') E') E' := by
  show wp (((ev G a).p s).bind _) K E' = _
  rw [wp_bind]; refine wp_cg fun p s => ?_; unfold getK
  cases P.get s p with
  | none => rfl
  | some x => cases x <;> first | rfl | skip
              show wp (((evs G es).v s).bind fun ds s => lmRun m p ds s) K E' = wp _ _ _
              rw [wp_bind]
theorem x_lm_p {m : LM} : wp ((ev G (.lm m a es)).p s) KP E' = wp ((ev G (.lm m a es)).v s) (fun r s => KP (.dat r.d) s) E' := x_den_p
theorem x_lm_t {m : LM} : wp ((ev G (.lm m a es)).t s) KB E' = wp ((ev G (.lm m a es)).v s) (fun r s => seeK s.hp r.d fun d => ow (tru d) fun b => KB b s) E' := x_den_t
theorem x_xf_v {i f : Nat} : wp ((ev G (.xf i f)).v s) K E' = lk s.sl i fun x => excK x fun x => bK (G.xa x.c f) (fun _ => ow (x.fs.lookup f) fun d => K (.val d) s) fun _ => False := by
  rw [← lk_eq]
  show wp (match s.sl[i]? with
    | some (.exc x) => if G.xa x.c f then O.opt ((x.fs.lookup f).map R.val) s else .bad
    | _ => .bad) K E' = _
  cases s.sl[i]? with
  | none => rfl
  | some x => cases x <;> first | rfl | skip
              rename_i x
              simp only [ow, excK]
              cases G.xa x.c f with
              | false => rfl
              | true =>
                rw [if_pos rfl, wp_opt, ow_map]
                simp only [bK, ow]
theorem x_xf_p {i f : Nat} : wp ((ev G (.xf i f)).p s) KP E' = wp ((ev G (.xf i f)).v s) (fun r s => KP (.dat r.d) s) E' := x_den_p
theorem x_xf_t {i f : Nat} : wp ((ev G (.xf i f)).t s) KB E' = wp ((ev G (.xf i f)).v s) (fun r s => seeK s.hp r.d fun d => ow (tru d) fun b => KB b s) E' := x_den_t
def blK (r : R) (k : Bool → Prop) (_ : Is k := .mk) : Prop := match r with
  | .val (.bl b) => k b
  | _ => False
theorem blK_bl {b : Bool} {k : Bool → Prop} : blK (.val (.bl b)) k = k b := rfl
theorem x_eqI_v {c m : Nat} : wp ((ev G (.eqI c m a b)).v s) K E' = wp ((ev G a).v s) (fun r s => wp ((ev G b).v s) (fun q s => seeK s.hp r.d fun x => seeK s.hp q.d fun y => insK x fun e _ => insK y fun e' _ => bK (decide (e = c ∧ e' = c)) (fun _ => mkK (G.meth c m) [r.d, q.d] s.hp (fun r h => blK r fun k => K (.val (.bl k)) ⟨s.sl, h⟩) fun _ _ => False) fun _ => False) E') E' := by
  show wp ((fz (ev G a).v s).bind _) K E' = _
  rw [wp_bind, x_fz]; refine wp_cg fun r s => ?_
  rw [wp_bind, x_fz]; refine wp_cg fun q s => ?_; unfold seeK
  cases D.see s.hp r.d with
  | none => rfl
  | some x => cases D.see s.hp q.d with
    | none => cases x <;> rfl
    | some y =>
      cases x <;> first | rfl | skip
      rename_i e fs
      cases y <;> first | rfl | skip
      rename_i e' fs'
      simp only [ow, insK]
      by_cases h : e = c ∧ e' = c
      · rw [if_pos h, decide_eq_true h, wp_bind, wp_noExc]
        unfold mkK
        cases G.meth c m with
        | none => rfl
        | some g =>
          show wp (callFn (some g) [r.d, q.d] s) _ _ = fow (g [r.d, q.d] s.hp) _ _
          unfold callFn fow; dsimp only
          cases g [r.d, q.d] s.hp with
          | bad => rfl
          | exc x h => rfl
          | ok r2 h =>
            show wp _ K E' = _
            cases r2 with
            | own l => rfl
            | val d => cases d <;> rfl
      · rw [if_neg h, decide_eq_false h]; rfl
theorem x_eqI_p {c m : Nat} : wp ((ev G (.eqI c m a b)).p s) KP E' = wp ((ev G (.eqI c m a b)).v s) (fun r s => KP (.dat r.d) s) E' := x_den_p
theorem x_eqI_t {c m : Nat} : wp ((ev G (.eqI c m a b)).t s) KB E' = wp ((ev G (.eqI c m a b)).v s) (fun r s => seeK s.hp r.d fun d => ow (tru d) fun b => KB b s) E' := x_den_t
theorem x_lenSet_v  : wp ((ev G (.lenSet a)).v s) K E' = wp ((ev G a).p s) (fun p s => getK s p fun x => ow (lenSetSem x) fun r => K r s) E' := by
  show wp (((ev G a).p s).bind _) K E' = _
  rw [wp_bind]; refine wp_cg fun p s => ?_; rw [wp_opt, ow_bind]; rfl
theorem x_lenSet_p  : wp ((ev G (.lenSet a)).p s) KP E' = wp ((ev G (.lenSet a)).v s) (fun r s => KP (.dat r.d) s) E' := x_den_p
theorem x_lenSet_t  : wp ((ev G (.lenSet a)).t s) KB E' = wp ((ev G (.lenSet a)).v s) (fun r s => seeK s.hp r.d fun d => ow (tru d) fun b => KB b s) E' := x_den_t
theorem x_rng1_v  : wp ((ev G (.rng1 a)).v s) K E' = wp ((ev G a).p s) (fun p s => getK s p fun x => intK x fun j => K (.val (.rng 0 j)) s) E' := by
  show wp (((ev G a).p s).bind _) K E' = _
  rw [wp_bind]; refine wp_cg fun p s => ?_; unfold getK
  cases P.get s p with
  | none => rfl
  | some x => cases x <;> rfl
theorem x_rng1_p  : wp ((ev G (.rng1 a)).p s) KP E' = wp ((ev G (.rng1 a)).v s) (fun r s => KP (.dat r.d) s) E' := x_den_p
theorem x_rng1_t  : wp ((ev G (.rng1 a)).t s) KB E' = wp ((ev G (.rng1 a)).v s) (fun r s => seeK s.hp r.d fun d => ow (tru d) fun b => KB b s) E' := x_den_t
theorem x_rng2_v  : wp ((ev G (.rng2 a b)).v s) K E' = wp ((ev G a).p s) (fun p s => wp ((ev G b).p s) (fun q s => getK s p fun x => getK s q fun y => intK x fun i => intK y fun j => K (.val (.rng i j)) s) E') E' := by
  show wp (((ev G a).p s).bind _) K E' = _
  rw [wp_bind]; refine wp_cg fun p s => ?_; rw [wp_bind]; refine wp_cg fun q s => ?_; unfold getK ints2
  cases P.get s p with
  | none => rfl
  | some x => cases P.get s q with
    | none => cases x <;> rfl
    | some y => cases x <;> cases y <;> rfl
theorem x_rng2_p  : wp ((ev G (.rng2 a b)).p s) KP E' = wp ((ev G (.rng2 a b)).v s) (fun r s => KP (.dat r.d) s) E' := x_den_p
theorem x_rng2_t  : wp ((ev G (.rng2 a b)).t s) KB E' = wp ((ev G (.rng2 a b)).v s) (fun r s => seeK s.hp r.d fun d => ow (tru d) fun b => KB b s) E' := x_den_t
theorem x_lc_v {elt : E} {tg : Tg} {src : Src} {ifs : Es} : wp ((ev G (.lc elt tg src ifs)).v s) K E' = wp (evr G src s) (fun ds s => lcK (ev G elt).v (evi G ifs) tg ds s K) E' := by
  show wp ((evr G src s).bind _) K E' = _
  rw [wp_bind]; refine wp_cg fun ds s => ?_; rw [wp_noExc, wp_bind]; rfl
theorem x_lc_p {elt : E} {tg : Tg} {src : Src} {ifs : Es} : wp ((ev G (.lc elt tg src ifs)).p s) KP E' = wp ((ev G (.lc elt tg src ifs)).v s) (fun r s => KP (.dat r.d) s) E' := x_den_p
theorem x_lc_t {elt : E} {tg : Tg} {src : Src} {ifs : Es} : wp ((ev G (.lc elt tg src ifs)).t s) KB E' = wp ((ev G (.lc elt tg src ifs)).v s) (fun r s => seeK s.hp r.d fun d => ow (tru d) fun b => KB b s) E' := x_den_t

/-! ### tests, choices -/
theorem x_not_v : wp ((ev G (.not a)).v s) K E' = wp ((ev G a).p s) (fun p s => getK s p fun d => ow (tru d) fun b => K (.val (.bl !b)) s) E' := by
  show wp ((truthP ((ev G a).p s)).bind _) K E' = _
  unfold truthP
  rw [wp_bind, wp_bind]; refine wp_cg fun p s => ?_; rw [wp_opt, ow_bind]; rfl
theorem x_not_t : wp ((ev G (.not a)).t s) KB E' = wp ((ev G a).t s) (fun b s => KB (!b) s) E' := by
  show wp (((ev G a).t s).bind _) KB E' = _
  rw [wp_bind]; rfl
theorem x_not_p : wp ((ev G (.not a)).p s) KP E' = wp ((ev G (.not a)).v s) (fun r s => KP (.dat r.d) s) E' := by
  show wp (((ev G (.not a)).v s).bind _) KP E' = _
  rw [wp_bind]; rfl
theorem wp_if {b : Bool} {x y : O α} {K : α → St → Prop} : wp (if b = true then x else y) K E' = bK b (fun _ => wp x K E') fun _ => wp y K E' := by cases b <;> rfl
theorem x_and_v : wp ((ev G (.and a b)).v s) K E' = wp ((ev G a).v s) (fun r s => seeK s.hp r.d fun z => ow (tru z) fun t => bK t (fun _ => wp ((ev G b).v s) (fun r s => K (.val r.d) s) E') fun _ => K (.val r.d) s) E' := by
  show wp ((fz (ev G a).v s).bind _) K E' = _
  rw [wp_bind, x_fz]; refine wp_cg fun r s => ?_; unfold seeK; rw [← ow_bind]
  generalize (D.see s.hp r.d).bind tru = o
  cases o with
  | none => rfl
  | some t => cases t with
    | false => rfl
    | true =>
      show wp ((fz (ev G b).v s).bind _) K E' = wp _ _ _
      rw [wp_bind, x_fz]; rfl
theorem x_and_t : wp ((ev G (.and a b)).t s) KB E' = wp ((ev G a).t s) (fun t s => bK t (fun _ => wp ((ev G b).t s) KB E') fun _ => KB false s) E' := by
  show wp (((ev G a).t s).bind _) KB E' = _
  rw [wp_bind]; refine wp_cg fun t s => ?_; rw [wp_if]; rfl
theorem x_and_p : wp ((ev G (.and a b)).p s) KP E' = wp ((ev G (.and a b)).v s) (fun r s => KP (.dat r.d) s) E' := by
  show wp (((ev G (.and a b)).v s).bind _) KP E' = _
  rw [wp_bind]; rfl
theorem x_or_v : wp ((ev G (.or a b)).v s) K E' = wp ((ev G a).v s) (fun r s => seeK s.hp r.d fun z => ow (tru z) fun t => bK t (fun _ => K (.val r.d) s) fun _ => wp ((ev G b).v s) (fun r s => K (.val r.d) s) E') E' := by
  show wp ((fz (ev G a).v s).bind _) K E' = _
  rw [wp_bind, x_fz]; refine wp_cg fun r s => ?_; unfold seeK; rw [← ow_bind]
  generalize (D.see s.hp r.d).bind tru = o
  cases o with
  | none => rfl
  | some t => cases t with
    | true => rfl
    | false =>
      show wp ((fz (ev G b).v s).bind _) K E' = wp _ _ _
      rw [wp_bind, x_fz]; rfl
theorem x_or_t : wp ((ev G (.or a b)).t s) KB E' = wp ((ev G a).t s) (fun t s => bK t (fun _ => KB true s) fun _ => wp ((ev G b).t s) KB E') E' := by
  show wp (((ev G a).t s).bind _) KB E' = _
  rw [wp_bind]; refine wp_cg fun t s => ?_; rw [wp_if]; rfl
theorem x_or_p : wp ((ev G (.or a b)).p s) KP E' = wp ((ev G (.or a b)).v s) (fun r s => KP (.dat r.d) s) E' := by
  show wp (((ev G (.or a b)).v s).bind _) KP E' = _
  rw [wp_bind]; rfl
theorem x_ite_v : wp ((ev G (.ite c a b)).v s) K E' = wp ((ev G c).t s) (fun t s => bK t (fun _ => wp ((ev G a).v s) K E') fun _ => wp ((ev G b).v s) K E') E' := by
  show wp (((ev G c).t s).bind _) K E' = _
  rw [wp_bind]; refine wp_cg fun t s => ?_; rw [wp_if]
theorem x_ite_t : wp ((ev G (.ite c a b)).t s) KB E' = wp ((ev G c).t s) (fun t s => bK t (fun _ => wp ((ev G a).t s) KB E') fun _ => wp ((ev G b).t s) KB E') E' := by
  show wp (((ev G c).t s).bind _) KB E' = _
  rw [wp_bind]; refine wp_cg fun t s => ?_; rw [wp_if]
theorem x_ite_p : wp ((ev G (.ite c a b)).p s) KP E' = wp ((ev G (.ite c a b)).v s) (fun r s => KP (.dat r.d) s) E' := by
  show wp (((ev G (.ite c a b)).v s).bind _) KP E' = _
  rw [wp_bind]; rfl
/-! ### rows of expressions, sources -/
section
variable {KL : List D → St → Prop} {KPs : List P → St → Prop}
theorem x_vnil : wp ((evs G .nil).v s) KL E' = KL [] s := rfl
theorem x_vcons : wp ((evs G (.cons a es)).v s) KL E' = wp ((ev G a).v s) (fun r s => wp ((evs G es).v s) (fun ds s => KL (r.d :: ds) s) E') E' := by
  show wp ((fz (ev G a).v s).bind _) KL E' = _
  rw [wp_bind, x_fz]; refine wp_cg fun r s => ?_; rw [wp_bind]; rfl
theorem x_pnil : wp ((evs G .nil).p s) KPs E' = KPs [] s := rfl
theorem x_pcons : wp ((evs G (.cons a es)).p s) KPs E' = wp ((ev G a).p s) (fun p s => wp ((evs G es).p s) (fun ps s => KPs (p :: ps) s) E') E' := by
  show wp (((ev G a).p s).bind _) KPs E' = _
  rw [wp_bind]; refine wp_cg fun r s => ?_; rw [wp_bind]; rfl
theorem gets_nil {k : List D → Prop} : getsK s [] k = k [] := rfl
theorem gets_cons {p : P} {ps : List P} {k : List D → Prop} : getsK s (p :: ps) k = getK s p fun d => getsK s ps fun ds => k (d :: ds) := by
  have e : gets s (p :: ps) = match p.get s, gets s ps with
    | some d, some ds => some (d :: ds)
    | _, _ => none := rfl
  unfold getsK getK
  rw [e]
  cases P.get s p with
  | none => rfl
  | some d => cases gets s ps <;> rfl
theorem x_inil : wp (evi G .nil s) KB E' = KB true s := rfl
theorem x_icons : wp (evi G (.cons a es) s) KB E' = wp ((ev G a).t s) (fun b s => bK b (fun _ => wp (evi G es s) KB E') fun _ => KB false s) E' := by
  show wp (((ev G a).t s).bind _) KB E' = _
  rw [wp_bind]; refine wp_cg fun t s => ?_; rw [wp_if]; rfl
theorem x_ono {KO : Option Int → St → Prop} : wp (evo G .no s) KO E' = KO none s := rfl
theorem x_oso {KO : Option Int → St → Prop} : wp (evo G (.so a) s) KO E' = wp ((ev G a).p s) (fun p s => getK s p fun x => intK x fun i => KO (some i) s) E' := by
  show wp (((ev G a).p s).bind _) KO E' = _
  rw [wp_bind]; refine wp_cg fun p s => ?_; unfold getK
  cases P.get s p with
  | none => rfl
  | some x => cases x <;> rfl
def walkK (p : P) (s : St) (K : List D → St → Prop) (_ : Is K := .mk) : Prop := wp (walkP p s) K fun _ _ => False
theorem wp_walk {p : P} : wp (walkP p s) KL E' = walkK p s KL := by
  unfold walkK walkP
  cases p with
  | dat d => show wp (O.opt d.items s) KL E' = wp (O.opt d.items s) KL _; cases d.items <;> rfl
  | sl i =>
    dsimp only
    cases s.sl[i]? with
    | none => rfl
    | some x => cases x with
      | val d => show wp (O.opt d.items s) KL E' = wp (O.opt d.items s) KL _; cases d.items <;> rfl
      | _ => rfl
theorem walk_dat : walkK (.dat d) s KL = ow d.items fun l => KL l s := wp_opt
def walkS (x : Slot) (i : Nat) (sl : List Slot) (hp : List Cell) (K : List D → St → Prop) (_ : Is K := .mk) : Prop := match x with
  | .val d => ow d.items fun l => K l ⟨sl, hp⟩
  | .own xs => stK sl i (.val (.lst xs)) fun l => K xs ⟨l, hp⟩
  | _ => False
theorem walkS_val {i : Nat} : walkS (.val d) i sl hp KL = ow d.items fun l => KL l ⟨sl, hp⟩ := rfl
theorem walkS_own {i : Nat} {l : List D} : walkS (.own l) i sl hp KL = stK sl i (.val (.lst l)) fun l' => KL l ⟨l', hp⟩ := rfl
theorem walk_sl {i : Nat} : walkK (.sl i) ⟨sl, hp⟩ KL = lk sl i fun x => walkS x i sl hp KL := by
  rw [← lk_eq]
  unfold walkK
  show wp (match sl[i]? with
    | some (.val d) => O.opt d.items ⟨sl, hp⟩
    | some (.own xs) => .ok xs (St.put ⟨sl, hp⟩ i (.val (.lst xs)))
    | _ => .bad) KL _ = _
  cases sl[i]? with
  | none => rfl
  | some x => cases x <;> first | rfl | (simp only [ow, walkS, stK_eq]; rfl) | (simp only [ow, walkS, wp_opt])
theorem x_seq : wp (evr G (.seq a) s) KL E' = wp ((ev G a).p s) (fun p s => walkK p s KL) E' := by
  show wp (((ev G a).p s).bind _) KL E' = _
  rw [wp_bind]; refine wp_cg fun p s => ?_; rw [wp_walk]
def smK (b : Bool) (A : Unit → Prop) (_ : Is A := .mk) : Prop := if b = true then A () else False
theorem x_r1 : wp (evr G (.r1 a) s) KL E' = wp ((ev G a).p s) (fun p s => getK s p fun x => intK x fun j => smK (small j) fun _ => KL (runRange 0 j.toNat) s) E' := by
  show wp (((ev G a).p s).bind _) KL E' = _
  rw [wp_bind]; refine wp_cg fun p s => ?_; unfold getK
  cases P.get s p with
  | none => rfl
  | some x => cases x <;> first | rfl | (simp only [ow, intK, smK]; split <;> rfl)
theorem x_r2 : wp (evr G (.r2 a b) s) KL E' = wp ((ev G a).p s) (fun p s => wp ((ev G b).p s) (fun q s => getK s p fun x => getK s q fun y => intK x fun i => intK y fun j => smK (small i && small j) fun _ => KL (runRange i (j - i).toNat) s) E') E' := by
  show wp (((ev G a).p s).bind _) KL E' = _
  rw [wp_bind]; refine wp_cg fun p s => ?_; rw [wp_bind]; refine wp_cg fun q s => ?_; unfold getK ints2
  cases P.get s p with
  | none => rfl
  | some x => cases P.get s q with
    | none => cases x <;> rfl
    | some y => cases x <;> cases y <;> first | rfl | (simp only [ow, intK, smK]; split <;> rfl)
def seqK (p : P) (s : St) (K : Bool × List D → St → Prop) (_ : Is K := .mk) : Prop := wp (seqP p s) K fun _ _ => False
theorem wp_seqP {p : P} {KS : Bool × List D → St → Prop} : wp (seqP p s) KS E' = seqK p s KS := by
  unfold seqK seqP
  cases p with
  | dat d => show wp (O.opt d.seq s) KS E' = wp (O.opt d.seq s) KS _; cases d.seq <;> rfl
  | sl i =>
    dsimp only
    cases s.sl[i]? with
    | none => rfl
    | some x => cases x with
      | val d => show wp (O.opt d.seq s) KS E' = wp (O.opt d.seq s) KS _; cases d.seq <;> rfl
      | _ => rfl
theorem seq_dat {KS : Bool × List D → St → Prop} : seqK (.dat d) s KS = ow d.seq fun l => KS l s := wp_opt
def seqS (x : Slot) (i : Nat) (sl : List Slot) (hp : List Cell) (K : Bool × List D → St → Prop) (_ : Is K := .mk) : Prop := match x with
  | .val d => ow d.seq fun l => K l ⟨sl, hp⟩
  | .own xs => stK sl i (.val (.lst xs)) fun l => K (false, xs) ⟨l, hp⟩
  | _ => False
theorem seqS_val {i : Nat} {KS : Bool × List D → St → Prop} : seqS (.val d) i sl hp KS = ow d.seq fun l => KS l ⟨sl, hp⟩ := rfl
theorem seqS_own {i : Nat} {l : List D} {KS : Bool × List D → St → Prop} : seqS (.own l) i sl hp KS = stK sl i (.val (.lst l)) fun l' => KS (false, l) ⟨l', hp⟩ := rfl
theorem seq_sl {i : Nat} {KS : Bool × List D → St → Prop} : seqK (.sl i) ⟨sl, hp⟩ KS = lk sl i fun x => seqS x i sl hp KS := by
  rw [← lk_eq]
  unfold seqK
  show wp (match sl[i]? with
    | some (.val d) => O.opt d.seq ⟨sl, hp⟩
    | some (.own xs) => .ok (false, xs) (St.put ⟨sl, hp⟩ i (.val (.lst xs)))
    | _ => .bad) KS _ = _
  cases sl[i]? with
  | none => rfl
  | some x => cases x <;> first | rfl | (simp only [ow, seqS, stK_eq]; rfl) | (simp only [ow, seqS, wp_opt])
theorem x_enum : wp (evr G (.enum a) s) KL E' = wp ((ev G a).p s) (fun p s => seqK p s fun k s => KL (runSeq k.2 0) s) E' := by
  show wp (((ev G a).p s).bind _) KL E' = _
  rw [wp_bind]; refine wp_cg fun p s => ?_; rw [wp_bind, wp_seqP]; rfl
theorem x_zip : wp (evr G (.zip a b) s) KL E' = wp ((ev G a).p s) (fun p s => wp ((ev G b).p s) (fun q s => seqK p s fun k s => seqK q s fun l s => bK (decide (k.1 = l.1)) (fun _ => KL (runZip k.2 l.2) s) fun _ => False) E') E' := by
  show wp (((ev G a).p s).bind _) KL E' = _
  rw [wp_bind]; refine wp_cg fun p s => ?_; rw [wp_bind]; refine wp_cg fun q s => ?_; rw [wp_bind, wp_seqP]; refine wp_cg fun k s => ?_; rw [wp_bind, wp_seqP]; refine wp_cg fun l s => ?_
  by_cases h : k.1 = l.1 <;> simp [h, bK, wp]
end
/-! ### statements -/
section
variable {x : S} {xs ys : Ss}
def fl (K : Flow → St → Prop) (A : St → Prop) (f : Flow) (s : St) : Prop := match f with
  | .next => A s
  | f => K f s
theorem fl_next {A : St → Prop} : fl KF A .next s = A s := rfl
theorem fl_brk {A : St → Prop} : fl KF A .brk s = KF .brk s := rfl
theorem fl_cont {A : St → Prop} : fl KF A .cont s = KF .cont s := rfl
theorem fl_ret {r : R} {A : St → Prop} : fl KF A (.ret r) s = KF (.ret r) s := rfl
theorem x_nil : wp (exs G .nil s) KF E' = KF .next s := rfl
theorem x_cons : wp (exs G (.cons x xs) s) KF E' = wp (ex G x s) (fl KF fun s => wp (exs G xs s) KF E') E' := by
  show wp ((ex G x s).bind _) KF E' = _
  rw [wp_bind]; refine wp_cg fun f s => ?_; cases f <;> rfl
def asgK (s : St) (i : Nat) (md : Md) (r : R) (A : St → Prop) (_ : Is A := .mk) : Prop := A (s.asg i md r)
theorem x_asg {i : Nat} {md : Md} {A : St → Prop} : wp (ex G (.asg i md a) s) (fl KF A) E' = wp ((ev G a).v s) (fun r s => asgK s i md r A) E' := by
  show wp (((ev G a).v s).bind _) _ E' = _
  rw [wp_bind]; rfl
theorem asg_val {i : Nat} {md : Md} {A : St → Prop} : asgK ⟨sl, hp⟩ i md (.val d) A = stK sl i (.val d) fun l => A ⟨l, hp⟩ := by rw [stK_eq]; rfl
theorem asg_own_val {i : Nat} {l : List D} {A : St → Prop} : asgK ⟨sl, hp⟩ i .val (.own l) A = stK sl i (.val (.lst l)) fun l' => A ⟨l', hp⟩ := by rw [stK_eq]; rfl
theorem asg_own_own {i : Nat} {l : List D} {A : St → Prop} : asgK ⟨sl, hp⟩ i .own (.own l) A = stK sl i (.own l) fun l' => A ⟨l', hp⟩ := by rw [stK_eq]; rfl
theorem asg_own_cell {i : Nat} {l : List D} {A : St → Prop} : asgK ⟨sl, hp⟩ i .cell (.own l) A = stK sl i (.val (.cell hp.length)) fun l' => A ⟨l', hp ++ [.lst l]⟩ := by rw [stK_eq]; rfl
def tgK (tg : Tg) (d : D) (s : St) (A : St → Prop) (_ : Is A := .mk) : Prop := ow (setTg tg d s) A
def putsR : List Nat → List D → List Slot → (List Slot → Prop) → Prop
  | [], [], sl, k => k sl
  | t :: ts, d :: ds, sl, k => stK sl t (.val d) fun l => putsR ts ds l k
  | _, _, _, _ => False
def putsK (ts : List Nat) (ds : List D) (sl : List Slot) (k : List Slot → Prop) (_ : Is k := .mk) : Prop := putsR ts ds sl k
theorem tg_name {i : Nat} {A : St → Prop} : tgK (.name i) d ⟨sl, hp⟩ A = stK sl i (.val d) fun l => A ⟨l, hp⟩ := by rw [stK_eq]; rfl
theorem puts_eq {A : St → Prop} : ∀ (ts : List Nat) (l : List D) (sl : List Slot), ow (if ts.length = l.length then some ((ts.zip l).foldl (fun s p => St.put s p.1 (.val p.2)) ⟨sl, hp⟩) else none) A = putsK ts l sl fun l => A ⟨l, hp⟩
  | [], [], _ => rfl
  | t :: ts, d :: ds, sl => by
    have := puts_eq (A := A) ts ds (sl.set t (.val d))
    unfold putsK putsR
    rw [stK_eq]
    show _ = putsK ts ds (sl.set t (.val d)) _
    rw [← this]
    simp only [List.length_cons, Nat.add_right_cancel_iff, List.zip_cons_cons, List.foldl_cons]
    rfl
  | [], _ :: _, _ => rfl
  | _ :: _, [], _ => rfl
theorem tg_tup {ts : List Nat} {l : List D} {A : St → Prop} : tgK (.tup ts) (.tup l) ⟨sl, hp⟩ A = putsK ts l sl fun l => A ⟨l, hp⟩ := puts_eq ts l sl
theorem puts_nil {k : List Slot → Prop} : putsK [] [] sl k = k sl := rfl
theorem puts_cons {t : Nat} {ts : List Nat} {ds : List D} {k : List Slot → Prop} : putsK (t :: ts) (d :: ds) sl k = stK sl t (.val d) fun l => putsK ts ds l k := rfl
theorem x_asgT {ts : List Nat} {A : St → Prop} : wp (ex G (.asgT ts a) s) (fl KF A) E' = wp ((ev G a).v s) (fun r s => tgK (.tup ts) r.d s A) E' := by
  show wp ((fz (ev G a).v s).bind _) _ E' = _
  rw [wp_bind, x_fz]; refine wp_cg fun r s => ?_; unfold tgK
  cases setTg (.tup ts) r.d s <;> rfl
theorem x_setIx {A : St → Prop} : wp (ex G (.setIx a b c) s) (fl KF A) E' = wp ((ev G c).v s) (fun r s => wp ((ev G a).p s) (fun p s => wp ((ev G b).p s) (fun q s => getK s q fun k => intK k fun k => wp (setIxRun p k r.d s) (fl KF A) E') E') E') E' := by
  show wp ((fz (ev G c).v s).bind _) _ E' = _
  rw [wp_bind, x_fz]; refine wp_cg fun r s => ?_; rw [wp_bind]; refine wp_cg fun p s => ?_; rw [wp_bind]; refine wp_cg fun q s => ?_; unfold getK
  cases P.get s q with
  | none => rfl
  | some k => cases k <;> rfl
def setFK (x : D) (f : Nat) (d : D) (G : Env) (s : St) (A : St → Prop) (_ : Is A := .mk) : Prop := match x with
  | .cell c => hpK s.hp c fun cl => (match cl with
    | .ins k fs => if fs.length < 900 ∧ G.fa k f = true then A ⟨s.sl, s.hp.set c (.ins k (putF f d fs))⟩ else False
    | _ => False)
  | _ => False
theorem x_setF {f : Nat} {A : St → Prop} : wp (ex G (.setF a f c) s) (fl KF A) E' = wp ((ev G c).v s) (fun r s => wp ((ev G a).v s) (fun x s => setFK x.d f r.d G s A) E') E' := by
  show wp ((fz (ev G c).v s).bind _) _ E' = _
  rw [wp_bind, x_fz]; refine wp_cg fun r s => ?_; rw [wp_bind, x_fz]; refine wp_cg fun x s => ?_
  cases hx : x.d <;> first | rfl | skip
  rename_i i
  unfold setFK hpK
  dsimp only
  cases s.hp[i]? with
  | none => rfl
  | some cl => cases cl with
    | lst _ => rfl
    | ins k fs =>
      simp only [ow]
      split <;> rfl
theorem setF_end {f k : Nat} {fs : List (Nat × D)} {A : St → Prop} (hl : fs.length < 900) (hf : G.fa k f = true) : setFK (.cell hp.length) f d G ⟨sl, hp ++ [.ins k fs]⟩ A = A ⟨sl, hp ++ [.ins k (putF f d fs)]⟩ := by
  unfold setFK
  simp only [hpK_end, hl, hf, and_self, if_true]
  simp
theorem x_ex {A : St → Prop} : wp (ex G (.ex a) s) (fl KF A) E' = wp ((ev G a).v s) (fun _ s => A s) E' := by
  show wp (((ev G a).v s).bind _) _ E' = _
  rw [wp_bind]; rfl
theorem x_ret {A : St → Prop} : wp (ex G (.ret a) s) (fl KF A) E' = wp (retV G a s) (fun r s => KF (.ret r) s) E' := by
  show wp ((retV G a s).bind _) _ E' = _
  rw [wp_bind]; rfl
theorem x_retN {A : St → Prop} : wp (ex G .retN s) (fl KF A) E' = KF (.ret (.val .non)) s := rfl
theorem x_if {A : St → Prop} : wp (ex G (.ite a xs ys) s) (fl KF A) E' = wp ((ev G a).t s) (fun t s => bK t (fun _ => wp (exs G xs s) (fl KF A) E') fun _ => wp (exs G ys s) (fl KF A) E') E' := by
  show wp (((ev G a).t s).bind _) _ E' = _
  rw [wp_bind]; refine wp_cg fun t s => ?_; rw [wp_if]
theorem x_for {tg : Tg} {src : Src} {A : St → Prop} : wp (ex G (.for_ tg src xs) s) (fl KF A) E' = wp (evr G src s) (fun ds s => wp (runFor (exs G xs) tg ds s) (fl KF A) E') E' := by
  show wp ((evr G src s).bind _) _ E' = _
  rw [wp_bind]
theorem x_whl {n : Nat} {A : St → Prop} : wp (ex G (.whl n a xs) s) (fl KF A) E' = wp (runWhl (ev G a).t (exs G xs) n s) (fl KF A) E' := rfl
theorem x_brk {A : St → Prop} : wp (ex G .brk s) (fl KF A) E' = KF .brk s := rfl
theorem x_cont {A : St → Prop} : wp (ex G .cont s) (fl KF A) E' = KF .cont s := rfl
theorem x_pass {A : St → Prop} : wp (ex G .pass s) (fl KF A) E' = A s := rfl
def xcK (o : Option (List Nat)) (c : Nat) (ds : List D) (k : X → Prop) (_ : Is k := .mk) : Prop := match o with
  | some fl => if fl.length = ds.length then k ⟨c, fl.zip ds⟩ else False
  | none => False
theorem x_raise {c : Nat} {A : St → Prop} : wp (ex G (.raise c es) s) (fl KF A) E' = wp ((evs G es).v s) (fun ds s => xcK (G.xc c) c ds fun x => E' x s) E' := by
  show wp (((evs G es).v s).bind _) _ E' = _
  rw [wp_bind]; refine wp_cg fun ds s => ?_; unfold xcK
  cases G.xc c with
  | none => rfl
  | some l => dsimp only; split <;> rfl
theorem x_try {hs : Hs} {A : St → Prop} : wp (ex G (.try_ xs hs) s) (fl KF A) E' = wp (exs G xs s) (fl KF A) fun x s => wp (exh G hs x s) (fl KF A) E' := by
  show wp (match exs G xs s with
    | .exc x s => exh G hs x s
    | o => o) _ E' = _
  cases exs G xs s <;> rfl
def clK (s : St) (A : Unit → Prop) (_ : Is A := .mk) : Prop := if s.clean = true then A () else False
theorem x_hnil {z : X} : wp (exh G .nil z s) KF E' = E' z s := rfl
def xkK (o : Option Bool) (A B : Unit → Prop) (_ : Is (A, B) := .mk) : Prop := match o with
  | none => False
  | some true => A ()
  | some false => B ()
theorem x_hconsN {c : Nat} {hs : Hs} {z : X} : wp (exh G (.cons c none xs hs) z s) KF E' = xkK (G.xk z.c c) (fun _ => wp (exs G xs s) (fun f s => clK s fun _ => KF f s) fun _ _ => False) fun _ => wp (exh G hs z s) KF E' := by
  show wp (match G.xk z.c c with
    | none => O.bad
    | some false => exh G hs z s
    | some true => (noExc (exs G xs s)).bind fun f s => if s.clean then .ok f s else .bad) KF E' = _
  cases G.xk z.c c with
  | none => rfl
  | some b => cases b with
    | false => rfl
    | true =>
      show wp ((noExc (exs G xs s)).bind _) KF E' = wp _ _ _
      rw [wp_bind, wp_noExc]; refine wp_cg fun f s => ?_; unfold clK; split <;> rfl
theorem x_hconsS {c i : Nat} {hs : Hs} {z : X} : wp (exh G (.cons c (some i) xs hs) z ⟨sl, hp⟩) KF E' = xkK (G.xk z.c c) (fun _ => stK sl i (.exc z) fun l => wp (exs G xs ⟨l, hp⟩) (fun f s => stK s.sl i .no fun l => clK ⟨l, s.hp⟩ fun _ => KF f ⟨l, s.hp⟩) fun _ _ => False) fun _ => wp (exh G hs z ⟨sl, hp⟩) KF E' := by
  show wp (match G.xk z.c c with
    | none => O.bad
    | some false => exh G hs z ⟨sl, hp⟩
    | some true => (noExc (exs G xs (St.put ⟨sl, hp⟩ i (.exc z)))).bind fun f s => if (s.put i .no).clean then .ok f (s.put i .no) else .bad) KF E' = _
  cases G.xk z.c c with
  | none => rfl
  | some b => cases b with
    | false => rfl
    | true =>
      show wp ((noExc (exs G xs (St.put ⟨sl, hp⟩ i (.exc z)))).bind _) KF E' = stK _ _ _ _
      rw [wp_bind, wp_noExc, stK_eq]
      show wp (exs G xs ⟨sl.set i (.exc z), hp⟩) _ _ = _
      refine wp_cg fun f s => ?_; rw [stK_eq]; unfold clK
      show wp (if (s.put i .no).clean = true then O.ok f (s.put i .no) else .bad) KF E' = if (St.clean (s.put i .no)) = true then KF f (s.put i .no) else False
      split <;> rfl
end
/-! ### a def -/
def entR : List D → Nat → (List Slot → Prop) → Prop
  | [], n, k => k (List.replicate n .no)
  | d :: ds, n, k => entR ds (n - 1) fun l => k (.val d :: l)
def entK (ds : List D) (n : Nat) (k : List Slot → Prop) (_ : Is k := .mk) : Prop := entR ds n k
theorem ent_eq : ∀ (ds : List D) (n : Nat) (k : List Slot → Prop), entK ds n k = k (ds.map .val ++ List.replicate (n - ds.length) .no)
  | [], n, k => rfl
  | d :: ds, n, k => by
    unfold entK entR
    show entK ds (n - 1) _ = _
    rw [ent_eq ds]
    simp only [List.map_cons, List.cons_append, List.length_cons]
    have e : n - 1 - ds.length = n - (ds.length + 1) := by omega
    rw [e]
def nosR : Nat → (List Slot → Prop) → Prop
  | 0, k => k []
  | n + 1, k => nosR n fun l => k (.no :: l)
def nos (n : Nat) (k : List Slot → Prop) (_ : Is k := .mk) : Prop := nosR n k
theorem nos_eq : ∀ (n : Nat) (k : List Slot → Prop), nos n k = k (List.replicate n .no)
  | 0, _ => rfl
  | n + 1, k => by unfold nos nosR; show nos n _ = _; rw [nos_eq n]; rfl
def fretK (f : Flow) (h : List Cell) (K : R → List Cell → Prop) : Prop := match f with
  | .next => K (.val .non) h
  | .ret r => K r h
  | _ => False
theorem fret_next {K : R → List Cell → Prop} : fretK .next hp K = K (.val .non) hp := rfl
theorem fret_ret {r : R} {K : R → List Cell → Prop} : fretK (.ret r) hp K = K r hp := rfl
theorem x_fn {np n : Nat} {body : Ss} {ds : List D} {K : R → List Cell → Prop} {E2 : X → List Cell → Prop} (h : ds.length = np) : fow (runFn G np n body ds hp) K E2 = entK ds n fun l => wp (exs G body ⟨l, hp⟩) (fun f s => fretK f s.hp K) fun x s => E2 x s.hp := by
  rw [ent_eq]
  unfold runFn
  rw [if_pos h]
  cases exs G body ⟨ds.map .val ++ List.replicate (n - ds.length) .no, hp⟩ with
  | bad => rfl
  | ok f s => cases f <;> rfl
  | exc x s => rfl
theorem ent_nil {n : Nat} {k : List Slot → Prop} : entK [] n k = nos n k := (nos_eq n k).symm
theorem ent_cons {n : Nat} {ds : List D} {k : List Slot → Prop} : entK (d :: ds) (n + 1) k = entK ds n fun l => k (.val d :: l) := rfl
theorem nos0 {k : List Slot → Prop} : nos 0 k = k [] := rfl
theorem nosS {n : Nat} {k : List Slot → Prop} : nos (n + 1) k = nos n fun l => k (.no :: l) := rfl
theorem fow_eq {o : Fo} {r : R} {h : List Cell} (w : fow o (fun r' h' => r' = r ∧ h' = h) fun _ _ => False) : o = .ok r h := by
  cases o with
  | bad => exact w.elim
  | ok r' h' => obtain ⟨rfl, rfl⟩ := w; rfl
  | exc _ _ => exact w.elim
theorem fow_mono {o : Fo} {K K' : R → List Cell → Prop} {E1 E2 : X → List Cell → Prop} (w : fow o K E1) (h : ∀ r h, K r h → K' r h) (h2 : ∀ x h, E1 x h → E2 x h) : fow o K' E2 := by
  cases o with
  | bad => exact w
  | ok r' h' => exact h _ _ w
  | exc _ _ => exact h2 _ _ w
theorem wp_mono {o : O α} {K K' : α → St → Prop} {E1 E2 : X → St → Prop} (w : wp o K E1) (h : ∀ r h, K r h → K' r h) (h2 : ∀ x h, E1 x h → E2 x h) : wp o K' E2 := by
  cases o with
  | bad => exact w
  | ok r' h' => exact h _ _ w
  | exc _ _ => exact h2 _ _ w
end
end MP
set_option Elab.async false
set_option linter.all false
set_option maxRecDepth 100000
set_option maxHeartbeats 4000000
/-! MPD: environments by lists; what data give; loops by invariants. -/
namespace MP
open PySem
/-- what one def leans on -/
structure EnvL where
  fn : List (Nat × FnSem × List D) := []
  mkl : List (Nat × FnSem) := []
  mtl : List ((Nat × Nat) × FnSem) := []
  xc : List (Nat × List Nat) := []
  xa : List (Nat × Nat) := []
  xn : List Nat := []
  xk : List ((Nat × Nat) × Bool) := []
  fa : List (Nat × Nat) := []
  ic : List Nat := []
def EnvL.env (d : EnvL) : Env where
  fn := fun f => d.fn.lookup f
  made := fun c => d.mkl.lookup c
  meth := fun c m => d.mtl.lookup (c, m)
  xc := fun c => d.xc.lookup c
  xa := fun c f => d.xa.contains (c, f)
  xn := fun c => d.xn.contains c
  xk := fun a b => d.xk.lookup (a, b)
  gl := fun _ => none
  fa := fun c f => d.fa.contains (c, f)
  ic := fun c => d.ic.contains c
section
variable {G : Env} {s : St} {sl : List Slot} {hp : List Cell} {a b c e : E} {es : Es} {x y d : D} {E' : X → St → Prop} {K : R → St → Prop} {KL : List D → St → Prop} {KF : Flow → St → Prop}
/-! ### small steps -/
theorem hp_mk : St.hp ⟨sl, hp⟩ = hp := rfl
theorem sl_mk : St.sl ⟨sl, hp⟩ = sl := rfl
theorem d_val : R.d (.val d) = d := rfl
theorem d_own {l : List D} : R.d (.own l) = .lst l := rfl
theorem negK_int {i : Int} {k : Int → Prop} : negK (.int i) k = k (-i) := rfl
theorem intK_int {i : Int} {k : Int → Prop} : intK (.int i) k = k i := rfl
theorem lstK_lst {l : List D} {k : List D → Prop} : lstK (.lst l) k = k l := rfl
theorem insK_ins {c : Nat} {l : List (Nat × D)} {k : Nat → List (Nat × D) → Prop} : insK (.ins c l) k = k c l := rfl
theorem excK_exc {z : X} {k : X → Prop} : excK (.exc z) k = k z := rfl
theorem bigK_of {l : List D} {A : Unit → Prop} (h : l.length ≤ big) : bigK l A = A () := by unfold bigK; rw [if_pos h]
theorem bigK_m {l : List D} {A : Unit → Prop} (h : l.length ≤ 1000000) : bigK l A = A () := bigK_of h
theorem bigK_nil {A : Unit → Prop} : bigK [] A = A () := bigK_of (Nat.zero_le _)
theorem bigK_1 {A : Unit → Prop} : bigK [x] A = A () := bigK_of (show 1 ≤ 1000000 by omega)
theorem bigK_2 {A : Unit → Prop} : bigK [x, y] A = A () := bigK_of (show 2 ≤ 1000000 by omega)
theorem bigK_3 {A : Unit → Prop} : bigK [x, y, d] A = A () := bigK_of (show 3 ≤ 1000000 by omega)
theorem bigK_4 {z : D} {A : Unit → Prop} : bigK [x, y, d, z] A = A () := bigK_of (show 4 ≤ 1000000 by omega)
theorem bigK_5 {z z2 : D} {A : Unit → Prop} : bigK [x, y, d, z, z2] A = A () := bigK_of (show 5 ≤ 1000000 by omega)
section
variable {g : FnSem} {dfl ds : List D} {K2 : R → List Cell → Prop} {E2 : X → List Cell → Prop}
theorem fnK0 : fnK (some (g, dfl)) 0 ds hp K2 E2 = fow (g ds hp) K2 E2 := by
  unfold fnK
  dsimp only
  rw [if_pos (Nat.zero_le _), Nat.sub_zero, List.drop_length, List.append_nil]
theorem fnK1 : fnK (some (g, [x])) 1 ds hp K2 E2 = fow (g (ds ++ [x]) hp) K2 E2 := rfl
theorem fnK12 : fnK (some (g, [x, y])) 1 ds hp K2 E2 = fow (g (ds ++ [y]) hp) K2 E2 := rfl
theorem fnK2 : fnK (some (g, [x, y])) 2 ds hp K2 E2 = fow (g (ds ++ [x, y]) hp) K2 E2 := rfl
theorem mkK_some : mkK (some g) ds hp K2 E2 = fow (g ds hp) K2 E2 := rfl
end
theorem xcK_1 {c f : Nat} {k : X → Prop} : xcK (some [f]) c [x] k = k ⟨c, [(f, x)]⟩ := rfl
theorem xcK_2 {c f g : Nat} {k : X → Prop} : xcK (some [f, g]) c [x, y] k = k ⟨c, [(f, x), (g, y)]⟩ := rfl
theorem xcK_3 {c f g h : Nat} {k : X → Prop} : xcK (some [f, g, h]) c [x, y, d] k = k ⟨c, [(f, x), (g, y), (h, d)]⟩ := rfl
theorem xcK_4 {c f g h i : Nat} {z : D} {k : X → Prop} : xcK (some [f, g, h, i]) c [x, y, d, z] k = k ⟨c, [(f, x), (g, y), (h, d), (i, z)]⟩ := rfl
theorem xcK_5 {c f g h i j : Nat} {z z2 : D} {k : X → Prop} : xcK (some [f, g, h, i, j]) c [x, y, d, z, z2] k = k ⟨c, [(f, x), (g, y), (h, d), (i, z), (j, z2)]⟩ := rfl
theorem xkK_t {A B : Unit → Prop} : xkK (some true) A B = A () := rfl
theorem xkK_f {A B : Unit → Prop} : xkK (some false) A B = B () := rfl
theorem clK_nil {A : Unit → Prop} : clK ⟨[], hp⟩ A = A () := rfl
theorem clK_val {A : Unit → Prop} : clK ⟨.val d :: sl, hp⟩ A = clK ⟨sl, hp⟩ A := rfl
theorem clK_own {l : List D} {A : Unit → Prop} : clK ⟨.own l :: sl, hp⟩ A = clK ⟨sl, hp⟩ A := rfl
theorem clK_no {A : Unit → Prop} : clK ⟨.no :: sl, hp⟩ A = clK ⟨sl, hp⟩ A := rfl
theorem smK_t {A : Unit → Prop} : smK true A = A () := rfl
theorem smK_of {j : Int} {A : Unit → Prop} (h : j.natAbs < 1000000) : smK (small j) A = A () := by unfold smK small; rw [if_pos (Nat.blt_eq.mpr h)]
/-! a test in words -/
theorem bK_pos {p : Prop} [Decidable p] {A B : Unit → Prop} (h : p) : bK (decide p) A B = A () := by rw [decide_eq_true h]; rfl
theorem bK_neg {p : Prop} [Decidable p] {A B : Unit → Prop} (h : ¬ p) : bK (decide p) A B = B () := by rw [decide_eq_false h]; rfl
theorem bK_split {t : Bool} {A B : Unit → Prop} (h1 : t = true → A ()) (h2 : t = false → B ()) : bK t A B := by
  cases t
  · exact h2 rfl
  · exact h1 rfl
theorem bK_dec {p : Prop} [Decidable p] {A B : Unit → Prop} (h1 : p → A ()) (h2 : ¬ p → B ()) : bK (decide p) A B := bK_split (fun h => h1 (of_decide_eq_true h)) fun h => h2 (of_decide_eq_false h)
/-! ### retV -/
theorem r_int {i : Int} : wp (retV G (.int i) s) K E' = wp ((ev G (.int i)).v s) K E' := rfl
theorem r_bl {i : Bool} : wp (retV G (.bl i) s) K E' = wp ((ev G (.bl i)).v s) K E' := rfl
theorem r_non : wp (retV G .non s) K E' = wp ((ev G .non).v s) K E' := rfl
theorem r_str {i : Str} : wp (retV G (.str i) s) K E' = wp ((ev G (.str i)).v s) K E' := rfl
theorem r_bin {op : BOp} : wp (retV G (.bin op a b) s) K E' = wp ((ev G (.bin op a b)).v s) K E' := rfl
theorem r_neg : wp (retV G (.neg a) s) K E' = wp ((ev G (.neg a)).v s) K E' := rfl
theorem r_not : wp (retV G (.not a) s) K E' = wp ((ev G (.not a)).v s) K E' := rfl
theorem r_cmp {op : COp} : wp (retV G (.cmp op a b) s) K E' = wp ((ev G (.cmp op a b)).v s) K E' := rfl
theorem r_chain {o o2 : COp} : wp (retV G (.chain o o2 a b c) s) K E' = wp ((ev G (.chain o o2 a b c)).v s) K E' := rfl
theorem r_and : wp (retV G (.and a b) s) K E' = wp ((ev G (.and a b)).v s) K E' := rfl
theorem r_or : wp (retV G (.or a b) s) K E' = wp ((ev G (.or a b)).v s) K E' := rfl
theorem r_ite : wp (retV G (.ite a b c) s) K E' = wp ((ev G (.ite a b c)).v s) K E' := rfl
theorem r_tup : wp (retV G (.tup es) s) K E' = wp ((ev G (.tup es)).v s) K E' := rfl
theorem r_lst : wp (retV G (.lst es) s) K E' = wp ((ev G (.lst es)).v s) K E' := rfl
theorem r_ix : wp (retV G (.ix a b) s) K E' = wp ((ev G (.ix a b)).v s) K E' := rfl
theorem r_slc {lo hi : Op} : wp (retV G (.slc a lo hi) s) K E' = wp ((ev G (.slc a lo hi)).v s) K E' := rfl
theorem r_rev : wp (retV G (.rev a) s) K E' = wp ((ev G (.rev a)).v s) K E' := rfl
theorem r_fld {f : Nat} : wp (retV G (.fld a f) s) K E' = wp ((ev G (.fld a f)).v s) K E' := rfl
theorem r_call {f n : Nat} : wp (retV G (.call f es n) s) K E' = wp ((ev G (.call f es n)).v s) K E' := rfl
theorem r_mk {f : Nat} : wp (retV G (.mk f es) s) K E' = wp ((ev G (.mk f es)).v s) K E' := rfl
theorem r_bi {f : Bi} : wp (retV G (.bi f es) s) K E' = wp ((ev G (.bi f es)).v s) K E' := rfl
theorem r_isi {t : Ty} : wp (retV G (.isi t a) s) K E' = wp ((ev G (.isi t a)).v s) K E' := rfl
theorem r_im {f m : Nat} : wp (retV G (.im f a m es) s) K E' = wp ((ev G (.im f a m es)).v s) K E' := rfl
theorem r_lm {m : LM} : wp (retV G (.lm m a es) s) K E' = wp ((ev G (.lm m a es)).v s) K E' := rfl
theorem r_lc {tg : Tg} {src : Src} {ifs : Es} : wp (retV G (.lc a tg src ifs) s) K E' = wp ((ev G (.lc a tg src ifs)).v s) K E' := rfl
theorem r_eqI {c m : Nat} : wp (retV G (.eqI c m a b) s) K E' = wp ((ev G (.eqI c m a b)).v s) K E' := rfl
theorem r_lenSet : wp (retV G (.lenSet a) s) K E' = wp ((ev G (.lenSet a)).v s) K E' := rfl
theorem r_xf {i f : Nat} : wp (retV G (.xf i f) s) K E' = wp ((ev G (.xf i f)).v s) K E' := rfl
/-! ### values -/
variable {i j : Int} {xs ys : List D}
theorem b_add : binSem .add (.int i) (.int j) = some (.val (.int (i + j))) := rfl
theorem b_sub : binSem .sub (.int i) (.int j) = some (.val (.int (i - j))) := rfl
theorem b_mul (h : i.natAbs < 2 ^ 64 ∨ j.natAbs < 2 ^ 64) : binSem .mul (.int i) (.int j) = some (.val (.int (i * j))) := if_pos h
theorem b_mod (h : 0 < j) : binSem .mod (.int i) (.int j) = some (.val (.int (i % j))) := if_pos h
theorem b_div (h : 0 < j ∧ j < 2 ^ 30) : binSem .div (.int i) (.int j) = some (.val (.int (i / j))) := if_pos h
theorem b_pow (h : 0 ≤ j ∧ j ≤ 1000000 ∧ i.natAbs < 2 ^ 64) : binSem .pow (.int i) (.int j) = some (.val (.int (i ^ j.toNat))) := if_pos h
theorem b_addL (h : xs.length + ys.length ≤ big) : binSem .add (.lst xs) (.lst ys) = some (.own (xs ++ ys)) := if_pos h
theorem b_addT (h : xs.length + ys.length ≤ big) : binSem .add (.tup xs) (.tup ys) = some (.val (.tup (xs ++ ys))) := if_pos h
theorem c_lt : cmpSem .lt (.int i) (.int j) = some (decide (i < j)) := rfl
theorem c_le : cmpSem .le (.int i) (.int j) = some (decide (i ≤ j)) := rfl
theorem c_gt : cmpSem .gt (.int i) (.int j) = some (decide (j < i)) := rfl
theorem c_ge : cmpSem .ge (.int i) (.int j) = some (decide (j ≤ i)) := rfl
theorem c_eq : cmpSem .eq (.int i) (.int j) = some (decide (i = j)) := by
  simp [cmpSem, D.fit, D.eqv]
  rfl
theorem c_ne : cmpSem .ne (.int i) (.int j) = some (!decide (i = j)) := by
  simp [cmpSem, D.fit, D.eqv]
  rfl
theorem c_isN_non : cmpSem .isN .non .non = some true := rfl
theorem c_isN_int : cmpSem .isN (.int i) .non = some false := rfl
theorem c_isN_str {i : Str} : cmpSem .isN (.str i) .non = some false := rfl
theorem c_isN_tup : cmpSem .isN (.tup xs) .non = some false := rfl
theorem c_isN_lst : cmpSem .isN (.lst xs) .non = some false := rfl
theorem c_notN_non : cmpSem .notN .non .non = some false := rfl
theorem c_notN_int : cmpSem .notN (.int i) .non = some true := rfl
theorem c_notN_str {i : Str} : cmpSem .notN (.str i) .non = some true := rfl
theorem c_notN_tup : cmpSem .notN (.tup xs) .non = some true := rfl
theorem c_notN_lst : cmpSem .notN (.lst xs) .non = some true := rfl
theorem tr_bl {t : Bool} : tru (.bl t) = some t := rfl
theorem tr_non : tru .non = some false := rfl
theorem tr_int : tru (.int i) = some (!decide (i = 0)) := rfl
theorem tr_tup : tru (.tup xs) = some (!xs.isEmpty) := rfl
theorem tr_lst : tru (.lst xs) = some (!xs.isEmpty) := rfl
theorem u_lenL : biSem .len [.lst xs] = some (.val (.int xs.length)) := rfl
theorem u_lenT : biSem .len [.tup xs] = some (.val (.int xs.length)) := rfl
theorem u_lenE : biSem .len [.ext xs] = some (.val (.int xs.length)) := rfl
theorem u_abs : biSem .abs [.int i] = some (.val (.int (if i < 0 then -i else i))) := rfl
theorem u_int : biSem .int [.int i] = some (.val (.int i)) := rfl
theorem u_tupL : biSem .tuple [.lst xs] = some (.val (.tup xs)) := rfl
theorem u_tupT : biSem .tuple [.tup xs] = some (.val (.tup xs)) := rfl
theorem u_lstL : biSem .list [.lst xs] = some (.own xs) := rfl
theorem u_lstT : biSem .list [.tup xs] = some (.own xs) := rfl
theorem u_max2 : biSem .max2 [.int i, .int j] = some (.val (.int (max i j))) := rfl
theorem u_min2 : biSem .min2 [.int i, .int j] = some (.val (.int (min i j))) := rfl
theorem q_lst : D.seq (.lst xs) = some (false, xs) := rfl
theorem q_tup : D.seq (.tup xs) = some (true, xs) := rfl
theorem q_ext : D.seq (.ext xs) = some (false, xs) := rfl
theorem w_lst : D.items (.lst xs) = some xs := rfl
theorem w_tup : D.items (.tup xs) = some xs := rfl
theorem w_ext : D.items (.ext xs) = some xs := rfl
theorem s_lst {lo hi : Option Int} : slcSem (.lst xs) lo hi = some (.own (cut xs lo hi)) := rfl
theorem s_tup {lo hi : Option Int} : slcSem (.tup xs) lo hi = some (.val (.tup (cut xs lo hi))) := rfl
theorem sIx_nat (n d k : Nat) : HT.sIx n d (some (k : Int)) = min k n := by
  show (if (k : Int) < 0 then ((k : Int) + (n : Int)).toNat else min (k : Int).toNat n) = min k n
  rw [if_neg (by omega), Int.toNat_natCast]
theorem cut_take {α : Type} (l : List α) (n : Nat) : cut l none (some (n : Int)) = l.take n := by
  unfold cut
  rw [sIx_nat]
  show (l.drop 0).take (min n l.length - 0) = _
  rw [List.drop_zero, Nat.sub_zero, List.take_eq_take_iff]
  omega
theorem cut_drop {α : Type} (l : List α) (n : Nat) : cut l (some (n : Int)) none = l.drop n := by
  unfold cut
  rw [sIx_nat]
  show (l.drop (min n l.length)).take (l.length - min n l.length) = _
  by_cases h : n ≤ l.length
  · rw [Nat.min_eq_left h, ← List.length_drop, List.take_length]
  · rw [Nat.min_eq_right (by omega), List.drop_length, List.drop_eq_nil_of_le (by omega), List.take_nil]
/-! ### rows of numbers -/
def ns (l : List Nat) : List D := l.map fun n : Nat => D.int (n : Int)
variable {l l2 : List Nat} {n m : Nat}
theorem ns_len : (ns l).length = l.length := by unfold ns; simp
theorem ns_app : ns (l ++ l2) = ns l ++ ns l2 := by unfold ns; simp
theorem ns_nil : ns [] = [] := rfl
theorem ns_cons : ns (n :: l) = .int n :: ns l := rfl
theorem ns_ints : D.ints (ns l) = some (l.map fun n : Nat => (n : Int)) := by
  induction l with
  | nil => rfl
  | cons n l ih => rw [ns_cons]; unfold D.ints; rw [ih]; rfl
theorem ns_get : (ns l)[n]? = (l[n]?).map fun n : Nat => D.int (n : Int) := by unfold ns; simp
theorem ns_inj : ∀ {l l2 : List Nat}, ns l = ns l2 → l = l2
  | [], [], _ => rfl
  | [], _ :: _, h => by cases h
  | _ :: _, [], h => by cases h
  | n :: l, m :: l2, h => by
    have h1 : D.int n = D.int m ∧ ns l = ns l2 := by simpa [ns_cons] using h
    have h2 : (n : Int) = m := by simpa using h1.1
    rw [ns_inj h1.2, Int.ofNat.inj h2]
theorem at_nat {α : Type} {xs : List α} : L2.atI xs (n : Int) = xs[n]? := by
  unfold L2.atI L2.ixN
  rw [if_pos (by omega)]
  by_cases h : n < xs.length
  · rw [if_pos (by omega)]; simp
  · rw [if_neg (by omega)]; simp; omega
theorem ix_lst : ixSem (.lst xs) (.int n) = xs[n]? := at_nat
theorem ix_tup : ixSem (.tup xs) (.int n) = xs[n]? := at_nat
theorem ix_lst0 : ixSem (.lst xs) (.int 0) = xs[0]? := at_nat (n := 0)
theorem ix_tup0 : ixSem (.tup xs) (.int 0) = xs[0]? := at_nat (n := 0)
theorem ix_lst1 : ixSem (.lst xs) (.int 1) = xs[1]? := at_nat (n := 1)
theorem ix_tup1 : ixSem (.tup xs) (.int 1) = xs[1]? := at_nat (n := 1)
theorem ix_tup2 : ixSem (.tup xs) (.int 2) = xs[2]? := at_nat (n := 2)
theorem ix_lst2 : ixSem (.lst xs) (.int 2) = xs[2]? := at_nat (n := 2)
theorem ix_lst3 : ixSem (.lst xs) (.int 3) = xs[3]? := at_nat (n := 3)
theorem ns_any {l : List Nat} {n : Nat} : ((ns l).any fun z => D.eqv z (.int n)) = decide (n ∈ l) := by
  induction l with
  | nil => simp [ns]
  | cons m l ih =>
    rw [ns_cons, List.any_cons, ih]
    have : D.eqv (.int m) (.int n) = decide (n = m) := by
      show ((m : Int) == (n : Int)) = _
      by_cases h : n = m
      · simp [h]
      · simp [h]; omega
    rw [this]
    simp [List.mem_cons]
theorem ns_flat {l : List Nat} : (ns l).all D.flat = true := by
  unfold ns
  simp [D.flat]
theorem in_lst : cmpSem .inn (.int n) (.lst (ns l)) = some (decide (n ∈ l)) := by
  show (if (true && (ns l).all D.flat) = true then some ((ns l).any fun z => D.eqv z (.int n)) else _) = _
  rw [ns_flat, Bool.and_self, if_pos rfl, ns_any]
theorem in_tup : cmpSem .inn (.int n) (.tup (ns l)) = some (decide (n ∈ l)) := by
  show (if (true && (ns l).all D.flat) = true then some ((ns l).any fun z => D.eqv z (.int n)) else _) = _
  rw [ns_flat, Bool.and_self, if_pos rfl, ns_any]
theorem nin_lst : cmpSem .nin (.int n) (.lst (ns l)) = some (!decide (n ∈ l)) := by
  show (cmpSem .inn (.int n) (.lst (ns l))).map _ = _
  rw [in_lst]; rfl
theorem nin_tup : cmpSem .nin (.int n) (.tup (ns l)) = some (!decide (n ∈ l)) := by
  show (cmpSem .inn (.int n) (.tup (ns l))).map _ = _
  rw [in_tup]; rfl
theorem range_len {lo : Int} : (runRange lo n).length = n := by
  induction n generalizing lo with
  | zero => rfl
  | succ n ih => simp [runRange, ih]
theorem range_ns {n k : Nat} : runRange (k : Int) n = ns (List.range' k n) := by
  induction n generalizing k with
  | zero => rfl
  | succ n ih =>
    show D.int k :: runRange ((k : Int) + 1) n = _
    rw [List.range'_succ, ns_cons, ← ih]
    rfl
theorem range0 {n : Nat} : runRange 0 n = ns (List.range n) := by
  rw [List.range_eq_range']
  exact range_ns (k := 0)
theorem small_nat (h : n < 1000000) : small (n : Int) = true := by
  unfold small
  exact Nat.blt_eq.mpr (by omega)
theorem smK_nat {A : Unit → Prop} (h : n < 1000000) : smK (small (n : Int)) A = A () := by rw [small_nat h]; rfl
/-! ### methods of lists -/
def apK (x : Slot) (i : Nat) (d : D) (sl : List Slot) (hp : List Cell) (K : R → St → Prop) (_ : Is K := .mk) : Prop := match x with
  | .own l => if l.length < big then stK sl i (.own (l ++ [d])) fun sl' => K (.val .non) ⟨sl', hp⟩ else False
  | .val (.cell j) => hpK hp j fun c => (match c with
    | .lst l => if l.length < big then K (.val .non) ⟨sl, hp.set j (.lst (l ++ [d]))⟩ else False
    | _ => False)
  | _ => False
theorem lm_append {i : Nat} : wp (lmRun .append (.sl i) [d] ⟨sl, hp⟩) K E' = lk sl i fun x => apK x i d sl hp K := by
  rw [← lk_eq]
  show wp (match sl[i]? with
      | some (.own xs) => (match lmSem .append xs [d] with
        | some (ys, d) => .ok (.val d) (St.put ⟨sl, hp⟩ i (.own ys))
        | none => .bad)
      | some (.val (.cell j)) => (match hp[j]? with
        | some (.lst xs) => (match lmSem .append xs [d] with
          | some (ys, d) => .ok (.val d) ⟨sl, hp.set j (.lst ys)⟩
          | none => .bad)
        | _ => .bad)
      | some (.val (.lst xs)) => (match LM.append, lmSem .append xs [d] with
        | .index, some (_, d) => .ok (.val d) ⟨sl, hp⟩
        | _, _ => .bad)
      | _ => .bad) K E' = _
  cases sl[i]? with
  | none => rfl
  | some x => cases x with
    | own l =>
      simp only [lmSem, ow, apK]
      by_cases h : l.length < big
      · simp only [if_pos h, stK_eq]; rfl
      · simp only [if_neg h]; rfl
    | val d2 => cases d2 with
      | cell j =>
        simp only [ow, apK, hpK]
        cases hp[j]? with
        | none => rfl
        | some c => cases c with
          | ins _ _ => rfl
          | lst l =>
            simp only [lmSem]
            by_cases h : l.length < big
            · simp only [if_pos h]; rfl
            · simp only [if_neg h]; rfl
      | lst l => rfl
      | _ => rfl
    | no => rfl
    | exc _ => rfl
theorem apK_own {i : Nat} {l : List D} (h : l.length < big) : apK (.own l) i d sl hp K = stK sl i (.own (l ++ [d])) fun sl' => K (.val .non) ⟨sl', hp⟩ := if_pos h
theorem wp_lm {m : LM} {i : Nat} {l ys : List D} {ds : List D} (a : sl[i]? = some (.own l)) (e : lmSem m l ds = some (ys, d)) (w : K (.val d) ⟨sl.set i (.own ys), hp⟩) : wp (lmRun m (.sl i) ds ⟨sl, hp⟩) K E' := by
  show wp (match sl[i]? with
      | some (.own xs) => (match lmSem m xs ds with
        | some (ys, d) => .ok (.val d) (St.put ⟨sl, hp⟩ i (.own ys))
        | none => .bad)
      | some (.val (.cell j)) => (match hp[j]? with
        | some (.lst xs) => (match lmSem m xs ds with
          | some (ys, d) => .ok (.val d) ⟨sl, hp.set j (.lst ys)⟩
          | none => .bad)
        | _ => .bad)
      | some (.val (.lst xs)) => (match m, lmSem m xs ds with
        | .index, some (_, d) => .ok (.val d) ⟨sl, hp⟩
        | _, _ => .bad)
      | _ => .bad) K E'
  rw [a]
  dsimp only
  rw [e]
  exact w
theorem pop_at {l : List D} {v : Nat} {x : D} (h : l[v]? = some x) : lmSem .popAt l [.int v] = some (l.eraseIdx v, x) := by
  have hv := (List.getElem?_eq_some_iff.mp h).1
  have e : L2.ixN l.length (v : Int) = some v := by
    unfold L2.ixN
    rw [if_pos (by omega), if_pos (by omega), Int.toNat_natCast]
  show (match L2.ixN l.length (v : Int) with
    | some j => (l[j]?).map fun d => (l.eraseIdx j, d)
    | none => none) = _
  rw [e]
  dsimp only
  rw [h]
  rfl
def ixK (x : Slot) (i : Nat) (k : Int) (d : D) (sl : List Slot) (hp : List Cell) (K : Flow → St → Prop) (_ : Is K := .mk) : Prop := match x with
  | .own l => ow (L2.ixN l.length k) fun j => stK sl i (.own (l.set j d)) fun sl' => K .next ⟨sl', hp⟩
  | .val (.cell c) => hpK hp c fun cl => (match cl with
    | .lst l => ow (L2.ixN l.length k) fun j => K .next ⟨sl, hp.set c (.lst (l.set j d))⟩
    | _ => False)
  | _ => False
theorem set_ix {i : Nat} {k : Int} : wp (setIxRun (.sl i) k d ⟨sl, hp⟩) KF E' = lk sl i fun x => ixK x i k d sl hp KF := by
  rw [← lk_eq]
  show wp (match sl[i]? with
    | some (.own xs) => (match L2.ixN xs.length k with
      | some j => .ok .next (St.put ⟨sl, hp⟩ i (.own (xs.set j d)))
      | none => .bad)
    | some (.val (.cell c)) => (match hp[c]? with
      | some (.lst xs) => (match L2.ixN xs.length k with
        | some j => .ok .next ⟨sl, hp.set c (.lst (xs.set j d))⟩
        | none => .bad)
      | _ => .bad)
    | _ => .bad) KF E' = _
  cases sl[i]? with
  | none => rfl
  | some x => cases x with
    | own l =>
      simp only [ow, ixK]
      cases L2.ixN l.length k with
      | none => rfl
      | some j => simp only [stK_eq]; rfl
    | val d2 => cases d2 with
      | cell c =>
        simp only [ow, ixK, hpK]
        cases hp[c]? with
        | none => rfl
        | some cl => cases cl with
          | ins _ _ => rfl
          | lst l => dsimp only; cases L2.ixN l.length k <;> rfl
      | _ => rfl
    | no => rfl
    | exc _ => rfl
theorem ixK_own {i : Nat} {l : List D} {k : Int} : ixK (.own l) i k d sl hp KF = ow (L2.ixN l.length k) fun j => stK sl i (.own (l.set j d)) fun sl' => KF .next ⟨sl', hp⟩ := rfl
theorem ixN_nat (h : n < m) : L2.ixN m (n : Int) = some n := by
  unfold L2.ixN
  rw [if_pos (by omega), if_pos (by omega)]
  simp
theorem ixK_cell {i : Nat} {l : List D} {k : Int} {h : List Cell} : ixK (.val (.cell 0)) i k d sl (.lst l :: h) KF = ow (L2.ixN l.length k) fun j => KF .next ⟨sl, .lst (l.set j d) :: h⟩ := rfl
theorem ixN_0 (h : 0 < m) : L2.ixN m 0 = some 0 := ixN_nat h
theorem ixN_1 (h : 1 < m) : L2.ixN m 1 = some 1 := ixN_nat h
theorem ixN_2 (h : 2 < m) : L2.ixN m 2 = some 2 := ixN_nat h
theorem ixN_3 (h : 3 < m) : L2.ixN m 3 = some 3 := ixN_nat h
theorem ow_of {α : Type} {o : Option α} {z : α} {k : α → Prop} (h : o = some z) (w : k z) : ow o k := by rw [h]; exact w
theorem fow_of {o : Fo} {r : R} {h : List Cell} {K2 : R → List Cell → Prop} {E2 : X → List Cell → Prop} (e : o = .ok r h) (w : K2 r h) : fow o K2 E2 := by rw [e]; exact w
theorem fow_exc_eq {o : Fo} {x : X} {h : List Cell} (w : fow o (fun _ _ => False) fun x' h' => x' = x ∧ h' = h) : o = .exc x h := by
  cases o with
  | bad => exact w.elim
  | ok _ _ => exact w.elim
  | exc _ _ => obtain ⟨rfl, rfl⟩ := w; rfl
theorem pick {l : List Nat} {v : Nat} (h : v < l.length) : ∃ c, (ns l)[v]? = some (.int (c : Nat)) ∧ c ∈ l := ⟨l[v], by rw [ns_get, List.getElem?_eq_getElem h]; rfl, List.getElem_mem h⟩
/-! ### loops -/
def flK (P : St → Prop) (KF : Flow → St → Prop) (f : Flow) (s : St) : Prop := match f with
  | .next => P s
  | .cont => P s
  | .brk => KF .next s
  | .ret r => KF (.ret r) s
theorem flK_next {P : St → Prop} : flK P KF .next s = P s := rfl
theorem flK_cont {P : St → Prop} : flK P KF .cont s = P s := rfl
theorem flK_brk {P : St → Prop} : flK P KF .brk s = KF .next s := rfl
theorem flK_ret {P : St → Prop} {r : R} : flK P KF (.ret r) s = KF (.ret r) s := rfl
theorem wp_for {α : Type} {en : α → D} {l : List α} {bd : St → O Flow} {tg : Tg} (I : List α → St → Prop) (h0 : I [] s) (fin : ∀ s, I l s → KF .next s)
    (step : ∀ pre x suf s, l = pre ++ x :: suf → I pre s → tgK tg (en x) s fun s1 => wp (bd s1) (flK (I (pre ++ [x])) KF) E') : wp (runFor bd tg (l.map en) s) KF E' := by
  have key : ∀ suf pre s, l = pre ++ suf → I pre s → wp (runFor bd tg (suf.map en) s) KF E' := by
    intro suf
    induction suf with
    | nil =>
      intro pre s e h
      rw [List.append_nil] at e
      subst e
      exact fin s h
    | cons x suf ih =>
      intro pre s e h
      have h1 := step pre x suf s e h
      rw [List.map_cons, runFor]
      unfold tgK at h1
      cases q : setTg tg (en x) s with
      | none => rw [q] at h1; exact h1.elim
      | some s1 =>
        rw [q] at h1
        dsimp only
        rw [wp_bind]
        refine wp_mono (E1 := E') h1 (fun f s2 h2 => ?_) fun _ _ h => h
        cases f with
        | next => exact ih (pre ++ [x]) s2 (by rw [e]; simp) h2
        | cont => exact ih (pre ++ [x]) s2 (by rw [e]; simp) h2
        | brk => exact h2
        | ret r => exact h2
  exact key l [] s rfl h0
/-- the first item for which something is handed back -/
theorem wp_forF {α β : Type} {en : α → D} {l : List α} {bd : St → O Flow} {tg : Tg} (f : α → Option β) (J : St → Prop) (h0 : J s) (fin : l.findSome? f = none → ∀ s, J s → KF .next s)
    (step : ∀ x s, x ∈ l → J s → tgK tg (en x) s fun s1 => wp (bd s1) (flK (fun s => f x = none ∧ J s) fun fl s => ∃ b, f x = some b ∧ (l.findSome? f = some b → KF fl s)) E') : wp (runFor bd tg (l.map en) s) KF E' := by
  refine wp_for (fun pre s => (∀ y ∈ pre, f y = none) ∧ J s) ⟨by simp, h0⟩ (fun s h => fin (List.findSome?_eq_none_iff.mpr h.1) s h.2) ?_
  rintro pre x suf s el ⟨h1, h2⟩
  have hx : x ∈ l := by rw [el]; simp
  have h3 := step x s hx h2
  unfold tgK at h3 ⊢
  cases q : setTg tg (en x) s with
  | none => rw [q] at h3; exact h3.elim
  | some s1 =>
    rw [q] at h3
    refine wp_mono (E1 := E') h3 (fun fl s2 h4 => ?_) fun _ _ h => h
    have none_ : f x = none ∧ J s2 → (∀ y ∈ pre ++ [x], f y = none) ∧ J s2 := fun h => ⟨fun y hy => by
      rcases List.mem_append.mp hy with z | z
      · exact h1 y z
      · rw [List.mem_singleton.mp z]; exact h.1, h.2⟩
    have some_ : ∀ b, f x = some b → l.findSome? f = some b := fun b hb => by
      rw [el, List.findSome?_append, List.findSome?_eq_none_iff.mpr h1]
      simp [hb]
    cases fl with
    | next => exact none_ h4
    | cont => exact none_ h4
    | brk => obtain ⟨b, e, w⟩ := h4; exact w (some_ b e)
    | ret r => obtain ⟨b, e, w⟩ := h4; exact w (some_ b e)
theorem wp_forD {ds : List D} {bd : St → O Flow} {tg : Tg} (I : List D → St → Prop) (h0 : I [] s) (fin : ∀ s, I ds s → KF .next s)
    (step : ∀ pre x suf s, ds = pre ++ x :: suf → I pre s → tgK tg x s fun s1 => wp (bd s1) (flK (I (pre ++ [x])) KF) E') : wp (runFor bd tg ds s) KF E' := by
  have := wp_for (en := id) (l := ds) (bd := bd) (tg := tg) (s := s) (KF := KF) (E' := E') I h0 fin step
  rwa [List.map_id] at this
theorem wp_forN {l : List Nat} {bd : St → O Flow} {tg : Tg} (I : List Nat → St → Prop) (h0 : I [] s) (fin : ∀ s, I l s → KF .next s)
    (step : ∀ (pre : List Nat) (x : Nat) (suf : List Nat) (s : St), l = pre ++ x :: suf → I pre s → tgK tg (.int x) s fun s1 => wp (bd s1) (flK (I (pre ++ [x])) KF) E') : wp (runFor bd tg (ns l) s) KF E' := wp_for (en := fun n : Nat => D.int n) I h0 fin step
/-- by places -/
theorem wp_forI {ds : List D} {bd : St → O Flow} {tg : Tg} (I : Nat → St → Prop) (h0 : I 0 s) (fin : ∀ s, I ds.length s → KF .next s)
    (step : ∀ (i : Nat) (d : D) (s : St), ds[i]? = some d → I i s → tgK tg d s fun s1 => wp (bd s1) (flK (I (i + 1)) KF) E') : wp (runFor bd tg ds s) KF E' := by
  refine wp_forD (fun pre => I pre.length) h0 fin fun pre x suf s e h => ?_
  have := step pre.length x s (by rw [e]; simp) h
  have l : (pre ++ [x]).length = pre.length + 1 := by simp
  show tgK tg x s fun s1 => wp (bd s1) (flK (I (pre ++ [x]).length) KF) E'
  rw [l]
  exact this
theorem seq_len (ds : List D) (k : Nat) : (runSeq ds k).length = ds.length := by
  induction ds generalizing k with
  | nil => rfl
  | cons d ds ih => simp [runSeq, ih]
theorem seq_get (ds : List D) (k i : Nat) : (runSeq ds k)[i]? = (ds[i]?).map fun d => .tup [.int ((k + i : Nat) : Int), d] := by
  induction ds generalizing k i with
  | nil => simp [runSeq]
  | cons d ds ih => cases i with
    | zero => simp [runSeq]
    | succ i =>
      simp only [runSeq, List.getElem?_cons_succ]
      rw [ih]
      have : k + 1 + i = k + (i + 1) := by omega
      rw [this]
theorem wp_forE {ds : List D} {bd : St → O Flow} {tg : Tg} (I : Nat → St → Prop) (h0 : I 0 s) (fin : ∀ s, I ds.length s → KF .next s)
    (step : ∀ (i : Nat) (d : D) (s : St), ds[i]? = some d → I i s → tgK tg (.tup [.int i, d]) s fun s1 => wp (bd s1) (flK (I (i + 1)) KF) E') : wp (runFor bd tg (runSeq ds 0) s) KF E' := by
  refine wp_forI I h0 (fun s h => fin s (by rwa [seq_len] at h)) fun i d s hd h => ?_
  rw [seq_get, Nat.zero_add] at hd
  cases q : ds[i]? with
  | none => rw [q] at hd; cases hd
  | some z =>
    rw [q] at hd
    cases hd
    exact step i z s q h
/-- while, by the number of turns left -/
theorem wp_whl {c : St → O Bool} {bd : St → O Flow} {n : Nat} (I : Nat → St → Prop) (k : Nat) (hk : k < n) (h0 : I k s)
    (step : ∀ j s, I j s → wp (c s) (fun b s1 => bK b (fun _ => ∃ i, j = i + 1 ∧ wp (bd s1) (flK (I i) KF) E') fun _ => KF .next s1) E') : wp (runWhl c bd n s) KF E' := by
  induction n generalizing k s with
  | zero => omega
  | succ n ih =>
    have h1 := step k s h0
    unfold runWhl
    rw [wp_bind]
    refine wp_mono (E1 := E') h1 (fun b s1 h2 => ?_) fun _ _ h => h
    cases b with
    | false => exact h2
    | true =>
      obtain ⟨i, rfl, h3⟩ := h2
      show wp ((bd s1).bind _) KF E'
      rw [wp_bind]
      refine wp_mono (E1 := E') h3 (fun f s2 h4 => ?_) fun _ _ h => h
      cases f with
      | next => exact ih i (by omega) h4
      | cont => exact ih i (by omega) h4
      | brk => exact h4
      | ret r => exact h4
/-! ### comprehensions -/
theorem wipe1 {i : Nat} {d : D} : setTg (.name i) d { (⟨sl, hp⟩ : St) with sl := wipe sl [i] } = some ⟨sl.set i (.val d), hp⟩ := by
  show some (St.put _ i (.val d)) = _
  unfold St.put wipe wipe
  simp
theorem unwipe1 {i : Nat} {x : List Slot} (hi : sl[i]? = some .no ∨ ∃ d, sl[i]? = some (.val d)) (h : x = sl ∨ ∃ y, x = sl.set i y) : unwipe sl x [i] = sl := by
  have key : ∀ y : List Slot, (∀ j, j ≠ i → y[j]? = sl[j]?) → y.length = sl.length → unwipe sl y [i] = sl := fun y hy hl => by
    refine List.ext_getElem? fun j => ?_
    have e : unwipe sl y [i] = y.set i (match sl[i]? with
      | some (.val d) => .val d
      | _ => .no) := by
      show (match sl[i]? with
        | some (.val d) => y.set i (.val d)
        | _ => y.set i .no) = _
      cases sl[i]? with
      | none => rfl
      | some z => cases z <;> rfl
    rw [e, List.getElem?_set]
    by_cases q : i = j
    · subst q
      rw [if_pos rfl, hl]
      rcases hi with hi | ⟨d, hi⟩ <;> (rw [hi, if_pos (List.getElem?_eq_some_iff.mp hi).1])
    · rw [if_neg q]
      exact hy j fun z => q z.symm
  rcases h with rfl | ⟨y, rfl⟩
  · exact key _ (fun _ _ => rfl) rfl
  · exact key _ (fun j hj => by rw [List.getElem?_set_ne (Ne.symm hj)]) (by rw [List.length_set])
/-- the invariant speaks of the items so far, of the list so far, of the cells -/
theorem lc_ind {α : Type} {en : α → D} {l : List α} {elt : St → O R} {ifs : St → O Bool} {i : Nat} (I : List α → List D → List Cell → Prop) (hi : sl[i]? = some .no ∨ ∃ d, sl[i]? = some (.val d)) (h0 : I [] [] hp)
    (step : ∀ pre x suf acc hp, l = pre ++ x :: suf → I pre acc hp → wp (ifs ⟨sl.set i (.val (en x)), hp⟩) (fun b s1 => s1 = ⟨sl.set i (.val (en x)), hp⟩ ∧ bK b (fun _ => wp (elt ⟨sl.set i (.val (en x)), hp⟩) (fun r s2 => s2.sl = sl.set i (.val (en x)) ∧ acc.length < big ∧ I (pre ++ [x]) (acc ++ [r.d]) s2.hp) fun _ _ => False) fun _ => I (pre ++ [x]) acc hp) fun _ _ => False)
    (fin : ∀ acc hp, I l acc hp → K (.own acc) ⟨sl, hp⟩) : lcK elt ifs (.name i) (l.map en) ⟨sl, hp⟩ K := by
  have set2 : ∀ y z : Slot, (sl.set i y).set i z = sl.set i z := fun y z => by simp
  have key : ∀ suf pre acc hp x, l = pre ++ suf → I pre acc hp → (x = sl ∨ ∃ y, x = sl.set i y) → wp (runComp elt ifs (.name i) [i] sl (suf.map en) acc ⟨x, hp⟩) (fun acc s2 => I l acc s2.hp ∧ (s2.sl = sl ∨ ∃ y, s2.sl = sl.set i y)) fun _ _ => False := by
    intro suf
    induction suf with
    | nil =>
      intro pre acc hp x e h hx
      rw [List.append_nil] at e
      subst e
      exact ⟨h, hx⟩
    | cons a suf ih =>
      intro pre acc hp x e h hx
      have h1 := step pre a suf acc hp e h
      have ex : x.set i (.val (en a)) = sl.set i (.val (en a)) := by
        rcases hx with rfl | ⟨y, rfl⟩
        · rfl
        · rw [set2]
      rw [List.map_cons, runComp, wipe1]
      dsimp only
      rw [ex, wp_bind]
      refine wp_mono (E1 := fun _ _ => False) h1 (fun b s1 h2 => ?_) fun _ _ h => h
      obtain ⟨rfl, h2⟩ := h2
      cases b with
      | false => exact ih (pre ++ [a]) acc hp _ (by rw [e]; simp) h2 (.inr ⟨_, rfl⟩)
      | true =>
        show wp ((fz elt _).bind _) _ _
        rw [wp_bind, x_fz]
        refine wp_mono (E1 := fun _ _ => False) h2 (fun r s2 h3 => ?_) fun _ _ h => h
        obtain ⟨h3, h4, h5⟩ := h3
        rw [if_pos h4]
        obtain ⟨sl2, hp2⟩ := s2
        simp only at h3 h5
        subst h3
        exact ih (pre ++ [a]) _ hp2 _ (by rw [e]; simp) h5 (.inr ⟨_, rfl⟩)
  unfold lcK
  refine wp_mono (E1 := fun _ _ => False) (key l [] [] hp sl rfl h0 (.inl rfl)) (fun acc s2 h => ?_) fun _ _ h => h
  have e : unwipe sl s2.sl [i] = sl := unwipe1 hi h.2
  show K (.own acc) ⟨unwipe sl s2.sl [i], s2.hp⟩
  rw [e]
  exact fin _ _ h.1
/-- parts that only look -/
theorem lc_pure {α β : Type} {en : α → D} {en2 : β → D} {l : List α} {elt : St → O R} {ifs : St → O Bool} {i : Nat} (p : α → Bool) (g : α → β) (hi : sl[i]? = some .no ∨ ∃ d, sl[i]? = some (.val d)) (hl : l.length ≤ big)
    (h1 : ∀ x ∈ l, wp (ifs ⟨sl.set i (.val (en x)), hp⟩) (fun b s1 => b = p x ∧ s1 = ⟨sl.set i (.val (en x)), hp⟩) fun _ _ => False)
    (h2 : ∀ x ∈ l, p x = true → wp (elt ⟨sl.set i (.val (en x)), hp⟩) (fun r s1 => r.d = en2 (g x) ∧ s1 = ⟨sl.set i (.val (en x)), hp⟩) fun _ _ => False)
    (fin : K (.own (((l.filter p).map g).map en2)) ⟨sl, hp⟩) : lcK elt ifs (.name i) (l.map en) ⟨sl, hp⟩ K := by
  refine lc_ind (fun pre acc hp' => hp' = hp ∧ acc = ((pre.filter p).map g).map en2) hi ⟨rfl, rfl⟩ ?_ ?_
  · intro pre x suf acc hp' e h
    obtain ⟨rfl, rfl⟩ := h
    have hx : x ∈ l := by rw [e]; simp
    refine wp_mono (E1 := fun _ _ => False) (h1 x hx) (fun b s1 h3 => ?_) fun _ _ h => h
    obtain ⟨rfl, rfl⟩ := h3
    refine ⟨rfl, ?_⟩
    cases q : p x with
    | false =>
      refine ⟨rfl, ?_⟩
      simp [List.filter_append, q]
    | true =>
      refine wp_mono (E1 := fun _ _ => False) (h2 x hx q) (fun r s2 h4 => ?_) fun _ _ h => h
      obtain ⟨h4, rfl⟩ := h4
      refine ⟨rfl, ?_, rfl, ?_⟩
      · have : (pre.filter p).length ≤ pre.length := List.length_filter_le _ _
        rw [e] at hl
        simp at hl ⊢
        omega
      · simp [List.filter_append, q, h4]
  · intro acc hp' h
    obtain ⟨rfl, rfl⟩ := h
    exact fin
theorem lc_pureN {β : Type} {en2 : β → D} {l : List Nat} {elt : St → O R} {ifs : St → O Bool} {i : Nat} (p : Nat → Bool) (g : Nat → β) (hi : sl[i]? = some .no ∨ ∃ d, sl[i]? = some (.val d)) (hl : l.length ≤ big)
    (h1 : ∀ x : Nat, x ∈ l → wp (ifs ⟨sl.set i (.val (.int x)), hp⟩) (fun b s1 => b = p x ∧ s1 = ⟨sl.set i (.val (.int x)), hp⟩) fun _ _ => False)
    (h2 : ∀ x : Nat, x ∈ l → p x = true → wp (elt ⟨sl.set i (.val (.int x)), hp⟩) (fun r s1 => r.d = en2 (g x) ∧ s1 = ⟨sl.set i (.val (.int x)), hp⟩) fun _ _ => False)
    (fin : K (.own (((l.filter p).map g).map en2)) ⟨sl, hp⟩) : lcK elt ifs (.name i) (ns l) ⟨sl, hp⟩ K := lc_pure (en := fun n : Nat => D.int n) p g hi hl h1 h2 fin
theorem var_set {i : Nat} {d : D} {z : Slot} (hi : sl[i]? = some z) : wp ((ev G (.var i)).v ⟨sl.set i (.val d), hp⟩) (fun r s1 => r.d = d ∧ s1 = ⟨sl.set i (.val d), hp⟩) E' := by
  have hl := (List.getElem?_eq_some_iff.mp hi).1
  rw [x_var_v, ← lk_eq]
  have e : (sl.set i (.val d))[i]? = some (.val d) := by rw [List.getElem?_set_self hl]
  rw [e]
  exact ⟨rfl, rfl⟩
/-- [x for x in l if ..] -/
theorem lc_fil {l : List Nat} {ifs : St → O Bool} {i : Nat} (p : Nat → Bool) (hi : sl[i]? = some .no ∨ ∃ d, sl[i]? = some (.val d)) (hl : l.length ≤ big)
    (h1 : ∀ x : Nat, x ∈ l → wp (ifs ⟨sl.set i (.val (.int x)), hp⟩) (fun b s1 => b = p x ∧ s1 = ⟨sl.set i (.val (.int x)), hp⟩) fun _ _ => False)
    (fin : K (.own (ns (l.filter p))) ⟨sl, hp⟩) : lcK (ev G (.var i)).v ifs (.name i) (ns l) ⟨sl, hp⟩ K := by
  refine lc_pureN (en2 := fun n : Nat => D.int n) p id hi hl h1 (fun x _ _ => ?_) (by rw [List.map_id]; exact fin)
  rcases hi with hi | ⟨_, hi⟩
  · exact var_set hi
  · exact var_set hi
/-- [f(x) for x in l] -/
theorem lc_mapN {β : Type} {en2 : β → D} {l : List Nat} {elt : St → O R} {i : Nat} (g : Nat → β) (hi : sl[i]? = some .no ∨ ∃ d, sl[i]? = some (.val d)) (hl : l.length ≤ big)
    (h2 : ∀ x : Nat, x ∈ l → wp (elt ⟨sl.set i (.val (.int x)), hp⟩) (fun r s1 => r.d = en2 (g x) ∧ s1 = ⟨sl.set i (.val (.int x)), hp⟩) fun _ _ => False)
    (fin : K (.own ((l.map g).map en2)) ⟨sl, hp⟩) : lcK elt (evi G .nil) (.name i) (ns l) ⟨sl, hp⟩ K := by
  refine lc_pureN (fun _ => true) g hi hl (fun _ _ => ⟨rfl, rfl⟩) (fun x hx _ => h2 x hx) ?_
  rw [List.filter_eq_self.mpr fun _ _ => rfl]
  exact fin
theorem lc_map {α β : Type} {en : α → D} {en2 : β → D} {l : List α} {elt : St → O R} {i : Nat} (g : α → β) (hi : sl[i]? = some .no ∨ ∃ d, sl[i]? = some (.val d)) (hl : l.length ≤ big)
    (h2 : ∀ x, x ∈ l → wp (elt ⟨sl.set i (.val (en x)), hp⟩) (fun r s1 => r.d = en2 (g x) ∧ s1 = ⟨sl.set i (.val (en x)), hp⟩) fun _ _ => False)
    (fin : K (.own ((l.map g).map en2)) ⟨sl, hp⟩) : lcK elt (evi G .nil) (.name i) (l.map en) ⟨sl, hp⟩ K := by
  refine lc_pure (fun _ => true) g hi hl (fun _ _ => ⟨rfl, rfl⟩) (fun x hx _ => h2 x hx) ?_
  rw [List.filter_eq_self.mpr fun _ _ => rfl]
  exact fin
/-- targets that are several names, all of them free ahead of it -/
theorem lc_T {α β : Type} {en : α → D} {en2 : β → D} {l : List α} {elt : St → O R} {ifs : St → O Bool} {tg : Tg} (sx : α → List Slot) (p : α → Bool) (g : α → β) (w0 : wipe sl tg.own = sl) (u0 : unwipe sl sl tg.own = sl) (hs : ∀ x ∈ l, setTg tg (en x) ⟨sl, hp⟩ = some ⟨sx x, hp⟩) (w1 : ∀ x ∈ l, wipe (sx x) tg.own = sl) (u1 : ∀ x ∈ l, unwipe sl (sx x) tg.own = sl) (hl : l.length ≤ big)
    (h1 : ∀ x ∈ l, wp (ifs ⟨sx x, hp⟩) (fun b s1 => b = p x ∧ s1 = ⟨sx x, hp⟩) fun _ _ => False)
    (h2 : ∀ x ∈ l, p x = true → wp (elt ⟨sx x, hp⟩) (fun r s1 => r.d = en2 (g x) ∧ s1 = ⟨sx x, hp⟩) fun _ _ => False)
    (fin : K (.own (((l.filter p).map g).map en2)) ⟨sl, hp⟩) : lcK elt ifs tg (l.map en) ⟨sl, hp⟩ K := by
  have key : ∀ suf pre x, l = pre ++ suf → (wipe x tg.own = sl ∧ unwipe sl x tg.own = sl) → wp (runComp elt ifs tg tg.own sl (suf.map en) (((pre.filter p).map g).map en2) ⟨x, hp⟩) (fun acc s2 => acc = ((l.filter p).map g).map en2 ∧ s2.hp = hp ∧ unwipe sl s2.sl tg.own = sl) fun _ _ => False := by
    intro suf
    induction suf with
    | nil =>
      intro pre x e hx
      rw [List.append_nil] at e
      subst e
      exact ⟨rfl, rfl, hx.2⟩
    | cons a suf ih =>
      intro pre x e hx
      have ha : a ∈ l := by rw [e]; simp
      rw [List.map_cons, runComp]
      have es : setTg tg (en a) { (⟨x, hp⟩ : St) with sl := wipe (⟨x, hp⟩ : St).sl tg.own } = some ⟨sx a, hp⟩ := by
        show setTg tg (en a) ⟨wipe x tg.own, hp⟩ = _
        rw [hx.1]; exact hs a ha
      rw [es]
      dsimp only
      rw [wp_bind]
      refine wp_mono (E1 := fun _ _ => False) (h1 a ha) (fun b s1 h3 => ?_) fun _ _ h => h
      obtain ⟨rfl, rfl⟩ := h3
      have e2 : l = (pre ++ [a]) ++ suf := by rw [e]; simp
      cases q : p a with
      | false =>
        have := ih (pre ++ [a]) (sx a) e2 ⟨w1 a ha, u1 a ha⟩
        have f : ((pre ++ [a]).filter p) = pre.filter p := by simp [List.filter_append, q]
        rw [f] at this
        exact this
      | true =>
        show wp ((fz elt _).bind _) _ _
        rw [wp_bind, x_fz]
        refine wp_mono (E1 := fun _ _ => False) (h2 a ha q) (fun r s2 h4 => ?_) fun _ _ h => h
        obtain ⟨h4, rfl⟩ := h4
        have ln : (((pre.filter p).map g).map en2).length < big := by
          have : (pre.filter p).length ≤ pre.length := List.length_filter_le _ _
          rw [e] at hl
          simp at hl ⊢
          omega
        rw [if_pos ln, h4]
        have := ih (pre ++ [a]) (sx a) e2 ⟨w1 a ha, u1 a ha⟩
        have f : (((pre ++ [a]).filter p).map g).map en2 = ((pre.filter p).map g).map en2 ++ [en2 (g a)] := by simp [List.filter_append, q]
        rw [f] at this
        exact this
  unfold lcK
  refine wp_mono (E1 := fun _ _ => False) (key l [] sl rfl ⟨w0, u0⟩) (fun acc s2 h => ?_) fun _ _ h => h
  obtain ⟨rfl, h2, h3⟩ := h
  show K _ ⟨unwipe sl s2.sl tg.own, s2.hp⟩
  rw [h2, h3]
  exact fin
theorem bK_same {t : Bool} {A : Prop} (h : A) : bK t (fun _ => true = t ∧ A) (fun _ => false = t ∧ A) := by cases t <;> exact ⟨rfl, h⟩
/-- a class made -/
theorem make_eq {c : Nat} {init : FnSem} {ds : List D} {fs : List (Nat × D)} (e : init (.cell hp.length :: ds) (hp ++ [.ins c []]) = .ok (.val .non) (hp ++ [.ins c fs])) (h1 : D.belf hp.length fs = true) (h2 : hp.all (Cell.below hp.length) = true) : runMake c init ds hp = .ok (.val (.ins c fs)) hp := by
  unfold runMake
  rw [e]
  have e1 : (hp ++ [Cell.ins c fs])[hp.length]? = some (.ins c fs) := by simp
  have e2 : (hp ++ [Cell.ins c fs]).take hp.length = hp := by simp
  simp only [e1, e2]
  rw [if_pos (by simp [h1, h2])]
theorem bels_ns {l : List Nat} : D.bels n (ns l) = true := by
  induction l with
  | nil => rfl
  | cons m l ih => rw [ns_cons]; unfold D.bels D.bel; rw [ih]; rfl
theorem bels_map {α : Type} {en : α → D} {l : List α} (h : ∀ x ∈ l, D.bel n (en x) = true) : D.bels n (l.map en) = true := by
  induction l with
  | nil => rfl
  | cons m l ih =>
    rw [List.map_cons]; unfold D.bels
    rw [h m List.mem_cons_self, ih fun x hx => h x (List.mem_cons_of_mem _ hx)]; rfl
theorem w_rng (h : n < 1000000) : D.items (.rng 0 (n : Int)) = some (ns (List.range n)) := by
  show (if (small 0 && small (n : Int)) = true then some (runRange 0 ((n : Int) - 0).toNat) else none) = _
  have h0 : small 0 = true := by decide
  rw [small_nat h, h0, Bool.and_self, if_pos rfl]
  simp [range0]
end
end MP
set_option Elab.async false
set_option linter.all false
set_option maxRecDepth 100000
set_option maxHeartbeats 8000000
/-! MPQ: a program's facts read from the head; the chain of its defs. -/
namespace MP
open PySem PySem.Spec PyProof.Rows L2
/-- what a program names -/
structure Pd where
  fnm : List (Nat × Str)
  cnm : List Str
  fld : List Str
  fal : List (Nat × Nat) := []
  icl : List Nat := []
  xcl : List (Nat × List Nat) := []
  xal : List (Nat × Nat) := []
  xnl : List Nat := []
  xkl : List ((Nat × Nat) × Bool) := []
def nth (l : List Str) (i : Nat) : Str := l.getD i ""
def Pd.T (d : Pd) : Tab := ⟨[], fun i => (d.fnm.lookup i).getD "", nth d.cnm, fun _ => "", nth d.fld, d.fld.length⟩
def Pd.env (d : Pd) : Env where
  fn := fun _ => none
  made := fun _ => none
  meth := fun _ _ => none
  xc := fun c => d.xcl.lookup c
  xa := fun c f => d.xal.contains (c, f)
  xn := fun c => d.xnl.contains c
  xk := fun a b => d.xkl.lookup (a, b)
  gl := fun _ => none
  fa := fun c f => d.fal.contains (c, f)
  ic := fun c => d.icl.contains c
theorem nth_inj {l : List Str} (h : l.Nodup) : ∀ f g, f < l.length → g < l.length → nth l f = nth l g → f = g := fun f g h1 h2 e => by
  unfold nth at e
  rw [List.getD_eq_getElem?_getD, List.getD_eq_getElem?_getD, List.getElem?_eq_getElem h1, List.getElem?_eq_getElem h2] at e
  exact (List.getElem_inj h).mp e
def oexB (K : PySem.W.Frag) (C : Addr) : Bool := (match K.lookup C with
  | some ⟨.type "type", _, .cls cd, sl⟩ => (match cd.mro, sl.toList with
    | .ref C' :: bm, [_, _, _, _, some (.builtin n), _] => C' == C && n == "ValueError.__new__" && !cd.hasDel && cd.hasDict && PySem.HandSPX.refsVE bm
    | _, _ => false)
  | _ => false) && decide (PySem.W.findIn K (.ref C) "__setattr__" = some (some (.builtin "object.__setattr__"))) && decide (PySem.W.subIn K (.ref C) (.type "BaseException") = some true) && decide (PySem.W.typeIn K (.ref C) = some (.type "type")) && PySem.W.keepIn K (.ref C)
theorem oexB_ok {K : PySem.W.Frag} {C : Addr} (h : oexB K C = true) : OexC K C := by
  simp only [oexB, Bool.and_eq_true, decide_eq_true_eq] at h
  obtain ⟨⟨⟨⟨h0, h1⟩, h2⟩, h3⟩, h4⟩ := h
  refine ⟨?_, h1, h2, h3, h4⟩
  split at h0
  · rename_i dd cd sl ho
    split at h0
    · rename_i C' bm k0 k1 k2 k3 n k5 hm hs
      simp only [Bool.and_eq_true, beq_iff_eq, Bool.not_eq_true'] at h0
      obtain ⟨⟨⟨⟨rfl, rfl⟩, hdel⟩, hdict⟩, ht⟩ := h0
      obtain ⟨nm, bs, mro, ns, qn, hd, sn, sub, ab, col, del⟩ := cd
      simp only at hm hdel hdict
      subst hm hdel hdict
      have hsl : sl = #[k0, k1, k2, k3, some (.builtin "ValueError.__new__"), k5] := by
        obtain ⟨l⟩ := sl
        simp only at hs
        rw [hs]
      subst hsl
      exact ⟨nm, qn, ns, bs, bm, sn, sub, ab, col, dd, k0, k1, k2, k3, k5, ho, ht⟩
    · cases h0
  · cases h0
def Pd.ad (d : Pd) (K : PySem.W.Frag) (c : Nat) : Addr := He.ga K (nth d.cnm c)
def icB (d : Pd) (K : PySem.W.Frag) (c : Nat) : Bool := (He.Fa.glo (nth d.cnm c)).ok K && (He.Fa.cls (nth d.cnm c)).ok K && decide (PySem.W.findIn K (.ref (d.ad K c)) "__class__" = some (some (.builtin "object.__class__"))) &&
  decide (PySem.W.specialIn K (.builtin "object.__class__") "__get__" = some (some (.builtin "getset_descriptor.__get__"))) && decide (PySem.W.takesIn K (.builtin "object.__class__") = some true) && decide (PySem.W.mroIn K (d.ad K c) (.type "object") = some true) &&
  ((["NoneType", "bool", "int", "str", "list", "tuple"] : List String).all fun t => decide (PySem.W.kitOne K (.type t) (.ref (d.ad K c)) = some false)) && ((["bool", "int", "str", "list", "tuple"] : List String).all fun t => decide (PySem.W.kitOne K (.ref (d.ad K c)) (.type t) = some false)) &&
  (d.icl.all fun k => decide (PySem.W.kitOne K (.ref (d.ad K c)) (.ref (d.ad K k)) = some (decide (c = k))))
def xcB (d : Pd) (K : PySem.W.Frag) (p : Nat × List Nat) : Bool := oexB K (d.ad K p.1) && (He.Fa.glo (nth d.cnm p.1)).ok K && !(nth d.cnm p.1 == ("__debug__" : Str)) && decide (PySem.W.findIn K (.ref (d.ad K p.1)) "__init__" = some (some (.ref (He.ma K (d.ad K p.1) "__init__")))) &&
  decide (PySem.W.typeIn K (.ref (He.ma K (d.ad K p.1) "__init__")) = some (.type "function")) && (p.2.all fun f => decide (PySem.W.findIn K (.ref (d.ad K p.1)) (nth d.fld f) = some none) && decide (f < d.fld.length)) && !p.2.isEmpty && decide (p.2.Nodup) && decide (p.2.length ≤ 700)
/-- the facts that the chain leans on -/
def Pd.ex (d : Pd) (K : PySem.W.Frag) : Bool := (freeNames.all fun n => (He.Fa.free n).ok K) && (d.fal.all fun p => (He.Fa.cls (nth d.cnm p.1)).ok K && (He.Fa.noat (nth d.cnm p.1) (nth d.fld p.2)).ok K && decide (p.2 < d.fld.length)) && (d.icl.all fun c => icB d K c) && (d.xcl.all fun p => xcB d K p) &&
  (d.xal.all fun p => xfB K (d.ad K p.1) && decide (PySem.W.findIn K (.ref (d.ad K p.1)) (nth d.fld p.2) = some none) && decide (p.2 < d.fld.length)) && (d.xnl.all fun c => (He.Fa.glo (nth d.cnm c)).ok K) && (d.xkl.all fun p => decide (PySem.W.exmOne K (.ref (d.ad K p.1.1)) (.ref (d.ad K p.1.2)) = some p.2))
def Pd.W (d : Pd) (K : PySem.W.Frag) (hn : d.fld.Nodup) : Wd := ⟨K, d.ad K, nth d.fld, d.fld.length, nth_inj hn⟩
/-- a context for what does not stand in one -/
def x0 (P : Program) (w : World) (K : PySem.W.Frag) (mg : Str → Option Value) (base : Heap) : Cx := cxOf (L2.CX P w) P w K mg base [] "" ⟨.function, [], false, false, []⟩ 0 .none callerA [] {} (fun _ => none) fun _ _ _ => False
theorem lookup_memL {α β : Type} [BEq α] [LawfulBEq α] : ∀ {l : List (α × β)} {a : α} {b : β}, l.lookup a = some b → (a, b) ∈ l
  | [], _, _, h => by cases h
  | (x, y) :: l, a, b, h => by
    rw [List.lookup_cons] at h
    cases q : a == x with
    | true =>
      rw [q] at h
      cases h
      rw [beq_iff_eq.mp q]
      exact List.mem_cons_self
    | false =>
      rw [q] at h
      exact List.mem_cons_of_mem _ (lookup_memL h)
section
variable {P : Program} {w : World} {K : PySem.W.Frag} {h base : Heap} {mg : Str → Option Value} {d : Pd} {hn : d.fld.Nodup} {G : Env} {k : Nat}
theorem base_cf (X : K.In h) (Gl : h.Ns mainGlobals mg) (c : d.ex K = true)
    (hx : ∀ p ∈ d.xcl, oexB K (d.ad K p.1) = true → (p.2.all fun f => decide (PySem.W.findIn K (.ref (d.ad K p.1)) (nth d.fld f) = some none) && decide (f < d.fld.length)) = true → ∃ fd ps, FnOk P w K mg base (L2.CX P w) k (He.ma K (d.ad K p.1) "__init__") fd ps (spX (d.ad K p.1) (p.2.map (nth d.fld))) ∧ Binds K fd ps []) : Cf (d.W K hn) (x0 P w K mg base) d.T d.env k false := by
  simp only [Pd.ex, Bool.and_eq_true, List.all_eq_true] at c
  obtain ⟨⟨⟨⟨⟨⟨c1, c2⟩, c3⟩, c4⟩, c5⟩, c6⟩, c7⟩ := c
  refine ⟨fun n hn => He.free_ok X Gl (c1 n hn), fun cc f hf => ?_, fun cc hc => ?_, fun z => (by cases z), fun cc f hf => ?_, fun cc fl hf => ?_, fun cc hc => ?_, fun a b v hk => ?_, fun _ _ _ z => (by cases z), fun _ _ z => (by cases z), fun _ _ _ z => (by cases z)⟩
  · obtain ⟨⟨h1, h2⟩, h3⟩ := c2 (cc, f) (List.contains_iff_mem.mp hf)
    exact ⟨He.cls_ok h1, He.noat_ok h2, of_decide_eq_true h3⟩
  · have h0 := c3 cc (List.contains_iff_mem.mp hc)
    simp only [icB, Bool.and_eq_true, decide_eq_true_eq, List.all_eq_true] at h0
    obtain ⟨⟨⟨⟨⟨⟨⟨⟨h1, h2⟩, h3⟩, h4⟩, h5⟩, h6⟩, h7⟩, h8⟩, h9⟩ := h0
    exact ⟨He.glo_ok X Gl h1, He.cls_ok h2, h3, h4, h5, h6, h7, h8, fun k hk => h9 k (List.contains_iff_mem.mp hk)⟩
  · obtain ⟨⟨h1, h2⟩, h3⟩ := c5 (cc, f) (List.contains_iff_mem.mp hf)
    exact ⟨xfB_ok h1, of_decide_eq_true h2, of_decide_eq_true h3⟩
  · have hm := lookup_memL (show d.xcl.lookup cc = some fl from hf)
    have h0 := c4 (cc, fl) hm
    have h0' : xcB d K (cc, fl) = true := h0
    simp only [xcB, Bool.and_eq_true, decide_eq_true_eq, Bool.not_eq_true'] at h0'
    obtain ⟨⟨⟨⟨⟨⟨⟨⟨h1, h2⟩, h3⟩, h4⟩, h5⟩, h6⟩, h7⟩, h8⟩, h9⟩ := h0'
    obtain ⟨fd, ps, f1, f2⟩ := hx (cc, fl) hm h1 h6
    have h6' := List.all_eq_true.mp h6
    refine ⟨⟨_, fd, ps, oexB_ok h1, h4, h5, f1, f2, He.glo_ok X Gl h2, h3⟩, fun e => ?_, h8, fun f hf => ?_, fun f hf g hg e => ?_, by omega⟩
    · have e : fl = [] := e
      rw [e] at h7
      cases h7
    · have := h6' f hf
      simp only [Bool.and_eq_true, decide_eq_true_eq] at this
      exact this.2
    · have := h6' f hf
      simp only [Bool.and_eq_true, decide_eq_true_eq] at this
      exact nth_inj hn f g this.2 hg e
  · exact He.glo_ok X Gl (c6 cc (List.contains_iff_mem.mp hc))
  · exact of_decide_eq_true (c7 ((a, b), v) (lookup_memL (show d.xkl.lookup (a, b) = some v from hk)))
def Env.addFn (G : Env) (i : Nat) (g : FnSem) (dfl : List D) : Env := { G with fn := fun j => if j = i then some (g, dfl) else G.fn j }
def Env.addMk (G : Env) (c : Nat) (g : FnSem) : Env := { G with made := fun j => if j = c then some g else G.made j }
theorem FnF.mono {W : Wd} {X : Cx} {j : Nat} {nm : Str} {g : FnSem} {dfl : List D} (h : FnF W X j nm g dfl) (hk : j ≤ k) : FnF W X k nm g dfl := by
  obtain ⟨f, fd, ps, F, r⟩ := h.ex
  exact ⟨f, fd, ps, F.mono hk, r⟩
theorem MkF.mono {W : Wd} {X : Cx} {j : Nat} {c : Nat} {nm : Str} {g : FnSem} (h : MkF W X j c nm g) (hk : j ≤ k) : MkF W X k c nm g := by
  obtain ⟨f, fd, ps, sp, F, r⟩ := h.ex
  exact ⟨f, fd, ps, sp, F.mono hk, r⟩
theorem MtF.mono {W : Wd} {X : Cx} {j : Nat} {c : Nat} {nm : Str} {g : FnSem} (h : MtF W X j c nm g) (hk : j ≤ k) : MtF W X k c nm g := by
  obtain ⟨f, fd, ps, F, r⟩ := h.ex
  exact ⟨f, fd, ps, F.mono hk, r⟩
theorem XcF.mono {W : Wd} {X : Cx} {T : Tab} {j : Nat} {c : Nat} {fl : List Nat} (h : XcF W X T j c fl) (hk : j ≤ k) : XcF W X T k c fl := by
  obtain ⟨f, fd, ps, a1, a2, a3, F, r⟩ := h.ex
  exact ⟨⟨f, fd, ps, a1, a2, a3, F.mono hk, r⟩, h.ne, h.nd, h.lt, h.inj, h.len⟩
theorem Cf.mono {W : Wd} {X : Cx} {T : Tab} {j : Nat} (B : Cf W X T G j false) (hk : j ≤ k) : Cf W X T G k false :=
  ⟨B.free, B.fa, B.ic, fun z => (by cases z), B.xa, fun c fl h => (B.xc c fl h).mono hk, B.xn, B.xk, fun f g dfl h => ⟨(B.fn f g dfl h).1.mono hk, (B.fn f g dfl h).2⟩, fun c g h => ⟨(B.made c g h).1.mono hk, (B.made c g h).2⟩, fun c m g h => (B.meth c m g h).mono hk⟩
theorem Cf.addFn {W : Wd} {X : Cx} {T : Tab} {i : Nat} {g : FnSem} {dfl : List D} (B : Cf W X T G k false) (h : FnF W X k (T.fnm i) g dfl) (hd : (T.fnm i == ("__debug__" : Str)) = false) : Cf W X T (G.addFn i g dfl) k false :=
  ⟨B.free, B.fa, fun c h => let I := B.ic c h; ⟨I.mg, I.cls, I.ha, I.hn, I.htk, I.hm, I.down, I.up, I.own⟩, B.room, B.xa, B.xc, B.xn, B.xk, fun f g' dfl' z => by
    have z : (if f = i then some (g, dfl) else G.fn f) = some (g', dfl') := z
    by_cases e : f = i
    · rw [if_pos e] at z
      cases z
      subst e
      exact ⟨h, hd⟩
    · rw [if_neg e] at z
      exact B.fn f g' dfl' z, B.made, B.meth⟩
theorem Cf.addMk {W : Wd} {X : Cx} {T : Tab} {c : Nat} {g : FnSem} (B : Cf W X T G k false) (h : MkF W X k c (T.cnm c) g) (hd : (T.cnm c == ("__debug__" : Str)) = false) : Cf W X T (G.addMk c g) k false :=
  ⟨B.free, B.fa, fun c h => let I := B.ic c h; ⟨I.mg, I.cls, I.ha, I.hn, I.htk, I.hm, I.down, I.up, I.own⟩, B.room, B.xa, B.xc, B.xn, B.xk, B.fn, fun f g' z => by
    have z : (if f = c then some g else G.made f) = some g' := z
    by_cases e : f = c
    · rw [if_pos e] at z
      cases z
      subst e
      exact ⟨h, hd⟩
    · rw [if_neg e] at z
      exact B.made f g' z, B.meth⟩
/-! ### one def's own environment -/
def EnvL.sub (e : EnvL) (d : Pd) : Bool := (e.xc.all fun p => decide (d.xcl.lookup p.1 = some p.2)) && (e.xa.all fun p => d.xal.contains p) && (e.xn.all fun c => d.xnl.contains c) && (e.xk.all fun p => decide (d.xkl.lookup p.1 = some p.2)) && (e.fa.all fun p => d.fal.contains p) && (e.ic.all fun c => d.icl.contains c)
def FnsOk (W : Wd) (X : Cx) (k : Nat) (T : Tab) : List (Nat × FnSem × List D) → Prop
  | [] => True
  | p :: r => (FnF W X k (T.fnm p.1) p.2.1 p.2.2 ∧ (T.fnm p.1 == ("__debug__" : Str)) = false) ∧ FnsOk W X k T r
def MksOk (W : Wd) (X : Cx) (k : Nat) (T : Tab) : List (Nat × FnSem) → Prop
  | [] => True
  | p :: r => (MkF W X k p.1 (T.cnm p.1) p.2 ∧ (T.cnm p.1 == ("__debug__" : Str)) = false) ∧ MksOk W X k T r
def MtsOk (W : Wd) (X : Cx) (k : Nat) (T : Tab) : List ((Nat × Nat) × FnSem) → Prop
  | [] => True
  | p :: r => MtF W X k p.1.1 (T.fld p.1.2) p.2 ∧ MtsOk W X k T r
theorem MtsOk.get {W : Wd} {X : Cx} {T : Tab} : ∀ {l : List ((Nat × Nat) × FnSem)}, MtsOk W X k T l → ∀ p ∈ l, MtF W X k p.1.1 (T.fld p.1.2) p.2
  | _ :: _, h, p, hp => by
    rcases List.mem_cons.mp hp with rfl | hp
    · exact h.1
    · exact MtsOk.get h.2 p hp
theorem FnsOk.get {W : Wd} {X : Cx} {T : Tab} : ∀ {l : List (Nat × FnSem × List D)}, FnsOk W X k T l → ∀ p ∈ l, FnF W X k (T.fnm p.1) p.2.1 p.2.2 ∧ (T.fnm p.1 == ("__debug__" : Str)) = false
  | _ :: _, h, p, hp => by
    rcases List.mem_cons.mp hp with rfl | hp
    · exact h.1
    · exact FnsOk.get h.2 p hp
theorem MksOk.get {W : Wd} {X : Cx} {T : Tab} : ∀ {l : List (Nat × FnSem)}, MksOk W X k T l → ∀ p ∈ l, MkF W X k p.1 (T.cnm p.1) p.2 ∧ (T.cnm p.1 == ("__debug__" : Str)) = false
  | _ :: _, h, p, hp => by
    rcases List.mem_cons.mp hp with rfl | hp
    · exact h.1
    · exact MksOk.get h.2 p hp
theorem cf_of {W : Wd} {X : Cx} {e : EnvL} {T : Tab} (B : Cf W X T d.env k false) (h : e.sub d = true) (h1 : FnsOk W X k T e.fn) (h2 : MksOk W X k T e.mkl) (h3 : MtsOk W X k T e.mtl) : Cf W X T e.env k false := by
  simp only [EnvL.sub, Bool.and_eq_true, List.all_eq_true, decide_eq_true_eq] at h
  obtain ⟨⟨⟨⟨⟨c1, c2⟩, c3⟩, c4⟩, c5⟩, c6⟩ := h
  refine ⟨B.free, fun c f q => B.fa c f ?_, fun c q => ?_, B.room, fun c f q => B.xa c f ?_, fun c fl q => B.xc c fl ?_, fun c q => B.xn c ?_, fun a b v q => B.xk a b v ?_, fun f g dfl q => ?_, fun c g q => ?_, fun c m g q => ?_⟩
  · exact c5 (c, f) (List.contains_iff_mem.mp q)
  · have I := B.ic c (c6 c (List.contains_iff_mem.mp q))
    exact ⟨I.mg, I.cls, I.ha, I.hn, I.htk, I.hm, I.down, I.up, fun k hk => I.own k (c6 k (List.contains_iff_mem.mp hk))⟩
  · exact c2 (c, f) (List.contains_iff_mem.mp q)
  · exact c1 (c, fl) (lookup_memL (show e.xc.lookup c = some fl from q))
  · exact c3 c (List.contains_iff_mem.mp q)
  · exact c4 ((a, b), v) (lookup_memL (show e.xk.lookup (a, b) = some v from q))
  · exact h1.get (f, g, dfl) (lookup_memL (show e.fn.lookup f = some (g, dfl) from q))
  · exact h2.get (c, g) (lookup_memL (show e.mkl.lookup c = some g from q))
  · exact h3.get ((c, m), g) (lookup_memL (show e.mtl.lookup (c, m) = some g from q))
end
end MP
set_option Elab.async false
set_option linter.all false
set_option maxRecDepth 100000
set_option maxHeartbeats 8000000
/-! MPR: the law's end. -/
namespace MP
open PySem PySem.Spec PyProof.Rows L2
theorem ext_sp {W : Wd} {g : FnSem} {ns : List Int} {hp' : List Cell} {H : Hp} {a : Addr} {E : XK} (h : g [.ext (ns.map .int)] [] = .ok (.val (.bl true)) hp') (hS : SqL W.K H a (ns.map V.int)) : spOf W g [.ref a] H (fun v _ => v = .bl true) E := by
  refine ⟨H, [], [.ext (ns.map .int)], [], Same.refl _, ⟨rfl, List.nodup_nil, fun i c a h1 h2 => by simp at h2⟩, Reps.cons ?_ Reps.nil, ?_⟩
  · unfold Rep
    exact ⟨a, _, rfl, hS, reps_ints ns⟩
  · rw [h]
    intro v F' m' H' _ b
    have b : Rep W F' m' (.bl true) v := b
    unfold Rep at b
    exact b
theorem walkG {l : PySem.W.OpenLaw} {n k : Nat} {q : Program} {loose : List Str} {XP : (Str → Option Value) → Heap → Prop} {YP : World → Heap → Prop} {d : DefRec} {x : Str}
    (hn : l.most = some n) (hn2 : n ≤ sizeLine) (hdf : d.params.defaults = []) (hr : Room k callerA)
    (F : ∀ (w : World) (mg : Str → Option Value) (fa : Addr) (h : Heap), YP w h → h.Ns mainGlobals mg → mg d.name = some (.ref fa) →
      ∃ (K : PySem.W.Frag) (fd : FuncData) (sp : Sp), K.In h ∧ (∀ (s : Shared) (u : Value), BindsTo s fd ⟨[u], []⟩ [(x, u)]) ∧
        (∀ (H : Hp) (a : Addr) (ns : List Int), ns.length ≤ n → Only H → SqL K H a (ns.map V.int) → sp [.ref a] H (fun v _ => v = .bl true) fun _ _ _ => False) ∧
        ∀ base : Heap, K.In base → base.Ns mainGlobals mg → FnG l.prog w K mg base k fa fd [x] sp) :
    PySem.W.WalkO q loose XP YP l.row.toRowW d [] (fun f vs => PySem.call f vs) := by
  refine Att.attach_call hn hdf fun w s₀ s₁ mg mb fa o pm cd doc a vs ns G Y ho hd hcd hmg hobj hints hlen hg => ?_
  obtain ⟨K, fd, sp, KX, hb, hsp, hF⟩ := F w mg fa _ Y G.T.g hmg
  exact lawG KX G.T.g G.T.b G.T.builtins G.T.nolimit hg hobj hints (Nat.le_trans hlen hn2) hr hF hb fun H hO hS => hsp H a ns hlen hO hS
end MP
set_option Elab.async false
set_option linter.all false
set_option maxRecDepth 100000
set_option maxHeartbeats 4000000
/-! SN: sorting of numbers; what sorted(set(..)) and sorted(..) give. -/
namespace MP
open PySem
def insN (x : Nat) : List Nat → List Nat
  | [] => [x]
  | y :: ys => if x < y then x :: y :: ys else if x = y then y :: ys else y :: insN x ys
/-- sorted(set(..)) -/
def sortN (l : List Nat) : List Nat := l.foldr insN []
def insM (x : Nat) : List Nat → List Nat
  | [] => [x]
  | y :: ys => if x ≤ y then x :: y :: ys else y :: insM x ys
/-- sorted(..) -/
def sortM (l : List Nat) : List Nat := l.foldr insM []
def cs (l : List Nat) : List Int := l.map fun n : Nat => (n : Int)
theorem insU_cast (x : Nat) : ∀ l : List Nat, insU (x : Int) (cs l) = cs (insN x l)
  | [] => rfl
  | y :: ys => by
    show (if (x : Int) < (y : Int) then (x : Int) :: (y : Int) :: cs ys else if (x : Int) = (y : Int) then (y : Int) :: cs ys else (y : Int) :: insU x (cs ys)) = cs (if x < y then x :: y :: ys else if x = y then y :: ys else y :: insN x ys)
    rw [insU_cast x ys]
    by_cases h : x < y
    · rw [if_pos (by omega), if_pos h]; rfl
    · rw [if_neg (by omega), if_neg h]
      by_cases h2 : x = y
      · rw [if_pos (by omega), if_pos h2]; rfl
      · rw [if_neg (by omega), if_neg h2]; rfl
theorem sortU_cast : ∀ l : List Nat, sortU (cs l) = cs (sortN l)
  | [] => rfl
  | y :: ys => by
    show insU (y : Int) (sortU (cs ys)) = cs (insN y (sortN ys))
    rw [sortU_cast ys, insU_cast]
theorem insI_cast (x : Nat) : ∀ l : List Nat, insI (x : Int) (cs l) = cs (insM x l)
  | [] => rfl
  | y :: ys => by
    show (if (x : Int) ≤ (y : Int) then (x : Int) :: (y : Int) :: cs ys else (y : Int) :: insI x (cs ys)) = cs (if x ≤ y then x :: y :: ys else y :: insM x ys)
    rw [insI_cast x ys]
    by_cases h : x ≤ y
    · rw [if_pos (by omega), if_pos h]; rfl
    · rw [if_neg (by omega), if_neg h]; rfl
theorem sortI_cast : ∀ l : List Nat, sortI (cs l) = cs (sortM l)
  | [] => rfl
  | y :: ys => by
    show insI (y : Int) (sortI (cs ys)) = cs (insM y (sortM ys))
    rw [sortI_cast ys, insI_cast]
theorem cs_ns (l : List Nat) : (cs l).map D.int = ns l := by
  unfold cs ns
  rw [List.map_map]
  rfl
/-- ascending, unlike -/
def Asc (l : List Nat) : Prop := l.Pairwise (· < ·)
theorem insN_mem {x c : Nat} : ∀ {l : List Nat}, c ∈ insN x l ↔ c = x ∨ c ∈ l
  | [] => by simp [insN]
  | y :: ys => by
    unfold insN
    split
    · simp
    · split
      · subst_vars; simp
      · rw [List.mem_cons, insN_mem, List.mem_cons]; constructor <;> (intro h; rcases h with h | h | h <;> simp [h])
theorem sortN_mem {c : Nat} : ∀ {l : List Nat}, c ∈ sortN l ↔ c ∈ l
  | [] => by simp [sortN]
  | y :: ys => by
    show c ∈ insN y (sortN ys) ↔ _
    rw [insN_mem, sortN_mem, List.mem_cons]
theorem insN_asc {x : Nat} : ∀ {l : List Nat}, Asc l → Asc (insN x l)
  | [], _ => by simp [insN, Asc]
  | y :: ys, h => by
    have h' := List.pairwise_cons.mp h
    unfold insN
    split
    · rename_i q
      refine List.pairwise_cons.mpr ⟨fun z hz => ?_, h⟩
      rcases List.mem_cons.mp hz with rfl | hz
      · exact q
      · exact Nat.lt_trans q (h'.1 z hz)
    · split
      · exact h
      · refine List.pairwise_cons.mpr ⟨fun z hz => ?_, insN_asc h'.2⟩
        rcases insN_mem.mp hz with rfl | hz
        · omega
        · exact h'.1 z hz
theorem sortN_asc : ∀ l : List Nat, Asc (sortN l)
  | [] => List.Pairwise.nil
  | y :: ys => insN_asc (sortN_asc ys)
theorem asc_len {n : Nat} : ∀ {l : List Nat} {k : Nat}, Asc l → (∀ x ∈ l, k ≤ x ∧ x < n) → l.length ≤ n - k
  | [], _, _, _ => Nat.zero_le _
  | y :: ys, k, h, hb => by
    have h' := List.pairwise_cons.mp h
    have hy := hb y List.mem_cons_self
    have := asc_len (k := y + 1) h'.2 fun x hx => ⟨h'.1 x hx, (hb x (List.mem_cons_of_mem _ hx)).2⟩
    simp only [List.length_cons]
    omega
theorem asc_len0 {n : Nat} {l : List Nat} (h : Asc l) (hb : ∀ x ∈ l, x < n) : l.length ≤ n := asc_len (k := 0) h fun x hx => ⟨Nat.zero_le _, hb x hx⟩
/-- two ascending lists with the same members -/
theorem asc_ext : ∀ {l l2 : List Nat}, Asc l → Asc l2 → (∀ x, x ∈ l ↔ x ∈ l2) → l = l2
  | [], [], _, _, _ => rfl
  | [], y :: _, _, _, h => by have := (h y).mpr List.mem_cons_self; cases this
  | y :: _, [], _, _, h => by have := (h y).mp List.mem_cons_self; cases this
  | x :: xs, y :: ys, h1, h2, h => by
    have a1 := List.pairwise_cons.mp h1
    have a2 := List.pairwise_cons.mp h2
    have e : x = y := by
      have b1 := (h x).mp List.mem_cons_self
      have b2 := (h y).mpr List.mem_cons_self
      rcases List.mem_cons.mp b1 with b1 | b1
      · exact b1
      · rcases List.mem_cons.mp b2 with b2 | b2
        · exact b2.symm
        · have := a1.1 y b2
          have := a2.1 x b1
          omega
    subst e
    congr 1
    refine asc_ext a1.2 a2.2 fun z => ⟨fun hz => ?_, fun hz => ?_⟩
    · rcases List.mem_cons.mp ((h z).mp (List.mem_cons_of_mem _ hz)) with e | e
      · subst e; exact absurd (a1.1 z hz) (Nat.lt_irrefl _)
      · exact e
    · rcases List.mem_cons.mp ((h z).mpr (List.mem_cons_of_mem _ hz)) with e | e
      · subst e; exact absurd (a2.1 z hz) (Nat.lt_irrefl _)
      · exact e
theorem sortN_of_asc {l : List Nat} (h : Asc l) : sortN l = l := asc_ext (sortN_asc l) h fun _ => sortN_mem
theorem insM_eq {x : Nat} : ∀ {l : List Nat}, (∀ y ∈ l, x < y) → insM x l = x :: l
  | [], _ => rfl
  | y :: ys, h => by
    unfold insM
    rw [if_pos (Nat.le_of_lt (h y List.mem_cons_self))]
theorem sortM_of_asc : ∀ {l : List Nat}, Asc l → sortM l = l
  | [], _ => rfl
  | y :: ys, h => by
    have h' := List.pairwise_cons.mp h
    show insM y (sortM ys) = _
    rw [sortM_of_asc h'.2, insM_eq h'.1]
theorem insM_mem {x c : Nat} : ∀ {l : List Nat}, c ∈ insM x l ↔ c = x ∨ c ∈ l
  | [] => by simp [insM]
  | y :: ys => by
    unfold insM
    split
    · simp
    · rw [List.mem_cons, insM_mem, List.mem_cons]; constructor <;> (intro h; rcases h with h | h | h <;> simp [h])
theorem sortM_mem {c : Nat} : ∀ {l : List Nat}, c ∈ sortM l ↔ c ∈ l
  | [] => by simp [sortM]
  | y :: ys => by
    show c ∈ insM y (sortM ys) ↔ _
    rw [insM_mem, sortM_mem, List.mem_cons]
theorem insM_len {x : Nat} : ∀ {l : List Nat}, (insM x l).length = l.length + 1
  | [] => rfl
  | y :: ys => by
    unfold insM
    split
    · rfl
    · simp [insM_len]
theorem sortM_len : ∀ {l : List Nat}, (sortM l).length = l.length
  | [] => rfl
  | y :: ys => by
    show (insM y (sortM ys)).length = _
    rw [insM_len, sortM_len]; rfl
theorem u_sset {l : List Nat} (h1 : l.length < 4000) (h2 : (sortN l).length < 64) : biSem .sortedSet [.lst (ns l)] = some (.own (ns (sortN l))) := by
  show (D.ints (ns l)).bind _ = _
  rw [ns_ints]
  show (if (cs l).length < 4000 ∧ (sortU (cs l)).length < 64 then some (R.own ((sortU (cs l)).map D.int)) else none) = _
  rw [sortU_cast, cs_ns, if_pos]
  unfold cs
  simp only [List.length_map]
  exact ⟨h1, h2⟩
theorem u_ssetT {l : List Nat} (h1 : l.length < 4000) (h2 : (sortN l).length < 64) : biSem .sortedSet [.tup (ns l)] = some (.own (ns (sortN l))) := by
  show (D.ints (ns l)).bind _ = _
  rw [ns_ints]
  show (if (cs l).length < 4000 ∧ (sortU (cs l)).length < 64 then some (R.own ((sortU (cs l)).map D.int)) else none) = _
  rw [sortU_cast, cs_ns, if_pos]
  unfold cs
  simp only [List.length_map]
  exact ⟨h1, h2⟩
theorem u_sort {l : List Nat} : biSem .sorted [.lst (ns l)] = some (.own (ns (sortM l))) := by
  show (match D.ints (ns l) with
    | some l => some (R.own ((sortI l).map D.int))
    | none => (D.prs (ns l)).map fun l => .own ((sortP l).map prD)) = _
  rw [ns_ints]
  show some (R.own ((sortI (cs l)).map D.int)) = _
  rw [sortI_cast, cs_ns]
theorem u_sortT {l : List Nat} : biSem .sorted [.tup (ns l)] = some (.own (ns (sortM l))) := by
  show (D.ints (ns l)).map _ = _
  rw [ns_ints]
  show some (R.own ((sortI (cs l)).map D.int)) = _
  rw [sortI_cast, cs_ns]
theorem insN_len (x : Nat) : ∀ l : List Nat, (insN x l).length ≤ l.length + 1
  | [] => Nat.le_refl _
  | y :: ys => by
    unfold insN
    split
    · exact Nat.le_refl _
    · split
      · exact Nat.le_succ _
      · have := insN_len x ys
        simp only [List.length_cons]
        omega
theorem sortN_len : ∀ l : List Nat, (sortN l).length ≤ l.length
  | [] => Nat.le_refl _
  | y :: ys => by
    have := sortN_len ys
    have := insN_len y (sortN ys)
    show (insN y (sortN ys)).length ≤ _
    simp only [List.length_cons]
    omega
theorem insM_nodup {x : Nat} : ∀ {l : List Nat}, l.Nodup → x ∉ l → (insM x l).Nodup
  | [], _, _ => by simp [insM]
  | y :: ys, h, hx => by
    have h' := List.nodup_cons.mp h
    unfold insM
    split
    · exact List.nodup_cons.mpr ⟨hx, h⟩
    · refine List.nodup_cons.mpr ⟨fun z => ?_, insM_nodup h'.2 fun z => hx (List.mem_cons_of_mem _ z)⟩
      rcases insM_mem.mp z with rfl | z
      · exact hx List.mem_cons_self
      · exact h'.1 z
theorem sortM_nodup : ∀ {l : List Nat}, l.Nodup → (sortM l).Nodup
  | [], _ => List.nodup_nil
  | y :: ys, h => by
    have h' := List.nodup_cons.mp h
    exact insM_nodup (sortM_nodup h'.2) fun z => h'.1 (sortM_mem.mp z)
end MP
set_option Elab.async false
set_option linter.all false
set_option maxRecDepth 100000
set_option maxHeartbeats 4000000
/-! TX: the texts of plain data: that repr gives one. -/
namespace MP
open PySem
def good (s : Str) : Prop := ∀ c ∈ s.cps.toList, c < 0x110000
theorem good_app {a b : Str} (ha : good a) (hb : good b) : good (a ++ b) := fun c hc => by
  have e : (a ++ b).cps = a.cps ++ b.cps := rfl
  rw [e, Array.toList_append, List.mem_append] at hc
  exact hc.elim (ha c) (hb c)
theorem len_app (a b : Str) : (a ++ b).length = a.length + b.length := by
  show (a.cps ++ b.cps).size = _
  rw [Array.size_append]; rfl
theorem good_ascii {s : String} (h : ∀ c ∈ s.toList, c.toNat < 128) : good (Str.ofString s) := fun c hc => by
  rw [Str.ofString_eq_toList] at hc
  have hc : c ∈ s.toList.map Char.toNat := by simpa using hc
  obtain ⟨d, hd, rfl⟩ := List.mem_map.mp hc
  have := h d hd
  omega
theorem good_dec {s : Str} (h : (s.cps.all fun c => decide (c < 0x110000)) = true) : good s := fun c hc => by
  have := (Array.all_eq_true_iff_forall_mem.mp h) c (Array.mem_toList_iff.mp hc)
  simpa using this
theorem good_fit {s : Str} (h : good s) (n : Nat) : D.fit n (.str s) = true := by
  unfold D.fit
  refine Array.all_eq_true_iff_forall_mem.mpr fun c hc => ?_
  exact decide_eq_true (h c (Array.mem_toList_iff.mpr hc))
/-- plain data of depth k, its text of at most b signs -/
structure Tx (k b : Nat) (d : D) : Prop where
  ex : ∃ p, D.pd d = some p ∧ D.fit k d = true ∧ p.showable = true ∧ p.shown.length ≤ b ∧ good p.shown
theorem tx_non {k b : Nat} (h : 4 ≤ b) : Tx k b .non := ⟨.none, rfl, by unfold D.fit; rfl, rfl, by
  have : (PyData.none).shown.length = 4 := by decide +kernel
  omega, good_dec (by decide +kernel)⟩
theorem tx_bl {k b : Nat} {t : Bool} (h : 5 ≤ b) : Tx k b (.bl t) := by
  cases t with
  | true => exact ⟨.bool true, rfl, by unfold D.fit; rfl, rfl, by
      have : (PyData.bool true).shown.length = 4 := by decide +kernel
      omega, good_dec (by decide +kernel)⟩
  | false => exact ⟨.bool false, rfl, by unfold D.fit; rfl, rfl, by
      have : (PyData.bool false).shown.length = 5 := by decide +kernel
      omega, good_dec (by decide +kernel)⟩
theorem tx_int {k b : Nat} {i : Int} (h : i.natAbs < 10 ^ 12) (hb : 13 ≤ b) : Tx k b (.int i) := by
  refine ⟨.int i, rfl, by unfold D.fit; rfl, ?_, Nat.le_trans (PyData.shown_int_le h) hb, ?_⟩
  · unfold PyData.showable
    refine decide_eq_true ?_
    by_cases hz : i.natAbs = 0
    · rw [hz]; decide
    · exact (Nat.log2_lt hz).mpr (Nat.lt_trans h (by decide +kernel))
  · rw [PyData.shown_int]
    exact good_ascii (int_ascii i)
theorem tx_nat {k b n : Nat} (h : n < 10 ^ 12) (hb : 13 ≤ b) : Tx k b (.int n) := tx_int (by simpa using h) hb
theorem tx_str {k b : Nat} {x : Str} (h0 : (x.cps.all fun c => decide (c < 0x110000)) = true) (h1 : (reprText x).length ≤ b) (h2 : ((reprText x).cps.all fun c => decide (c < 0x110000)) = true) : Tx k b (.str x) :=
  ⟨.str x, rfl, good_fit (good_dec h0) k, rfl, by rw [PyData.shown_str]; exact h1, by rw [PyData.shown_str]; exact good_dec h2⟩
theorem tx_pds {k b : Nat} : ∀ {l : List D}, (∀ d ∈ l, Tx k b d) → ∃ ps, D.pds l = some ps ∧ D.fits (k + 1) l = true ∧ PyData.showableAll ps = true ∧ ps.length = l.length ∧ ∀ s ∈ PyData.shownAll ps, s.length ≤ b ∧ good s
  | [], _ => ⟨[], rfl, rfl, rfl, rfl, fun _ h => by cases h⟩
  | d :: l, h => by
    obtain ⟨p, h1, h2, h3, h4, h5⟩ := (h d List.mem_cons_self).ex
    obtain ⟨ps, g1, g2, g3, g4, g5⟩ := tx_pds fun d hd => h d (List.mem_cons_of_mem _ hd)
    refine ⟨p :: ps, ?_, ?_, ?_, by simp [g4], fun s hs => ?_⟩
    · unfold D.pds; rw [h1, g1]
    · unfold D.fits; rw [h2, g2]; rfl
    · unfold PyData.showableAll; rw [h3, g3]; rfl
    · rcases List.mem_cons.mp hs with rfl | hs
      · exact ⟨h4, h5⟩
      · exact g5 s hs
theorem shownAll_len : ∀ ps : List PyData, (PyData.shownAll ps).length = ps.length
  | [] => rfl
  | _ :: ps => by
    unfold PyData.shownAll
    simp [shownAll_len ps]
theorem join_len {b : Nat} : ∀ {ts : List Str}, (∀ s ∈ ts, s.length ≤ b ∧ good s) → (Str.join ", " ts).length ≤ ts.length * (b + 2) ∧ good (Str.join ", " ts)
  | [], _ => ⟨Nat.zero_le _, fun _ h => by cases h⟩
  | [x], h => ⟨by have := (h x List.mem_cons_self).1; show x.length ≤ 1 * (b + 2); omega, (h x List.mem_cons_self).2⟩
  | x :: y :: r, h => by
    obtain ⟨h1, h2⟩ := join_len (ts := y :: r) fun s hs => h s (List.mem_cons_of_mem _ hs)
    obtain ⟨g1, g2⟩ := h x List.mem_cons_self
    have e : Str.join ", " (x :: y :: r) = x ++ ", " ++ Str.join ", " (y :: r) := rfl
    rw [e, len_app, len_app]
    have l2 : (Str.ofString ", ").length = 2 := by decide +kernel
    refine ⟨?_, good_app (good_app g2 (good_dec (by decide +kernel))) h2⟩
    simp only [List.length_cons] at h1 ⊢
    rw [Nat.add_mul]
    omega
theorem tx_tup {k b c : Nat} {l : List D} (h : ∀ d ∈ l, Tx k b d) (hc : l.length * (b + 2) + 3 ≤ c) : Tx (k + 1) c (.tup l) := by
  obtain ⟨ps, g1, g2, g3, g4, g5⟩ := tx_pds h
  refine ⟨.tuple ps, ?_, ?_, g3, ?_, ?_⟩
  · unfold D.pd; rw [g1]; rfl
  · unfold D.fit; exact g2
  · show (tupleText (PyData.shownAll ps)).length ≤ c
    have j := (join_len g5).1
    rw [shownAll_len, g4] at j
    unfold tupleText
    rw [len_app, len_app]
    have l1 : (Str.ofString "(").length = 1 := by decide +kernel
    have l2 : (Str.ofString (if (PyData.shownAll ps).length == 1 then ",)" else ")")).length ≤ 2 := by split <;> decide +kernel
    omega
  · show good (tupleText (PyData.shownAll ps))
    unfold tupleText
    refine good_app (good_app (good_dec (by decide +kernel)) (join_len g5).2) ?_
    split <;> exact good_dec (by decide +kernel)
theorem from_len {b : Nat} : ∀ {ts : List Str} {k : Nat} {acc : Str}, (∀ s ∈ ts, s.length ≤ b ∧ good s) → good acc → (textFrom k acc ts).length ≤ acc.length + ts.length * (b + 2) ∧ good (textFrom k acc ts)
  | [], _, _, _, ha => ⟨Nat.le_add_right _ _, ha⟩
  | t :: ts, k, acc, h, ha => by
    obtain ⟨g1, g2⟩ := h t List.mem_cons_self
    have l2 : (Str.ofString (if k > 0 then ", " else "")).length ≤ 2 := by split <;> decide +kernel
    have gg : good (Str.ofString (if k > 0 then ", " else "")) := by split <;> exact good_dec (by decide +kernel)
    obtain ⟨h1, h2⟩ := from_len (ts := ts) (k := k + 1) (acc := acc ++ (if k > 0 then ", " else "" : String) ++ t) (fun s hs => h s (List.mem_cons_of_mem _ hs)) (good_app (good_app ha gg) g2)
    refine ⟨?_, h2⟩
    have e : textFrom k acc (t :: ts) = textFrom (k + 1) (acc ++ (if k > 0 then ", " else "" : String) ++ t) ts := rfl
    rw [e]
    rw [len_app, len_app] at h1
    simp only [List.length_cons]
    rw [Nat.add_mul]
    omega
theorem tx_lst {k b c : Nat} {l : List D} (h : ∀ d ∈ l, Tx k b d) (hc : l.length * (b + 2) + 3 ≤ c) : Tx (k + 1) c (.lst l) := by
  obtain ⟨ps, g1, g2, g3, g4, g5⟩ := tx_pds h
  obtain ⟨j1, j2⟩ := from_len (k := 0) (acc := "[") g5 (good_dec (by decide +kernel))
  refine ⟨.list ps, ?_, ?_, g3, ?_, ?_⟩
  · unfold D.pd; rw [g1]; rfl
  · unfold D.fit; exact g2
  · show (listText (PyData.shownAll ps)).length ≤ c
    rw [shownAll_len, g4] at j1
    unfold listText
    rw [len_app]
    have l1 : (Str.ofString "[").length = 1 := by decide +kernel
    have l2 : (Str.ofString "]").length = 1 := by decide +kernel
    omega
  · show good (listText (PyData.shownAll ps))
    unfold listText
    exact good_app j2 (good_dec (by decide +kernel))
theorem tx_ns {k b : Nat} {l : List Nat} (h : ∀ x ∈ l, x < 10 ^ 12) (hb : l.length * 15 + 3 ≤ b) : Tx (k + 1) b (.tup (ns l)) := by
  refine tx_tup (b := 13) (fun d hd => ?_) (by rw [ns_len]; exact hb)
  obtain ⟨n, hn, rfl⟩ := List.mem_map.mp hd
  exact tx_nat (h n hn) (Nat.le_refl _)
theorem tx_nsL {k b : Nat} {l : List Nat} (h : ∀ x ∈ l, x < 10 ^ 12) (hb : l.length * 15 + 3 ≤ b) : Tx (k + 1) b (.lst (ns l)) := by
  refine tx_lst (b := 13) (fun d hd => ?_) (by rw [ns_len]; exact hb)
  obtain ⟨n, hn, rfl⟩ := List.mem_map.mp hd
  exact tx_nat (h n hn) (Nat.le_refl _)
theorem fits_mono : ∀ (n m : Nat) (d : D), n ≤ m → D.fit n d = true → D.fit m d = true := by
  intro n
  induction n with
  | zero =>
    intro m d _ h
    cases d with
    | tup l => unfold D.fit D.fits at h; cases h
    | lst l => unfold D.fit D.fits at h; cases h
    | _ => unfold D.fit at h ⊢; exact h
  | succ n ih =>
    intro m d hm h
    have key : ∀ l : List D, D.fits (n + 1) l = true → D.fits m l = true := fun l => by
      obtain ⟨m', rfl⟩ : ∃ m', m = m' + 1 := ⟨m - 1, by omega⟩
      induction l with
      | nil => intro _; rfl
      | cons d l ih2 =>
        intro h
        unfold D.fits at h ⊢
        have h := Bool.and_eq_true_iff.mp h
        rw [ih m' d (by omega) h.1, ih2 h.2]; rfl
    cases d with
    | tup l => unfold D.fit at h ⊢; exact key l h
    | lst l => unfold D.fit at h ⊢; exact key l h
    | _ => unfold D.fit at h ⊢; exact h
theorem Tx.mono {k k' b b' : Nat} {d : D} (h : Tx k b d) (hk : k ≤ k') (hb : b ≤ b') : Tx k' b' d := by
  obtain ⟨p, h1, h2, h3, h4, h5⟩ := h.ex
  exact ⟨p, h1, fits_mono k k' d hk h2, h3, by omega, h5⟩
/-- repr of such data, and that two such texts are no unlike ones -/
theorem Tx.repr {d : D} (h : Tx depthMax big d) : ∃ s, biSem .repr [d] = some (.val (.str s)) ∧ cmpSem .ne (.str s) (.str s) = some false ∧ cmpSem .eq (.str s) (.str s) = some true := by
  obtain ⟨p, h1, h2, h3, h4, h5⟩ := h.ex
  have f := good_fit h5 depthMax
  have e : D.eqv (.str p.shown) (.str p.shown) = true := by unfold D.eqv; exact beq_self_eq_true _
  refine ⟨p.shown, ?_, ?_, ?_⟩
  · show (reprSem d).map _ = _
    unfold reprSem
    rw [h1]
    dsimp only
    rw [h2, h3, decide_eq_true h4]
    rfl
  · show (if (D.fit depthMax (.str p.shown) && D.fit depthMax (.str p.shown)) = true then some (!D.eqv (.str p.shown) (.str p.shown)) else none) = _
    rw [f, e]; rfl
  · show (if (D.fit depthMax (.str p.shown) && D.fit depthMax (.str p.shown)) = true then some (D.eqv (.str p.shown) (.str p.shown)) else none) = _
    rw [f, e]; rfl
end MP
set_option Elab.async false
set_option linter.all false
set_option maxRecDepth 100000
set_option maxHeartbeats 0
namespace LawP
open PySem MP
/-! is_sequence -/
def N_is_sequence : List Str := ["thing"]
def c_is_sequence : Ss := (.cons (.ret (.or (.isi .list (.var 0)) (.isi .tuple (.var 0)))) .nil)
def E_is_sequence : EnvL where
  fn := []
  mkl := []
  xc := []
  xa := []
  xn := []
  xk := []
  fa := []
  ic := []
def f_is_sequence : FnSem := runFn E_is_sequence.env 1 1 c_is_sequence
--@ is_sequence = c_is_sequence | 
/-! is_whole -/
def N_is_whole : List Str := ["thing", "low", "high"]
def c_is_whole : Ss := (.cons (.ite (.or (.isi .bool (.var 0)) (.not (.isi .int (.var 0)))) (.cons (.ret (.bl false)) .nil) .nil) (.cons (.ret (.and (.or (.cmp .isN (.var 1) .non) (.cmp .ge (.var 0) (.var 1))) (.or (.cmp .isN (.var 2) .non) (.cmp .le (.var 0) (.var 2))))) .nil))
def E_is_whole : EnvL where
  fn := []
  mkl := []
  xc := []
  xa := []
  xn := []
  xk := []
  fa := []
  ic := []
def f_is_whole : FnSem := runFn E_is_whole.env 3 3 c_is_whole
--@ is_whole = c_is_whole | 
/-! unlike_wholes -/
def N_unlike_wholes : List Str := ["things", "high", "met", "item"]
def c_unlike_wholes_1 : Ss := (.cons (.ite (.or (.not (.call 2 (.cons (.var 3) (.cons (.int 0) (.cons (.var 1) .nil))) 0)) (.cmp .inn (.var 3) (.var 2))) (.cons (.ret (.bl false)) .nil) .nil) (.cons (.ex (.lm .append (.var 2) (.cons (.var 3) .nil))) .nil))
def c_unlike_wholes : Ss := (.cons (.ite (.not (.call 1 (.cons (.var 0) .nil) 0)) (.cons (.ret (.bl false)) .nil) .nil) (.cons (.asg 2 .own (.lst .nil)) (.cons (.for_ (.name 3) (.seq (.var 0)) c_unlike_wholes_1) (.cons (.ret (.bl true)) .nil))))
def E_unlike_wholes : EnvL where
  fn := [(1, f_is_sequence, []), (2, f_is_whole, [.non, .non])]
  mkl := []
  xc := []
  xa := []
  xn := []
  xk := []
  fa := []
  ic := []
def f_unlike_wholes : FnSem := runFn E_unlike_wholes.env 2 4 c_unlike_wholes
theorem e_unlike_wholes_0 : E_unlike_wholes.env.fn 1 = some (f_is_sequence, []) := rfl
theorem e_unlike_wholes_1 : E_unlike_wholes.env.fn 2 = some (f_is_whole, [.non, .non]) := rfl
--@ unlike_wholes = c_unlike_wholes e_unlike_wholes_0 e_unlike_wholes_1 | c_unlike_wholes_1
/-! entry_fault -/
def N_entry_fault : List Str := ["entry", "at"]
def c_entry_fault : Ss := (.cons (.ite (.or (.not (.call 1 (.cons (.var 0) .nil) 0)) (.cmp .ne (.bi .len (.cons (.var 0) .nil)) (.int 3))) (.cons (.ret (.str "class")) .nil) .nil) (.cons (.ite (.not (.call 3 (.cons (.ix (.var 0) (.int 0)) (.cons (.bin .sub (.var 1) (.int 1)) .nil)) 0)) (.cons (.ret (.str "base")) .nil) .nil) (.cons (.ite (.not (.call 2 (.cons (.ix (.var 0) (.int 1)) (.cons (.int 0) (.cons (.int 3) .nil))) 0)) (.cons (.ret (.str "fields")) .nil) .nil) (.cons (.ite (.or (.not (.call 3 (.cons (.ix (.var 0) (.int 2)) (.cons (.int 5) .nil)) 0)) (.cmp .gt (.bi .len (.cons (.ix (.var 0) (.int 2)) .nil)) (.int 3))) (.cons (.ret (.str "method")) .nil) .nil) (.cons (.ret .non) .nil)))))
def E_entry_fault : EnvL where
  fn := [(1, f_is_sequence, []), (3, f_unlike_wholes, []), (2, f_is_whole, [.non, .non])]
  mkl := []
  xc := []
  xa := []
  xn := []
  xk := []
  fa := []
  ic := []
def f_entry_fault : FnSem := runFn E_entry_fault.env 2 2 c_entry_fault
theorem e_entry_fault_0 : E_entry_fault.env.fn 1 = some (f_is_sequence, []) := rfl
theorem e_entry_fault_1 : E_entry_fault.env.fn 3 = some (f_unlike_wholes, []) := rfl
theorem e_entry_fault_2 : E_entry_fault.env.fn 2 = some (f_is_whole, [.non, .non]) := rfl
--@ entry_fault = c_entry_fault e_entry_fault_0 e_entry_fault_1 e_entry_fault_2 | 
/-! elder_rows -/
def N_elder_rows : List Str := ["bases", "rows", "own", "found", "base"]
def c_elder_rows_1 : Ss := (.cons (.asg 3 .val (.bin .add (.bin .add (.var 3) (.lst (.cons (.var 4) .nil))) (.bi .list (.cons (.ix (.var 1) (.var 4)) .nil)))) .nil)
def c_elder_rows_2 : Ss := (.cons (.asg 3 .val (.lst .nil)) (.cons (.for_ (.name 4) (.seq (.var 2)) c_elder_rows_1) (.cons (.ex (.lm .append (.var 1) (.cons (.bi .tuple (.cons (.bi .sortedSet (.cons (.var 3) .nil)) .nil)) .nil))) .nil)))
def c_elder_rows : Ss := (.cons (.asg 1 .own (.lst .nil)) (.cons (.for_ (.name 2) (.seq (.var 0)) c_elder_rows_2) (.cons (.ret (.bi .tuple (.cons (.var 1) .nil))) .nil)))
def E_elder_rows : EnvL where
  fn := []
  mkl := []
  xc := []
  xa := []
  xn := []
  xk := []
  fa := []
  ic := []
def f_elder_rows : FnSem := runFn E_elder_rows.env 1 5 c_elder_rows
--@ elder_rows = c_elder_rows | c_elder_rows_1 c_elder_rows_2
/-! heir_rows -/
def N_heir_rows : List Str := ["elders", "many", "one", "c"]
def c_heir_rows : Ss := (.cons (.asg 1 .val (.rng1 (.bi .len (.cons (.var 0) .nil)))) (.cons (.ret (.bi .tuple (.cons (.lc (.bi .tuple (.cons (.lc (.var 3) (.name 3) (.seq (.var 1)) (.cons (.cmp .inn (.var 2) (.ix (.var 0) (.var 3))) .nil)) .nil)) (.name 2) (.seq (.var 1)) .nil) .nil))) .nil))
def E_heir_rows : EnvL where
  fn := []
  mkl := []
  xc := []
  xa := []
  xn := []
  xk := []
  fa := []
  ic := []
def f_heir_rows : FnSem := runFn E_heir_rows.env 1 4 c_heir_rows
--@ heir_rows = c_heir_rows | 
/-! World_init -/
def N_World_init : List Str := ["self", "classes", "rows", "at", "entry", "word", "row"]
def c_World_init_1 : Ss := (.cons (.asg 5 .val (.call 4 (.cons (.var 4) (.cons (.var 3) .nil)) 0)) (.cons (.ite (.cmp .notN (.var 5) .non) (.cons (.raise 1 (.cons (.var 3) (.cons (.var 5) .nil))) .nil) .nil) (.cons (.ex (.lm .append (.var 2) (.cons (.tup (.cons (.bi .tuple (.cons (.ix (.var 4) (.int 0)) .nil)) (.cons (.ix (.var 4) (.int 1)) (.cons (.bi .tuple (.cons (.bi .sorted (.cons (.ix (.var 4) (.int 2)) .nil)) .nil)) .nil)))) .nil))) .nil)))
def c_World_init : Ss := (.cons (.ite (.or (.not (.call 1 (.cons (.var 1) .nil) 0)) (.not (.chain .le .le (.int 1) (.bi .len (.cons (.var 1) .nil)) (.int 12)))) (.cons (.raise 1 (.cons (.int 0) (.cons (.str "many") .nil))) .nil) .nil) (.cons (.asg 2 .own (.lst .nil)) (.cons (.for_ (.tup [3, 4]) (.enum (.var 1)) c_World_init_1) (.cons (.setF (.var 0) 2 (.bi .tuple (.cons (.var 2) .nil))) (.cons (.setF (.var 0) 3 (.bi .tuple (.cons (.lc (.ix (.var 6) (.int 0)) (.name 6) (.seq (.var 2)) .nil) .nil))) (.cons (.setF (.var 0) 4 (.bi .tuple (.cons (.lc (.ix (.var 6) (.int 1)) (.name 6) (.seq (.var 2)) .nil) .nil))) (.cons (.setF (.var 0) 5 (.bi .tuple (.cons (.lc (.ix (.var 6) (.int 2)) (.name 6) (.seq (.var 2)) .nil) .nil))) (.cons (.setF (.var 0) 6 (.call 5 (.cons (.fld (.var 0) 3) .nil) 0)) (.cons (.setF (.var 0) 7 (.call 6 (.cons (.fld (.var 0) 6) .nil) 0)) .nil)))))))))
def E_World_init : EnvL where
  fn := [(1, f_is_sequence, []), (4, f_entry_fault, []), (5, f_elder_rows, []), (6, f_heir_rows, [])]
  mkl := []
  xc := [(1, [0, 1])]
  xa := []
  xn := []
  xk := []
  fa := [(2, 2), (2, 3), (2, 4), (2, 5), (2, 6), (2, 7)]
  ic := []
def f_World_init : FnSem := runFn E_World_init.env 2 7 c_World_init
def k_World : FnSem := runMake 2 f_World_init
theorem e_World_init_0 : E_World_init.env.fn 1 = some (f_is_sequence, []) := rfl
theorem e_World_init_1 : E_World_init.env.fn 4 = some (f_entry_fault, []) := rfl
theorem e_World_init_2 : E_World_init.env.fn 5 = some (f_elder_rows, []) := rfl
theorem e_World_init_3 : E_World_init.env.fn 6 = some (f_heir_rows, []) := rfl
theorem e_World_init_4 : E_World_init.env.xc 1 = some [0, 1] := rfl
theorem e_World_init_5 : E_World_init.env.fa 2 2 = true := rfl
theorem e_World_init_6 : E_World_init.env.fa 2 3 = true := rfl
theorem e_World_init_7 : E_World_init.env.fa 2 4 = true := rfl
theorem e_World_init_8 : E_World_init.env.fa 2 5 = true := rfl
theorem e_World_init_9 : E_World_init.env.fa 2 6 = true := rfl
theorem e_World_init_10 : E_World_init.env.fa 2 7 = true := rfl
--@ World_init = c_World_init e_World_init_0 e_World_init_1 e_World_init_2 e_World_init_3 e_World_init_4 e_World_init_5 e_World_init_6 e_World_init_7 e_World_init_8 e_World_init_9 e_World_init_10 | c_World_init_1
end LawP
set_option Elab.async false
set_option linter.all false
set_option maxRecDepth 100000
set_option maxHeartbeats 0
namespace LawP
open PySem MP
/-! _law_hand_bbe7 -/
def N__law_hand_bbe7 : List Str := ["_law_script", "_law_total", "_law_cells", "_law_cell"]
def c__law_hand_bbe7_1 : Ss := (.cons (.asg 1 .val (.bin .mod (.bi .int (.cons (.bin .add (.bin .mul (.var 1) (.int 1709)) (.bi .int (.cons (.var 3) .nil))) .nil)) (.int 2147483549))) (.cons (.ex (.lm .append (.var 2) (.cons (.bi .abs (.cons (.bi .int (.cons (.var 3) .nil)) .nil)) .nil))) .nil))
def c__law_hand_bbe7 : Ss := (.cons (.asg 1 .val (.bin .add (.bi .len (.cons (.var 0) .nil)) (.int 37))) (.cons (.asg 2 .own (.lst .nil)) (.cons (.for_ (.name 3) (.seq (.var 0)) c__law_hand_bbe7_1) (.cons (.ret (.lst (.cons (.var 2) (.cons (.int 0) (.cons (.int 0) (.cons (.var 1) .nil)))))) .nil))))
def E__law_hand_bbe7 : EnvL where
  fn := []
  mkl := []
  xc := []
  xa := []
  xn := []
  xk := []
  fa := []
  ic := []
def f__law_hand_bbe7 : FnSem := runFn E__law_hand_bbe7.env 1 4 c__law_hand_bbe7
--@ _law_hand_bbe7 = c__law_hand_bbe7 | c__law_hand_bbe7_1
/-! _law_mixed_559e -/
def N__law_mixed_559e : List Str := ["_law_number", "_law_turn", "_law_once", "_law_twice"]
def c__law_mixed_559e : Ss := (.cons (.asg 2 .val (.bin .mod (.bi .int (.cons (.bin .add (.bin .add (.bin .mul (.var 0) (.int 48271)) (.bin .mul (.var 1) (.int 7919))) (.int 30011)) .nil)) (.int 2147483399))) (.cons (.asg 3 .val (.bin .mod (.bi .int (.cons (.bin .add (.bin .add (.bin .mul (.var 2) (.var 2)) (.bin .mul (.var 1) (.int 92821))) (.bin .div (.var 2) (.int 131))) .nil)) (.int 2147483629))) (.cons (.ret (.bin .div (.bi .int (.cons (.bin .mod (.bi .int (.cons (.bin .add (.bin .mul (.var 3) (.int 69621)) (.bin .div (.var 2) (.int 13))) .nil)) (.int 2147483587)) .nil)) (.int 32))) .nil)))
def E__law_mixed_559e : EnvL where
  fn := []
  mkl := []
  xc := []
  xa := []
  xn := []
  xk := []
  fa := []
  ic := []
def f__law_mixed_559e : FnSem := runFn E__law_mixed_559e.env 2 4 c__law_mixed_559e
--@ _law_mixed_559e = c__law_mixed_559e | 
/-! _law_take_1561 -/
def N__law_take_1561 : List Str := ["_law_hand_here", "_law_many", "_law_cell", "_law_rest"]
def c__law_take_1561 : Ss := (.cons (.ite (.and (.cmp .eq (.ix (.var 0) (.int 2)) (.int 0)) (.cmp .lt (.ix (.var 0) (.int 1)) (.bi .len (.cons (.ix (.var 0) (.int 0)) .nil)))) (.cons (.asg 2 .val (.ix (.ix (.var 0) (.int 0)) (.ix (.var 0) (.int 1)))) (.cons (.setIx (.var 0) (.int 1) (.bin .add (.ix (.var 0) (.int 1)) (.int 1))) (.cons (.ite (.cmp .lt (.var 2) (.bin .pow (.int 10) (.int 18))) (.cons (.ret (.bin .mod (.bi .int (.cons (.call 280 (.cons (.bin .mod (.bi .int (.cons (.var 2) .nil)) (.int 2147483399)) (.cons (.ix (.var 0) (.int 1)) .nil)) 0) .nil)) (.var 1))) .nil) .nil) (.cons (.setIx (.var 0) (.int 2) (.var 2)) .nil)))) .nil) (.cons (.ite (.cmp .gt (.ix (.var 0) (.int 2)) (.int 0)) (.cons (.asg 3 .val (.ix (.var 0) (.int 2))) (.cons (.setIx (.var 0) (.int 2) (.bin .div (.bi .int (.cons (.var 3) .nil)) (.var 1))) (.cons (.ret (.bin .mod (.bi .int (.cons (.var 3) .nil)) (.var 1))) .nil))) .nil) (.cons (.setIx (.var 0) (.int 3) (.bin .mod (.bi .int (.cons (.bin .add (.ix (.var 0) (.int 3)) (.int 1)) .nil)) (.int 2147483549))) (.cons (.ret (.bin .mod (.bi .int (.cons (.call 280 (.cons (.ix (.var 0) (.int 3)) (.cons (.ix (.var 0) (.int 1)) .nil)) 0) .nil)) (.var 1))) .nil))))
def E__law_take_1561 : EnvL where
  fn := [(280, f__law_mixed_559e, [])]
  mkl := []
  xc := []
  xa := []
  xn := []
  xk := []
  fa := []
  ic := []
def f__law_take_1561 : FnSem := runFn E__law_take_1561.env 2 4 c__law_take_1561
theorem e__law_take_1561_0 : E__law_take_1561.env.fn 280 = some (f__law_mixed_559e, []) := rfl
--@ _law_take_1561 = c__law_take_1561 e__law_take_1561_0 | 
/-! _law_bases_c4c7 -/
def N__law_bases_c4c7 : List Str := ["_law_hand_here", "_law_c", "_law_bases_here", "_law_step", "_law_base"]
def c__law_bases_c4c7_1 : Ss := (.cons (.ite (.cmp .gt (.var 1) (.int 0)) (.cons (.asg 4 .val (.call 281 (.cons (.var 0) (.cons (.var 1) .nil)) 0)) (.cons (.ite (.cmp .nin (.var 4) (.var 2)) (.cons (.ex (.lm .append (.var 2) (.cons (.var 4) .nil))) .nil) .nil) .nil)) .nil) .nil)
def c__law_bases_c4c7 : Ss := (.cons (.asg 2 .own (.lst .nil)) (.cons (.for_ (.name 3) (.r1 (.ix (.tup (.cons (.int 0) (.cons (.int 1) (.cons (.int 1) (.cons (.int 2) (.cons (.int 2) (.cons (.int 2) (.cons (.int 3) (.cons (.int 1) .nil))))))))) (.call 281 (.cons (.var 0) (.cons (.int 8) .nil)) 0))) c__law_bases_c4c7_1) (.cons (.ret (.var 2)) .nil)))
def E__law_bases_c4c7 : EnvL where
  fn := [(281, f__law_take_1561, [])]
  mkl := []
  xc := []
  xa := []
  xn := []
  xk := []
  fa := []
  ic := []
def f__law_bases_c4c7 : FnSem := runFn E__law_bases_c4c7.env 2 5 c__law_bases_c4c7
theorem e__law_bases_c4c7_0 : E__law_bases_c4c7.env.fn 281 = some (f__law_take_1561, []) := rfl
--@ _law_bases_c4c7 = c__law_bases_c4c7 e__law_bases_c4c7_0 | c__law_bases_c4c7_1
/-! _law_shape_47cf -/
def N__law_shape_47cf : List Str := ["_law_hand_here", "_law_many", "_law_kind", "_law_rows", "_law_bases_here", "_law_at", "_law_row", "_law_c"]
def c__law_shape_47cf_1 : Ss := (.cons (.ex (.lm .append (.var 4) (.cons (.call 282 (.cons (.var 0) (.cons (.bi .len (.cons (.var 4) .nil)) .nil)) 0) .nil))) .nil)
def c__law_shape_47cf : Ss := (.cons (.asg 2 .val (.call 281 (.cons (.var 0) (.cons (.int 8) .nil)) 0)) (.cons (.ite (.cmp .lt (.var 2) (.int 2)) (.cons (.ret (.lc (.call 282 (.cons (.var 0) (.cons (.var 7) .nil)) 0) (.name 7) (.r1 (.var 1)) .nil)) .nil) .nil) (.cons (.asg 3 .val (.ix (.lst (.cons (.lst (.cons (.lst .nil) (.cons (.lst .nil) (.cons (.lst (.cons (.int 0) (.cons (.int 1) .nil))) (.cons (.lst .nil) (.cons (.lst (.cons (.int 1) (.cons (.int 3) .nil))) (.cons (.lst (.cons (.int 3) (.cons (.int 0) .nil))) (.cons (.lst (.cons (.int 2) (.cons (.int 4) .nil))) .nil)))))))) (.cons (.lst (.cons (.lst .nil) (.cons (.lst .nil) (.cons (.lst .nil) (.cons (.lst (.cons (.int 0) (.cons (.int 1) .nil))) (.cons (.lst (.cons (.int 1) (.cons (.int 2) .nil))) (.cons (.lst (.cons (.int 2) (.cons (.int 0) .nil))) (.cons (.lst (.cons (.int 3) (.cons (.int 4) .nil))) (.cons (.lst (.cons (.int 5) .nil)) .nil))))))))) (.cons (.lst (.cons (.lst .nil) (.cons (.lst (.cons (.int 0) .nil)) (.cons (.lst (.cons (.int 0) .nil)) (.cons (.lst (.cons (.int 2) (.cons (.int 1) .nil))) (.cons (.lst (.cons (.int 0) .nil)) (.cons (.lst (.cons (.int 4) (.cons (.int 2) .nil))) (.cons (.lst (.cons (.int 1) (.cons (.int 4) .nil))) (.cons (.lst (.cons (.int 3) (.cons (.int 4) .nil))) .nil))))))))) (.cons (.lst (.cons (.lst .nil) (.cons (.lst (.cons (.int 0) .nil)) (.cons (.lst (.cons (.int 0) .nil)) (.cons (.lst (.cons (.int 0) .nil)) (.cons (.lst (.cons (.int 1) (.cons (.int 2) .nil))) (.cons (.lst (.cons (.int 2) (.cons (.int 3) .nil))) (.cons (.lst (.cons (.int 3) (.cons (.int 1) .nil))) (.cons (.lst (.cons (.int 4) (.cons (.int 3) .nil))) .nil))))))))) (.cons (.lst (.cons (.lst .nil) (.cons (.lst (.cons (.int 0) .nil)) (.cons (.lst (.cons (.int 0) .nil)) (.cons (.lst (.cons (.int 1) (.cons (.int 2) .nil))) (.cons (.lst (.cons (.int 0) .nil)) (.cons (.lst (.cons (.int 3) (.cons (.int 4) .nil))) (.cons (.lst (.cons (.int 4) .nil)) (.cons (.lst (.cons (.int 5) (.cons (.int 6) .nil))) .nil))))))))) (.cons (.lst (.cons (.lst .nil) (.cons (.lst .nil) (.cons (.lst (.cons (.int 0) (.cons (.int 1) .nil))) (.cons (.lst .nil) (.cons (.lst (.cons (.int 2) (.cons (.int 3) .nil))) (.cons (.lst (.cons (.int 0) .nil)) (.cons (.lst (.cons (.int 5) (.cons (.int 3) .nil))) (.cons (.lst (.cons (.int 4) .nil)) .nil))))))))) .nil))))))) (.bin .sub (.var 2) (.int 2)))) (.cons (.asg 4 .own (.lc (.bi .list (.cons (.var 6) .nil)) (.name 6) (.seq (.slc (.var 3) .no (.so (.var 1)))) .nil)) (.cons (.whl 1000 (.cmp .lt (.bi .len (.cons (.var 4) .nil)) (.var 1)) c__law_shape_47cf_1) (.cons (.asg 5 .val (.call 281 (.cons (.var 0) (.cons (.var 1) .nil)) 0)) (.cons (.ite (.cmp .eq (.call 281 (.cons (.var 0) (.cons (.int 3) .nil)) 0) (.int 0)) (.cons (.setIx (.var 4) (.var 5) (.call 282 (.cons (.var 0) (.cons (.var 5) .nil)) 0)) .nil) .nil) (.cons (.ret (.var 4)) .nil))))))))
def E__law_shape_47cf : EnvL where
  fn := [(281, f__law_take_1561, []), (282, f__law_bases_c4c7, [])]
  mkl := []
  xc := []
  xa := []
  xn := []
  xk := []
  fa := []
  ic := []
def f__law_shape_47cf : FnSem := runFn E__law_shape_47cf.env 2 8 c__law_shape_47cf
theorem e__law_shape_47cf_0 : E__law_shape_47cf.env.fn 281 = some (f__law_take_1561, []) := rfl
theorem e__law_shape_47cf_1 : E__law_shape_47cf.env.fn 282 = some (f__law_bases_c4c7, []) := rfl
--@ _law_shape_47cf = c__law_shape_47cf e__law_shape_47cf_0 e__law_shape_47cf_1 | c__law_shape_47cf_1
/-! _law_methods_2714 -/
def N__law_methods_2714 : List Str := ["_law_hand_here", "_law_found", "_law_step"]
def c__law_methods_2714_1 : Ss := (.cons (.ex (.lm .append (.var 1) (.cons (.call 281 (.cons (.var 0) (.cons (.int 6) .nil)) 0) .nil))) .nil)
def c__law_methods_2714 : Ss := (.cons (.asg 1 .own (.lst .nil)) (.cons (.for_ (.name 2) (.r1 (.ix (.tup (.cons (.int 0) (.cons (.int 1) (.cons (.int 0) (.cons (.int 2) (.cons (.int 1) (.cons (.int 3) .nil))))))) (.call 281 (.cons (.var 0) (.cons (.int 6) .nil)) 0))) c__law_methods_2714_1) (.cons (.ret (.bi .sortedSet (.cons (.var 1) .nil))) .nil)))
def E__law_methods_2714 : EnvL where
  fn := [(281, f__law_take_1561, [])]
  mkl := []
  xc := []
  xa := []
  xn := []
  xk := []
  fa := []
  ic := []
def f__law_methods_2714 : FnSem := runFn E__law_methods_2714.env 1 3 c__law_methods_2714
theorem e__law_methods_2714_0 : E__law_methods_2714.env.fn 281 = some (f__law_take_1561, []) := rfl
--@ _law_methods_2714 = c__law_methods_2714 e__law_methods_2714_0 | c__law_methods_2714_1
/-! _law_classes_d301 -/
def N__law_classes_d301 : List Str := ["_law_hand_here", "_law_low", "_law_high", "_law_most", "_law_wanted", "_law_many", "_law_bases_here", "_law_rest", "_law_rows", "_law_own", "_law_fields"]
def c__law_classes_d301_1 : Ss := (.cons (.asg 10 .val (.bi .min2 (.cons (.var 7) (.cons (.ix (.tup (.cons (.int 1) (.cons (.int 1) (.cons (.int 0) (.cons (.int 1) (.cons (.int 2) (.cons (.int 1) (.cons (.int 2) (.cons (.int 1) (.cons (.int 1) (.cons (.int 3) .nil))))))))))) (.call 281 (.cons (.var 0) (.cons (.int 10) .nil)) 0)) .nil)))) (.cons (.asg 7 .val (.bin .sub (.var 7) (.var 10))) (.cons (.ex (.lm .append (.var 8) (.cons (.tup (.cons (.var 9) (.cons (.var 10) (.cons (.ite (.var 4) (.call 283 (.cons (.var 0) .nil) 0) (.lst .nil)) .nil)))) .nil))) .nil)))
def c__law_classes_d301 : Ss := (.cons (.asg 5 .val (.bin .add (.var 1) (.bi .max2 (.cons (.call 281 (.cons (.var 0) (.cons (.bin .add (.bin .sub (.var 2) (.var 1)) (.int 1)) .nil)) 0) (.cons (.call 281 (.cons (.var 0) (.cons (.bin .add (.bin .sub (.var 2) (.var 1)) (.int 1)) .nil)) 0) .nil))))) (.cons (.asg 6 .val (.call 284 (.cons (.var 0) (.cons (.var 5) .nil)) 0)) (.cons (.asg 7 .val (.var 3)) (.cons (.asg 8 .own (.lst .nil)) (.cons (.for_ (.name 9) (.seq (.var 6)) c__law_classes_d301_1) (.cons (.ret (.var 8)) .nil))))))
def E__law_classes_d301 : EnvL where
  fn := [(281, f__law_take_1561, []), (284, f__law_shape_47cf, []), (283, f__law_methods_2714, [])]
  mkl := []
  xc := []
  xa := []
  xn := []
  xk := []
  fa := []
  ic := []
def f__law_classes_d301 : FnSem := runFn E__law_classes_d301.env 5 11 c__law_classes_d301
theorem e__law_classes_d301_0 : E__law_classes_d301.env.fn 281 = some (f__law_take_1561, []) := rfl
theorem e__law_classes_d301_1 : E__law_classes_d301.env.fn 284 = some (f__law_shape_47cf, []) := rfl
theorem e__law_classes_d301_2 : E__law_classes_d301.env.fn 283 = some (f__law_methods_2714, []) := rfl
--@ _law_classes_d301 = c__law_classes_d301 e__law_classes_d301_0 e__law_classes_d301_1 e__law_classes_d301_2 | c__law_classes_d301_1
end LawP
set_option Elab.async false
set_option linter.all false
set_option maxRecDepth 100000
set_option maxHeartbeats 0
namespace LawP
open PySem MP
/-! _law_few_d7fb -/
def N__law_few_d7fb : List Str := ["_law_hand_here", "_law_rows", "_law_few_here", "_law_found", "_law_bases_here", "_law_fields", "_law_methods_here", "_law_names", "_law_step"]
def c__law_few_d7fb_1 : Ss := (.cons (.ex (.lm .append (.var 7) (.cons (.call 281 (.cons (.var 0) (.cons (.var 2) .nil)) 0) .nil))) .nil)
def c__law_few_d7fb_2 : Ss := (.cons (.asg 7 .own (.lst .nil)) (.cons (.for_ (.name 8) (.r1 (.ite (.var 4) (.ix (.tup (.cons (.int 0) (.cons (.int 1) (.cons (.int 1) (.cons (.int 0) (.cons (.int 1) (.cons (.int 2) .nil))))))) (.call 281 (.cons (.var 0) (.cons (.int 6) .nil)) 0)) (.bin .add (.int 1) (.call 281 (.cons (.var 0) (.cons (.int 2) .nil)) 0)))) c__law_few_d7fb_1) (.cons (.ex (.lm .append (.var 3) (.cons (.tup (.cons (.var 4) (.cons (.var 5) (.cons (.bi .sortedSet (.cons (.var 7) .nil)) .nil)))) .nil))) .nil)))
def c__law_few_d7fb : Ss := (.cons (.ite (.cmp .eq (.call 281 (.cons (.var 0) (.cons (.int 3) .nil)) 0) (.int 0)) (.cons (.ret (.var 1)) .nil) .nil) (.cons (.asg 2 .val (.ix (.tup (.cons (.int 1) (.cons (.int 1) (.cons (.int 2) (.cons (.int 3) .nil))))) (.call 281 (.cons (.var 0) (.cons (.int 4) .nil)) 0))) (.cons (.asg 3 .own (.lst .nil)) (.cons (.for_ (.tup [4, 5, 6]) (.seq (.var 1)) c__law_few_d7fb_2) (.cons (.ret (.var 3)) .nil)))))
def E__law_few_d7fb : EnvL where
  fn := [(281, f__law_take_1561, [])]
  mkl := []
  xc := []
  xa := []
  xn := []
  xk := []
  fa := []
  ic := []
def f__law_few_d7fb : FnSem := runFn E__law_few_d7fb.env 2 9 c__law_few_d7fb
theorem e__law_few_d7fb_0 : E__law_few_d7fb.env.fn 281 = some (f__law_take_1561, []) := rfl
--@ _law_few_d7fb = c__law_few_d7fb e__law_few_d7fb_0 | c__law_few_d7fb_1 c__law_few_d7fb_2
end LawP
set_option Elab.async false
set_option linter.all false
set_option maxRecDepth 100000
set_option maxHeartbeats 0
namespace LawP
open PySem MP
/-! _law_elders_2534 -/
def N__law_elders_2534 : List Str := ["_law_rows", "_law_found", "_law_bases_here", "_law_fields", "_law_methods_here", "_law_mine", "_law_base"]
def c__law_elders_2534_1 : Ss := (.cons (.asg 5 .val (.bin .add (.bin .add (.var 5) (.lst (.cons (.var 6) .nil))) (.ix (.var 1) (.var 6)))) .nil)
def c__law_elders_2534_2 : Ss := (.cons (.asg 5 .val (.lst .nil)) (.cons (.for_ (.name 6) (.seq (.var 2)) c__law_elders_2534_1) (.cons (.ex (.lm .append (.var 1) (.cons (.bi .sortedSet (.cons (.var 5) .nil)) .nil))) .nil)))
def c__law_elders_2534 : Ss := (.cons (.asg 1 .own (.lst .nil)) (.cons (.for_ (.tup [2, 3, 4]) (.seq (.var 0)) c__law_elders_2534_2) (.cons (.ret (.var 1)) .nil)))
def E__law_elders_2534 : EnvL where
  fn := []
  mkl := []
  xc := []
  xa := []
  xn := []
  xk := []
  fa := []
  ic := []
def f__law_elders_2534 : FnSem := runFn E__law_elders_2534.env 1 7 c__law_elders_2534
--@ _law_elders_2534 = c__law_elders_2534 | c__law_elders_2534_1 c__law_elders_2534_2
/-! _law_tops -/
def N__law_tops : List Str := ["_law_elders_here", "_law_lot", "_law_c", "_law_one"]
def c__law_tops : Ss := (.cons (.ret (.lc (.var 2) (.name 2) (.seq (.bi .sortedSet (.cons (.var 1) .nil))) (.cons (.not (.lc (.var 3) (.name 3) (.seq (.var 1)) (.cons (.cmp .inn (.var 2) (.ix (.var 0) (.var 3))) .nil))) .nil))) .nil)
def E__law_tops : EnvL where
  fn := []
  mkl := []
  xc := []
  xa := []
  xn := []
  xk := []
  fa := []
  ic := []
def f__law_tops : FnSem := runFn E__law_tops.env 2 4 c__law_tops
--@ _law_tops = c__law_tops | 
/-! _law_defining -/
def N__law_defining : List Str := ["_law_rows", "_law_elders_here", "_law_c", "_law_name", "_law_one"]
def c__law_defining : Ss := (.cons (.ret (.lc (.var 4) (.name 4) (.seq (.bi .sorted (.cons (.bin .add (.ix (.var 1) (.var 2)) (.lst (.cons (.var 2) .nil))) .nil))) (.cons (.cmp .inn (.var 3) (.ix (.ix (.var 0) (.var 4)) (.int 2))) .nil))) .nil)
def E__law_defining : EnvL where
  fn := []
  mkl := []
  xc := []
  xa := []
  xn := []
  xk := []
  fa := []
  ic := []
def f__law_defining : FnSem := runFn E__law_defining.env 4 5 c__law_defining
--@ _law_defining = c__law_defining | 
/-! _law_answers_53d9 -/
def N__law_answers_53d9 : List Str := ["_law_rows", "_law_elders_here", "_law_c", "_law_name"]
def c__law_answers_53d9 : Ss := (.cons (.ret (.call 518 (.cons (.var 1) (.cons (.call 519 (.cons (.var 0) (.cons (.var 1) (.cons (.var 2) (.cons (.var 3) .nil)))) 0) .nil)) 0)) .nil)
def E__law_answers_53d9 : EnvL where
  fn := [(518, f__law_tops, []), (519, f__law_defining, [])]
  mkl := []
  xc := []
  xa := []
  xn := []
  xk := []
  fa := []
  ic := []
def f__law_answers_53d9 : FnSem := runFn E__law_answers_53d9.env 4 4 c__law_answers_53d9
theorem e__law_answers_53d9_0 : E__law_answers_53d9.env.fn 518 = some (f__law_tops, []) := rfl
theorem e__law_answers_53d9_1 : E__law_answers_53d9.env.fn 519 = some (f__law_defining, []) := rfl
--@ _law_answers_53d9 = c__law_answers_53d9 e__law_answers_53d9_0 e__law_answers_53d9_1 | 
/-! check_class -/
def N_check_class : List Str := ["world", "c"]
def c_check_class : Ss := (.cons (.ite (.not (.call 2 (.cons (.var 1) (.cons (.int 0) (.cons (.bin .sub (.bi .len (.cons (.fld (.var 0) 2) .nil)) (.int 1)) .nil))) 0)) (.cons (.raise 5 (.cons (.var 1) .nil)) .nil) .nil) (.cons (.ret (.var 1)) .nil))
def E_check_class : EnvL where
  fn := [(2, f_is_whole, [.non, .non])]
  mkl := []
  xc := [(5, [9])]
  xa := []
  xn := []
  xk := []
  fa := [(2, 2)]
  ic := []
def f_check_class : FnSem := runFn E_check_class.env 2 2 c_check_class
theorem e_check_class_0 : E_check_class.env.fn 2 = some (f_is_whole, [.non, .non]) := rfl
theorem e_check_class_1 : E_check_class.env.xc 5 = some [9] := rfl
theorem e_check_class_2 : E_check_class.env.fa 2 2 = true := rfl
--@ check_class = c_check_class e_check_class_0 e_check_class_1 e_check_class_2 | 
/-! check_name -/
def N_check_name : List Str := ["name"]
def c_check_name : Ss := (.cons (.ite (.not (.call 2 (.cons (.var 0) (.cons (.int 0) (.cons (.int 5) .nil))) 0)) (.cons (.raise 54 (.cons (.var 0) .nil)) .nil) .nil) (.cons (.ret (.var 0)) .nil))
def E_check_name : EnvL where
  fn := [(2, f_is_whole, [.non, .non])]
  mkl := []
  xc := [(54, [49])]
  xa := []
  xn := []
  xk := []
  fa := []
  ic := []
def f_check_name : FnSem := runFn E_check_name.env 1 1 c_check_name
theorem e_check_name_0 : E_check_name.env.fn 2 = some (f_is_whole, [.non, .non]) := rfl
theorem e_check_name_1 : E_check_name.env.xc 54 = some [49] := rfl
--@ check_name = c_check_name e_check_name_0 e_check_name_1 | 
/-! defining_of -/
def N_defining_of : List Str := ["world", "c", "name", "one"]
def c_defining_of : Ss := (.cons (.ex (.call 8 (.cons (.var 0) (.cons (.var 1) .nil)) 0)) (.cons (.ex (.call 134 (.cons (.var 2) .nil) 0)) (.cons (.ret (.bi .tuple (.cons (.lc (.var 3) (.name 3) (.seq (.bin .add (.ix (.fld (.var 0) 6) (.var 1)) (.tup (.cons (.var 1) .nil)))) (.cons (.cmp .inn (.var 2) (.ix (.fld (.var 0) 5) (.var 3))) .nil)) .nil))) .nil)))
def E_defining_of : EnvL where
  fn := [(8, f_check_class, []), (134, f_check_name, [])]
  mkl := []
  xc := []
  xa := []
  xn := []
  xk := []
  fa := [(2, 6), (2, 5)]
  ic := []
def f_defining_of : FnSem := runFn E_defining_of.env 3 4 c_defining_of
theorem e_defining_of_0 : E_defining_of.env.fn 8 = some (f_check_class, []) := rfl
theorem e_defining_of_1 : E_defining_of.env.fn 134 = some (f_check_name, []) := rfl
theorem e_defining_of_2 : E_defining_of.env.fa 2 6 = true := rfl
theorem e_defining_of_3 : E_defining_of.env.fa 2 5 = true := rfl
--@ defining_of = c_defining_of e_defining_of_0 e_defining_of_1 e_defining_of_2 e_defining_of_3 | 
/-! without_elders -/
def N_without_elders : List Str := ["world", "lot", "c", "one"]
def c_without_elders : Ss := (.cons (.ret (.bi .tuple (.cons (.lc (.var 2) (.name 2) (.seq (.bi .sortedSet (.cons (.var 1) .nil))) (.cons (.not (.lc (.var 3) (.name 3) (.seq (.var 1)) (.cons (.cmp .inn (.var 2) (.ix (.fld (.var 0) 6) (.var 3))) .nil))) .nil)) .nil))) .nil)
def E_without_elders : EnvL where
  fn := []
  mkl := []
  xc := []
  xa := []
  xn := []
  xk := []
  fa := [(2, 6)]
  ic := []
def f_without_elders : FnSem := runFn E_without_elders.env 2 4 c_without_elders
theorem e_without_elders_0 : E_without_elders.env.fa 2 6 = true := rfl
--@ without_elders = c_without_elders e_without_elders_0 | 
/-! answers_of -/
def N_answers_of : List Str := ["world", "c", "name"]
def c_answers_of : Ss := (.cons (.ret (.call 135 (.cons (.var 0) (.cons (.call 136 (.cons (.var 0) (.cons (.var 1) (.cons (.var 2) .nil))) 0) .nil)) 0)) .nil)
def E_answers_of : EnvL where
  fn := [(135, f_without_elders, []), (136, f_defining_of, [])]
  mkl := []
  xc := []
  xa := []
  xn := []
  xk := []
  fa := []
  ic := []
def f_answers_of : FnSem := runFn E_answers_of.env 3 3 c_answers_of
theorem e_answers_of_0 : E_answers_of.env.fn 135 = some (f_without_elders, []) := rfl
theorem e_answers_of_1 : E_answers_of.env.fn 136 = some (f_defining_of, []) := rfl
--@ answers_of = c_answers_of e_answers_of_0 e_answers_of_1 | 
/-! definer_of -/
def N_definer_of : List Str := ["world", "c", "name", "found"]
def c_definer_of : Ss := (.cons (.asg 3 .val (.call 137 (.cons (.var 0) (.cons (.var 1) (.cons (.var 2) .nil))) 0)) (.cons (.ite (.not (.var 3)) (.cons (.raise 55 (.cons (.var 1) (.cons (.var 2) .nil))) .nil) .nil) (.cons (.ite (.cmp .gt (.bi .len (.cons (.var 3) .nil)) (.int 1)) (.cons (.raise 56 (.cons (.var 1) (.cons (.var 2) (.cons (.ix (.var 3) (.int 0)) (.cons (.ix (.var 3) (.int 1)) .nil))))) .nil) .nil) (.cons (.ret (.ix (.var 3) (.int 0))) .nil))))
def E_definer_of : EnvL where
  fn := [(137, f_answers_of, [])]
  mkl := []
  xc := [(55, [9, 49]), (56, [9, 49, 14, 15])]
  xa := []
  xn := []
  xk := []
  fa := []
  ic := []
def f_definer_of : FnSem := runFn E_definer_of.env 3 4 c_definer_of
theorem e_definer_of_0 : E_definer_of.env.fn 137 = some (f_answers_of, []) := rfl
theorem e_definer_of_1 : E_definer_of.env.xc 55 = some [9, 49] := rfl
theorem e_definer_of_2 : E_definer_of.env.xc 56 = some [9, 49, 14, 15] := rfl
--@ definer_of = c_definer_of e_definer_of_0 e_definer_of_1 e_definer_of_2 | 
/-! _law_definer -/
def N__law_definer : List Str := ["_law_world", "_law_c", "_law_name", "wrong", "_law_told"]
def c__law_definer : Ss := (.cons (.try_ (.cons (.asg 4 .val (.call 138 (.cons (.var 0) (.cons (.var 1) (.cons (.var 2) .nil))) 0)) .nil) (.cons 55 (some 3) (.cons (.asg 4 .val (.tup (.cons (.str "none") (.cons (.xf 3 9) (.cons (.xf 3 49) .nil))))) .nil) (.cons 56 (some 3) (.cons (.asg 4 .val (.tup (.cons (.str "two") (.cons (.xf 3 9) (.cons (.xf 3 49) (.cons (.xf 3 14) (.cons (.xf 3 15) .nil))))))) .nil) .nil))) (.cons (.ret (.var 4)) .nil))
def E__law_definer : EnvL where
  fn := [(138, f_definer_of, [])]
  mkl := []
  xc := []
  xa := [(55, 9), (55, 49), (56, 9), (56, 49), (56, 14), (56, 15)]
  xn := [55, 56]
  xk := [((5, 55), false), ((5, 56), false), ((54, 55), false), ((54, 56), false), ((55, 55), true), ((55, 56), false), ((56, 55), false), ((56, 56), true)]
  fa := []
  ic := []
def f__law_definer : FnSem := runFn E__law_definer.env 3 5 c__law_definer
theorem e__law_definer_0 : E__law_definer.env.fn 138 = some (f_definer_of, []) := rfl
theorem e__law_definer_1 : E__law_definer.env.xa 55 9 = true := rfl
theorem e__law_definer_2 : E__law_definer.env.xa 55 49 = true := rfl
theorem e__law_definer_3 : E__law_definer.env.xa 56 9 = true := rfl
theorem e__law_definer_4 : E__law_definer.env.xa 56 49 = true := rfl
theorem e__law_definer_5 : E__law_definer.env.xa 56 14 = true := rfl
theorem e__law_definer_6 : E__law_definer.env.xa 56 15 = true := rfl
theorem e__law_definer_7 : E__law_definer.env.xk 5 55 = some false := rfl
theorem e__law_definer_8 : E__law_definer.env.xk 5 56 = some false := rfl
theorem e__law_definer_9 : E__law_definer.env.xk 54 55 = some false := rfl
theorem e__law_definer_10 : E__law_definer.env.xk 54 56 = some false := rfl
theorem e__law_definer_11 : E__law_definer.env.xk 55 55 = some true := rfl
theorem e__law_definer_12 : E__law_definer.env.xk 55 56 = some false := rfl
theorem e__law_definer_13 : E__law_definer.env.xk 56 55 = some false := rfl
theorem e__law_definer_14 : E__law_definer.env.xk 56 56 = some true := rfl
--@ _law_definer = c__law_definer e__law_definer_0 e__law_definer_1 e__law_definer_2 e__law_definer_3 e__law_definer_4 e__law_definer_5 e__law_definer_6 e__law_definer_7 e__law_definer_8 e__law_definer_9 e__law_definer_10 e__law_definer_11 e__law_definer_12 e__law_definer_13 e__law_definer_14 | 
/-! _law_definer_due -/
def N__law_definer_due : List Str := ["_law_lot", "_law_c", "_law_name"]
def c__law_definer_due : Ss := (.cons (.ite (.cmp .eq (.var 0) (.lst .nil)) (.cons (.ret (.tup (.cons (.str "none") (.cons (.var 1) (.cons (.var 2) .nil))))) .nil) .nil) (.cons (.ret (.ite (.cmp .eq (.bi .len (.cons (.var 0) .nil)) (.int 1)) (.ix (.var 0) (.int 0)) (.tup (.cons (.str "two") (.cons (.var 1) (.cons (.var 2) (.cons (.ix (.var 0) (.int 0)) (.cons (.ix (.var 0) (.int 1)) .nil)))))))) .nil))
def E__law_definer_due : EnvL where
  fn := []
  mkl := []
  xc := []
  xa := []
  xn := []
  xk := []
  fa := []
  ic := []
def f__law_definer_due : FnSem := runFn E__law_definer_due.env 3 3 c__law_definer_due
--@ _law_definer_due = c__law_definer_due | 
/-! two_answers -/
def N_two_answers : List Str := ["world", "found", "c", "name"]
def c_two_answers_1 : Ss := (.cons (.ite (.cmp .gt (.bi .len (.cons (.call 137 (.cons (.var 0) (.cons (.var 2) (.cons (.var 3) .nil))) 0) .nil)) (.int 1)) (.cons (.ex (.lm .append (.var 1) (.cons (.tup (.cons (.var 2) (.cons (.var 3) .nil))) .nil))) .nil) .nil) .nil)
def c_two_answers_2 : Ss := (.cons (.for_ (.name 3) (.r1 (.int 6)) c_two_answers_1) .nil)
def c_two_answers : Ss := (.cons (.asg 1 .own (.lst .nil)) (.cons (.for_ (.name 2) (.r1 (.bi .len (.cons (.fld (.var 0) 2) .nil))) c_two_answers_2) (.cons (.ret (.bi .tuple (.cons (.var 1) .nil))) .nil)))
def E_two_answers : EnvL where
  fn := [(137, f_answers_of, [])]
  mkl := []
  xc := []
  xa := []
  xn := []
  xk := []
  fa := [(2, 2)]
  ic := []
def f_two_answers : FnSem := runFn E_two_answers.env 1 4 c_two_answers
theorem e_two_answers_0 : E_two_answers.env.fn 137 = some (f_answers_of, []) := rfl
theorem e_two_answers_1 : E_two_answers.env.fa 2 2 = true := rfl
--@ two_answers = c_two_answers e_two_answers_0 e_two_answers_1 | c_two_answers_1 c_two_answers_2
/-! off_line -/
def N_off_line : List Str := ["world", "name", "lot", "at", "a", "b", "c"]
def c_off_line_1 : Ss := (.cons (.ite (.cmp .nin (.var 4) (.ix (.fld (.var 0) 6) (.var 5))) (.cons (.ret (.tup (.cons (.var 4) (.cons (.var 5) .nil)))) .nil) .nil) .nil)
def c_off_line_2 : Ss := (.cons (.for_ (.name 5) (.seq (.slc (.var 2) (.so (.bin .add (.var 3) (.int 1))) .no)) c_off_line_1) .nil)
def c_off_line : Ss := (.cons (.ex (.call 134 (.cons (.var 1) .nil) 0)) (.cons (.asg 2 .val (.lc (.var 6) (.name 6) (.r1 (.bi .len (.cons (.fld (.var 0) 2) .nil))) (.cons (.cmp .inn (.var 1) (.ix (.fld (.var 0) 5) (.var 6))) .nil))) (.cons (.for_ (.tup [3, 4]) (.enum (.var 2)) c_off_line_2) (.cons (.ret .non) .nil))))
def E_off_line : EnvL where
  fn := [(134, f_check_name, [])]
  mkl := []
  xc := []
  xa := []
  xn := []
  xk := []
  fa := [(2, 2), (2, 5), (2, 6)]
  ic := []
def f_off_line : FnSem := runFn E_off_line.env 2 7 c_off_line
theorem e_off_line_0 : E_off_line.env.fn 134 = some (f_check_name, []) := rfl
theorem e_off_line_1 : E_off_line.env.fa 2 2 = true := rfl
theorem e_off_line_2 : E_off_line.env.fa 2 5 = true := rfl
theorem e_off_line_3 : E_off_line.env.fa 2 6 = true := rfl
--@ off_line = c_off_line e_off_line_0 e_off_line_1 e_off_line_2 e_off_line_3 | c_off_line_1 c_off_line_2
/-! _law_off -/
def N__law_off : List Str := ["_law_rows", "_law_elders_here", "_law_name", "_law_lot", "_law_a", "_law_b", "_law_c"]
def c__law_off_1 : Ss := (.cons (.ite (.and (.cmp .lt (.var 4) (.var 5)) (.cmp .nin (.var 4) (.ix (.var 1) (.var 5)))) (.cons (.ret (.tup (.cons (.var 4) (.cons (.var 5) .nil)))) .nil) .nil) .nil)
def c__law_off_2 : Ss := (.cons (.for_ (.name 5) (.seq (.var 3)) c__law_off_1) .nil)
def c__law_off : Ss := (.cons (.asg 3 .val (.lc (.var 6) (.name 6) (.r1 (.bi .len (.cons (.var 0) .nil))) (.cons (.cmp .inn (.var 2) (.ix (.ix (.var 0) (.var 6)) (.int 2))) .nil))) (.cons (.for_ (.name 4) (.seq (.var 3)) c__law_off_2) (.cons (.ret .non) .nil)))
def E__law_off : EnvL where
  fn := []
  mkl := []
  xc := []
  xa := []
  xn := []
  xk := []
  fa := []
  ic := []
def f__law_off : FnSem := runFn E__law_off.env 3 7 c__law_off
--@ _law_off = c__law_off | c__law_off_1 c__law_off_2
/-! law_8b95 -/
def N_law_8b95 : List Str := ["_law_script", "_law_hand_here", "_law_rows", "_law_world", "_law_elders_here", "_law_double", "_law_c", "_law_name", "_law_lot"]
def c_law_8b95_1 : Ss := (.cons (.asg 8 .val (.call 520 (.cons (.var 2) (.cons (.var 4) (.cons (.var 6) (.cons (.var 7) .nil)))) 0)) (.cons (.ite (.cmp .gt (.bi .len (.cons (.var 8) .nil)) (.int 1)) (.cons (.ex (.lm .append (.var 5) (.cons (.tup (.cons (.var 6) (.cons (.var 7) .nil))) .nil))) .nil) .nil) (.cons (.ite (.cmp .ne (.bi .repr (.cons (.call 136 (.cons (.var 3) (.cons (.var 6) (.cons (.var 7) .nil))) 0) .nil)) (.bi .repr (.cons (.bi .tuple (.cons (.call 519 (.cons (.var 2) (.cons (.var 4) (.cons (.var 6) (.cons (.var 7) .nil)))) 0) .nil)) .nil))) (.cons (.ret (.bl false)) .nil) .nil) (.cons (.ite (.cmp .ne (.bi .repr (.cons (.call 137 (.cons (.var 3) (.cons (.var 6) (.cons (.var 7) .nil))) 0) .nil)) (.bi .repr (.cons (.bi .tuple (.cons (.var 8) .nil)) .nil))) (.cons (.ret (.bl false)) .nil) .nil) (.cons (.ite (.cmp .ne (.bi .repr (.cons (.call 522 (.cons (.var 3) (.cons (.var 6) (.cons (.var 7) .nil))) 0) .nil)) (.bi .repr (.cons (.call 523 (.cons (.var 8) (.cons (.var 6) (.cons (.var 7) .nil))) 0) .nil))) (.cons (.ret (.bl false)) .nil) .nil) .nil)))))
def c_law_8b95_2 : Ss := (.cons (.for_ (.name 7) (.r1 (.int 6)) c_law_8b95_1) .nil)
def c_law_8b95_3 : Ss := (.cons (.ite (.or (.cmp .ne (.bi .repr (.cons (.call 134 (.cons (.var 7) .nil) 0) .nil)) (.bi .repr (.cons (.var 7) .nil))) (.cmp .ne (.bi .repr (.cons (.call 140 (.cons (.var 3) (.cons (.var 7) .nil)) 0) .nil)) (.bi .repr (.cons (.call 524 (.cons (.var 2) (.cons (.var 4) (.cons (.var 7) .nil))) 0) .nil)))) (.cons (.ret (.bl false)) .nil) .nil) .nil)
def c_law_8b95 : Ss := (.cons (.asg 1 .cell (.call 279 (.cons (.var 0) .nil) 0)) (.cons (.asg 2 .val (.call 521 (.cons (.var 1) (.cons (.call 285 (.cons (.var 1) (.cons (.int 1) (.cons (.int 8) (.cons (.int 9) (.cons (.bl true) .nil))))) 0) .nil)) 0)) (.cons (.asg 3 .val (.mk 2 (.cons (.var 2) .nil))) (.cons (.asg 4 .val (.call 286 (.cons (.var 2) .nil) 0)) (.cons (.asg 5 .own (.lst .nil)) (.cons (.for_ (.name 6) (.r1 (.bi .len (.cons (.var 2) .nil))) c_law_8b95_2) (.cons (.ite (.cmp .ne (.bi .repr (.cons (.call 139 (.cons (.var 3) .nil) 0) .nil)) (.bi .repr (.cons (.bi .tuple (.cons (.var 5) .nil)) .nil))) (.cons (.ret (.bl false)) .nil) .nil) (.cons (.for_ (.name 7) (.r1 (.int 6)) c_law_8b95_3) (.cons (.ret (.bl true)) .nil)))))))))
def E_law_8b95 : EnvL where
  fn := [(279, f__law_hand_bbe7, []), (521, f__law_few_d7fb, []), (285, f__law_classes_d301, []), (286, f__law_elders_2534, []), (520, f__law_answers_53d9, []), (136, f_defining_of, []), (519, f__law_defining, []), (137, f_answers_of, []), (522, f__law_definer, []), (523, f__law_definer_due, []), (139, f_two_answers, []), (140, f_off_line, []), (524, f__law_off, []), (134, f_check_name, [])]
  mkl := [(2, k_World)]
  xc := []
  xa := []
  xn := []
  xk := []
  fa := []
  ic := []
def f_law_8b95 : FnSem := runFn E_law_8b95.env 1 9 c_law_8b95
theorem e_law_8b95_0 : E_law_8b95.env.fn 279 = some (f__law_hand_bbe7, []) := rfl
theorem e_law_8b95_1 : E_law_8b95.env.fn 521 = some (f__law_few_d7fb, []) := rfl
theorem e_law_8b95_2 : E_law_8b95.env.fn 285 = some (f__law_classes_d301, []) := rfl
theorem e_law_8b95_3 : E_law_8b95.env.fn 286 = some (f__law_elders_2534, []) := rfl
theorem e_law_8b95_4 : E_law_8b95.env.fn 520 = some (f__law_answers_53d9, []) := rfl
theorem e_law_8b95_5 : E_law_8b95.env.fn 136 = some (f_defining_of, []) := rfl
theorem e_law_8b95_6 : E_law_8b95.env.fn 519 = some (f__law_defining, []) := rfl
theorem e_law_8b95_7 : E_law_8b95.env.fn 137 = some (f_answers_of, []) := rfl
theorem e_law_8b95_8 : E_law_8b95.env.fn 522 = some (f__law_definer, []) := rfl
theorem e_law_8b95_9 : E_law_8b95.env.fn 523 = some (f__law_definer_due, []) := rfl
theorem e_law_8b95_10 : E_law_8b95.env.fn 139 = some (f_two_answers, []) := rfl
theorem e_law_8b95_11 : E_law_8b95.env.fn 140 = some (f_off_line, []) := rfl
theorem e_law_8b95_12 : E_law_8b95.env.fn 524 = some (f__law_off, []) := rfl
theorem e_law_8b95_13 : E_law_8b95.env.fn 134 = some (f_check_name, []) := rfl
theorem e_law_8b95_14 : E_law_8b95.env.made 2 = some k_World := rfl
--@ law_8b95 = c_law_8b95 e_law_8b95_0 e_law_8b95_1 e_law_8b95_2 e_law_8b95_3 e_law_8b95_4 e_law_8b95_5 e_law_8b95_6 e_law_8b95_7 e_law_8b95_8 e_law_8b95_9 e_law_8b95_10 e_law_8b95_11 e_law_8b95_12 e_law_8b95_13 e_law_8b95_14 | c_law_8b95_1 c_law_8b95_2 c_law_8b95_3
end LawP
set_option Elab.async false
set_option linter.all false
set_option maxRecDepth 100000
set_option maxHeartbeats 0
namespace LawP
open PySem MP
/-! _law_couples_ea0e -/
def N__law_couples_ea0e : List Str := ["_law_many", "_law_found", "_law_a", "_law_b"]
def c__law_couples_ea0e_1 : Ss := (.cons (.ex (.lm .append (.var 1) (.cons (.tup (.cons (.var 2) (.cons (.var 3) .nil))) .nil))) .nil)
def c__law_couples_ea0e_2 : Ss := (.cons (.for_ (.name 3) (.r2 (.bin .add (.var 2) (.int 1)) (.var 0)) c__law_couples_ea0e_1) .nil)
def c__law_couples_ea0e : Ss := (.cons (.asg 1 .own (.lst .nil)) (.cons (.for_ (.name 2) (.r1 (.var 0)) c__law_couples_ea0e_2) (.cons (.ret (.var 1)) .nil)))
def E__law_couples_ea0e : EnvL where
  fn := []
  mkl := []
  mtl := []
  xc := []
  xa := []
  xn := []
  xk := []
  fa := []
  ic := []
def f__law_couples_ea0e : FnSem := runFn E__law_couples_ea0e.env 1 4 c__law_couples_ea0e
--@ _law_couples_ea0e = c__law_couples_ea0e | c__law_couples_ea0e_1 c__law_couples_ea0e_2
/-! _law_kinds_3967 -/
def N__law_kinds_3967 : List Str := ["_law_hand_here", "_law_many", "_law_shape", "_law_joined_here", "_law_lone", "_law_a", "_law_b", "_law_one", "_law_let"]
def c__law_kinds_3967_1 : Ss := (.cons (.ite (.cmp .eq (.var 2) (.int 0)) (.cons (.asg 8 .val (.cmp .eq (.call 281 (.cons (.var 0) (.cons (.int 2) .nil)) 0) (.int 0))) .nil) (.cons (.ite (.cmp .eq (.var 2) (.int 1)) (.cons (.asg 8 .val (.or (.cmp .eq (.var 6) (.bin .add (.var 5) (.int 1))) (.cmp .eq (.bin .add (.var 5) (.var 1)) (.bin .add (.var 6) (.int 1))))) .nil) (.cons (.ite (.cmp .eq (.var 2) (.int 2)) (.cons (.asg 8 .val (.cmp .eq (.bin .mod (.bi .int (.cons (.bin .sub (.var 6) (.var 5)) .nil)) (.int 2)) (.int 1))) .nil) (.cons (.ite (.cmp .eq (.var 2) (.int 3)) (.cons (.asg 8 .val (.bl true)) .nil) (.cons (.asg 8 .val (.cmp .gt (.call 281 (.cons (.var 0) (.cons (.int 4) .nil)) 0) (.int 0))) .nil)) .nil)) .nil)) .nil)) (.cons (.ite (.var 8) (.cons (.ex (.lm .append (.var 3) (.cons (.tup (.cons (.var 5) (.cons (.var 6) .nil))) .nil))) .nil) .nil) .nil))
def c__law_kinds_3967_2 : Ss := (.cons (.ite (.cmp .eq (.call 281 (.cons (.var 0) (.cons (.int 3) .nil)) 0) (.int 0)) (.cons (.ex (.lm .append (.var 4) (.cons (.var 7) .nil))) .nil) .nil) .nil)
def c__law_kinds_3967 : Ss := (.cons (.asg 1 .val (.ix (.tup (.cons (.int 2) (.cons (.int 3) (.cons (.int 3) (.cons (.int 4) (.cons (.int 4) (.cons (.int 5) (.cons (.int 5) (.cons (.int 1) .nil))))))))) (.call 281 (.cons (.var 0) (.cons (.int 8) .nil)) 0))) (.cons (.asg 2 .val (.call 281 (.cons (.var 0) (.cons (.int 5) .nil)) 0)) (.cons (.asg 3 .own (.lst .nil)) (.cons (.for_ (.tup [5, 6]) (.seq (.call 382 (.cons (.var 1) .nil) 0)) c__law_kinds_3967_1) (.cons (.ite (.and (.var 3) (.cmp .eq (.call 281 (.cons (.var 0) (.cons (.int 4) .nil)) 0) (.int 0))) (.cons (.ex (.lm .popAt (.var 3) (.cons (.call 281 (.cons (.var 0) (.cons (.bi .len (.cons (.var 3) .nil)) .nil)) 0) .nil))) .nil) .nil) (.cons (.asg 4 .own (.lst .nil)) (.cons (.ite (.cmp .eq (.call 281 (.cons (.var 0) (.cons (.int 3) .nil)) 0) (.int 0)) (.cons (.for_ (.name 7) (.r1 (.var 1)) c__law_kinds_3967_2) .nil) .nil) (.cons (.ret (.lst (.cons (.var 1) (.cons (.var 3) (.cons (.var 4) .nil))))) .nil))))))))
def E__law_kinds_3967 : EnvL where
  fn := [(281, f__law_take_1561, []), (382, f__law_couples_ea0e, [])]
  mkl := []
  mtl := []
  xc := []
  xa := []
  xn := []
  xk := []
  fa := []
  ic := []
def f__law_kinds_3967 : FnSem := runFn E__law_kinds_3967.env 1 9 c__law_kinds_3967
theorem e__law_kinds_3967_0 : E__law_kinds_3967.env.fn 281 = some (f__law_take_1561, []) := rfl
theorem e__law_kinds_3967_1 : E__law_kinds_3967.env.fn 382 = some (f__law_couples_ea0e, []) := rfl
--@ _law_kinds_3967 = c__law_kinds_3967 e__law_kinds_3967_0 e__law_kinds_3967_1 | c__law_kinds_3967_1 c__law_kinds_3967_2
/-! _law_row_1f99 -/
def N__law_row_1f99 : List Str := ["_law_hand_here", "_law_items"]
def c__law_row_1f99 : Ss := (.cons (.ret (.ite (.call 281 (.cons (.var 0) (.cons (.int 2) .nil)) 0) (.bi .list (.cons (.var 1) .nil)) (.bi .tuple (.cons (.var 1) .nil)))) .nil)
def E__law_row_1f99 : EnvL where
  fn := [(281, f__law_take_1561, [])]
  mkl := []
  mtl := []
  xc := []
  xa := []
  xn := []
  xk := []
  fa := []
  ic := []
def f__law_row_1f99 : FnSem := runFn E__law_row_1f99.env 2 2 c__law_row_1f99
theorem e__law_row_1f99_0 : E__law_row_1f99.env.fn 281 = some (f__law_take_1561, []) := rfl
--@ _law_row_1f99 = c__law_row_1f99 e__law_row_1f99_0 | 
/-! couple_of -/
def N_couple_of : List Str := ["thing", "many", "item"]
def c_couple_of_1 : Ss := (.cons (.ite (.not (.call 2 (.cons (.var 2) (.cons (.int 0) (.cons (.bin .sub (.var 1) (.int 1)) .nil))) 0)) (.cons (.ret .non) .nil) .nil) .nil)
def c_couple_of : Ss := (.cons (.ite (.or (.not (.call 1 (.cons (.var 0) .nil) 0)) (.cmp .ne (.bi .len (.cons (.var 0) .nil)) (.int 2))) (.cons (.ret .non) .nil) .nil) (.cons (.for_ (.name 2) (.seq (.var 0)) c_couple_of_1) (.cons (.ite (.cmp .eq (.ix (.var 0) (.int 0)) (.ix (.var 0) (.int 1))) (.cons (.ret .non) .nil) .nil) (.cons (.ret (.tup (.cons (.bi .min2 (.cons (.ix (.var 0) (.int 0)) (.cons (.ix (.var 0) (.int 1)) .nil))) (.cons (.bi .max2 (.cons (.ix (.var 0) (.int 0)) (.cons (.ix (.var 0) (.int 1)) .nil))) .nil)))) .nil))))
def E_couple_of : EnvL where
  fn := [(1, f_is_sequence, []), (2, f_is_whole, [.non, .non])]
  mkl := []
  mtl := []
  xc := []
  xa := []
  xn := []
  xk := []
  fa := []
  ic := []
def f_couple_of : FnSem := runFn E_couple_of.env 2 3 c_couple_of
theorem e_couple_of_0 : E_couple_of.env.fn 1 = some (f_is_sequence, []) := rfl
theorem e_couple_of_1 : E_couple_of.env.fn 2 = some (f_is_whole, [.non, .non]) := rfl
--@ couple_of = c_couple_of e_couple_of_0 e_couple_of_1 | c_couple_of_1
/-! Kinds_init -/
def N_Kinds_init : List Str := ["self", "many", "joined", "bare", "couples", "alone", "at", "thing", "couple", "kind"]
def c_Kinds_init_1 : Ss := (.cons (.asg 8 .val (.call 51 (.cons (.var 7) (.cons (.var 1) .nil)) 0)) (.cons (.ite (.or (.cmp .isN (.var 8) .non) (.cmp .inn (.var 8) (.var 4))) (.cons (.raise 16 (.cons (.var 6) (.cons (.str "join") .nil))) .nil) .nil) (.cons (.ex (.lm .append (.var 4) (.cons (.var 8) .nil))) .nil)))
def c_Kinds_init_2 : Ss := (.cons (.ite (.or (.not (.call 2 (.cons (.var 9) (.cons (.int 0) (.cons (.bin .sub (.var 1) (.int 1)) .nil))) 0)) (.cmp .inn (.var 9) (.var 5))) (.cons (.raise 16 (.cons (.var 6) (.cons (.str "bare") .nil))) .nil) .nil) (.cons (.ex (.lm .append (.var 5) (.cons (.var 9) .nil))) .nil))
def c_Kinds_init : Ss := (.cons (.ite (.not (.call 2 (.cons (.var 1) (.cons (.int 1) (.cons (.int 5) .nil))) 0)) (.cons (.raise 16 (.cons (.int 0) (.cons (.str "many") .nil))) .nil) .nil) (.cons (.ite (.not (.call 1 (.cons (.var 2) .nil) 0)) (.cons (.raise 16 (.cons (.int 0) (.cons (.str "joined") .nil))) .nil) .nil) (.cons (.asg 4 .own (.lst .nil)) (.cons (.for_ (.tup [6, 7]) (.enum (.var 2)) c_Kinds_init_1) (.cons (.ite (.not (.call 1 (.cons (.var 3) .nil) 0)) (.cons (.raise 16 (.cons (.int 0) (.cons (.str "bare") .nil))) .nil) .nil) (.cons (.asg 5 .own (.lst .nil)) (.cons (.for_ (.tup [6, 9]) (.enum (.var 3)) c_Kinds_init_2) (.cons (.setF (.var 0) 23 (.var 1)) (.cons (.setF (.var 0) 24 (.bi .tuple (.cons (.bi .sorted (.cons (.var 4) .nil)) .nil))) (.cons (.setF (.var 0) 25 (.bi .tuple (.cons (.bi .sorted (.cons (.var 5) .nil)) .nil))) .nil))))))))))
def E_Kinds_init : EnvL where
  fn := [(2, f_is_whole, [.non, .non]), (1, f_is_sequence, []), (51, f_couple_of, [])]
  mkl := []
  mtl := []
  xc := [(16, [0, 1])]
  xa := []
  xn := []
  xk := []
  fa := [(19, 23), (19, 24), (19, 25)]
  ic := []
def f_Kinds_init : FnSem := runFn E_Kinds_init.env 4 10 c_Kinds_init
def k_Kinds : FnSem := runMake 19 f_Kinds_init
theorem e_Kinds_init_0 : E_Kinds_init.env.fn 2 = some (f_is_whole, [.non, .non]) := rfl
theorem e_Kinds_init_1 : E_Kinds_init.env.fn 1 = some (f_is_sequence, []) := rfl
theorem e_Kinds_init_2 : E_Kinds_init.env.fn 51 = some (f_couple_of, []) := rfl
theorem e_Kinds_init_3 : E_Kinds_init.env.xc 16 = some [0, 1] := rfl
theorem e_Kinds_init_4 : E_Kinds_init.env.fa 19 23 = true := rfl
theorem e_Kinds_init_5 : E_Kinds_init.env.fa 19 24 = true := rfl
theorem e_Kinds_init_6 : E_Kinds_init.env.fa 19 25 = true := rfl
--@ Kinds_init = c_Kinds_init e_Kinds_init_0 e_Kinds_init_1 e_Kinds_init_2 e_Kinds_init_3 e_Kinds_init_4 e_Kinds_init_5 e_Kinds_init_6 | c_Kinds_init_1 c_Kinds_init_2
/-! _law_built_d03d -/
def N__law_built_d03d : List Str := ["_law_hand_here", "_law_kinds_here", "_law_rest", "_law_joined_here", "_law_step", "_law_lone", "_law_pair"]
def c__law_built_d03d_1 : Ss := (.cons (.asg 6 .val (.lm .popAt (.var 2) (.cons (.call 281 (.cons (.var 0) (.cons (.bi .len (.cons (.var 2) .nil)) .nil)) 0) .nil))) (.cons (.ite (.cmp .eq (.call 281 (.cons (.var 0) (.cons (.int 2) .nil)) 0) (.int 0)) (.cons (.asg 6 .val (.tup (.cons (.ix (.var 6) (.int 1)) (.cons (.ix (.var 6) (.int 0)) .nil)))) .nil) .nil) (.cons (.ex (.lm .append (.var 3) (.cons (.call 289 (.cons (.var 0) (.cons (.var 6) .nil)) 0) .nil))) .nil)))
def c__law_built_d03d : Ss := (.cons (.asg 2 .own (.bi .list (.cons (.ix (.var 1) (.int 1)) .nil))) (.cons (.asg 3 .own (.lst .nil)) (.cons (.for_ (.name 4) (.r1 (.bi .len (.cons (.ix (.var 1) (.int 1)) .nil))) c__law_built_d03d_1) (.cons (.asg 5 .val (.bi .list (.cons (.ix (.var 1) (.int 2)) .nil))) (.cons (.ite (.cmp .eq (.call 281 (.cons (.var 0) (.cons (.int 2) .nil)) 0) (.int 0)) (.cons (.asg 5 .val (.rev (.var 5))) .nil) .nil) (.cons (.ret (.mk 19 (.cons (.ix (.var 1) (.int 0)) (.cons (.call 289 (.cons (.var 0) (.cons (.var 3) .nil)) 0) (.cons (.call 289 (.cons (.var 0) (.cons (.var 5) .nil)) 0) .nil))))) .nil))))))
def E__law_built_d03d : EnvL where
  fn := [(281, f__law_take_1561, []), (289, f__law_row_1f99, [])]
  mkl := [(19, k_Kinds)]
  mtl := []
  xc := []
  xa := []
  xn := []
  xk := []
  fa := []
  ic := []
def f__law_built_d03d : FnSem := runFn E__law_built_d03d.env 2 7 c__law_built_d03d
theorem e__law_built_d03d_0 : E__law_built_d03d.env.fn 281 = some (f__law_take_1561, []) := rfl
theorem e__law_built_d03d_1 : E__law_built_d03d.env.fn 289 = some (f__law_row_1f99, []) := rfl
theorem e__law_built_d03d_2 : E__law_built_d03d.env.made 19 = some k_Kinds := rfl
--@ _law_built_d03d = c__law_built_d03d e__law_built_d03d_0 e__law_built_d03d_1 e__law_built_d03d_2 | c__law_built_d03d_1
/-! _law_joined_fffc -/
def N__law_joined_fffc : List Str := ["_law_kinds_here", "_law_a", "_law_b"]
def c__law_joined_fffc : Ss := (.cons (.ret (.cmp .inn (.tup (.cons (.bi .min2 (.cons (.var 1) (.cons (.var 2) .nil))) (.cons (.bi .max2 (.cons (.var 1) (.cons (.var 2) .nil))) .nil))) (.ix (.var 0) (.int 1)))) .nil)
def E__law_joined_fffc : EnvL where
  fn := []
  mkl := []
  mtl := []
  xc := []
  xa := []
  xn := []
  xk := []
  fa := []
  ic := []
def f__law_joined_fffc : FnSem := runFn E__law_joined_fffc.env 3 3 c__law_joined_fffc
--@ _law_joined_fffc = c__law_joined_fffc | 
/-! _law_pair_word -/
def N__law_pair_word : List Str := ["_law_elders_here", "_law_kinds_here", "_law_given", "_law_a", "_law_b"]
def c__law_pair_word : Ss := (.cons (.ite (.cmp .eq (.ix (.var 2) (.var 3)) (.ix (.var 2) (.var 4))) (.cons (.ret (.ite (.or (.cmp .eq (.var 3) (.var 4)) (.or (.cmp .inn (.var 3) (.ix (.var 0) (.var 4))) (.cmp .inn (.var 4) (.ix (.var 0) (.var 3))))) .non (.str "line"))) .nil) .nil) (.cons (.ret (.ite (.call 313 (.cons (.var 1) (.cons (.ix (.var 2) (.var 3)) (.cons (.ix (.var 2) (.var 4)) .nil))) 0) .non (.str "kind"))) .nil))
def E__law_pair_word : EnvL where
  fn := [(313, f__law_joined_fffc, [])]
  mkl := []
  mtl := []
  xc := []
  xa := []
  xn := []
  xk := []
  fa := []
  ic := []
def f__law_pair_word : FnSem := runFn E__law_pair_word.env 5 5 c__law_pair_word
theorem e__law_pair_word_0 : E__law_pair_word.env.fn 313 = some (f__law_joined_fffc, []) := rfl
--@ _law_pair_word = c__law_pair_word e__law_pair_word_0 | 
/-! _law_class_breach -/
def N__law_class_breach : List Str := ["_law_rows", "_law_elders_here", "_law_kinds_here", "_law_given", "_law_c", "_law_lot", "_law_at", "_law_b", "_law_word"]
def c__law_class_breach_1 : Ss := (.cons (.asg 8 .val (.call 403 (.cons (.var 1) (.cons (.var 2) (.cons (.var 3) (.cons (.ix (.var 5) (.var 6)) (.cons (.var 7) .nil))))) 0)) (.cons (.ite (.cmp .notN (.var 8) .non) (.cons (.ret (.tup (.cons (.var 4) (.cons (.ix (.var 5) (.var 6)) (.cons (.var 7) (.cons (.var 8) .nil)))))) .nil) .nil) .nil))
def c__law_class_breach_2 : Ss := (.cons (.for_ (.name 7) (.seq (.slc (.var 5) (.so (.bin .add (.var 6) (.int 1))) .no)) c__law_class_breach_1) .nil)
def c__law_class_breach : Ss := (.cons (.ite (.and (.cmp .inn (.ix (.var 3) (.var 4)) (.ix (.var 2) (.int 2))) (.cmp .gt (.ix (.ix (.var 0) (.var 4)) (.int 1)) (.int 0))) (.cons (.ret (.tup (.cons (.var 4) (.cons (.var 4) (.cons (.var 4) (.cons (.str "bare") .nil)))))) .nil) .nil) (.cons (.asg 5 .val (.bin .add (.ix (.var 1) (.var 4)) (.lst (.cons (.var 4) .nil)))) (.cons (.for_ (.name 6) (.r1 (.bi .len (.cons (.var 5) .nil))) c__law_class_breach_2) (.cons (.ret .non) .nil))))
def E__law_class_breach : EnvL where
  fn := [(403, f__law_pair_word, [])]
  mkl := []
  mtl := []
  xc := []
  xa := []
  xn := []
  xk := []
  fa := []
  ic := []
def f__law_class_breach : FnSem := runFn E__law_class_breach.env 5 9 c__law_class_breach
theorem e__law_class_breach_0 : E__law_class_breach.env.fn 403 = some (f__law_pair_word, []) := rfl
--@ _law_class_breach = c__law_class_breach e__law_class_breach_0 | c__law_class_breach_1 c__law_class_breach_2
/-! _law_elders_27bf -/
def N__law_elders_27bf : List Str := ["_law_rows", "_law_found", "_law_bases_here", "_law_fields", "_law_methods", "_law_mine", "_law_base"]
def c__law_elders_27bf_1 : Ss := (.cons (.asg 5 .val (.bin .add (.bin .add (.var 5) (.lst (.cons (.var 6) .nil))) (.ix (.var 1) (.var 6)))) .nil)
def c__law_elders_27bf_2 : Ss := (.cons (.asg 5 .val (.lst .nil)) (.cons (.for_ (.name 6) (.seq (.var 2)) c__law_elders_27bf_1) (.cons (.ex (.lm .append (.var 1) (.cons (.bi .sortedSet (.cons (.var 5) .nil)) .nil))) .nil)))
def c__law_elders_27bf : Ss := (.cons (.asg 1 .own (.lst .nil)) (.cons (.for_ (.tup [2, 3, 4]) (.seq (.var 0)) c__law_elders_27bf_2) (.cons (.ret (.var 1)) .nil)))
def E__law_elders_27bf : EnvL where
  fn := []
  mkl := []
  mtl := []
  xc := []
  xa := []
  xn := []
  xk := []
  fa := []
  ic := []
def f__law_elders_27bf : FnSem := runFn E__law_elders_27bf.env 1 7 c__law_elders_27bf
--@ _law_elders_27bf = c__law_elders_27bf | c__law_elders_27bf_1 c__law_elders_27bf_2
/-! _law_next_9762 -/
def N__law_next_9762 : List Str := ["_law_hand_here", "_law_rows", "_law_kinds_here", "_law_given", "_law_most", "_law_bases_here", "_law_fields", "_law_wish", "_law_turn", "_law_one", "_law_many", "_law_grown"]
def c__law_next_9762_1 : Ss := (.cons (.asg 9 .val (.bin .mod (.bi .int (.cons (.bin .add (.var 7) (.var 8)) .nil)) (.ix (.var 2) (.int 0)))) (.cons (.asg 10 .val (.ite (.cmp .inn (.var 9) (.ix (.var 2) (.int 2))) (.int 0) (.var 6))) (.cons (.asg 11 .val (.bin .add (.var 1) (.lst (.cons (.tup (.cons (.var 5) (.cons (.var 10) (.cons (.lst .nil) .nil)))) .nil)))) (.cons (.ite (.cmp .isN (.call 404 (.cons (.var 11) (.cons (.call 286 (.cons (.var 11) .nil) 0) (.cons (.var 2) (.cons (.bin .add (.var 3) (.lst (.cons (.var 9) .nil))) (.cons (.bi .len (.cons (.var 1) .nil)) .nil))))) 0) .non) (.cons (.ret (.tup (.cons (.var 5) (.cons (.var 10) (.cons (.var 9) .nil))))) .nil) .nil) .nil))))
def c__law_next_9762 : Ss := (.cons (.asg 5 .val (.call 282 (.cons (.var 0) (.cons (.bi .len (.cons (.var 1) .nil)) .nil)) 0)) (.cons (.asg 6 .val (.bi .min2 (.cons (.var 4) (.cons (.ix (.tup (.cons (.int 1) (.cons (.int 1) (.cons (.int 0) (.cons (.int 2) (.cons (.int 1) (.cons (.int 3) (.cons (.int 1) (.cons (.int 0) .nil))))))))) (.call 281 (.cons (.var 0) (.cons (.int 8) .nil)) 0)) .nil)))) (.cons (.asg 7 .val (.call 281 (.cons (.var 0) (.cons (.ix (.var 2) (.int 0)) .nil)) 0)) (.cons (.for_ (.name 8) (.r1 (.ix (.var 2) (.int 0))) c__law_next_9762_1) (.cons (.asg 9 .val (.ix (.var 3) (.ix (.var 5) (.int 0)))) (.cons (.ret (.tup (.cons (.slc (.var 5) .no (.so (.int 1))) (.cons (.ite (.cmp .inn (.var 9) (.ix (.var 2) (.int 2))) (.int 0) (.var 6)) (.cons (.var 9) .nil))))) .nil))))))
def E__law_next_9762 : EnvL where
  fn := [(282, f__law_bases_c4c7, []), (281, f__law_take_1561, []), (404, f__law_class_breach, []), (286, f__law_elders_27bf, [])]
  mkl := []
  mtl := []
  xc := []
  xa := []
  xn := []
  xk := []
  fa := []
  ic := []
def f__law_next_9762 : FnSem := runFn E__law_next_9762.env 5 12 c__law_next_9762
theorem e__law_next_9762_0 : E__law_next_9762.env.fn 282 = some (f__law_bases_c4c7, []) := rfl
theorem e__law_next_9762_1 : E__law_next_9762.env.fn 281 = some (f__law_take_1561, []) := rfl
theorem e__law_next_9762_2 : E__law_next_9762.env.fn 404 = some (f__law_class_breach, []) := rfl
theorem e__law_next_9762_3 : E__law_next_9762.env.fn 286 = some (f__law_elders_27bf, []) := rfl
--@ _law_next_9762 = c__law_next_9762 e__law_next_9762_0 e__law_next_9762_1 e__law_next_9762_2 e__law_next_9762_3 | c__law_next_9762_1
/-! _law_history_d49a -/
def N__law_history_d49a : List Str := ["_law_hand_here", "_law_kinds_here", "_law_many", "_law_most", "_law_rows", "_law_given", "_law_rest", "_law_step", "_law_bases_here", "_law_fields", "_law_one"]
def c__law_history_d49a_1 : Ss := (.cons (.asgT [8, 9, 10] (.lend 5 (.lend 4 (.call 329 (.cons (.var 0) (.cons (.var 4) (.cons (.var 1) (.cons (.var 5) (.cons (.var 6) .nil))))) 0)))) (.cons (.asg 6 .val (.bin .sub (.var 6) (.var 9))) (.cons (.ex (.lm .append (.var 4) (.cons (.tup (.cons (.var 8) (.cons (.var 9) (.cons (.lst .nil) .nil)))) .nil))) (.cons (.ex (.lm .append (.var 5) (.cons (.var 10) .nil))) .nil))))
def c__law_history_d49a : Ss := (.cons (.asg 4 .own (.lst .nil)) (.cons (.asg 5 .own (.lst .nil)) (.cons (.asg 6 .val (.var 3)) (.cons (.for_ (.name 7) (.r1 (.var 2)) c__law_history_d49a_1) (.cons (.ret (.tup (.cons (.var 4) (.cons (.var 5) .nil)))) .nil)))))
def E__law_history_d49a : EnvL where
  fn := [(329, f__law_next_9762, [])]
  mkl := []
  mtl := []
  xc := []
  xa := []
  xn := []
  xk := []
  fa := []
  ic := []
def f__law_history_d49a : FnSem := runFn E__law_history_d49a.env 4 11 c__law_history_d49a
theorem e__law_history_d49a_0 : E__law_history_d49a.env.fn 329 = some (f__law_next_9762, []) := rfl
--@ _law_history_d49a = c__law_history_d49a e__law_history_d49a_0 | c__law_history_d49a_1
/-! _law_breach_9c7b -/
def N__law_breach_9c7b : List Str := ["_law_rows", "_law_kinds_here", "_law_given", "_law_elders_here", "_law_c", "_law_breach_here"]
def c__law_breach_9c7b_1 : Ss := (.cons (.asg 5 .val (.call 404 (.cons (.var 0) (.cons (.var 3) (.cons (.var 1) (.cons (.var 2) (.cons (.var 4) .nil))))) 0)) (.cons (.ite (.cmp .notN (.var 5) .non) (.cons (.ret (.var 5)) .nil) .nil) .nil))
def c__law_breach_9c7b : Ss := (.cons (.asg 3 .val (.call 286 (.cons (.var 0) .nil) 0)) (.cons (.for_ (.name 4) (.r1 (.bi .len (.cons (.var 0) .nil))) c__law_breach_9c7b_1) (.cons (.ret .non) .nil)))
def E__law_breach_9c7b : EnvL where
  fn := [(286, f__law_elders_27bf, []), (404, f__law_class_breach, [])]
  mkl := []
  mtl := []
  xc := []
  xa := []
  xn := []
  xk := []
  fa := []
  ic := []
def f__law_breach_9c7b : FnSem := runFn E__law_breach_9c7b.env 3 6 c__law_breach_9c7b
theorem e__law_breach_9c7b_0 : E__law_breach_9c7b.env.fn 286 = some (f__law_elders_27bf, []) := rfl
theorem e__law_breach_9c7b_1 : E__law_breach_9c7b.env.fn 404 = some (f__law_class_breach, []) := rfl
--@ _law_breach_9c7b = c__law_breach_9c7b e__law_breach_9c7b_0 e__law_breach_9c7b_1 | c__law_breach_9c7b_1
/-! check_given -/
def N_check_given : List Str := ["world", "kinds", "given", "at", "kind"]
def c_check_given_1 : Ss := (.cons (.ite (.not (.call 2 (.cons (.var 4) (.cons (.int 0) (.cons (.bin .sub (.fld (.var 1) 23) (.int 1)) .nil))) 0)) (.cons (.raise 18 (.cons (.var 3) .nil)) .nil) .nil) .nil)
def c_check_given : Ss := (.cons (.ite (.or (.not (.call 1 (.cons (.var 2) .nil) 0)) (.cmp .ne (.bi .len (.cons (.var 2) .nil)) (.bi .len (.cons (.fld (.var 0) 4) .nil)))) (.cons (.raise 18 (.cons (.int 0) .nil)) .nil) .nil) (.cons (.for_ (.tup [3, 4]) (.enum (.var 2)) c_check_given_1) (.cons (.ret (.bi .tuple (.cons (.var 2) .nil))) .nil)))
def E_check_given : EnvL where
  fn := [(1, f_is_sequence, []), (2, f_is_whole, [.non, .non])]
  mkl := []
  mtl := []
  xc := [(18, [0])]
  xa := []
  xn := []
  xk := []
  fa := [(2, 4), (19, 23)]
  ic := []
def f_check_given : FnSem := runFn E_check_given.env 3 5 c_check_given
theorem e_check_given_0 : E_check_given.env.fn 1 = some (f_is_sequence, []) := rfl
theorem e_check_given_1 : E_check_given.env.fn 2 = some (f_is_whole, [.non, .non]) := rfl
theorem e_check_given_2 : E_check_given.env.xc 18 = some [0] := rfl
theorem e_check_given_3 : E_check_given.env.fa 2 4 = true := rfl
theorem e_check_given_4 : E_check_given.env.fa 19 23 = true := rfl
--@ check_given = c_check_given e_check_given_0 e_check_given_1 e_check_given_2 e_check_given_3 e_check_given_4 | c_check_given_1
/-! check_kind -/
def N_check_kind : List Str := ["kinds", "kind"]
def c_check_kind : Ss := (.cons (.ite (.not (.call 2 (.cons (.var 1) (.cons (.int 0) (.cons (.bin .sub (.fld (.var 0) 23) (.int 1)) .nil))) 0)) (.cons (.raise 17 (.cons (.var 1) .nil)) .nil) .nil) (.cons (.ret (.var 1)) .nil))
def E_check_kind : EnvL where
  fn := [(2, f_is_whole, [.non, .non])]
  mkl := []
  mtl := []
  xc := [(17, [22])]
  xa := []
  xn := []
  xk := []
  fa := [(19, 23)]
  ic := []
def f_check_kind : FnSem := runFn E_check_kind.env 2 2 c_check_kind
theorem e_check_kind_0 : E_check_kind.env.fn 2 = some (f_is_whole, [.non, .non]) := rfl
theorem e_check_kind_1 : E_check_kind.env.xc 17 = some [22] := rfl
theorem e_check_kind_2 : E_check_kind.env.fa 19 23 = true := rfl
--@ check_kind = c_check_kind e_check_kind_0 e_check_kind_1 e_check_kind_2 | 
/-! Kinds_is_bare -/
def N_Kinds_is_bare : List Str := ["self", "kind"]
def c_Kinds_is_bare : Ss := (.cons (.ret (.cmp .inn (.call 52 (.cons (.var 0) (.cons (.var 1) .nil)) 0) (.fld (.var 0) 25))) .nil)
def E_Kinds_is_bare : EnvL where
  fn := [(52, f_check_kind, [])]
  mkl := []
  mtl := []
  xc := []
  xa := []
  xn := []
  xk := []
  fa := [(19, 25)]
  ic := []
def f_Kinds_is_bare : FnSem := runFn E_Kinds_is_bare.env 2 2 c_Kinds_is_bare
theorem e_Kinds_is_bare_0 : E_Kinds_is_bare.env.fn 52 = some (f_check_kind, []) := rfl
theorem e_Kinds_is_bare_1 : E_Kinds_is_bare.env.fa 19 25 = true := rfl
--@ Kinds_is_bare = c_Kinds_is_bare e_Kinds_is_bare_0 e_Kinds_is_bare_1 | 
/-! Breach_init -/
def N_Breach_init : List Str := ["self", "cls", "first", "second", "what"]
def c_Breach_init : Ss := (.cons (.setF (.var 0) 9 (.var 1)) (.cons (.setF (.var 0) 11 (.var 2)) (.cons (.setF (.var 0) 12 (.var 3)) (.cons (.setF (.var 0) 1 (.var 4)) .nil))))
def E_Breach_init : EnvL where
  fn := []
  mkl := []
  mtl := []
  xc := []
  xa := []
  xn := []
  xk := []
  fa := [(23, 9), (23, 11), (23, 12), (23, 1)]
  ic := []
def f_Breach_init : FnSem := runFn E_Breach_init.env 5 5 c_Breach_init
def k_Breach : FnSem := runMake 23 f_Breach_init
theorem e_Breach_init_0 : E_Breach_init.env.fa 23 9 = true := rfl
theorem e_Breach_init_1 : E_Breach_init.env.fa 23 11 = true := rfl
theorem e_Breach_init_2 : E_Breach_init.env.fa 23 12 = true := rfl
theorem e_Breach_init_3 : E_Breach_init.env.fa 23 1 = true := rfl
--@ Breach_init = c_Breach_init e_Breach_init_0 e_Breach_init_1 e_Breach_init_2 e_Breach_init_3 | 
/-! is_kin -/
def N_is_kin : List Str := ["world", "c", "target"]
def c_is_kin : Ss := (.cons (.ex (.call 8 (.cons (.var 0) (.cons (.var 1) .nil)) 0)) (.cons (.ex (.call 8 (.cons (.var 0) (.cons (.var 2) .nil)) 0)) (.cons (.ret (.or (.cmp .eq (.var 1) (.var 2)) (.cmp .inn (.var 2) (.ix (.fld (.var 0) 6) (.var 1))))) .nil)))
def E_is_kin : EnvL where
  fn := [(8, f_check_class, [])]
  mkl := []
  mtl := []
  xc := []
  xa := []
  xn := []
  xk := []
  fa := [(2, 6)]
  ic := []
def f_is_kin : FnSem := runFn E_is_kin.env 3 3 c_is_kin
theorem e_is_kin_0 : E_is_kin.env.fn 8 = some (f_check_class, []) := rfl
theorem e_is_kin_1 : E_is_kin.env.fa 2 6 = true := rfl
--@ is_kin = c_is_kin e_is_kin_0 e_is_kin_1 | 
/-! on_line -/
def N_on_line : List Str := ["world", "a", "b"]
def c_on_line : Ss := (.cons (.ret (.or (.call 12 (.cons (.var 0) (.cons (.var 1) (.cons (.var 2) .nil))) 0) (.call 12 (.cons (.var 0) (.cons (.var 2) (.cons (.var 1) .nil))) 0))) .nil)
def E_on_line : EnvL where
  fn := [(12, f_is_kin, [])]
  mkl := []
  mtl := []
  xc := []
  xa := []
  xn := []
  xk := []
  fa := []
  ic := []
def f_on_line : FnSem := runFn E_on_line.env 3 3 c_on_line
theorem e_on_line_0 : E_on_line.env.fn 12 = some (f_is_kin, []) := rfl
--@ on_line = c_on_line e_on_line_0 | 
/-! Kinds_are_joined -/
def N_Kinds_are_joined : List Str := ["self", "one", "other"]
def c_Kinds_are_joined : Ss := (.cons (.ex (.call 52 (.cons (.var 0) (.cons (.var 1) .nil)) 0)) (.cons (.ex (.call 52 (.cons (.var 0) (.cons (.var 2) .nil)) 0)) (.cons (.ret (.cmp .inn (.tup (.cons (.bi .min2 (.cons (.var 1) (.cons (.var 2) .nil))) (.cons (.bi .max2 (.cons (.var 1) (.cons (.var 2) .nil))) .nil))) (.fld (.var 0) 24))) .nil)))
def E_Kinds_are_joined : EnvL where
  fn := [(52, f_check_kind, [])]
  mkl := []
  mtl := []
  xc := []
  xa := []
  xn := []
  xk := []
  fa := [(19, 24)]
  ic := []
def f_Kinds_are_joined : FnSem := runFn E_Kinds_are_joined.env 3 3 c_Kinds_are_joined
theorem e_Kinds_are_joined_0 : E_Kinds_are_joined.env.fn 52 = some (f_check_kind, []) := rfl
theorem e_Kinds_are_joined_1 : E_Kinds_are_joined.env.fa 19 24 = true := rfl
--@ Kinds_are_joined = c_Kinds_are_joined e_Kinds_are_joined_0 e_Kinds_are_joined_1 | 
/-! pair_word -/
def N_pair_word : List Str := ["world", "kinds", "given", "first", "second"]
def c_pair_word : Ss := (.cons (.ite (.cmp .eq (.ix (.var 2) (.var 3)) (.ix (.var 2) (.var 4))) (.cons (.ret (.ite (.call 13 (.cons (.var 0) (.cons (.var 3) (.cons (.var 4) .nil))) 0) .non (.str "line"))) .nil) .nil) (.cons (.ret (.ite (.im 19 (.var 1) 77 (.cons (.ix (.var 2) (.var 3)) (.cons (.ix (.var 2) (.var 4)) .nil))) .non (.str "kind"))) .nil))
def E_pair_word : EnvL where
  fn := [(13, f_on_line, [])]
  mkl := []
  mtl := [((19, 77), f_Kinds_are_joined)]
  xc := []
  xa := []
  xn := []
  xk := []
  fa := []
  ic := []
def f_pair_word : FnSem := runFn E_pair_word.env 5 5 c_pair_word
theorem e_pair_word_0 : E_pair_word.env.fn 13 = some (f_on_line, []) := rfl
theorem e_pair_word_1 : E_pair_word.env.meth 19 77 = some f_Kinds_are_joined := rfl
--@ pair_word = c_pair_word e_pair_word_0 e_pair_word_1 | 
/-! class_breach -/
def N_class_breach : List Str := ["world", "kinds", "given", "c", "lot", "at", "first", "second", "word"]
def c_class_breach_1 : Ss := (.cons (.asg 8 .val (.call 64 (.cons (.var 0) (.cons (.var 1) (.cons (.var 2) (.cons (.var 6) (.cons (.var 7) .nil))))) 0)) (.cons (.ite (.cmp .notN (.var 8) .non) (.cons (.ret (.mk 23 (.cons (.var 3) (.cons (.var 6) (.cons (.var 7) (.cons (.var 8) .nil)))))) .nil) .nil) .nil))
def c_class_breach_2 : Ss := (.cons (.for_ (.name 7) (.seq (.slc (.var 4) (.so (.bin .add (.var 5) (.int 1))) .no)) c_class_breach_1) .nil)
def c_class_breach : Ss := (.cons (.ite (.and (.im 19 (.var 1) 78 (.cons (.ix (.var 2) (.var 3)) .nil)) (.cmp .gt (.ix (.fld (.var 0) 4) (.var 3)) (.int 0))) (.cons (.ret (.mk 23 (.cons (.var 3) (.cons (.var 3) (.cons (.var 3) (.cons (.str "bare") .nil)))))) .nil) .nil) (.cons (.asg 4 .val (.bin .add (.ix (.fld (.var 0) 6) (.var 3)) (.tup (.cons (.var 3) .nil)))) (.cons (.for_ (.tup [5, 6]) (.enum (.var 4)) c_class_breach_2) (.cons (.ret .non) .nil))))
def E_class_breach : EnvL where
  fn := [(64, f_pair_word, [])]
  mkl := [(23, k_Breach)]
  mtl := [((19, 78), f_Kinds_is_bare)]
  xc := []
  xa := []
  xn := []
  xk := []
  fa := [(2, 4), (2, 6)]
  ic := []
def f_class_breach : FnSem := runFn E_class_breach.env 4 9 c_class_breach
theorem e_class_breach_0 : E_class_breach.env.fn 64 = some (f_pair_word, []) := rfl
theorem e_class_breach_1 : E_class_breach.env.made 23 = some k_Breach := rfl
theorem e_class_breach_2 : E_class_breach.env.meth 19 78 = some f_Kinds_is_bare := rfl
theorem e_class_breach_3 : E_class_breach.env.fa 2 4 = true := rfl
theorem e_class_breach_4 : E_class_breach.env.fa 2 6 = true := rfl
--@ class_breach = c_class_breach e_class_breach_0 e_class_breach_1 e_class_breach_2 e_class_breach_3 e_class_breach_4 | c_class_breach_1 c_class_breach_2
/-! kept_fault -/
def N_kept_fault : List Str := ["world", "kinds", "given", "row", "c", "breach"]
def c_kept_fault_1 : Ss := (.cons (.asg 5 .val (.call 65 (.cons (.var 0) (.cons (.var 1) (.cons (.var 3) (.cons (.var 4) .nil)))) 0)) (.cons (.ite (.cmp .notN (.var 5) .non) (.cons (.ret (.var 5)) .nil) .nil) .nil))
def c_kept_fault : Ss := (.cons (.asg 3 .val (.call 53 (.cons (.var 0) (.cons (.var 1) (.cons (.var 2) .nil))) 0)) (.cons (.for_ (.name 4) (.r1 (.bi .len (.cons (.var 3) .nil))) c_kept_fault_1) (.cons (.ret .non) .nil)))
def E_kept_fault : EnvL where
  fn := [(53, f_check_given, []), (65, f_class_breach, [])]
  mkl := []
  mtl := []
  xc := []
  xa := []
  xn := []
  xk := []
  fa := []
  ic := []
def f_kept_fault : FnSem := runFn E_kept_fault.env 3 6 c_kept_fault
theorem e_kept_fault_0 : E_kept_fault.env.fn 53 = some (f_check_given, []) := rfl
theorem e_kept_fault_1 : E_kept_fault.env.fn 65 = some (f_class_breach, []) := rfl
--@ kept_fault = c_kept_fault e_kept_fault_0 e_kept_fault_1 | c_kept_fault_1
/-! _law_asked_9cbc -/
def N__law_asked_9cbc : List Str := ["_law_world_here", "_law_made", "_law_given", "e", "_law_told"]
def c__law_asked_9cbc : Ss := (.cons (.try_ (.cons (.asg 4 .val (.call 66 (.cons (.var 0) (.cons (.var 1) (.cons (.var 2) .nil))) 0)) .nil) (.cons 18 (some 3) (.cons (.ret (.tup (.cons (.str "bad") (.cons (.xf 3 0) .nil)))) .nil) .nil)) (.cons (.ite (.cmp .isN (.var 4) .non) (.cons (.ret .non) .nil) .nil) (.cons (.ite (.not (.isi (.cls 23) (.var 4))) (.cons (.ret (.tup (.cons (.str "odd") .nil))) .nil) .nil) (.cons (.ret (.tup (.cons (.fld (.var 4) 9) (.cons (.fld (.var 4) 11) (.cons (.fld (.var 4) 12) (.cons (.fld (.var 4) 1) .nil)))))) .nil))))
def E__law_asked_9cbc : EnvL where
  fn := [(66, f_kept_fault, [])]
  mkl := []
  mtl := []
  xc := []
  xa := [(18, 0)]
  xn := [18]
  xk := [((5, 18), false), ((17, 18), false), ((18, 18), true)]
  fa := [(23, 9), (23, 11), (23, 12), (23, 1)]
  ic := [23]
def f__law_asked_9cbc : FnSem := runFn E__law_asked_9cbc.env 3 5 c__law_asked_9cbc
theorem e__law_asked_9cbc_0 : E__law_asked_9cbc.env.fn 66 = some (f_kept_fault, []) := rfl
theorem e__law_asked_9cbc_1 : E__law_asked_9cbc.env.xa 18 0 = true := rfl
theorem e__law_asked_9cbc_2 : E__law_asked_9cbc.env.xk 5 18 = some false := rfl
theorem e__law_asked_9cbc_3 : E__law_asked_9cbc.env.xk 17 18 = some false := rfl
theorem e__law_asked_9cbc_4 : E__law_asked_9cbc.env.xk 18 18 = some true := rfl
theorem e__law_asked_9cbc_5 : E__law_asked_9cbc.env.fa 23 9 = true := rfl
theorem e__law_asked_9cbc_6 : E__law_asked_9cbc.env.fa 23 11 = true := rfl
theorem e__law_asked_9cbc_7 : E__law_asked_9cbc.env.fa 23 12 = true := rfl
theorem e__law_asked_9cbc_8 : E__law_asked_9cbc.env.fa 23 1 = true := rfl
theorem e__law_asked_9cbc_9 : E__law_asked_9cbc.env.ic 23 = true := rfl
--@ _law_asked_9cbc = c__law_asked_9cbc e__law_asked_9cbc_0 e__law_asked_9cbc_1 e__law_asked_9cbc_2 e__law_asked_9cbc_3 e__law_asked_9cbc_4 e__law_asked_9cbc_5 e__law_asked_9cbc_6 e__law_asked_9cbc_7 e__law_asked_9cbc_8 e__law_asked_9cbc_9 | 
/-! _law_world_a88f -/
def N__law_world_a88f : List Str := ["_law_rows", "_law_row_here"]
def c__law_world_a88f : Ss := (.cons (.ret (.mk 2 (.cons (.lc (.tup (.cons (.bi .list (.cons (.ix (.var 1) (.int 0)) .nil)) (.cons (.ix (.var 1) (.int 1)) (.cons (.bi .tuple (.cons (.ix (.var 1) (.int 2)) .nil)) .nil)))) (.name 1) (.seq (.var 0)) .nil) .nil))) .nil)
def E__law_world_a88f : EnvL where
  fn := []
  mkl := [(2, k_World)]
  mtl := []
  xc := []
  xa := []
  xn := []
  xk := []
  fa := []
  ic := []
def f__law_world_a88f : FnSem := runFn E__law_world_a88f.env 1 2 c__law_world_a88f
theorem e__law_world_a88f_0 : E__law_world_a88f.env.made 2 = some k_World := rfl
--@ _law_world_a88f = c__law_world_a88f e__law_world_a88f_0 | 
/-! _law_changed_6600 -/
def N__law_changed_6600 : List Str := ["_law_hand_here", "_law_rows", "_law_kinds_here", "_law_given", "_law_step", "_law_at", "_law_turn", "_law_bases_here", "_law_fields", "_law_methods", "_law_base"]
def c__law_changed_6600_1 : Ss := (.cons (.asg 5 .val (.call 281 (.cons (.var 0) (.cons (.bi .len (.cons (.var 1) .nil)) .nil)) 0)) (.cons (.asg 6 .val (.call 281 (.cons (.var 0) (.cons (.int 4) .nil)) 0)) (.cons (.asgT [7, 8, 9] (.ix (.var 1) (.var 5))) (.cons (.ite (.cmp .lt (.var 6) (.int 2)) (.cons (.setIx (.var 3) (.var 5) (.call 281 (.cons (.var 0) (.cons (.ix (.var 2) (.int 0)) .nil)) 0)) .nil) (.cons (.ite (.cmp .eq (.var 6) (.int 2)) (.cons (.setIx (.var 1) (.var 5) (.tup (.cons (.var 7) (.cons (.bi .min2 (.cons (.int 3) (.cons (.bin .add (.var 8) (.int 1)) .nil))) (.cons (.var 9) .nil))))) .nil) (.cons (.ite (.cmp .gt (.var 5) (.int 0)) (.cons (.asg 10 .val (.call 281 (.cons (.var 0) (.cons (.var 5) .nil)) 0)) (.cons (.ite (.cmp .nin (.var 10) (.var 7)) (.cons (.setIx (.var 1) (.var 5) (.tup (.cons (.bin .add (.var 7) (.lst (.cons (.var 10) .nil))) (.cons (.var 8) (.cons (.var 9) .nil))))) .nil) .nil) .nil)) .nil) .nil)) .nil)) .nil))))
def c__law_changed_6600 : Ss := (.cons (.asg 1 .own (.bi .list (.cons (.var 1) .nil))) (.cons (.asg 3 .own (.bi .list (.cons (.var 3) .nil))) (.cons (.for_ (.name 4) (.r1 (.call 281 (.cons (.var 0) (.cons (.int 3) .nil)) 0)) c__law_changed_6600_1) (.cons (.ret (.tup (.cons (.var 1) (.cons (.var 3) .nil)))) .nil))))
def E__law_changed_6600 : EnvL where
  fn := [(281, f__law_take_1561, [])]
  mkl := []
  mtl := []
  xc := []
  xa := []
  xn := []
  xk := []
  fa := []
  ic := []
def f__law_changed_6600 : FnSem := runFn E__law_changed_6600.env 4 11 c__law_changed_6600
theorem e__law_changed_6600_0 : E__law_changed_6600.env.fn 281 = some (f__law_take_1561, []) := rfl
--@ _law_changed_6600 = c__law_changed_6600 e__law_changed_6600_0 | c__law_changed_6600_1
/-! _law_exact_0fd5 -/
def N__law_exact_0fd5 : List Str := ["_law_told", "_law_due", "_law_at"]
def c__law_exact_0fd5 : Ss := (.cons (.ite (.isi .tuple (.var 1)) (.cons (.ite (.or (.not (.isi .tuple (.var 0))) (.cmp .ne (.bi .len (.cons (.var 0) .nil)) (.bi .len (.cons (.var 1) .nil)))) (.cons (.ret (.bl false)) .nil) .nil) (.cons (.ret (.cmp .eq (.lc (.var 2) (.name 2) (.r1 (.bi .len (.cons (.var 1) .nil))) (.cons (.not (.call 334 (.cons (.ix (.var 0) (.var 2)) (.cons (.ix (.var 1) (.var 2)) .nil)) 0)) .nil)) (.lst .nil))) .nil)) .nil) (.cons (.ite (.cmp .isN (.var 1) .non) (.cons (.ret (.cmp .isN (.var 0) .non)) .nil) .nil) (.cons (.ite (.cmp .isN (.var 1) (.bl true)) (.cons (.ret (.cmp .isN (.var 0) (.bl true))) .nil) .nil) (.cons (.ite (.cmp .isN (.var 1) (.bl false)) (.cons (.ret (.cmp .isN (.var 0) (.bl false))) .nil) .nil) (.cons (.ite (.isi .str (.var 1)) (.cons (.ret (.and (.isi .str (.var 0)) (.cmp .eq (.var 0) (.var 1)))) .nil) .nil) (.cons (.ret (.and (.isi .int (.var 0)) (.and (.not (.isi .bool (.var 0))) (.cmp .eq (.var 0) (.var 1))))) .nil))))))
def E__law_exact_0fd5 (g : FnSem) : EnvL where
  fn := [(334, g, [])]
  mkl := []
  mtl := []
  xc := []
  xa := []
  xn := []
  xk := []
  fa := []
  ic := []
def f__law_exact_0fd5_n : Nat → FnSem
  | 0 => fun _ _ => .bad
  | n + 1 => runFn (E__law_exact_0fd5 (f__law_exact_0fd5_n n)).env 2 3 c__law_exact_0fd5
def f__law_exact_0fd5 : FnSem := f__law_exact_0fd5_n 12
theorem fs__law_exact_0fd5 {n : Nat} : f__law_exact_0fd5_n (n + 1) = runFn (E__law_exact_0fd5 (f__law_exact_0fd5_n n)).env 2 3 c__law_exact_0fd5 := rfl
theorem e__law_exact_0fd5_1 {g : FnSem} : (E__law_exact_0fd5 g).env.fn 334 = some (g, []) := rfl
--@ _law_exact_0fd5 = c__law_exact_0fd5 fs__law_exact_0fd5 e__law_exact_0fd5_1 | 
/-! law_2af0 -/
def N_law_2af0 : List Str := ["_law_script", "_law_hand_here", "_law_kinds_here", "_law_made", "_law_turn", "_law_free", "_law_loose", "_law_due", "_law_world_here", "_law_handed", "_law_at", "_law_wrong", "_law_rows", "_law_given", "_law_c", "_law_row_here"]
def c_law_2af0_1 : Ss := (.cons (.asgT [12, 13] (.call 406 (.cons (.var 1) (.cons (.var 2) (.cons (.bin .add (.int 1) (.call 281 (.cons (.var 1) (.cons (.int 8) .nil)) 0)) (.cons (.int 12) .nil)))) 0)) (.cons (.asg 7 .val (.call 405 (.cons (.var 12) (.cons (.var 2) (.cons (.var 13) .nil))) 0)) (.cons (.ite (.or (.cmp .notN (.var 7) .non) (.cmp .notN (.call 386 (.cons (.call 335 (.cons (.var 12) .nil) 0) (.cons (.var 3) (.cons (.call 289 (.cons (.var 1) (.cons (.var 13) .nil)) 0) .nil))) 0) .non)) (.cons (.ret (.bl false)) .nil) .nil) (.cons (.asgT [12, 13] (.call 371 (.cons (.var 1) (.cons (.var 12) (.cons (.var 2) (.cons (.var 13) .nil)))) 0)) (.cons (.asg 8 .val (.call 335 (.cons (.var 12) .nil) 0)) (.cons (.asg 9 .val (.bi .list (.cons (.var 13) .nil))) (.cons (.asg 7 .val (.call 405 (.cons (.var 12) (.cons (.var 2) (.cons (.var 13) .nil))) 0)) (.cons (.ite (.or (.not (.call 334 (.cons (.call 386 (.cons (.var 8) (.cons (.var 3) (.cons (.var 9) .nil))) 0) (.cons (.var 7) .nil)) 0)) (.cmp .ne (.var 9) (.var 13))) (.cons (.ret (.bl false)) .nil) .nil) (.cons (.ite (.not (.call 334 (.cons (.call 386 (.cons (.var 8) (.cons (.var 3) (.cons (.bi .tuple (.cons (.var 13) .nil)) .nil))) 0) (.cons (.var 7) .nil)) 0)) (.cons (.ret (.bl false)) .nil) .nil) (.cons (.asg 10 .val (.call 281 (.cons (.var 1) (.cons (.bi .len (.cons (.var 13) .nil)) .nil)) 0)) (.cons (.asg 11 .val (.bin .add (.bin .add (.slc (.var 13) .no (.so (.var 10))) (.lst (.cons (.ix (.tup (.cons (.ix (.var 2) (.int 0)) (.cons .non (.cons (.neg (.int 1)) (.cons (.bl true) .nil))))) (.call 281 (.cons (.var 1) (.cons (.int 4) .nil)) 0)) .nil))) (.slc (.var 13) (.so (.bin .add (.var 10) (.int 1))) .no))) (.cons (.ite (.not (.call 334 (.cons (.call 386 (.cons (.var 8) (.cons (.var 3) (.cons (.var 11) .nil))) 0) (.cons (.tup (.cons (.str "bad") (.cons (.var 10) .nil))) .nil)) 0)) (.cons (.ret (.bl false)) .nil) .nil) (.cons (.ite (.not (.call 334 (.cons (.call 386 (.cons (.var 8) (.cons (.var 3) (.cons (.bin .add (.var 13) (.var 13)) .nil))) 0) (.cons (.tup (.cons (.str "bad") (.cons (.int 0) .nil))) .nil)) 0)) (.cons (.ret (.bl false)) .nil) .nil) .nil)))))))))))))
def c_law_2af0 : Ss := (.cons (.asg 1 .cell (.call 279 (.cons (.var 0) .nil) 0)) (.cons (.asg 2 .val (.call 383 (.cons (.var 1) .nil) 0)) (.cons (.asg 3 .val (.call 384 (.cons (.var 1) (.cons (.var 2) .nil)) 0)) (.cons (.for_ (.name 4) (.r1 (.int 3)) c_law_2af0_1) (.cons (.asg 5 .val (.lc (.tup (.cons (.call 282 (.cons (.var 1) (.cons (.var 14) .nil)) 0) (.cons (.call 281 (.cons (.var 1) (.cons (.int 3) .nil)) 0) (.cons (.lst .nil) .nil)))) (.name 14) (.r1 (.bin .add (.int 2) (.call 281 (.cons (.var 1) (.cons (.int 5) .nil)) 0))) .nil)) (.cons (.asg 6 .val (.lc (.call 281 (.cons (.var 1) (.cons (.ix (.var 2) (.int 0)) .nil)) 0) (.name 15) (.seq (.var 5)) .nil)) (.cons (.ret (.call 334 (.cons (.call 386 (.cons (.call 335 (.cons (.var 5) .nil) 0) (.cons (.var 3) (.cons (.var 6) .nil))) 0) (.cons (.call 405 (.cons (.var 5) (.cons (.var 2) (.cons (.var 6) .nil))) 0) .nil)) 0)) .nil)))))))
def E_law_2af0 : EnvL where
  fn := [(279, f__law_hand_bbe7, []), (383, f__law_kinds_3967, []), (384, f__law_built_d03d, []), (406, f__law_history_d49a, []), (281, f__law_take_1561, []), (405, f__law_breach_9c7b, []), (386, f__law_asked_9cbc, []), (335, f__law_world_a88f, []), (289, f__law_row_1f99, []), (371, f__law_changed_6600, []), (334, f__law_exact_0fd5, []), (282, f__law_bases_c4c7, [])]
  mkl := []
  mtl := []
  xc := []
  xa := []
  xn := []
  xk := []
  fa := []
  ic := []
def f_law_2af0 : FnSem := runFn E_law_2af0.env 1 16 c_law_2af0
theorem e_law_2af0_0 : E_law_2af0.env.fn 279 = some (f__law_hand_bbe7, []) := rfl
theorem e_law_2af0_1 : E_law_2af0.env.fn 383 = some (f__law_kinds_3967, []) := rfl
theorem e_law_2af0_2 : E_law_2af0.env.fn 384 = some (f__law_built_d03d, []) := rfl
theorem e_law_2af0_3 : E_law_2af0.env.fn 406 = some (f__law_history_d49a, []) := rfl
theorem e_law_2af0_4 : E_law_2af0.env.fn 281 = some (f__law_take_1561, []) := rfl
theorem e_law_2af0_5 : E_law_2af0.env.fn 405 = some (f__law_breach_9c7b, []) := rfl
theorem e_law_2af0_6 : E_law_2af0.env.fn 386 = some (f__law_asked_9cbc, []) := rfl
theorem e_law_2af0_7 : E_law_2af0.env.fn 335 = some (f__law_world_a88f, []) := rfl
theorem e_law_2af0_8 : E_law_2af0.env.fn 289 = some (f__law_row_1f99, []) := rfl
theorem e_law_2af0_9 : E_law_2af0.env.fn 371 = some (f__law_changed_6600, []) := rfl
theorem e_law_2af0_10 : E_law_2af0.env.fn 334 = some (f__law_exact_0fd5, []) := rfl
theorem e_law_2af0_11 : E_law_2af0.env.fn 282 = some (f__law_bases_c4c7, []) := rfl
--@ law_2af0 = c_law_2af0 e_law_2af0_0 e_law_2af0_1 e_law_2af0_2 e_law_2af0_3 e_law_2af0_4 e_law_2af0_5 e_law_2af0_6 e_law_2af0_7 e_law_2af0_8 e_law_2af0_9 e_law_2af0_10 e_law_2af0_11 | c_law_2af0_1
end LawP
set_option Elab.async false
set_option linter.all false
set_option maxRecDepth 100000
set_option maxHeartbeats 0
namespace LawP
open PySem MP
/-! _law_shape_ca58 -/
def N__law_shape_ca58 : List Str := ["_law_hand_here", "_law_many", "_law_breed", "_law_rows", "_law_bases_here", "_law_at", "_law_row", "_law_c"]
def c__law_shape_ca58_1 : Ss := (.cons (.ex (.lm .append (.var 4) (.cons (.call 282 (.cons (.var 0) (.cons (.bi .len (.cons (.var 4) .nil)) .nil)) 0) .nil))) .nil)
def c__law_shape_ca58 : Ss := (.cons (.asg 2 .val (.call 281 (.cons (.var 0) (.cons (.int 8) .nil)) 0)) (.cons (.ite (.cmp .lt (.var 2) (.int 2)) (.cons (.ret (.lc (.call 282 (.cons (.var 0) (.cons (.var 7) .nil)) 0) (.name 7) (.r1 (.var 1)) .nil)) .nil) .nil) (.cons (.asg 3 .val (.ix (.lst (.cons (.lst (.cons (.lst .nil) (.cons (.lst .nil) (.cons (.lst (.cons (.int 0) (.cons (.int 1) .nil))) (.cons (.lst .nil) (.cons (.lst (.cons (.int 1) (.cons (.int 3) .nil))) (.cons (.lst (.cons (.int 3) (.cons (.int 0) .nil))) (.cons (.lst (.cons (.int 2) (.cons (.int 4) .nil))) .nil)))))))) (.cons (.lst (.cons (.lst .nil) (.cons (.lst .nil) (.cons (.lst .nil) (.cons (.lst (.cons (.int 0) (.cons (.int 1) .nil))) (.cons (.lst (.cons (.int 1) (.cons (.int 2) .nil))) (.cons (.lst (.cons (.int 2) (.cons (.int 0) .nil))) (.cons (.lst (.cons (.int 3) (.cons (.int 4) .nil))) (.cons (.lst (.cons (.int 5) .nil)) .nil))))))))) (.cons (.lst (.cons (.lst .nil) (.cons (.lst (.cons (.int 0) .nil)) (.cons (.lst (.cons (.int 0) .nil)) (.cons (.lst (.cons (.int 2) (.cons (.int 1) .nil))) (.cons (.lst (.cons (.int 0) .nil)) (.cons (.lst (.cons (.int 4) (.cons (.int 2) .nil))) (.cons (.lst (.cons (.int 1) (.cons (.int 4) .nil))) (.cons (.lst (.cons (.int 3) (.cons (.int 4) .nil))) .nil))))))))) (.cons (.lst (.cons (.lst .nil) (.cons (.lst (.cons (.int 0) .nil)) (.cons (.lst (.cons (.int 0) .nil)) (.cons (.lst (.cons (.int 0) .nil)) (.cons (.lst (.cons (.int 1) (.cons (.int 2) .nil))) (.cons (.lst (.cons (.int 2) (.cons (.int 3) .nil))) (.cons (.lst (.cons (.int 3) (.cons (.int 1) .nil))) (.cons (.lst (.cons (.int 4) (.cons (.int 3) .nil))) .nil))))))))) (.cons (.lst (.cons (.lst .nil) (.cons (.lst (.cons (.int 0) .nil)) (.cons (.lst (.cons (.int 0) .nil)) (.cons (.lst (.cons (.int 1) (.cons (.int 2) .nil))) (.cons (.lst (.cons (.int 0) .nil)) (.cons (.lst (.cons (.int 3) (.cons (.int 4) .nil))) (.cons (.lst (.cons (.int 4) .nil)) (.cons (.lst (.cons (.int 5) (.cons (.int 6) .nil))) .nil))))))))) (.cons (.lst (.cons (.lst .nil) (.cons (.lst .nil) (.cons (.lst (.cons (.int 0) (.cons (.int 1) .nil))) (.cons (.lst .nil) (.cons (.lst (.cons (.int 2) (.cons (.int 3) .nil))) (.cons (.lst (.cons (.int 0) .nil)) (.cons (.lst (.cons (.int 5) (.cons (.int 3) .nil))) (.cons (.lst (.cons (.int 4) .nil)) .nil))))))))) .nil))))))) (.bin .sub (.var 2) (.int 2)))) (.cons (.asg 4 .own (.lc (.bi .list (.cons (.var 6) .nil)) (.name 6) (.seq (.slc (.var 3) .no (.so (.var 1)))) .nil)) (.cons (.whl 1000 (.cmp .lt (.bi .len (.cons (.var 4) .nil)) (.var 1)) c__law_shape_ca58_1) (.cons (.asg 5 .val (.call 281 (.cons (.var 0) (.cons (.var 1) .nil)) 0)) (.cons (.ite (.cmp .eq (.call 281 (.cons (.var 0) (.cons (.int 3) .nil)) 0) (.int 0)) (.cons (.setIx (.var 4) (.var 5) (.call 282 (.cons (.var 0) (.cons (.var 5) .nil)) 0)) .nil) .nil) (.cons (.ret (.var 4)) .nil))))))))
def E__law_shape_ca58 : EnvL where
  fn := [(281, f__law_take_1561, []), (282, f__law_bases_c4c7, [])]
  mkl := []
  mtl := []
  xc := []
  xa := []
  xn := []
  xk := []
  fa := []
  ic := []
def f__law_shape_ca58 : FnSem := runFn E__law_shape_ca58.env 2 8 c__law_shape_ca58
theorem e__law_shape_ca58_0 : E__law_shape_ca58.env.fn 281 = some (f__law_take_1561, []) := rfl
theorem e__law_shape_ca58_1 : E__law_shape_ca58.env.fn 282 = some (f__law_bases_c4c7, []) := rfl
--@ _law_shape_ca58 = c__law_shape_ca58 e__law_shape_ca58_0 e__law_shape_ca58_1 | c__law_shape_ca58_1
/-! _law_classes_f9b7 -/
def N__law_classes_f9b7 : List Str := ["_law_hand_here", "_law_low", "_law_high", "_law_most", "_law_wanted", "_law_many", "_law_bases_here", "_law_rest", "_law_rows", "_law_own", "_law_fields"]
def c__law_classes_f9b7_1 : Ss := (.cons (.asg 10 .val (.bi .min2 (.cons (.var 7) (.cons (.ix (.tup (.cons (.int 1) (.cons (.int 1) (.cons (.int 0) (.cons (.int 1) (.cons (.int 2) (.cons (.int 1) (.cons (.int 2) (.cons (.int 1) (.cons (.int 1) (.cons (.int 3) .nil))))))))))) (.call 281 (.cons (.var 0) (.cons (.int 10) .nil)) 0)) .nil)))) (.cons (.asg 7 .val (.bin .sub (.var 7) (.var 10))) (.cons (.ex (.lm .append (.var 8) (.cons (.tup (.cons (.var 9) (.cons (.var 10) (.cons (.ite (.var 4) (.call 283 (.cons (.var 0) .nil) 0) (.lst .nil)) .nil)))) .nil))) .nil)))
def c__law_classes_f9b7 : Ss := (.cons (.asg 5 .val (.bin .add (.var 1) (.bi .max2 (.cons (.call 281 (.cons (.var 0) (.cons (.bin .add (.bin .sub (.var 2) (.var 1)) (.int 1)) .nil)) 0) (.cons (.call 281 (.cons (.var 0) (.cons (.bin .add (.bin .sub (.var 2) (.var 1)) (.int 1)) .nil)) 0) .nil))))) (.cons (.asg 6 .val (.call 284 (.cons (.var 0) (.cons (.var 5) .nil)) 0)) (.cons (.asg 7 .val (.var 3)) (.cons (.asg 8 .own (.lst .nil)) (.cons (.for_ (.name 9) (.seq (.var 6)) c__law_classes_f9b7_1) (.cons (.ret (.var 8)) .nil))))))
def E__law_classes_f9b7 : EnvL where
  fn := [(281, f__law_take_1561, []), (284, f__law_shape_ca58, []), (283, f__law_methods_2714, [])]
  mkl := []
  mtl := []
  xc := []
  xa := []
  xn := []
  xk := []
  fa := []
  ic := []
def f__law_classes_f9b7 : FnSem := runFn E__law_classes_f9b7.env 5 11 c__law_classes_f9b7
theorem e__law_classes_f9b7_0 : E__law_classes_f9b7.env.fn 281 = some (f__law_take_1561, []) := rfl
theorem e__law_classes_f9b7_1 : E__law_classes_f9b7.env.fn 284 = some (f__law_shape_ca58, []) := rfl
theorem e__law_classes_f9b7_2 : E__law_classes_f9b7.env.fn 283 = some (f__law_methods_2714, []) := rfl
--@ _law_classes_f9b7 = c__law_classes_f9b7 e__law_classes_f9b7_0 e__law_classes_f9b7_1 e__law_classes_f9b7_2 | c__law_classes_f9b7_1
/-! _law_kin_51e8 -/
def N__law_kin_51e8 : List Str := ["_law_rows", "_law_elders_here", "_law_c"]
def c__law_kin_51e8 : Ss := (.cons (.asg 1 .val (.call 286 (.cons (.var 0) .nil) 0)) (.cons (.ret (.lc (.bi .sorted (.cons (.bin .add (.ix (.var 1) (.var 2)) (.lst (.cons (.var 2) .nil))) .nil)) (.name 2) (.r1 (.bi .len (.cons (.var 0) .nil))) .nil)) .nil))
def E__law_kin_51e8 : EnvL where
  fn := [(286, f__law_elders_2534, [])]
  mkl := []
  mtl := []
  xc := []
  xa := []
  xn := []
  xk := []
  fa := []
  ic := []
def f__law_kin_51e8 : FnSem := runFn E__law_kin_51e8.env 1 3 c__law_kin_51e8
theorem e__law_kin_51e8_0 : E__law_kin_51e8.env.fn 286 = some (f__law_elders_2534, []) := rfl
--@ _law_kin_51e8 = c__law_kin_51e8 e__law_kin_51e8_0 | 
/-! _law_pair_among -/
def N__law_pair_among : List Str := ["_law_kin_here", "_law_hues", "_law_among", "_law_first", "_law_second"]
def c__law_pair_among_1 : Ss := (.cons (.ite (.and (.cmp .lt (.var 3) (.var 4)) (.and (.cmp .notN (.ix (.var 1) (.var 3)) .non) (.and (.cmp .eq (.ix (.var 1) (.var 3)) (.ix (.var 1) (.var 4))) (.cmp .nin (.var 3) (.ix (.var 0) (.var 4)))))) (.cons (.ret (.tup (.cons (.var 3) (.cons (.var 4) .nil)))) .nil) .nil) .nil)
def c__law_pair_among_2 : Ss := (.cons (.for_ (.name 4) (.seq (.var 2)) c__law_pair_among_1) .nil)
def c__law_pair_among : Ss := (.cons (.for_ (.name 3) (.seq (.var 2)) c__law_pair_among_2) (.cons (.ret .non) .nil))
def E__law_pair_among : EnvL where
  fn := []
  mkl := []
  mtl := []
  xc := []
  xa := []
  xn := []
  xk := []
  fa := []
  ic := []
def f__law_pair_among : FnSem := runFn E__law_pair_among.env 3 5 c__law_pair_among
--@ _law_pair_among = c__law_pair_among | c__law_pair_among_1 c__law_pair_among_2
/-! _law_clash_4ff3 -/
def N__law_clash_4ff3 : List Str := ["_law_kin_here", "_law_hues", "_law_c", "_law_pair"]
def c__law_clash_4ff3_1 : Ss := (.cons (.asg 3 .val (.call 420 (.cons (.var 0) (.cons (.var 1) (.cons (.ix (.var 0) (.var 2)) .nil))) 0)) (.cons (.ite (.cmp .notN (.var 3) .non) (.cons (.ret (.tup (.cons (.var 2) (.cons (.ix (.var 3) (.int 0)) (.cons (.ix (.var 3) (.int 1)) .nil))))) .nil) .nil) .nil))
def c__law_clash_4ff3 : Ss := (.cons (.for_ (.name 2) (.r1 (.bi .len (.cons (.var 0) .nil))) c__law_clash_4ff3_1) (.cons (.ret .non) .nil))
def E__law_clash_4ff3 : EnvL where
  fn := [(420, f__law_pair_among, [])]
  mkl := []
  mtl := []
  xc := []
  xa := []
  xn := []
  xk := []
  fa := []
  ic := []
def f__law_clash_4ff3 : FnSem := runFn E__law_clash_4ff3.env 2 4 c__law_clash_4ff3
theorem e__law_clash_4ff3_0 : E__law_clash_4ff3.env.fn 420 = some (f__law_pair_among, []) := rfl
--@ _law_clash_4ff3 = c__law_clash_4ff3 e__law_clash_4ff3_0 | c__law_clash_4ff3_1
/-! _law_depths -/
def N__law_depths : List Str := ["_law_kin_here", "_law_hues", "_law_c", "_law_one"]
def c__law_depths : Ss := (.cons (.ret (.lc (.bin .sub (.bi .len (.cons (.lc (.var 3) (.name 3) (.seq (.ix (.var 0) (.var 2))) (.cons (.cmp .eq (.ix (.var 1) (.var 3)) (.ix (.var 1) (.var 2))) .nil)) .nil)) (.int 1)) (.name 2) (.r1 (.bi .len (.cons (.var 0) .nil))) .nil)) .nil)
def E__law_depths : EnvL where
  fn := []
  mkl := []
  mtl := []
  xc := []
  xa := []
  xn := []
  xk := []
  fa := []
  ic := []
def f__law_depths : FnSem := runFn E__law_depths.env 2 4 c__law_depths
--@ _law_depths = c__law_depths | 
/-! _law_depths_unlike -/
def N__law_depths_unlike : List Str := ["_law_kin_here", "_law_hues", "_law_depths_here", "_law_row", "_law_met", "_law_one"]
def c__law_depths_unlike_1 : Ss := (.cons (.asg 4 .val (.lc (.tup (.cons (.ix (.var 1) (.var 5)) (.cons (.ix (.var 2) (.var 5)) .nil))) (.name 5) (.seq (.var 3)) (.cons (.cmp .notN (.ix (.var 1) (.var 5)) .non) .nil))) (.cons (.ite (.cmp .ne (.lenSet (.var 4)) (.bi .len (.cons (.var 4) .nil))) (.cons (.ret (.bl false)) .nil) .nil) .nil))
def c__law_depths_unlike : Ss := (.cons (.asg 2 .val (.call 421 (.cons (.var 0) (.cons (.var 1) .nil)) 0)) (.cons (.for_ (.name 3) (.seq (.var 0)) c__law_depths_unlike_1) (.cons (.ret (.bl true)) .nil)))
def E__law_depths_unlike : EnvL where
  fn := [(421, f__law_depths, [])]
  mkl := []
  mtl := []
  xc := []
  xa := []
  xn := []
  xk := []
  fa := []
  ic := []
def f__law_depths_unlike : FnSem := runFn E__law_depths_unlike.env 2 6 c__law_depths_unlike
theorem e__law_depths_unlike_0 : E__law_depths_unlike.env.fn 421 = some (f__law_depths, []) := rfl
--@ _law_depths_unlike = c__law_depths_unlike e__law_depths_unlike_0 | c__law_depths_unlike_1
/-! _law_int -/
def N__law_int : List Str := ["_law_thing"]
def c__law_int : Ss := (.cons (.ret (.and (.isi .int (.var 0)) (.not (.isi .bool (.var 0))))) .nil)
def E__law_int : EnvL where
  fn := []
  mkl := []
  mtl := []
  xc := []
  xa := []
  xn := []
  xk := []
  fa := []
  ic := []
def f__law_int : FnSem := runFn E__law_int.env 1 1 c__law_int
--@ _law_int = c__law_int | 
/-! _law_exact_1b7e -/
def N__law_exact_1b7e : List Str := ["_law_thing", "_law_due", "_law_at"]
def c__law_exact_1b7e_1 : Ss := (.cons (.ite (.not (.call 334 (.cons (.ix (.var 0) (.var 2)) (.cons (.ix (.var 1) (.var 2)) .nil)) 0)) (.cons (.ret (.bl false)) .nil) .nil) .nil)
def c__law_exact_1b7e : Ss := (.cons (.ite (.isi .tuple (.var 1)) (.cons (.ite (.or (.not (.isi .tuple (.var 0))) (.cmp .ne (.bi .len (.cons (.var 0) .nil)) (.bi .len (.cons (.var 1) .nil)))) (.cons (.ret (.bl false)) .nil) .nil) (.cons (.for_ (.name 2) (.r1 (.bi .len (.cons (.var 1) .nil))) c__law_exact_1b7e_1) (.cons (.ret (.bl true)) .nil))) .nil) (.cons (.ite (.cmp .isN (.var 1) .non) (.cons (.ret (.cmp .isN (.var 0) .non)) .nil) .nil) (.cons (.ite (.isi .bool (.var 1)) (.cons (.ret (.and (.isi .bool (.var 0)) (.cmp .eq (.var 0) (.var 1)))) .nil) .nil) (.cons (.ite (.isi .int (.var 1)) (.cons (.ret (.and (.call 291 (.cons (.var 0) .nil) 0) (.cmp .eq (.var 0) (.var 1)))) .nil) .nil) (.cons (.ret (.and (.isi .str (.var 0)) (.cmp .eq (.var 0) (.var 1)))) .nil)))))
def E__law_exact_1b7e (g : FnSem) : EnvL where
  fn := [(334, g, []), (291, f__law_int, [])]
  mkl := []
  mtl := []
  xc := []
  xa := []
  xn := []
  xk := []
  fa := []
  ic := []
def f__law_exact_1b7e_n : Nat → FnSem
  | 0 => fun _ _ => .bad
  | n + 1 => runFn (E__law_exact_1b7e (f__law_exact_1b7e_n n)).env 2 3 c__law_exact_1b7e
def f__law_exact_1b7e : FnSem := f__law_exact_1b7e_n 12
theorem fs__law_exact_1b7e {n : Nat} : f__law_exact_1b7e_n (n + 1) = runFn (E__law_exact_1b7e (f__law_exact_1b7e_n n)).env 2 3 c__law_exact_1b7e := rfl
theorem e__law_exact_1b7e_1 {g : FnSem} : (E__law_exact_1b7e g).env.fn 334 = some (g, []) := rfl
theorem e__law_exact_1b7e_2 {g : FnSem} : (E__law_exact_1b7e g).env.fn 291 = some (f__law_int, []) := rfl
--@ _law_exact_1b7e = c__law_exact_1b7e fs__law_exact_1b7e e__law_exact_1b7e_1 e__law_exact_1b7e_2 | c__law_exact_1b7e_1
/-! _law_three_right -/
def N__law_three_right : List Str := ["_law_told", "_law_due"]
def c__law_three_right : Ss := (.cons (.ite (.cmp .isN (.var 1) .non) (.cons (.ret (.cmp .isN (.var 0) .non)) .nil) .nil) (.cons (.ret (.and (.cmp .notN (.var 0) .non) (.call 334 (.cons (.tup (.cons (.fld (.var 0) 9) (.cons (.fld (.var 0) 11) (.cons (.fld (.var 0) 12) .nil)))) (.cons (.var 1) .nil)) 0))) .nil))
def E__law_three_right : EnvL where
  fn := [(334, f__law_exact_1b7e, [])]
  mkl := []
  mtl := []
  xc := []
  xa := []
  xn := []
  xk := []
  fa := [(30, 9), (30, 11), (30, 12)]
  ic := []
def f__law_three_right : FnSem := runFn E__law_three_right.env 2 2 c__law_three_right
theorem e__law_three_right_0 : E__law_three_right.env.fn 334 = some (f__law_exact_1b7e, []) := rfl
theorem e__law_three_right_1 : E__law_three_right.env.fa 30 9 = true := rfl
theorem e__law_three_right_2 : E__law_three_right.env.fa 30 11 = true := rfl
theorem e__law_three_right_3 : E__law_three_right.env.fa 30 12 = true := rfl
--@ _law_three_right = c__law_three_right e__law_three_right_0 e__law_three_right_1 e__law_three_right_2 e__law_three_right_3 | 
/-! is_hue -/
def N_is_hue : List Str := ["thing"]
def c_is_hue : Ss := (.cons (.ret (.or (.cmp .isN (.var 0) .non) (.call 2 (.cons (.var 0) (.cons (.int 0) (.cons (.int 7) .nil))) 0))) .nil)
def E_is_hue : EnvL where
  fn := [(2, f_is_whole, [.non, .non])]
  mkl := []
  mtl := []
  xc := []
  xa := []
  xn := []
  xk := []
  fa := []
  ic := []
def f_is_hue : FnSem := runFn E_is_hue.env 1 1 c_is_hue
theorem e_is_hue_0 : E_is_hue.env.fn 2 = some (f_is_whole, [.non, .non]) := rfl
--@ is_hue = c_is_hue e_is_hue_0 | 
/-! check_hues -/
def N_check_hues : List Str := ["world", "hues", "at", "hue"]
def c_check_hues_1 : Ss := (.cons (.ite (.not (.call 71 (.cons (.var 3) .nil) 0)) (.cons (.raise 28 (.cons (.var 2) .nil)) .nil) .nil) .nil)
def c_check_hues : Ss := (.cons (.ite (.or (.not (.call 1 (.cons (.var 1) .nil) 0)) (.cmp .ne (.bi .len (.cons (.var 1) .nil)) (.bi .len (.cons (.fld (.var 0) 2) .nil)))) (.cons (.raise 28 (.cons (.int 0) .nil)) .nil) .nil) (.cons (.for_ (.tup [2, 3]) (.enum (.var 1)) c_check_hues_1) (.cons (.ret (.bi .tuple (.cons (.var 1) .nil))) .nil)))
def E_check_hues : EnvL where
  fn := [(1, f_is_sequence, []), (71, f_is_hue, [])]
  mkl := []
  mtl := []
  xc := [(28, [0])]
  xa := []
  xn := []
  xk := []
  fa := [(2, 2)]
  ic := []
def f_check_hues : FnSem := runFn E_check_hues.env 2 4 c_check_hues
theorem e_check_hues_0 : E_check_hues.env.fn 1 = some (f_is_sequence, []) := rfl
theorem e_check_hues_1 : E_check_hues.env.fn 71 = some (f_is_hue, []) := rfl
theorem e_check_hues_2 : E_check_hues.env.xc 28 = some [0] := rfl
theorem e_check_hues_3 : E_check_hues.env.fa 2 2 = true := rfl
--@ check_hues = c_check_hues e_check_hues_0 e_check_hues_1 e_check_hues_2 e_check_hues_3 | c_check_hues_1
/-! stand_off -/
def N_stand_off : List Str := ["world", "a", "b"]
def c_stand_off : Ss := (.cons (.ret (.and (.cmp .ne (.var 1) (.var 2)) (.and (.cmp .nin (.var 1) (.ix (.fld (.var 0) 6) (.var 2))) (.cmp .nin (.var 2) (.ix (.fld (.var 0) 6) (.var 1)))))) .nil)
def E_stand_off : EnvL where
  fn := []
  mkl := []
  mtl := []
  xc := []
  xa := []
  xn := []
  xk := []
  fa := [(2, 6)]
  ic := []
def f_stand_off : FnSem := runFn E_stand_off.env 3 3 c_stand_off
theorem e_stand_off_0 : E_stand_off.env.fa 2 6 = true := rfl
--@ stand_off = c_stand_off e_stand_off_0 | 
/-! first_clash -/
def N_first_clash : List Str := ["world", "hues", "among", "first", "second"]
def c_first_clash_1 : Ss := (.cons (.ite (.and (.cmp .lt (.var 3) (.var 4)) (.and (.cmp .notN (.ix (.var 1) (.var 3)) .non) (.cmp .eq (.ix (.var 1) (.var 3)) (.ix (.var 1) (.var 4))))) (.cons (.ite (.call 73 (.cons (.var 0) (.cons (.var 3) (.cons (.var 4) .nil))) 0) (.cons (.ret (.tup (.cons (.var 3) (.cons (.var 4) .nil)))) .nil) .nil) .nil) .nil) .nil)
def c_first_clash_2 : Ss := (.cons (.for_ (.name 4) (.seq (.var 2)) c_first_clash_1) .nil)
def c_first_clash : Ss := (.cons (.for_ (.name 3) (.seq (.var 2)) c_first_clash_2) (.cons (.ret .non) .nil))
def E_first_clash : EnvL where
  fn := [(73, f_stand_off, [])]
  mkl := []
  mtl := []
  xc := []
  xa := []
  xn := []
  xk := []
  fa := []
  ic := []
def f_first_clash : FnSem := runFn E_first_clash.env 3 5 c_first_clash
theorem e_first_clash_0 : E_first_clash.env.fn 73 = some (f_stand_off, []) := rfl
--@ first_clash = c_first_clash e_first_clash_0 | c_first_clash_1 c_first_clash_2
/-! Clash_init -/
def N_Clash_init : List Str := ["self", "cls", "first", "second"]
def c_Clash_init : Ss := (.cons (.setF (.var 0) 9 (.var 1)) (.cons (.setF (.var 0) 11 (.var 2)) (.cons (.setF (.var 0) 12 (.var 3)) .nil)))
def E_Clash_init : EnvL where
  fn := []
  mkl := []
  mtl := []
  xc := []
  xa := []
  xn := []
  xk := []
  fa := [(30, 9), (30, 11), (30, 12)]
  ic := []
def f_Clash_init : FnSem := runFn E_Clash_init.env 4 4 c_Clash_init
def k_Clash : FnSem := runMake 30 f_Clash_init
theorem e_Clash_init_0 : E_Clash_init.env.fa 30 9 = true := rfl
theorem e_Clash_init_1 : E_Clash_init.env.fa 30 11 = true := rfl
theorem e_Clash_init_2 : E_Clash_init.env.fa 30 12 = true := rfl
--@ Clash_init = c_Clash_init e_Clash_init_0 e_Clash_init_1 e_Clash_init_2 | 
/-! hue_fault -/
def N_hue_fault : List Str := ["world", "hues", "row", "c", "pair"]
def c_hue_fault_1 : Ss := (.cons (.asg 4 .val (.call 74 (.cons (.var 0) (.cons (.var 2) (.cons (.bin .add (.ix (.fld (.var 0) 6) (.var 3)) (.tup (.cons (.var 3) .nil))) .nil))) 0)) (.cons (.ite (.cmp .notN (.var 4) .non) (.cons (.ret (.mk 30 (.cons (.var 3) (.cons (.ix (.var 4) (.int 0)) (.cons (.ix (.var 4) (.int 1)) .nil))))) .nil) .nil) .nil))
def c_hue_fault : Ss := (.cons (.asg 2 .val (.call 72 (.cons (.var 0) (.cons (.var 1) .nil)) 0)) (.cons (.for_ (.name 3) (.r1 (.bi .len (.cons (.var 2) .nil))) c_hue_fault_1) (.cons (.ret .non) .nil)))
def E_hue_fault : EnvL where
  fn := [(72, f_check_hues, []), (74, f_first_clash, [])]
  mkl := [(30, k_Clash)]
  mtl := []
  xc := []
  xa := []
  xn := []
  xk := []
  fa := [(2, 6)]
  ic := []
def f_hue_fault : FnSem := runFn E_hue_fault.env 2 5 c_hue_fault
theorem e_hue_fault_0 : E_hue_fault.env.fn 72 = some (f_check_hues, []) := rfl
theorem e_hue_fault_1 : E_hue_fault.env.fn 74 = some (f_first_clash, []) := rfl
theorem e_hue_fault_2 : E_hue_fault.env.made 30 = some k_Clash := rfl
theorem e_hue_fault_3 : E_hue_fault.env.fa 2 6 = true := rfl
--@ hue_fault = c_hue_fault e_hue_fault_0 e_hue_fault_1 e_hue_fault_2 e_hue_fault_3 | c_hue_fault_1
/-! Ladders_init -/
def N_Ladders_init : List Str := ["self", "world", "hues", "fault"]
def c_Ladders_init : Ss := (.cons (.asg 3 .val (.call 75 (.cons (.var 1) (.cons (.var 2) .nil)) 0)) (.cons (.ite (.cmp .notN (.var 3) .non) (.cons (.raise 29 (.cons (.fld (.var 3) 9) (.cons (.fld (.var 3) 11) (.cons (.fld (.var 3) 12) .nil)))) .nil) .nil) (.cons (.setF (.var 0) 32 (.var 1)) (.cons (.setF (.var 0) 33 (.bi .tuple (.cons (.var 2) .nil))) .nil))))
def E_Ladders_init : EnvL where
  fn := [(75, f_hue_fault, [])]
  mkl := []
  mtl := []
  xc := [(29, [9, 11, 12])]
  xa := []
  xn := []
  xk := []
  fa := [(30, 9), (30, 11), (30, 12), (31, 32), (31, 33)]
  ic := []
def f_Ladders_init : FnSem := runFn E_Ladders_init.env 3 4 c_Ladders_init
def k_Ladders : FnSem := runMake 31 f_Ladders_init
theorem e_Ladders_init_0 : E_Ladders_init.env.fn 75 = some (f_hue_fault, []) := rfl
theorem e_Ladders_init_1 : E_Ladders_init.env.xc 29 = some [9, 11, 12] := rfl
theorem e_Ladders_init_2 : E_Ladders_init.env.fa 30 9 = true := rfl
theorem e_Ladders_init_3 : E_Ladders_init.env.fa 30 11 = true := rfl
theorem e_Ladders_init_4 : E_Ladders_init.env.fa 30 12 = true := rfl
theorem e_Ladders_init_5 : E_Ladders_init.env.fa 31 32 = true := rfl
theorem e_Ladders_init_6 : E_Ladders_init.env.fa 31 33 = true := rfl
--@ Ladders_init = c_Ladders_init e_Ladders_init_0 e_Ladders_init_1 e_Ladders_init_2 e_Ladders_init_3 e_Ladders_init_4 e_Ladders_init_5 e_Ladders_init_6 | 
/-! World_eq -/
def N_World_eq : List Str := ["self", "other"]
def c_World_eq : Ss := (.cons (.ret (.and (.isi (.cls 2) (.var 1)) (.cmp .eq (.fld (.var 0) 2) (.fld (.var 1) 2)))) .nil)
def E_World_eq : EnvL where
  fn := []
  mkl := []
  mtl := []
  xc := []
  xa := []
  xn := []
  xk := []
  fa := [(2, 2)]
  ic := [2]
def f_World_eq : FnSem := runFn E_World_eq.env 2 2 c_World_eq
theorem e_World_eq_0 : E_World_eq.env.fa 2 2 = true := rfl
theorem e_World_eq_1 : E_World_eq.env.ic 2 = true := rfl
--@ World_eq = c_World_eq e_World_eq_0 e_World_eq_1 | 
/-! _law_built_c83e -/
def N__law_built_c83e : List Str := ["_law_world", "_law_row", "_law_due", "_law_told", "error", "_law_ladders"]
def c__law_built_c83e : Ss := (.cons (.asg 3 .val .non) (.cons (.try_ (.cons (.asg 5 .val (.mk 31 (.cons (.var 0) (.cons (.var 1) .nil)))) (.cons (.asg 3 .val (.tup (.cons (.fld (.var 5) 33) (.cons (.eqI 2 116 (.fld (.var 5) 32) (.var 0)) .nil)))) .nil)) (.cons 29 (some 4) (.cons (.asg 3 .val (.tup (.cons (.xf 4 9) (.cons (.xf 4 11) (.cons (.xf 4 12) .nil))))) .nil) .nil)) (.cons (.ite (.cmp .isN (.var 2) .non) (.cons (.ret (.call 334 (.cons (.var 3) (.cons (.tup (.cons (.bi .tuple (.cons (.var 1) .nil)) (.cons (.bl true) .nil))) .nil)) 0)) .nil) .nil) (.cons (.ret (.call 334 (.cons (.var 3) (.cons (.var 2) .nil)) 0)) .nil))))
def E__law_built_c83e : EnvL where
  fn := [(334, f__law_exact_1b7e, [])]
  mkl := [(31, k_Ladders)]
  mtl := [((2, 116), f_World_eq)]
  xc := []
  xa := [(29, 9), (29, 11), (29, 12)]
  xn := [29]
  xk := [((28, 29), false), ((29, 29), true)]
  fa := [(31, 33), (31, 32)]
  ic := []
def f__law_built_c83e : FnSem := runFn E__law_built_c83e.env 3 6 c__law_built_c83e
theorem e__law_built_c83e_0 : E__law_built_c83e.env.fn 334 = some (f__law_exact_1b7e, []) := rfl
theorem e__law_built_c83e_1 : E__law_built_c83e.env.made 31 = some k_Ladders := rfl
theorem e__law_built_c83e_2 : E__law_built_c83e.env.meth 2 116 = some f_World_eq := rfl
theorem e__law_built_c83e_3 : E__law_built_c83e.env.xa 29 9 = true := rfl
theorem e__law_built_c83e_4 : E__law_built_c83e.env.xa 29 11 = true := rfl
theorem e__law_built_c83e_5 : E__law_built_c83e.env.xa 29 12 = true := rfl
theorem e__law_built_c83e_6 : E__law_built_c83e.env.xk 28 29 = some false := rfl
theorem e__law_built_c83e_7 : E__law_built_c83e.env.xk 29 29 = some true := rfl
theorem e__law_built_c83e_8 : E__law_built_c83e.env.fa 31 33 = true := rfl
theorem e__law_built_c83e_9 : E__law_built_c83e.env.fa 31 32 = true := rfl
--@ _law_built_c83e = c__law_built_c83e e__law_built_c83e_0 e__law_built_c83e_1 e__law_built_c83e_2 e__law_built_c83e_3 e__law_built_c83e_4 e__law_built_c83e_5 e__law_built_c83e_6 e__law_built_c83e_7 e__law_built_c83e_8 e__law_built_c83e_9 | 
/-! law_17f4 -/
def N_law_17f4 : List Str := ["_law_script", "_law_hand_here", "_law_rows", "_law_low", "_law_high", "_law_start", "_law_world", "_law_kin_here", "_law_total", "_law_step", "_law_number", "_law_rest", "_law_row", "_law_due", "_law_bases_here", "_law_fields", "_law_methods_here"]
def c_law_17f4_1 : Ss := (.cons (.asg 8 .val (.bin .mul (.var 8) (.int 3))) .nil)
def c_law_17f4_2 : Ss := (.cons (.ex (.lm .append (.var 12) (.cons (.ix (.tup (.cons (.var 3) (.cons (.var 4) (.cons .non .nil)))) (.bin .mod (.var 11) (.int 3))) .nil))) (.cons (.asg 11 .val (.bin .div (.var 11) (.int 3))) .nil))
def c_law_17f4_3 : Ss := (.cons (.asg 11 .val (.var 10)) (.cons (.asg 12 .own (.lst .nil)) (.cons (.for_ (.name 9) (.r1 (.bi .len (.cons (.var 2) .nil))) c_law_17f4_2) (.cons (.asg 13 .val (.lend 12 (.call 395 (.cons (.var 7) (.cons (.var 12) .nil)) 0))) (.cons (.ite (.cmp .ne (.cmp .isN (.var 13) .non) (.lend 12 (.call 422 (.cons (.var 7) (.cons (.var 12) .nil)) 0))) (.cons (.ret (.bl false)) .nil) .nil) (.cons (.ite (.not (.call 423 (.cons (.call 75 (.cons (.var 6) (.cons (.bi .tuple (.cons (.var 12) .nil)) .nil)) 0) (.cons (.var 13) .nil)) 0)) (.cons (.ret (.bl false)) .nil) .nil) (.cons (.ite (.and (.cmp .eq (.bin .mod (.var 10) (.int 5)) (.var 5)) (.not (.call 384 (.cons (.var 6) (.cons (.var 12) (.cons (.var 13) .nil))) 0))) (.cons (.ret (.bl false)) .nil) .nil) .nil)))))))
def c_law_17f4 : Ss := (.cons (.asg 1 .cell (.call 279 (.cons (.var 0) .nil) 0)) (.cons (.asg 2 .val (.call 285 (.cons (.var 1) (.cons (.int 1) (.cons (.ix (.tup (.cons (.int 4) (.cons (.int 4) (.cons (.int 4) (.cons (.int 5) .nil))))) (.call 281 (.cons (.var 1) (.cons (.int 4) .nil)) 0)) (.cons (.int 8) (.cons (.bl false) .nil))))) 0)) (.cons (.asg 3 .val (.call 281 (.cons (.var 1) (.cons (.int 8) .nil)) 0)) (.cons (.asg 4 .val (.bin .mod (.bi .int (.cons (.bin .add (.bin .add (.var 3) (.int 1)) (.call 281 (.cons (.var 1) (.cons (.int 7) .nil)) 0)) .nil)) (.int 8))) (.cons (.asg 5 .val (.call 281 (.cons (.var 1) (.cons (.int 5) .nil)) 0)) (.cons (.asg 6 .val (.mk 2 (.cons (.var 2) .nil))) (.cons (.asg 7 .val (.call 419 (.cons (.var 2) .nil) 0)) (.cons (.asg 8 .val (.int 1)) (.cons (.for_ (.name 9) (.r1 (.bi .len (.cons (.var 2) .nil))) c_law_17f4_1) (.cons (.for_ (.name 10) (.r1 (.var 8)) c_law_17f4_3) (.cons (.ret (.cmp .eq (.fld (.var 6) 3) (.bi .tuple (.cons (.lc (.bi .tuple (.cons (.var 14) .nil)) (.tup [14, 15, 16]) (.seq (.var 2)) .nil) .nil)))) .nil)))))))))))
def E_law_17f4 : EnvL where
  fn := [(279, f__law_hand_bbe7, []), (285, f__law_classes_f9b7, []), (281, f__law_take_1561, []), (419, f__law_kin_51e8, []), (395, f__law_clash_4ff3, []), (422, f__law_depths_unlike, []), (423, f__law_three_right, []), (75, f_hue_fault, []), (384, f__law_built_c83e, [])]
  mkl := [(2, k_World)]
  mtl := []
  xc := []
  xa := []
  xn := []
  xk := []
  fa := [(2, 3)]
  ic := []
def f_law_17f4 : FnSem := runFn E_law_17f4.env 1 17 c_law_17f4
theorem e_law_17f4_0 : E_law_17f4.env.fn 279 = some (f__law_hand_bbe7, []) := rfl
theorem e_law_17f4_1 : E_law_17f4.env.fn 285 = some (f__law_classes_f9b7, []) := rfl
theorem e_law_17f4_2 : E_law_17f4.env.fn 281 = some (f__law_take_1561, []) := rfl
theorem e_law_17f4_3 : E_law_17f4.env.fn 419 = some (f__law_kin_51e8, []) := rfl
theorem e_law_17f4_4 : E_law_17f4.env.fn 395 = some (f__law_clash_4ff3, []) := rfl
theorem e_law_17f4_5 : E_law_17f4.env.fn 422 = some (f__law_depths_unlike, []) := rfl
theorem e_law_17f4_6 : E_law_17f4.env.fn 423 = some (f__law_three_right, []) := rfl
theorem e_law_17f4_7 : E_law_17f4.env.fn 75 = some (f_hue_fault, []) := rfl
theorem e_law_17f4_8 : E_law_17f4.env.fn 384 = some (f__law_built_c83e, []) := rfl
theorem e_law_17f4_9 : E_law_17f4.env.made 2 = some k_World := rfl
theorem e_law_17f4_10 : E_law_17f4.env.fa 2 3 = true := rfl
--@ law_17f4 = c_law_17f4 e_law_17f4_0 e_law_17f4_1 e_law_17f4_2 e_law_17f4_3 e_law_17f4_4 e_law_17f4_5 e_law_17f4_6 e_law_17f4_7 e_law_17f4_8 e_law_17f4_9 e_law_17f4_10 | c_law_17f4_1 c_law_17f4_2 c_law_17f4_3
end LawP
set_option Elab.async false
set_option linter.all false
set_option maxRecDepth 100000
set_option maxHeartbeats 0
namespace LawP
open PySem MP
local macro_rules
  | `(tactic| simpa! only [$ls,*]) => `(tactic| simp -implicitDefEqProofs only [$ls,*, ↓wp_ok, ↓wp_bad, ↓wp_exc, ↓wp_opt, ↓ow_bind, ↓ow_map, ↓ow_some, ↓ow_none, ↓fow_ok, ↓fow_exc, ↓bK_t, ↓bK_f, ↓bK_not, ↓lk0, ↓lkS, ↓stK0, ↓stKS, ↓see_int, ↓see_bl, ↓see_str, ↓see_non, ↓see_tup, ↓see_lst, ↓see_ext, ↓see_rng, ↓see_ins, ↓see_cell, ↓cellD_lst, ↓cellD_ins, ↓hpK_0, ↓hpK_end, ↓get_dat, ↓get_sl, ↓slotP_val, ↓slotP_own, ↓varK_val, ↓varK_own, ↓varRK_val, ↓varRK_own, ↓varPK_val, ↓varPK_own, ↓x_var_v, ↓x_var_p, ↓x_var_t, ↓x_ret_var, ↓x_int_v, ↓x_int_p, ↓x_int_t, ↓x_bl_v, ↓x_bl_p, ↓x_bl_t, ↓x_non_v, ↓x_non_p, ↓x_non_t, ↓x_str_v, ↓x_str_p, ↓x_str_t, ↓x_bin_v, ↓x_bin_p, ↓x_bin_t, ↓x_neg_v, ↓x_neg_p, ↓x_neg_t, ↓x_cmp_v, ↓x_cmp_p, ↓x_cmp_t, ↓x_chain_v, ↓x_chain_p, ↓x_chain_t, ↓x_tup_v, ↓x_tup_p, ↓x_tup_t, ↓x_lst_v, ↓x_lst_p, ↓x_lst_t, ↓x_ix_v, ↓x_ix_p, ↓x_ix_t, ↓x_slc_v, ↓x_slc_p, ↓x_slc_t, ↓x_rev_v, ↓x_rev_p, ↓x_rev_t, ↓fldK_ins, ↓x_fld_v, ↓x_fld_p, ↓x_fld_t, ↓x_call_v, ↓x_call_p, ↓x_call_t, ↓x_mk_v, ↓x_mk_p, ↓x_mk_t, ↓x_bi_v, ↓x_bi_p, ↓x_bi_t, ↓x_isi_v, ↓x_isi_p, ↓x_isi_t, ↓x_lend_p, ↓x_im_v, ↓x_im_p, ↓x_im_t, ↓x_lm_v, ↓x_lm_p, ↓x_lm_t, ↓x_xf_v, ↓x_xf_p, ↓x_xf_t, ↓blK_bl, ↓x_eqI_v, ↓x_eqI_p, ↓x_eqI_t, ↓x_lenSet_v, ↓x_lenSet_p, ↓x_lenSet_t, ↓x_rng1_v, ↓x_rng1_p, ↓x_rng1_t, ↓x_rng2_v, ↓x_rng2_p, ↓x_rng2_t, ↓x_lc_v, ↓x_lc_p, ↓x_lc_t, ↓x_not_v, ↓x_not_t, ↓x_not_p, ↓x_and_v, ↓x_and_t, ↓x_and_p, ↓x_or_v, ↓x_or_t, ↓x_or_p, ↓x_ite_v, ↓x_ite_t, ↓x_ite_p, ↓x_vnil, ↓x_vcons, ↓x_pnil, ↓x_pcons, ↓gets_nil, ↓gets_cons, ↓x_inil, ↓x_icons, ↓x_ono, ↓x_oso, ↓walk_dat, ↓walkS_val, ↓walkS_own, ↓walk_sl, ↓x_seq, ↓x_r1, ↓x_r2, ↓seq_dat, ↓seqS_val, ↓seqS_own, ↓seq_sl, ↓x_enum, ↓x_zip, ↓fl_next, ↓fl_brk, ↓fl_cont, ↓fl_ret, ↓x_nil, ↓x_cons, ↓x_asg, ↓asg_val, ↓asg_own_val, ↓asg_own_own, ↓asg_own_cell, ↓tg_name, ↓tg_tup, ↓puts_nil, ↓puts_cons, ↓x_asgT, ↓x_setIx, ↓x_setF, ↓x_ex, ↓x_ret, ↓x_retN, ↓x_if, ↓x_for, ↓x_whl, ↓x_brk, ↓x_cont, ↓x_pass, ↓x_raise, ↓x_try, ↓x_hnil, ↓x_hconsN, ↓x_hconsS, ↓fret_next, ↓fret_ret, ↓ent_nil, ↓ent_cons, ↓nos0, ↓nosS, hp_mk, sl_mk, d_val, d_own, ↓negK_int, ↓intK_int, ↓lstK_lst, ↓insK_ins, ↓excK_exc, ↓bigK_nil, ↓bigK_1, ↓bigK_2, ↓bigK_3, ↓bigK_4, ↓bigK_5, ↓fnK0, ↓fnK1, ↓fnK12, ↓fnK2, ↓mkK_some, ↓xcK_1, ↓xcK_2, ↓xcK_3, ↓xcK_4, ↓xcK_5, ↓xkK_t, ↓xkK_f, ↓clK_nil, ↓clK_val, ↓clK_own, ↓clK_no, ↓smK_t, ↓r_int, ↓r_bl, ↓r_non, ↓r_str, ↓r_bin, ↓r_neg, ↓r_not, ↓r_cmp, ↓r_chain, ↓r_and, ↓r_or, ↓r_ite, ↓r_tup, ↓r_lst, ↓r_ix, ↓r_slc, ↓r_rev, ↓r_fld, ↓r_call, ↓r_mk, ↓r_bi, ↓r_isi, ↓r_im, ↓r_lm, ↓r_lc, ↓r_eqI, ↓r_lenSet, ↓r_xf, b_add, b_sub, c_lt, c_le, c_gt, c_ge, c_eq, c_ne, c_isN_non, c_isN_int, c_isN_str, c_isN_tup, c_isN_lst, c_notN_non, c_notN_int, c_notN_str, c_notN_tup, c_notN_lst, tr_bl, tr_non, tr_int, tr_tup, tr_lst, u_lenL, u_lenT, u_lenE, u_abs, u_int, u_tupL, u_tupT, u_lstL, u_lstT, u_max2, u_min2, q_lst, q_tup, q_ext, w_lst, w_tup, w_ext, s_lst, s_tup, cut_take, cut_drop, ix_lst, ix_tup, ix_lst0, ix_tup0, ix_lst1, ix_tup1, ix_tup2, ix_lst2, ix_lst3, ↓lm_append, ↓set_ix, ↓ixK_own, ↓ixK_cell, ↓flK_next, ↓flK_cont, ↓flK_brk, ↓flK_ret, range0, Int.toNat_natCast, ixN_0, ixN_1, ixN_2, ixN_3, apK_own, and_self, setF_end, x_fn, bigK_m, b_mod, b_div, b_mul, b_pow, smK_nat, in_lst, in_tup, nin_lst, nin_tup, putF, List.lookup, List.length_cons, List.length_nil, Nat.reduceAdd, decide_true, decide_false, Bool.not_true, Bool.not_false, if_true, Nat.reduceLT, Nat.reduceLeDiff, Nat.reduceEqDiff, Nat.reduceBEq, beq_self_eq_true, Int.reduceLT, Int.reduceLE, Int.reduceEq, Int.reduceAdd, Int.reduceSub, Int.reduceNeg, Int.reduceToNat, Bool.false_eq_true, List.set_cons_succ, List.set_cons_zero, List.getElem?_cons_succ, List.getElem?_cons_zero, Int.cast_ofNat_Int, eq_self, if_false, List.cons_append, List.nil_append, Option.isNone_none])
theorem i_int_int {ic : Nat → Bool} {i : Int} : isiRun ic .int (.int i) = some true := rfl
theorem i_bool_int {ic : Nat → Bool} {i : Int} : isiRun ic .bool (.int i) = some false := rfl
theorem i_list_lst {ic : Nat → Bool} {l : List D} : isiRun ic .list (.lst l) = some true := rfl
theorem i_list_tup {ic : Nat → Bool} {l : List D} : isiRun ic .list (.tup l) = some false := rfl
theorem i_tuple_tup {ic : Nat → Bool} {l : List D} : isiRun ic .tuple (.tup l) = some true := rfl
/-- a list or a tuple -/
def Sq (d : D) (l : List D) : Prop := d = .lst l ∨ d = .tup l
theorem is_sequence_ok {d : D} {l : List D} (h : List Cell) (s : Sq d l) : f_is_sequence [d] h = .ok (.val (.bl true)) h := by
  apply fow_eq
  rcases s with rfl | rfl
  · simpa! only [i_list_lst, i_list_tup, i_tuple_tup, f_is_sequence, c_is_sequence]
  · simpa! only [i_list_lst, i_list_tup, i_tuple_tup, f_is_sequence, c_is_sequence]
theorem is_whole_int (i lo hi : Int) (h : List Cell) : f_is_whole [.int i, .int lo, .int hi] h = .ok (.val (.bl (decide (lo ≤ i) && decide (i ≤ hi)))) h := by
  apply fow_eq
  simpa! only [i_int_int, i_bool_int, f_is_whole, c_is_whole]
  refine bK_dec (fun hc => ?_) fun hc => ?_
  · simpa! only [hc, Bool.true_and, c_is_whole]
  · simp [hc]
theorem is_whole_in {i lo hi : Int} (h : List Cell) (h1 : lo ≤ i) (h2 : i ≤ hi) : f_is_whole [.int i, .int lo, .int hi] h = .ok (.val (.bl true)) h := by
  rw [is_whole_int, decide_eq_true h1, decide_eq_true h2]; rfl
theorem see_sq {d : D} {l : List D} (h : List Cell) (s : Sq d l) (k : D → Prop) : seeK h d k = k d := by rcases s with rfl | rfl <;> rfl
theorem seqD {d : D} {l : List D} (s : Sq d l) : D.items d = some l := by rcases s with rfl | rfl <;> rfl
/-- unlike numbers up to a bound -/
theorem unlike_wholes_ok {d : D} {l : List Nat} {hi : Int} (h : List Cell) (s : Sq d (ns l)) (hn : l.Nodup) (hb : ∀ x ∈ l, (x : Int) ≤ hi) (hl : l.length < big) : f_unlike_wholes [d, .int hi] h = .ok (.val (.bl true)) h := by
  apply fow_eq
  have e := is_sequence_ok h s
  have ed := seqD s
  simpa! only [e, ed, f_unlike_wholes, c_unlike_wholes, e_unlike_wholes_0, e_unlike_wholes_1]
  refine wp_forN (fun pre s => ∃ x, s = ⟨[.val d, .val (.int hi), .own (ns pre), x], h⟩) ⟨_, rfl⟩ ?_ ?_
  · rintro _ ⟨x, rfl⟩
    simpa! only [c_unlike_wholes, e_unlike_wholes_0, e_unlike_wholes_1]
  · rintro pre x suf _ el ⟨y, rfl⟩
    have hx := hb x (by rw [el]; simp)
    have hp : x ∉ pre := by
      rw [el] at hn
      intro hm
      exact (List.nodup_append.mp hn).2.2 x hm x (by simp) rfl
    have hlen : (ns pre).length < big := by rw [ns_len]; rw [el] at hl; simp at hl; omega
    have ew := is_whole_in (i := x) (lo := 0) (hi := hi) h (by omega) hx
    simpa! only [ew, hp, hlen, c_unlike_wholes, e_unlike_wholes_0, e_unlike_wholes_1, c_unlike_wholes_1]
    exact ⟨_, by rw [ns_app]; rfl⟩
/-- a class's entry: its bases, its fields, its methods -/
def En (d : D) (b : List Nat) (f : Nat) (m : List Nat) : Prop := ∃ db dm, Sq d [db, .int f, dm] ∧ Sq db (ns b) ∧ Sq dm (ns m)
theorem entry_fault_ok {d : D} {b m : List Nat} {f i : Nat} (h : List Cell) (s : En d b f m) (hb : b.Nodup) (hbi : ∀ x ∈ b, x < i) (hbl : b.length < big) (hf : f ≤ 3) (hm : m.Nodup) (hm5 : ∀ x ∈ m, x ≤ 5) (hml : m.length ≤ 3) : f_entry_fault [d, .int i] h = .ok (.val .non) h := by
  obtain ⟨db, dm, s1, s2, s3⟩ := s
  apply fow_eq
  have e1 := is_sequence_ok h s1
  have e2 := unlike_wholes_ok h s2 hb (hi := (i : Int) - 1) (fun x hx => by have := hbi x hx; omega) hbl
  have e3 := is_whole_in (i := f) (lo := 0) (hi := 3) h (by omega) (by omega)
  have e4 := unlike_wholes_ok h s3 hm (hi := 5) (fun x hx => by have := hm5 x hx; omega) (by unfold big; omega)
  have g3 : ¬ (3 : Int) < ((ns m).length : Int) := by rw [ns_len]; omega
  have e5 := see_sq h s3
  have e6 := see_sq h s2
  have e7 : biSem .len [dm] = some (.val (.int ((ns m).length : Int))) := by rcases s3 with rfl | rfl <;> rfl
  rcases s1 with rfl | rfl
  · simpa! only [e1, e2, e3, e4, e5, e6, e7, g3, List.getElem?_cons_succ, List.getElem?_cons_zero, f_entry_fault, c_entry_fault, e_entry_fault_0, e_entry_fault_1, e_entry_fault_2]
  · simpa! only [e1, e2, e3, e4, e5, e6, e7, g3, List.getElem?_cons_succ, List.getElem?_cons_zero, f_entry_fault, c_entry_fault, e_entry_fault_0, e_entry_fault_1, e_entry_fault_2]
/-! ### elders, heirs -/
/-- rows of numbers as a tuple of tuples -/
def tts (l : List (List Nat)) : List D := l.map fun r => .tup (ns r)
/-- bases of each class: below it -/
def Bel (bss : List (List Nat)) : Prop := ∀ (i : Nat) (l : List Nat), bss[i]? = some l → ∀ x ∈ l, x < i
def eldStep (acc : List (List Nat)) (own : List Nat) : List (List Nat) := acc ++ [sortN (own.flatMap fun b => b :: acc.getD b [])]
def elders (bss : List (List Nat)) : List (List Nat) := bss.foldl eldStep []
theorem elders_snoc (bss : List (List Nat)) (own : List Nat) : elders (bss ++ [own]) = elders bss ++ [sortN (own.flatMap fun b => b :: (elders bss).getD b [])] := by
  unfold elders
  rw [List.foldl_append]
  rfl
theorem snoc_ind {α : Type} {P : List α → Prop} (nil : P []) (snoc : ∀ l a, P l → P (l ++ [a])) (l : List α) : P l := by
  have k : ∀ r : List α, P r.reverse := fun r => by
    induction r with
    | nil => exact nil
    | cons a r ih =>
      rw [List.reverse_cons]
      exact snoc _ _ ih
  have := k l.reverse
  rwa [List.reverse_reverse] at this
theorem elders_len (bss : List (List Nat)) : (elders bss).length = bss.length := by
  induction bss using snoc_ind with
  | nil => rfl
  | snoc l a ih => rw [elders_snoc]; simp [ih]
theorem Bel.init {bss : List (List Nat)} {own : List Nat} (h : Bel (bss ++ [own])) : Bel bss := fun i l hl => h i l (by
  rw [List.getElem?_append_left (List.getElem?_eq_some_iff.mp hl).1]; exact hl)
theorem Bel.last {bss : List (List Nat)} {own : List Nat} (h : Bel (bss ++ [own])) : ∀ x ∈ own, x < bss.length := h bss.length own (by simp)
theorem Bel.pre {pre suf : List (List Nat)} (h : Bel (pre ++ suf)) : Bel pre := fun i l hl => h i l (by
  rw [List.getElem?_append_left (List.getElem?_eq_some_iff.mp hl).1]; exact hl)
/-- elders stand below, ascend -/
theorem elders_ok {bss : List (List Nat)} (h : Bel bss) : ∀ (i : Nat) (l : List Nat), (elders bss)[i]? = some l → Asc l ∧ ∀ x ∈ l, x < i := by
  induction bss using snoc_ind with
  | nil => intro i l hl; cases hl
  | snoc bss own ih =>
    intro i l hl
    rw [elders_snoc] at hl
    by_cases hi : i < (elders bss).length
    · rw [List.getElem?_append_left hi] at hl
      exact ih h.init i l hl
    · have hi2 : i < (elders bss).length + 1 := by
        have := (List.getElem?_eq_some_iff.mp hl).1
        simpa using this
      have e : i = (elders bss).length := by omega
      subst e
      simp at hl
      subst hl
      refine ⟨sortN_asc _, fun x hx => ?_⟩
      rw [sortN_mem, List.mem_flatMap] at hx
      obtain ⟨b, hb, hx⟩ := hx
      have hbl := h.last b hb
      rw [elders_len]
      rcases List.mem_cons.mp hx with rfl | hx
      · exact hbl
      · have hbl2 : b < (elders bss).length := by rw [elders_len]; exact hbl
        rw [List.getElem?_eq_getElem hbl2] at hx
        have := (ih h.init b _ (List.getElem?_eq_getElem hbl2)).2 x hx
        omega
theorem tts_get {l : List (List Nat)} {i : Nat} : (tts l)[i]? = (l[i]?).map fun r => D.tup (ns r) := by unfold tts; simp
theorem tts_len {l : List (List Nat)} : (tts l).length = l.length := by unfold tts; simp
theorem tts_snoc {l : List (List Nat)} {r : List Nat} : tts (l ++ [r]) = tts l ++ [.tup (ns r)] := by unfold tts; simp
theorem flat_len {f : Nat → List Nat} {m : Nat} : ∀ {l : List Nat}, (∀ b ∈ l, (f b).length ≤ m) → (l.flatMap f).length ≤ l.length * m
  | [], _ => by simp
  | b :: l, h => by
    have := flat_len (l := l) (f := f) (m := m) fun b hb => h b (List.mem_cons_of_mem _ hb)
    have := h b List.mem_cons_self
    simp only [List.flatMap_cons, List.length_append, List.length_cons]
    rw [Nat.add_mul]
    omega
theorem elder_rows_ok {bss : List (List Nat)} (h : List Cell) (hb : Bel bss) (hl : bss.length ≤ 60) (hn : ∀ b ∈ bss, b.length ≤ 60) : f_elder_rows [.tup (tts bss)] h = .ok (.val (.tup (tts (elders bss)))) h := by
  apply fow_eq
  simpa! only [f_elder_rows, c_elder_rows]
  refine wp_for (en := fun r => .tup (ns r)) (fun pre s => ∃ x y z, s = ⟨[.val (.tup (tts bss)), .own (tts (elders pre)), x, y, z], h⟩) ⟨_, _, _, rfl⟩ ?_ ?_
  · rintro _ ⟨x, y, z, rfl⟩
    simpa! only [c_elder_rows]
  · rintro pre own suf _ el ⟨x, y, z, rfl⟩
    have hbp : Bel (pre ++ [own]) := by rw [el] at hb; exact Bel.pre (suf := suf) (by simpa using hb)
    have hpl : pre.length + 1 ≤ 60 := by rw [el] at hl; simp at hl; omega
    have hown : own.length ≤ 60 := hn own (by rw [el]; simp)
    have eo := elders_ok hbp.init
    have hlen : (tts (elders pre)).length < big := by rw [tts_len, elders_len]; unfold big; omega
    simpa! only [c_elder_rows, c_elder_rows_2]
    refine wp_forN (fun done s => ∃ z, s = ⟨[.val (.tup (tts bss)), .own (tts (elders pre)), .val (.tup (ns own)), .val (.lst (ns (done.flatMap fun b => b :: (elders pre).getD b []))), z], h⟩) ⟨_, rfl⟩ ?_ ?_
    · rintro _ ⟨z, rfl⟩
      have f1 : (own.flatMap fun b => b :: (elders pre).getD b []).length ≤ own.length * 61 := flat_len fun b hb => by
        have h1 := hbp.last b hb
        rw [← elders_len] at h1
        rw [List.getD_eq_getElem?_getD, List.getElem?_eq_getElem h1]
        have := eo b _ (List.getElem?_eq_getElem h1)
        have := asc_len0 this.1 this.2
        rw [elders_len] at h1
        simp only [Option.getD_some, List.length_cons]
        omega
      have f2 := elders_ok hbp pre.length (sortN (own.flatMap fun b => b :: (elders pre).getD b [])) (by rw [elders_snoc, ← elders_len pre]; simp)
      have f3 := asc_len0 f2.1 f2.2
      have u := u_sset (l := own.flatMap fun b => b :: (elders pre).getD b []) (by omega) (by omega)
      simpa! only [u, hlen, c_elder_rows]
      exact ⟨_, _, _, by rw [elders_snoc, tts_snoc]⟩
    · rintro done b rest _ el2 ⟨z, rfl⟩
      have h1 := hbp.last b (by rw [el2]; simp)
      rw [← elders_len] at h1
      have g1 : (tts (elders pre))[b]? = some (.tup (ns (elders pre)[b])) := by rw [tts_get, List.getElem?_eq_getElem h1]; rfl
      have g2 := asc_len0 (eo b _ (List.getElem?_eq_getElem h1)).1 (eo b _ (List.getElem?_eq_getElem h1)).2
      have f1 : (done.flatMap fun b => b :: (elders pre).getD b []).length ≤ done.length * 61 := flat_len fun b hb => by
        have h1 := hbp.last b (by rw [el2]; simp [hb])
        rw [← elders_len] at h1
        rw [List.getD_eq_getElem?_getD, List.getElem?_eq_getElem h1]
        have := eo b _ (List.getElem?_eq_getElem h1)
        have := asc_len0 this.1 this.2
        rw [elders_len] at h1
        simp only [Option.getD_some, List.length_cons]
        omega
      have hd : done.length ≤ 60 := by rw [el2] at hown; simp at hown; omega
      rw [elders_len] at h1
      have a1 : (ns (done.flatMap fun b => b :: (elders pre).getD b [])).length + [D.int b].length ≤ big := by rw [ns_len]; unfold big; simp only [List.length_cons, List.length_nil]; omega
      have a2 : (ns (done.flatMap fun b => b :: (elders pre).getD b []) ++ [D.int b]).length + (ns (elders pre)[b]).length ≤ big := by rw [List.length_append, ns_len, ns_len]; unfold big; simp only [List.length_cons, List.length_nil]; omega
      simpa! only [g1, b_addL a1, b_addL a2, c_elder_rows, c_elder_rows_1]
      rw [← elders_len] at h1
      have e : ns ((done ++ [b]).flatMap fun b => b :: (elders pre).getD b []) = ns (done.flatMap fun b => b :: (elders pre).getD b []) ++ [D.int b] ++ ns (elders pre)[b] := by
        rw [List.flatMap_append, ns_app]
        simp only [List.flatMap_cons, List.flatMap_nil, List.append_nil, List.append_assoc]
        rw [List.getD_eq_getElem?_getD, List.getElem?_eq_getElem h1]
        rfl
      rw [e]
      exact ⟨_, rfl⟩
def heirs (es : List (List Nat)) : List (List Nat) := (List.range es.length).map fun one => (List.range es.length).filter fun c => decide (one ∈ es.getD c [])
theorem heir_rows_ok {es : List (List Nat)} (h : List Cell) (hl : es.length ≤ 60) : f_heir_rows [.tup (tts es)] h = .ok (.val (.tup (tts (heirs es)))) h := by
  apply fow_eq
  have w := w_rng (n := es.length) (by omega)
  simpa! only [tts_len, w, f_heir_rows, c_heir_rows]
  refine lc_mapN (en2 := fun r => .tup (ns r)) (fun one => (List.range es.length).filter fun c => decide (one ∈ es.getD c [])) (.inl rfl) (by rw [List.length_range]; unfold big; omega) ?_ ?_
  · intro x hx
    simpa! only [w, c_heir_rows]
    refine lc_fil (fun c => decide (x ∈ es.getD c [])) (.inl rfl) (by rw [List.length_range]; unfold big; omega) ?_ ?_
    · intro c hc
      have hc := List.mem_range.mp hc
      have g : (tts es)[c]? = some (.tup (ns (es.getD c []))) := by
        rw [tts_get, List.getD_eq_getElem?_getD, List.getElem?_eq_getElem hc]; rfl
      simpa! only [g, c_heir_rows]
      exact bK_same rfl
    · simpa! only [c_heir_rows]
  · simpa! only [c_heir_rows]
    exact ⟨rfl, trivial⟩
end LawP
set_option Elab.async false
set_option linter.all false
set_option maxRecDepth 100000
set_option maxHeartbeats 0
namespace LawP
open PySem MP
local macro_rules
  | `(tactic| simpa! only [$ls,*]) => `(tactic| simp -implicitDefEqProofs only [$ls,*, ↓wp_ok, ↓wp_bad, ↓wp_exc, ↓wp_opt, ↓ow_bind, ↓ow_map, ↓ow_some, ↓ow_none, ↓fow_ok, ↓fow_exc, ↓bK_t, ↓bK_f, ↓bK_not, ↓lk0, ↓lkS, ↓stK0, ↓stKS, ↓see_int, ↓see_bl, ↓see_str, ↓see_non, ↓see_tup, ↓see_lst, ↓see_ext, ↓see_rng, ↓see_ins, ↓see_cell, ↓cellD_lst, ↓cellD_ins, ↓hpK_0, ↓hpK_end, ↓get_dat, ↓get_sl, ↓slotP_val, ↓slotP_own, ↓varK_val, ↓varK_own, ↓varRK_val, ↓varRK_own, ↓varPK_val, ↓varPK_own, ↓x_var_v, ↓x_var_p, ↓x_var_t, ↓x_ret_var, ↓x_int_v, ↓x_int_p, ↓x_int_t, ↓x_bl_v, ↓x_bl_p, ↓x_bl_t, ↓x_non_v, ↓x_non_p, ↓x_non_t, ↓x_str_v, ↓x_str_p, ↓x_str_t, ↓x_bin_v, ↓x_bin_p, ↓x_bin_t, ↓x_neg_v, ↓x_neg_p, ↓x_neg_t, ↓x_cmp_v, ↓x_cmp_p, ↓x_cmp_t, ↓x_chain_v, ↓x_chain_p, ↓x_chain_t, ↓x_tup_v, ↓x_tup_p, ↓x_tup_t, ↓x_lst_v, ↓x_lst_p, ↓x_lst_t, ↓x_ix_v, ↓x_ix_p, ↓x_ix_t, ↓x_slc_v, ↓x_slc_p, ↓x_slc_t, ↓x_rev_v, ↓x_rev_p, ↓x_rev_t, ↓fldK_ins, ↓x_fld_v, ↓x_fld_p, ↓x_fld_t, ↓x_call_v, ↓x_call_p, ↓x_call_t, ↓x_mk_v, ↓x_mk_p, ↓x_mk_t, ↓x_bi_v, ↓x_bi_p, ↓x_bi_t, ↓x_isi_v, ↓x_isi_p, ↓x_isi_t, ↓x_lend_p, ↓x_im_v, ↓x_im_p, ↓x_im_t, ↓x_lm_v, ↓x_lm_p, ↓x_lm_t, ↓x_xf_v, ↓x_xf_p, ↓x_xf_t, ↓blK_bl, ↓x_eqI_v, ↓x_eqI_p, ↓x_eqI_t, ↓x_lenSet_v, ↓x_lenSet_p, ↓x_lenSet_t, ↓x_rng1_v, ↓x_rng1_p, ↓x_rng1_t, ↓x_rng2_v, ↓x_rng2_p, ↓x_rng2_t, ↓x_lc_v, ↓x_lc_p, ↓x_lc_t, ↓x_not_v, ↓x_not_t, ↓x_not_p, ↓x_and_v, ↓x_and_t, ↓x_and_p, ↓x_or_v, ↓x_or_t, ↓x_or_p, ↓x_ite_v, ↓x_ite_t, ↓x_ite_p, ↓x_vnil, ↓x_vcons, ↓x_pnil, ↓x_pcons, ↓gets_nil, ↓gets_cons, ↓x_inil, ↓x_icons, ↓x_ono, ↓x_oso, ↓walk_dat, ↓walkS_val, ↓walkS_own, ↓walk_sl, ↓x_seq, ↓x_r1, ↓x_r2, ↓seq_dat, ↓seqS_val, ↓seqS_own, ↓seq_sl, ↓x_enum, ↓x_zip, ↓fl_next, ↓fl_brk, ↓fl_cont, ↓fl_ret, ↓x_nil, ↓x_cons, ↓x_asg, ↓asg_val, ↓asg_own_val, ↓asg_own_own, ↓asg_own_cell, ↓tg_name, ↓tg_tup, ↓puts_nil, ↓puts_cons, ↓x_asgT, ↓x_setIx, ↓x_setF, ↓x_ex, ↓x_ret, ↓x_retN, ↓x_if, ↓x_for, ↓x_whl, ↓x_brk, ↓x_cont, ↓x_pass, ↓x_raise, ↓x_try, ↓x_hnil, ↓x_hconsN, ↓x_hconsS, ↓fret_next, ↓fret_ret, ↓ent_nil, ↓ent_cons, ↓nos0, ↓nosS, hp_mk, sl_mk, d_val, d_own, ↓negK_int, ↓intK_int, ↓lstK_lst, ↓insK_ins, ↓excK_exc, ↓bigK_nil, ↓bigK_1, ↓bigK_2, ↓bigK_3, ↓bigK_4, ↓bigK_5, ↓fnK0, ↓fnK1, ↓fnK12, ↓fnK2, ↓mkK_some, ↓xcK_1, ↓xcK_2, ↓xcK_3, ↓xcK_4, ↓xcK_5, ↓xkK_t, ↓xkK_f, ↓clK_nil, ↓clK_val, ↓clK_own, ↓clK_no, ↓smK_t, ↓r_int, ↓r_bl, ↓r_non, ↓r_str, ↓r_bin, ↓r_neg, ↓r_not, ↓r_cmp, ↓r_chain, ↓r_and, ↓r_or, ↓r_ite, ↓r_tup, ↓r_lst, ↓r_ix, ↓r_slc, ↓r_rev, ↓r_fld, ↓r_call, ↓r_mk, ↓r_bi, ↓r_isi, ↓r_im, ↓r_lm, ↓r_lc, ↓r_eqI, ↓r_lenSet, ↓r_xf, b_add, b_sub, c_lt, c_le, c_gt, c_ge, c_eq, c_ne, c_isN_non, c_isN_int, c_isN_str, c_isN_tup, c_isN_lst, c_notN_non, c_notN_int, c_notN_str, c_notN_tup, c_notN_lst, tr_bl, tr_non, tr_int, tr_tup, tr_lst, u_lenL, u_lenT, u_lenE, u_abs, u_int, u_tupL, u_tupT, u_lstL, u_lstT, u_max2, u_min2, q_lst, q_tup, q_ext, w_lst, w_tup, w_ext, s_lst, s_tup, cut_take, cut_drop, ix_lst, ix_tup, ix_lst0, ix_tup0, ix_lst1, ix_tup1, ix_tup2, ix_lst2, ix_lst3, ↓lm_append, ↓set_ix, ↓ixK_own, ↓ixK_cell, ↓flK_next, ↓flK_cont, ↓flK_brk, ↓flK_ret, range0, Int.toNat_natCast, ixN_0, ixN_1, ixN_2, ixN_3, apK_own, and_self, setF_end, x_fn, bigK_m, b_mod, b_div, b_mul, b_pow, smK_nat, in_lst, in_tup, nin_lst, nin_tup, putF, List.lookup, List.length_cons, List.length_nil, Nat.reduceAdd, decide_true, decide_false, Bool.not_true, Bool.not_false, if_true, Nat.reduceLT, Nat.reduceLeDiff, Nat.reduceEqDiff, Nat.reduceBEq, beq_self_eq_true, Int.reduceLT, Int.reduceLE, Int.reduceEq, Int.reduceAdd, Int.reduceSub, Int.reduceNeg, Int.reduceToNat, Bool.false_eq_true, List.set_cons_succ, List.set_cons_zero, List.getElem?_cons_succ, List.getElem?_cons_zero, Int.cast_ofNat_Int, eq_self, if_false, List.cons_append, List.nil_append, Option.isNone_none])
/-! ### worlds -/
/-- a class's bases, fields, methods -/
abbrev Row := List Nat × Nat × List Nat
def rowD (r : Row) : D := .tup [.tup (ns r.1), .int r.2.1, .tup (ns r.2.2)]
def RowOk (i : Nat) (r : Row) : Prop := r.1.Nodup ∧ (∀ x ∈ r.1, x < i) ∧ r.2.1 ≤ 3 ∧ r.2.2.Nodup ∧ (∀ x ∈ r.2.2, x ≤ 5) ∧ r.2.2.length ≤ 3
def RowsOk (rows : List Row) : Prop := ∀ (i : Nat) (r : Row), rows[i]? = some r → RowOk i r
def norm (r : Row) : Row := (r.1, r.2.1, sortM r.2.2)
def basesR (rows : List Row) : List (List Nat) := rows.map fun r => r.1
def ownsR (rows : List Row) : List Nat := rows.map fun r => r.2.1
def methsR (rows : List Row) : List (List Nat) := rows.map fun r => r.2.2
def rowsD (rows : List Row) : List D := rows.map rowD
def worldF (rows : List Row) : List (Nat × D) := [(2, .tup (rowsD rows)), (3, .tup (tts (basesR rows))), (4, .tup (ns (ownsR rows))), (5, .tup (tts (methsR rows))), (6, .tup (tts (elders (basesR rows)))), (7, .tup (tts (heirs (elders (basesR rows)))))]
def worldD (rows : List Row) : D := .ins 2 (worldF rows)
/-- the entries as they are given -/
def Ens (ds : List D) (rows : List Row) : Prop := ds.length = rows.length ∧ ∀ (i : Nat) (d : D) (r : Row), ds[i]? = some d → rows[i]? = some r → En d r.1 r.2.1 r.2.2
theorem nodup_len {l : List Nat} {n : Nat} (h : l.Nodup) (hb : ∀ x ∈ l, x < n) : l.length ≤ n := by
  have h1 : (sortN l).length ≤ n := asc_len0 (sortN_asc l) fun x hx => hb x (sortN_mem.mp hx)
  have h2 : ∀ l : List Nat, l.Nodup → l.length ≤ (sortN l).length := fun l => by
    induction l with
    | nil => intro _; exact Nat.le_refl _
    | cons x l ih =>
      intro h
      have h' := List.nodup_cons.mp h
      have := ih h'.2
      have hx : x ∉ sortN l := fun z => h'.1 (sortN_mem.mp z)
      have key : ∀ m : List Nat, x ∉ m → (insN x m).length = m.length + 1 := fun m => by
        induction m with
        | nil => intro _; rfl
        | cons y m ih =>
          intro hm
          unfold insN
          split
          · rfl
          · split
            · rename_i q; exact absurd (q ▸ List.mem_cons_self) hm
            · simp only [List.length_cons]
              rw [ih fun z => hm (List.mem_cons_of_mem _ z)]
      show l.length + 1 ≤ (insN x (sortN l)).length
      rw [key _ hx]
      omega
  have := h2 l h
  omega
theorem World_init_ok {ds : List D} {rows : List Row} (h : List Cell) (e : Ens ds rows) (ok : RowsOk rows) (h1 : 1 ≤ rows.length) (h12 : rows.length ≤ 12) :
    f_World_init [.cell h.length, .lst ds] (h ++ [.ins 2 []]) = .ok (.val .non) (h ++ [.ins 2 (worldF (rows.map norm))]) := by
  apply fow_eq
  have hrow : ∀ (i : Nat) (b : List Nat), (basesR (rows.map norm))[i]? = some b → ∃ r, rows[i]? = some r ∧ b = r.1 := fun i b hb => by
    unfold basesR at hb
    rw [List.map_map, List.getElem?_map] at hb
    cases q : rows[i]? with
    | none => rw [q] at hb; cases hb
    | some r => rw [q] at hb; cases hb; exact ⟨r, rfl, rfl⟩
  have hbel : Bel (basesR (rows.map norm)) := fun i b hb => by
    obtain ⟨r, hr, rfl⟩ := hrow i b hb
    exact (ok i r hr).2.1
  have hlen : ∀ (i : Nat) (b : List Nat), (basesR (rows.map norm))[i]? = some b → b.length ≤ i := fun i b hb => by
    obtain ⟨r, hr, rfl⟩ := hrow i b hb
    exact nodup_len (ok i r hr).1 (ok i r hr).2.1
  have e1 := is_sequence_ok (d := .lst ds) (l := ds) (h ++ [.ins 2 []]) (.inl rfl)
  have l1 : (1 : Int) ≤ (ds.length : Int) := by rw [e.1]; omega
  have l12 : (ds.length : Int) ≤ 12 := by rw [e.1]; omega
  simpa! only [e1, l1, l12, f_World_init, c_World_init, e_World_init_0, e_World_init_1, e_World_init_2, e_World_init_3, e_World_init_4, e_World_init_5, e_World_init_6, e_World_init_7, e_World_init_8, e_World_init_9, e_World_init_10]
  refine wp_forE (fun i s => ∃ x y z, s = ⟨[.val (.cell h.length), .val (.lst ds), .own (rowsD ((rows.take i).map norm)), x, y, z, .no], h ++ [.ins 2 []]⟩) ⟨_, _, _, rfl⟩ ?_ ?_
  · rintro _ ⟨x, y, z, rfl⟩
    rw [e.1, List.take_length]
    have big1 : (rows.map norm).length ≤ big := by rw [List.length_map]; unfold big; omega
    have g0 : ∀ r : Row, (D.tup (ns r.1) :: [D.int (r.2.1 : Nat), .tup (ns r.2.2)])[0]? = some (D.tup (ns r.1)) := fun _ => rfl
    simpa! only [c_World_init, e_World_init_0, e_World_init_1, e_World_init_2, e_World_init_3, e_World_init_4, e_World_init_5, e_World_init_6, e_World_init_7, e_World_init_8, e_World_init_9, e_World_init_10]
    refine lc_map (en := rowD) (en2 := fun b => .tup (ns b)) (fun r => r.1) (.inl rfl) big1 (fun r _ => ?_) ?_
    · unfold rowD
      simpa! only [c_World_init, e_World_init_0, e_World_init_1, e_World_init_2, e_World_init_3, e_World_init_4, e_World_init_5, e_World_init_6, e_World_init_7, e_World_init_8, e_World_init_9, e_World_init_10]
    simpa! only [c_World_init, e_World_init_0, e_World_init_1, e_World_init_2, e_World_init_3, e_World_init_4, e_World_init_5, e_World_init_6, e_World_init_7, e_World_init_8, e_World_init_9, e_World_init_10]
    refine lc_map (en := rowD) (en2 := fun b : Nat => .int b) (fun r => r.2.1) (.inl rfl) big1 (fun r _ => ?_) ?_
    · unfold rowD
      simpa! only [c_World_init, e_World_init_0, e_World_init_1, e_World_init_2, e_World_init_3, e_World_init_4, e_World_init_5, e_World_init_6, e_World_init_7, e_World_init_8, e_World_init_9, e_World_init_10]
    simpa! only [c_World_init, e_World_init_0, e_World_init_1, e_World_init_2, e_World_init_3, e_World_init_4, e_World_init_5, e_World_init_6, e_World_init_7, e_World_init_8, e_World_init_9, e_World_init_10]
    refine lc_map (en := rowD) (en2 := fun b => .tup (ns b)) (fun r => r.2.2) (.inl rfl) big1 (fun r _ => ?_) ?_
    · unfold rowD
      simpa! only [c_World_init, e_World_init_0, e_World_init_1, e_World_init_2, e_World_init_3, e_World_init_4, e_World_init_5, e_World_init_6, e_World_init_7, e_World_init_8, e_World_init_9, e_World_init_10]
    have fold1 : ((rows.map norm).map fun r => r.1).map (fun b => D.tup (ns b)) = tts (basesR (rows.map norm)) := rfl
    have fold2 : ((rows.map norm).map fun r => r.2.1).map (fun b : Nat => D.int b) = ns (ownsR (rows.map norm)) := rfl
    have fold3 : ((rows.map norm).map fun r => r.2.2).map (fun b => D.tup (ns b)) = tts (methsR (rows.map norm)) := rfl
    rw [fold1, fold2, fold3]
    have bl : (basesR (rows.map norm)).length = rows.length := by unfold basesR; simp
    have e3 := elder_rows_ok (bss := basesR (rows.map norm)) (h ++ [.ins 2 [(2, .tup (rowsD (rows.map norm))), (3, .tup (tts (basesR (rows.map norm)))), (4, .tup (ns (ownsR (rows.map norm)))), (5, .tup (tts (methsR (rows.map norm))))]]) hbel (by omega) (fun b hb => by
      obtain ⟨i, hi⟩ := List.mem_iff_getElem?.mp hb
      have := (List.getElem?_eq_some_iff.mp hi).1
      have := hlen i b hi
      omega)
    have e4 := heir_rows_ok (es := elders (basesR (rows.map norm))) (h ++ [.ins 2 [(2, .tup (rowsD (rows.map norm))), (3, .tup (tts (basesR (rows.map norm)))), (4, .tup (ns (ownsR (rows.map norm)))), (5, .tup (tts (methsR (rows.map norm)))), (6, .tup (tts (elders (basesR (rows.map norm)))))]]) (by rw [elders_len, bl]; omega)
    simpa! only [e3, e4, c_World_init, e_World_init_0, e_World_init_1, e_World_init_2, e_World_init_3, e_World_init_4, e_World_init_5, e_World_init_6, e_World_init_7, e_World_init_8, e_World_init_9, e_World_init_10]
    exact ⟨trivial, rfl⟩
  · rintro i d _ hd ⟨x, y, z, rfl⟩
    have hi : i < rows.length := by rw [← e.1]; exact (List.getElem?_eq_some_iff.mp hd).1
    have hr := List.getElem?_eq_getElem hi
    generalize rows[i] = r at hr
    have en := e.2 i d r hd hr
    obtain ⟨o1, o2, o3, o4, o5, o6⟩ := ok i r hr
    have f0 : r.1.length ≤ i := nodup_len o1 o2
    have e2 := entry_fault_ok (i := i) (h ++ [.ins 2 []]) en o1 o2 (by unfold big; omega) o3 o4 o5 o6
    have hb : (rowsD ((rows.take i).map norm)).length < big := by
      unfold rowsD
      rw [List.length_map, List.length_map, List.length_take]
      unfold big
      omega
    have hs : rowsD ((rows.take i).map norm) ++ [.tup [.tup (ns r.1), .int r.2.1, .tup (ns (sortM r.2.2))]] = rowsD ((rows.take (i + 1)).map norm) := by
      rw [List.take_add_one, hr]
      unfold rowsD
      simp
      rfl
    obtain ⟨db, dm, s1, s2, s3⟩ := en
    have v1 := see_sq (h ++ [.ins 2 []]) s2
    have v2 := see_sq (h ++ [.ins 2 []]) s3
    have v3 : biSem .tuple [db] = some (.val (.tup (ns r.1))) := by rcases s2 with rfl | rfl <;> rfl
    have v4 : biSem .sorted [dm] = some (.own (ns (sortM r.2.2))) := by
      rcases s3 with rfl | rfl
      · exact u_sort
      · exact u_sortT
    rcases s1 with rfl | rfl
    · simpa! only [e2, v1, v2, v3, v4, hb, hs, c_World_init, e_World_init_0, e_World_init_1, e_World_init_2, e_World_init_3, e_World_init_4, e_World_init_5, e_World_init_6, e_World_init_7, e_World_init_8, e_World_init_9, e_World_init_10, c_World_init_1]
      exact ⟨_, _, _, rfl⟩
    · simpa! only [e2, v1, v2, v3, v4, hb, hs, c_World_init, e_World_init_0, e_World_init_1, e_World_init_2, e_World_init_3, e_World_init_4, e_World_init_5, e_World_init_6, e_World_init_7, e_World_init_8, e_World_init_9, e_World_init_10, c_World_init_1]
      exact ⟨_, _, _, rfl⟩
end LawP
set_option Elab.async false
set_option linter.all false
set_option maxRecDepth 100000
set_option maxHeartbeats 0
namespace LawP
open PySem MP
local macro_rules
  | `(tactic| simpa! only [$ls,*]) => `(tactic| simp -implicitDefEqProofs only [$ls,*, ↓wp_ok, ↓wp_bad, ↓wp_exc, ↓wp_opt, ↓ow_bind, ↓ow_map, ↓ow_some, ↓ow_none, ↓fow_ok, ↓fow_exc, ↓bK_t, ↓bK_f, ↓bK_not, ↓lk0, ↓lkS, ↓stK0, ↓stKS, ↓see_int, ↓see_bl, ↓see_str, ↓see_non, ↓see_tup, ↓see_lst, ↓see_ext, ↓see_rng, ↓see_ins, ↓see_cell, ↓cellD_lst, ↓cellD_ins, ↓hpK_0, ↓hpK_end, ↓get_dat, ↓get_sl, ↓slotP_val, ↓slotP_own, ↓varK_val, ↓varK_own, ↓varRK_val, ↓varRK_own, ↓varPK_val, ↓varPK_own, ↓x_var_v, ↓x_var_p, ↓x_var_t, ↓x_ret_var, ↓x_int_v, ↓x_int_p, ↓x_int_t, ↓x_bl_v, ↓x_bl_p, ↓x_bl_t, ↓x_non_v, ↓x_non_p, ↓x_non_t, ↓x_str_v, ↓x_str_p, ↓x_str_t, ↓x_bin_v, ↓x_bin_p, ↓x_bin_t, ↓x_neg_v, ↓x_neg_p, ↓x_neg_t, ↓x_cmp_v, ↓x_cmp_p, ↓x_cmp_t, ↓x_chain_v, ↓x_chain_p, ↓x_chain_t, ↓x_tup_v, ↓x_tup_p, ↓x_tup_t, ↓x_lst_v, ↓x_lst_p, ↓x_lst_t, ↓x_ix_v, ↓x_ix_p, ↓x_ix_t, ↓x_slc_v, ↓x_slc_p, ↓x_slc_t, ↓x_rev_v, ↓x_rev_p, ↓x_rev_t, ↓fldK_ins, ↓x_fld_v, ↓x_fld_p, ↓x_fld_t, ↓x_call_v, ↓x_call_p, ↓x_call_t, ↓x_mk_v, ↓x_mk_p, ↓x_mk_t, ↓x_bi_v, ↓x_bi_p, ↓x_bi_t, ↓x_isi_v, ↓x_isi_p, ↓x_isi_t, ↓x_lend_p, ↓x_im_v, ↓x_im_p, ↓x_im_t, ↓x_lm_v, ↓x_lm_p, ↓x_lm_t, ↓x_xf_v, ↓x_xf_p, ↓x_xf_t, ↓blK_bl, ↓x_eqI_v, ↓x_eqI_p, ↓x_eqI_t, ↓x_lenSet_v, ↓x_lenSet_p, ↓x_lenSet_t, ↓x_rng1_v, ↓x_rng1_p, ↓x_rng1_t, ↓x_rng2_v, ↓x_rng2_p, ↓x_rng2_t, ↓x_lc_v, ↓x_lc_p, ↓x_lc_t, ↓x_not_v, ↓x_not_t, ↓x_not_p, ↓x_and_v, ↓x_and_t, ↓x_and_p, ↓x_or_v, ↓x_or_t, ↓x_or_p, ↓x_ite_v, ↓x_ite_t, ↓x_ite_p, ↓x_vnil, ↓x_vcons, ↓x_pnil, ↓x_pcons, ↓gets_nil, ↓gets_cons, ↓x_inil, ↓x_icons, ↓x_ono, ↓x_oso, ↓walk_dat, ↓walkS_val, ↓walkS_own, ↓walk_sl, ↓x_seq, ↓x_r1, ↓x_r2, ↓seq_dat, ↓seqS_val, ↓seqS_own, ↓seq_sl, ↓x_enum, ↓x_zip, ↓fl_next, ↓fl_brk, ↓fl_cont, ↓fl_ret, ↓x_nil, ↓x_cons, ↓x_asg, ↓asg_val, ↓asg_own_val, ↓asg_own_own, ↓asg_own_cell, ↓tg_name, ↓tg_tup, ↓puts_nil, ↓puts_cons, ↓x_asgT, ↓x_setIx, ↓x_setF, ↓x_ex, ↓x_ret, ↓x_retN, ↓x_if, ↓x_for, ↓x_whl, ↓x_brk, ↓x_cont, ↓x_pass, ↓x_raise, ↓x_try, ↓x_hnil, ↓x_hconsN, ↓x_hconsS, ↓fret_next, ↓fret_ret, ↓ent_nil, ↓ent_cons, ↓nos0, ↓nosS, hp_mk, sl_mk, d_val, d_own, ↓negK_int, ↓intK_int, ↓lstK_lst, ↓insK_ins, ↓excK_exc, ↓bigK_nil, ↓bigK_1, ↓bigK_2, ↓bigK_3, ↓bigK_4, ↓bigK_5, ↓fnK0, ↓fnK1, ↓fnK12, ↓fnK2, ↓mkK_some, ↓xcK_1, ↓xcK_2, ↓xcK_3, ↓xcK_4, ↓xcK_5, ↓xkK_t, ↓xkK_f, ↓clK_nil, ↓clK_val, ↓clK_own, ↓clK_no, ↓smK_t, ↓r_int, ↓r_bl, ↓r_non, ↓r_str, ↓r_bin, ↓r_neg, ↓r_not, ↓r_cmp, ↓r_chain, ↓r_and, ↓r_or, ↓r_ite, ↓r_tup, ↓r_lst, ↓r_ix, ↓r_slc, ↓r_rev, ↓r_fld, ↓r_call, ↓r_mk, ↓r_bi, ↓r_isi, ↓r_im, ↓r_lm, ↓r_lc, ↓r_eqI, ↓r_lenSet, ↓r_xf, b_add, b_sub, c_lt, c_le, c_gt, c_ge, c_eq, c_ne, c_isN_non, c_isN_int, c_isN_str, c_isN_tup, c_isN_lst, c_notN_non, c_notN_int, c_notN_str, c_notN_tup, c_notN_lst, tr_bl, tr_non, tr_int, tr_tup, tr_lst, u_lenL, u_lenT, u_lenE, u_abs, u_int, u_tupL, u_tupT, u_lstL, u_lstT, u_max2, u_min2, q_lst, q_tup, q_ext, w_lst, w_tup, w_ext, s_lst, s_tup, cut_take, cut_drop, ix_lst, ix_tup, ix_lst0, ix_tup0, ix_lst1, ix_tup1, ix_tup2, ix_lst2, ix_lst3, ↓lm_append, ↓set_ix, ↓ixK_own, ↓ixK_cell, ↓flK_next, ↓flK_cont, ↓flK_brk, ↓flK_ret, range0, Int.toNat_natCast, ixN_0, ixN_1, ixN_2, ixN_3, apK_own, and_self, setF_end, x_fn, bigK_m, b_mod, b_div, b_mul, b_pow, smK_nat, in_lst, in_tup, nin_lst, nin_tup, putF, List.lookup, List.length_cons, List.length_nil, Nat.reduceAdd, decide_true, decide_false, Bool.not_true, Bool.not_false, if_true, Nat.reduceLT, Nat.reduceLeDiff, Nat.reduceEqDiff, Nat.reduceBEq, beq_self_eq_true, Int.reduceLT, Int.reduceLE, Int.reduceEq, Int.reduceAdd, Int.reduceSub, Int.reduceNeg, Int.reduceToNat, Bool.false_eq_true, List.set_cons_succ, List.set_cons_zero, List.getElem?_cons_succ, List.getElem?_cons_zero, Int.cast_ofNat_Int, eq_self, if_false, List.cons_append, List.nil_append, Option.isNone_none])
/-! ### a world made, its fields -/
theorem tts_bels {n : Nat} {l : List (List Nat)} : D.bels n (tts l) = true := bels_map fun x _ => by
  show D.bel n (.tup (ns x)) = true
  unfold D.bel
  exact bels_ns
theorem rowsD_bels {n : Nat} {l : List Row} : D.bels n (rowsD l) = true := bels_map fun x _ => by
  unfold rowD D.bel D.bels D.bels D.bels D.bels
  show (D.bel n (.tup (ns x.1)) && (D.bel n (.int _) && (D.bel n (.tup (ns x.2.2)) && true))) = true
  unfold D.bel
  rw [bels_ns, bels_ns]
  rfl
theorem worldF_bel {n : Nat} {rows : List Row} : D.belf n (worldF rows) = true := by
  have b : ∀ l : List (List Nat), D.bel n (.tup (tts l)) = true := fun l => by unfold D.bel; exact tts_bels
  have b1 : D.bel n (.tup (rowsD rows)) = true := by unfold D.bel; exact rowsD_bels
  have b2 : D.bel n (.tup (ns (ownsR rows))) = true := by unfold D.bel; exact bels_ns
  unfold worldF
  simp only [D.belf, b, b1, b2, Bool.and_self]
/-- a heap whose cells name only cells -/
def HpOk (h : List Cell) : Prop := h.all (Cell.below h.length) = true
theorem World_ok {ds : List D} {rows : List Row} {h : List Cell} (H : HpOk h) (e : Ens ds rows) (ok : RowsOk rows) (h1 : 1 ≤ rows.length) (h12 : rows.length ≤ 12) : k_World [.lst ds] h = .ok (.val (worldD (rows.map norm))) h :=
  make_eq (World_init_ok h e ok h1 h12) worldF_bel H
section
variable {fa : Nat → Nat → Bool} {rows : List Row} {k : D → Prop} {h : List Cell}
theorem see_world : seeK h (worldD rows) k = k (worldD rows) := rfl
theorem fldW_2 (q : fa 2 2 = true) : fldK fa (worldD rows) 2 k = k (.tup (rowsD rows)) := by unfold worldD; rw [fldK_ins, q]; rfl
theorem fldW_3 (q : fa 2 3 = true) : fldK fa (worldD rows) 3 k = k (.tup (tts (basesR rows))) := by unfold worldD; rw [fldK_ins, q]; rfl
theorem fldW_4 (q : fa 2 4 = true) : fldK fa (worldD rows) 4 k = k (.tup (ns (ownsR rows))) := by unfold worldD; rw [fldK_ins, q]; rfl
theorem fldW_5 (q : fa 2 5 = true) : fldK fa (worldD rows) 5 k = k (.tup (tts (methsR rows))) := by unfold worldD; rw [fldK_ins, q]; rfl
theorem fldW_6 (q : fa 2 6 = true) : fldK fa (worldD rows) 6 k = k (.tup (tts (elders (basesR rows)))) := by unfold worldD; rw [fldK_ins, q]; rfl
theorem fldW_7 (q : fa 2 7 = true) : fldK fa (worldD rows) 7 k = k (.tup (tts (heirs (elders (basesR rows))))) := by unfold worldD; rw [fldK_ins, q]; rfl
end
theorem rowsD_len {rows : List Row} : (rowsD rows).length = rows.length := by unfold rowsD; simp
theorem basesR_len {rows : List Row} : (basesR rows).length = rows.length := by unfold basesR; simp
theorem methsR_len {rows : List Row} : (methsR rows).length = rows.length := by unfold methsR; simp
theorem RowsOk.bel {rows : List Row} (ok : RowsOk rows) : Bel (basesR rows) := fun i b hb => by
  unfold basesR at hb
  rw [List.getElem?_map] at hb
  cases q : rows[i]? with
  | none => rw [q] at hb; cases hb
  | some r => rw [q] at hb; cases hb; exact (ok i r q).2.1
theorem RowsOk.norm {rows : List Row} (ok : RowsOk rows) : RowsOk (rows.map norm) := fun i r hr => by
  rw [List.getElem?_map] at hr
  cases q : rows[i]? with
  | none => rw [q] at hr; cases hr
  | some r0 =>
    rw [q] at hr
    cases hr
    obtain ⟨o1, o2, o3, o4, o5, o6⟩ := ok i r0 q
    refine ⟨o1, o2, o3, sortM_nodup o4, fun x hx => o5 x (sortM_mem.mp hx), ?_⟩
    show (sortM r0.2.2).length ≤ 3
    rw [sortM_len]
    exact o6
/-- the elders of a class -/
def el (rows : List Row) (c : Nat) : List Nat := (elders (basesR rows)).getD c []
def me (rows : List Row) (c : Nat) : List Nat := (methsR rows).getD c []
theorem tts_at {l : List (List Nat)} {c : Nat} (h : c < l.length) : (tts l)[c]? = some (.tup (ns (l.getD c []))) := by
  rw [tts_get, List.getD_eq_getElem?_getD, List.getElem?_eq_getElem h]; rfl
theorem el_get {rows : List Row} {c : Nat} (h : c < rows.length) : (tts (elders (basesR rows)))[c]? = some (.tup (ns (el rows c))) := tts_at (by rw [elders_len, basesR_len]; exact h)
theorem me_get {rows : List Row} {c : Nat} (h : c < rows.length) : (tts (methsR rows))[c]? = some (.tup (ns (me rows c))) := tts_at (by rw [methsR_len]; exact h)
theorem el_ok {rows : List Row} (ok : RowsOk rows) (c : Nat) : Asc (el rows c) ∧ ∀ x ∈ el rows c, x < c := by
  unfold el
  rw [List.getD_eq_getElem?_getD]
  cases q : (elders (basesR rows))[c]? with
  | none => exact ⟨List.Pairwise.nil, fun x hx => by cases hx⟩
  | some l => exact elders_ok ok.bel c l q
theorem el_len {rows : List Row} (ok : RowsOk rows) (c : Nat) : (el rows c).length ≤ c := asc_len0 (el_ok ok c).1 (el_ok ok c).2
end LawP
set_option Elab.async false
set_option linter.all false
set_option maxRecDepth 100000
set_option maxHeartbeats 0
namespace LawP
open PySem MP
local macro_rules
  | `(tactic| simpa! only [$ls,*]) => `(tactic| simp -implicitDefEqProofs only [$ls,*, ↓wp_ok, ↓wp_bad, ↓wp_exc, ↓wp_opt, ↓ow_bind, ↓ow_map, ↓ow_some, ↓ow_none, ↓fow_ok, ↓fow_exc, ↓bK_t, ↓bK_f, ↓bK_not, ↓lk0, ↓lkS, ↓stK0, ↓stKS, ↓see_int, ↓see_bl, ↓see_str, ↓see_non, ↓see_tup, ↓see_lst, ↓see_ext, ↓see_rng, ↓see_ins, ↓see_cell, ↓cellD_lst, ↓cellD_ins, ↓hpK_0, ↓hpK_end, ↓get_dat, ↓get_sl, ↓slotP_val, ↓slotP_own, ↓varK_val, ↓varK_own, ↓varRK_val, ↓varRK_own, ↓varPK_val, ↓varPK_own, ↓x_var_v, ↓x_var_p, ↓x_var_t, ↓x_ret_var, ↓x_int_v, ↓x_int_p, ↓x_int_t, ↓x_bl_v, ↓x_bl_p, ↓x_bl_t, ↓x_non_v, ↓x_non_p, ↓x_non_t, ↓x_str_v, ↓x_str_p, ↓x_str_t, ↓x_bin_v, ↓x_bin_p, ↓x_bin_t, ↓x_neg_v, ↓x_neg_p, ↓x_neg_t, ↓x_cmp_v, ↓x_cmp_p, ↓x_cmp_t, ↓x_chain_v, ↓x_chain_p, ↓x_chain_t, ↓x_tup_v, ↓x_tup_p, ↓x_tup_t, ↓x_lst_v, ↓x_lst_p, ↓x_lst_t, ↓x_ix_v, ↓x_ix_p, ↓x_ix_t, ↓x_slc_v, ↓x_slc_p, ↓x_slc_t, ↓x_rev_v, ↓x_rev_p, ↓x_rev_t, ↓fldK_ins, ↓x_fld_v, ↓x_fld_p, ↓x_fld_t, ↓x_call_v, ↓x_call_p, ↓x_call_t, ↓x_mk_v, ↓x_mk_p, ↓x_mk_t, ↓x_bi_v, ↓x_bi_p, ↓x_bi_t, ↓x_isi_v, ↓x_isi_p, ↓x_isi_t, ↓x_lend_p, ↓x_im_v, ↓x_im_p, ↓x_im_t, ↓x_lm_v, ↓x_lm_p, ↓x_lm_t, ↓x_xf_v, ↓x_xf_p, ↓x_xf_t, ↓blK_bl, ↓x_eqI_v, ↓x_eqI_p, ↓x_eqI_t, ↓x_lenSet_v, ↓x_lenSet_p, ↓x_lenSet_t, ↓x_rng1_v, ↓x_rng1_p, ↓x_rng1_t, ↓x_rng2_v, ↓x_rng2_p, ↓x_rng2_t, ↓x_lc_v, ↓x_lc_p, ↓x_lc_t, ↓x_not_v, ↓x_not_t, ↓x_not_p, ↓x_and_v, ↓x_and_t, ↓x_and_p, ↓x_or_v, ↓x_or_t, ↓x_or_p, ↓x_ite_v, ↓x_ite_t, ↓x_ite_p, ↓x_vnil, ↓x_vcons, ↓x_pnil, ↓x_pcons, ↓gets_nil, ↓gets_cons, ↓x_inil, ↓x_icons, ↓x_ono, ↓x_oso, ↓walk_dat, ↓walkS_val, ↓walkS_own, ↓walk_sl, ↓x_seq, ↓x_r1, ↓x_r2, ↓seq_dat, ↓seqS_val, ↓seqS_own, ↓seq_sl, ↓x_enum, ↓x_zip, ↓fl_next, ↓fl_brk, ↓fl_cont, ↓fl_ret, ↓x_nil, ↓x_cons, ↓x_asg, ↓asg_val, ↓asg_own_val, ↓asg_own_own, ↓asg_own_cell, ↓tg_name, ↓tg_tup, ↓puts_nil, ↓puts_cons, ↓x_asgT, ↓x_setIx, ↓x_setF, ↓x_ex, ↓x_ret, ↓x_retN, ↓x_if, ↓x_for, ↓x_whl, ↓x_brk, ↓x_cont, ↓x_pass, ↓x_raise, ↓x_try, ↓x_hnil, ↓x_hconsN, ↓x_hconsS, ↓fret_next, ↓fret_ret, ↓ent_nil, ↓ent_cons, ↓nos0, ↓nosS, hp_mk, sl_mk, d_val, d_own, ↓negK_int, ↓intK_int, ↓lstK_lst, ↓insK_ins, ↓excK_exc, ↓bigK_nil, ↓bigK_1, ↓bigK_2, ↓bigK_3, ↓bigK_4, ↓bigK_5, ↓fnK0, ↓fnK1, ↓fnK12, ↓fnK2, ↓mkK_some, ↓xcK_1, ↓xcK_2, ↓xcK_3, ↓xcK_4, ↓xcK_5, ↓xkK_t, ↓xkK_f, ↓clK_nil, ↓clK_val, ↓clK_own, ↓clK_no, ↓smK_t, ↓r_int, ↓r_bl, ↓r_non, ↓r_str, ↓r_bin, ↓r_neg, ↓r_not, ↓r_cmp, ↓r_chain, ↓r_and, ↓r_or, ↓r_ite, ↓r_tup, ↓r_lst, ↓r_ix, ↓r_slc, ↓r_rev, ↓r_fld, ↓r_call, ↓r_mk, ↓r_bi, ↓r_isi, ↓r_im, ↓r_lm, ↓r_lc, ↓r_eqI, ↓r_lenSet, ↓r_xf, b_add, b_sub, c_lt, c_le, c_gt, c_ge, c_eq, c_ne, c_isN_non, c_isN_int, c_isN_str, c_isN_tup, c_isN_lst, c_notN_non, c_notN_int, c_notN_str, c_notN_tup, c_notN_lst, tr_bl, tr_non, tr_int, tr_tup, tr_lst, u_lenL, u_lenT, u_lenE, u_abs, u_int, u_tupL, u_tupT, u_lstL, u_lstT, u_max2, u_min2, q_lst, q_tup, q_ext, w_lst, w_tup, w_ext, s_lst, s_tup, cut_take, cut_drop, ix_lst, ix_tup, ix_lst0, ix_tup0, ix_lst1, ix_tup1, ix_tup2, ix_lst2, ix_lst3, ↓lm_append, ↓set_ix, ↓ixK_own, ↓ixK_cell, ↓flK_next, ↓flK_cont, ↓flK_brk, ↓flK_ret, range0, Int.toNat_natCast, ixN_0, ixN_1, ixN_2, ixN_3, apK_own, and_self, setF_end, x_fn, bigK_m, b_mod, b_div, b_mul, b_pow, smK_nat, in_lst, in_tup, nin_lst, nin_tup, putF, List.lookup, List.length_cons, List.length_nil, Nat.reduceAdd, decide_true, decide_false, Bool.not_true, Bool.not_false, if_true, Nat.reduceLT, Nat.reduceLeDiff, Nat.reduceEqDiff, Nat.reduceBEq, beq_self_eq_true, Int.reduceLT, Int.reduceLE, Int.reduceEq, Int.reduceAdd, Int.reduceSub, Int.reduceNeg, Int.reduceToNat, Bool.false_eq_true, List.set_cons_succ, List.set_cons_zero, List.getElem?_cons_succ, List.getElem?_cons_zero, Int.cast_ofNat_Int, eq_self, if_false, List.cons_append, List.nil_append, Option.isNone_none])
/-! ### who defines a name -/
section
variable {rows : List Row} {h : List Cell}
theorem check_class_ok {c : Nat} (hc : c < rows.length) : f_check_class [worldD rows, .int c] h = .ok (.val (.int c)) h := by
  apply fow_eq
  have e := is_whole_in (i := c) (lo := 0) (hi := ((rowsD rows).length : Int) - 1) h (by omega) (by rw [rowsD_len]; omega)
  simpa! only [↓see_world, fldW_2, e, f_check_class, c_check_class, e_check_class_0, e_check_class_1, e_check_class_2]
theorem check_name_ok {n : Nat} (hn : n ≤ 5) : f_check_name [.int n] h = .ok (.val (.int n)) h := by
  apply fow_eq
  have e := is_whole_in (i := n) (lo := 0) (hi := 5) h (by omega) (by omega)
  simpa! only [e, f_check_name, c_check_name, e_check_name_0, e_check_name_1]
/-- the definers of a name among c and its elders -/
def defN (rows : List Row) (c n : Nat) : List Nat := (el rows c ++ [c]).filter fun one => decide (n ∈ me rows one)
/-- the tops of a lot -/
def topsN (rows : List Row) (lot : List Nat) : List Nat := (sortN lot).filter fun c => (lot.filter fun one => decide (c ∈ el rows one)).isEmpty
theorem defN_lt (ok : RowsOk rows) {c n : Nat} (hc : c < rows.length) : ∀ x ∈ defN rows c n, x < rows.length := fun x hx => by
  have := (List.mem_filter.mp hx).1
  rcases List.mem_append.mp this with z | z
  · have := (el_ok ok c).2 x z
    omega
  · simp at z; omega
theorem defN_len (ok : RowsOk rows) {c n : Nat} : (defN rows c n).length ≤ c + 1 := by
  have h1 := List.length_filter_le (fun one => decide (n ∈ me rows one)) (el rows c ++ [c])
  have h2 := el_len ok c
  rw [List.length_append] at h1
  unfold defN
  simp only [List.length_cons, List.length_nil] at h1
  omega
theorem defining_of_ok (ok : RowsOk rows) (h12 : rows.length ≤ 12) {c n : Nat} (hc : c < rows.length) (hn : n ≤ 5) : f_defining_of [worldD rows, .int c, .int n] h = .ok (.val (.tup (ns (defN rows c n)))) h := by
  apply fow_eq
  have e1 := check_class_ok (h := h) hc
  have e2 := check_name_ok (h := h) hn
  have g := el_get hc
  have hlen := el_len ok c
  have e3 := b_addT (xs := ns (el rows c)) (ys := [.int c]) (by rw [ns_len]; unfold big; simp only [List.length_cons, List.length_nil]; omega)
  simpa! only [↓see_world, fldW_6, e1, e2, g, e3, f_defining_of, c_defining_of, e_defining_of_0, e_defining_of_1, e_defining_of_2, e_defining_of_3]
  rw [show ns (el rows c) ++ [D.int c] = ns (el rows c ++ [c]) by rw [ns_app]; rfl]
  refine lc_fil (fun one => decide (n ∈ me rows one)) (.inl rfl) (by simp; unfold big; omega) ?_ ?_
  · intro x hx
    have hx2 : x < rows.length := by
      rcases List.mem_append.mp hx with z | z
      · have := (el_ok ok c).2 x z
        omega
      · simp at z; omega
    have g2 := me_get hx2
    simpa! only [↓see_world, fldW_5, g2, c_defining_of, e_defining_of_0, e_defining_of_1, e_defining_of_2, e_defining_of_3]
    exact bK_same rfl
  · simpa! only [c_defining_of, e_defining_of_0, e_defining_of_1, e_defining_of_2, e_defining_of_3]
    exact ⟨rfl, trivial⟩
theorem isEmpty_ns {l : List Nat} : (ns l).isEmpty = l.isEmpty := by cases l <;> rfl
theorem without_elders_ok (h12 : rows.length ≤ 12) {lot : List Nat} (hl : ∀ x ∈ lot, x < rows.length) (hlen : lot.length ≤ 100) : f_without_elders [worldD rows, .tup (ns lot)] h = .ok (.val (.tup (ns (topsN rows lot)))) h := by
  apply fow_eq
  have s1 : (sortN lot).length ≤ 12 := Nat.le_trans (asc_len0 (n := rows.length) (sortN_asc lot) fun x hx => hl x (sortN_mem.mp hx)) h12
  have u := u_ssetT (l := lot) (by omega) (by omega)
  simpa! only [u, f_without_elders, c_without_elders, e_without_elders_0]
  refine lc_fil (fun c => (lot.filter fun one => decide (c ∈ el rows one)).isEmpty) (.inl rfl) (by unfold big; omega) ?_ ?_
  · intro c hc
    simpa! only [c_without_elders, e_without_elders_0]
    refine lc_fil (fun one => decide (c ∈ el rows one)) (.inl rfl) (by unfold big; omega) ?_ ?_
    · intro x hx
      have g := el_get (hl x hx)
      simpa! only [↓see_world, fldW_6, g, c_without_elders, e_without_elders_0]
      exact bK_same rfl
    · simpa! only [isEmpty_ns, Bool.not_not, c_without_elders, e_without_elders_0]
      exact bK_same rfl
  · simpa! only [c_without_elders, e_without_elders_0]
    exact ⟨rfl, trivial⟩
def ansN (rows : List Row) (c n : Nat) : List Nat := topsN rows (defN rows c n)
theorem answers_of_ok (ok : RowsOk rows) (h12 : rows.length ≤ 12) {c n : Nat} (hc : c < rows.length) (hn : n ≤ 5) : f_answers_of [worldD rows, .int c, .int n] h = .ok (.val (.tup (ns (ansN rows c n)))) h := by
  apply fow_eq
  have e1 := defining_of_ok (h := h) ok h12 hc hn
  have e2 := without_elders_ok (h := h) h12 (defN_lt ok (n := n) hc) (by have := defN_len (rows := rows) ok (c := c) (n := n); omega)
  simpa! only [e1, e2, f_answers_of, c_answers_of, e_answers_of_0, e_answers_of_1]
  exact ⟨rfl, trivial⟩
theorem topsN_lt {lot : List Nat} (hl : ∀ x ∈ lot, x < rows.length) : ∀ x ∈ topsN rows lot, x < rows.length := fun x hx => hl x (sortN_mem.mp (List.mem_filter.mp hx).1)
theorem topsN_len (h12 : rows.length ≤ 12) {lot : List Nat} (hl : ∀ x ∈ lot, x < rows.length) : (topsN rows lot).length ≤ 12 := by
  have h1 := List.length_filter_le (fun c => (lot.filter fun one => decide (c ∈ el rows one)).isEmpty) (sortN lot)
  have h2 := asc_len0 (n := rows.length) (sortN_asc lot) fun x hx => hl x (sortN_mem.mp hx)
  unfold topsN
  omega
/-- the only answer, or why there is none -/
theorem definer_of_one (ok : RowsOk rows) (h12 : rows.length ≤ 12) {c n a : Nat} (hc : c < rows.length) (hn : n ≤ 5) (ha : ansN rows c n = [a]) : f_definer_of [worldD rows, .int c, .int n] h = .ok (.val (.int a)) h := by
  apply fow_eq
  have e1 := answers_of_ok (h := h) ok h12 hc hn
  rw [ha] at e1
  have q : ¬ (1 : Int) < ((1 : Nat) : Int) := by decide
  simpa! only [e1, ns_cons, ns_nil, List.isEmpty_cons, q, f_definer_of, c_definer_of, e_definer_of_0, e_definer_of_1, e_definer_of_2]
theorem definer_of_none (ok : RowsOk rows) (h12 : rows.length ≤ 12) {c n : Nat} (hc : c < rows.length) (hn : n ≤ 5) (ha : ansN rows c n = []) : f_definer_of [worldD rows, .int c, .int n] h = .exc ⟨55, [(9, .int c), (49, .int n)]⟩ h := by
  apply fow_exc_eq
  have e1 := answers_of_ok (h := h) ok h12 hc hn
  rw [ha] at e1
  simpa! only [e1, ns_nil, List.isEmpty_nil, f_definer_of, c_definer_of, e_definer_of_0, e_definer_of_1, e_definer_of_2]
theorem definer_of_two (ok : RowsOk rows) (h12 : rows.length ≤ 12) {c n a b : Nat} {l : List Nat} (hc : c < rows.length) (hn : n ≤ 5) (ha : ansN rows c n = a :: b :: l) : f_definer_of [worldD rows, .int c, .int n] h = .exc ⟨56, [(9, .int c), (49, .int n), (14, .int a), (15, .int b)]⟩ h := by
  apply fow_exc_eq
  have e1 := answers_of_ok (h := h) ok h12 hc hn
  rw [ha] at e1
  have q : (1 : Int) < (((ns l).length + 1 + 1 : Nat) : Int) := by omega
  simpa! only [e1, ns_cons, List.isEmpty_cons, q, f_definer_of, c_definer_of, e_definer_of_0, e_definer_of_1, e_definer_of_2]
/-! all couples with two answers -/
def dblAt (rows : List Row) (c : Nat) : List (Nat × Nat) := ((List.range 6).filter fun n => decide (1 < (ansN rows c n).length)).map fun n => (c, n)
def dblN (rows : List Row) (k : Nat) : List (Nat × Nat) := (List.range k).flatMap (dblAt rows)
def cpD (l : List (Nat × Nat)) : List D := l.map fun p => .tup [.int p.1, .int p.2]
theorem cp_app {l l2 : List (Nat × Nat)} : cpD (l ++ l2) = cpD l ++ cpD l2 := by unfold cpD; simp
theorem cp_len {l : List (Nat × Nat)} : (cpD l).length = l.length := by unfold cpD; simp
theorem dblAt_len (c : Nat) : (dblAt rows c).length ≤ 6 := by
  unfold dblAt
  rw [List.length_map]
  exact Nat.le_trans (List.length_filter_le _ _) (by simp)
theorem dblN_len (k : Nat) : (dblN rows k).length ≤ 6 * k := by
  induction k with
  | zero => simp [dblN]
  | succ k ih =>
    have := dblAt_len (rows := rows) k
    unfold dblN at ih ⊢
    rw [List.range_succ, List.flatMap_append, List.length_append]
    simp only [List.flatMap_cons, List.flatMap_nil, List.append_nil]
    omega
theorem pre_range {n : Nat} {pre suf : List Nat} {x : Nat} (h : List.range n = pre ++ x :: suf) : x < n ∧ pre = List.range x := by
  have g : (List.range n)[pre.length]? = some x := by rw [h]; simp
  have l : pre.length < n := by
    have := (List.getElem?_eq_some_iff.mp g).1
    simpa using this
  rw [List.getElem?_range l] at g
  cases g
  refine ⟨l, ?_⟩
  have := congrArg (List.take pre.length) h
  rw [List.take_left, List.take_range, Nat.min_eq_left (Nat.le_of_lt l)] at this
  exact this.symm
theorem two_answers_ok (ok : RowsOk rows) (h12 : rows.length ≤ 12) : f_two_answers [worldD rows] h = .ok (.val (.tup (cpD (dblN rows rows.length)))) h := by
  apply fow_eq
  have n6 : rows.length < 1000000 := by omega
  have sm : small 6 = true := by decide
  simpa! only [↓see_world, fldW_2, rowsD_len, n6, f_two_answers, c_two_answers, e_two_answers_0, e_two_answers_1]
  refine wp_forN (fun pre s => ∃ x y, s = ⟨[.val (worldD rows), .own (cpD (dblN rows pre.length)), x, y], h⟩) ⟨_, _, rfl⟩ ?_ ?_
  · rintro _ ⟨x, y, rfl⟩
    rw [List.length_range]
    simpa! only [c_two_answers, e_two_answers_0, e_two_answers_1]
  · rintro pre c suf _ el ⟨x, y, rfl⟩
    obtain ⟨hc, rfl⟩ := pre_range el
    rw [List.length_append, List.length_range]
    simpa! only [sm, c_two_answers, e_two_answers_0, e_two_answers_1, c_two_answers_2]
    refine wp_forN (fun pre s => ∃ y, s = ⟨[.val (worldD rows), .own (cpD (dblN rows c ++ (pre.filter fun n => decide (1 < (ansN rows c n).length)).map fun n => (c, n))), .val (.int c), y], h⟩) ⟨y, by simp⟩ ?_ ?_
    · rintro _ ⟨y, rfl⟩
      simpa! only [c_two_answers, e_two_answers_0, e_two_answers_1]
      have e : dblN rows c ++ ((List.range 6).filter fun n => decide (1 < (ansN rows c n).length)).map (fun n => (c, n)) = dblN rows (c + 1) := by
        unfold dblN
        rw [show List.range (c + 1) = List.range c ++ [c] from List.range_succ, List.flatMap_append]
        simp [dblAt]
      rw [e]
      exact ⟨_, _, rfl⟩
    · rintro pre n suf _ el ⟨y, rfl⟩
      obtain ⟨hn, rfl⟩ := pre_range el
      have e1 := answers_of_ok (h := h) ok h12 hc (show n ≤ 5 by omega)
      have hb : (cpD (dblN rows c ++ ((List.range n).filter fun n => decide (1 < (ansN rows c n).length)).map fun n => (c, n))).length < big := by
        have h1 := dblN_len (rows := rows) c
        have h2 := List.length_filter_le (fun n => decide (1 < (ansN rows c n).length)) (List.range n)
        rw [List.length_range] at h2
        rw [cp_len, List.length_append, List.length_map]
        unfold big
        omega
      by_cases q : 1 < (ansN rows c n).length
      · have q2 : (1 : Int) < ((ns (ansN rows c n)).length : Int) := by rw [ns_len]; omega
        simpa! only [e1, q2, hb, c_two_answers, e_two_answers_0, e_two_answers_1, c_two_answers_1]
        have e : cpD (dblN rows c ++ ((List.range n ++ [n]).filter fun n => decide (1 < (ansN rows c n).length)).map fun n => (c, n)) = cpD (dblN rows c ++ ((List.range n).filter fun n => decide (1 < (ansN rows c n).length)).map fun n => (c, n)) ++ [.tup [.int c, .int n]] := by
          rw [List.filter_append, List.map_append, ← List.append_assoc, cp_app]
          simp [q, cpD]
        rw [e]
        exact ⟨_, rfl⟩
      · have q2 : ¬ (1 : Int) < ((ns (ansN rows c n)).length : Int) := by rw [ns_len]; omega
        simpa! only [e1, q2, c_two_answers, e_two_answers_0, e_two_answers_1, c_two_answers_1]
        have e : ((List.range n ++ [n]).filter fun n => decide (1 < (ansN rows c n).length)) = (List.range n).filter fun n => decide (1 < (ansN rows c n).length) := by
          rw [List.filter_append]
          simp [q]
        rw [e]
        exact ⟨_, rfl⟩
/-! the first two definers off line -/
def lotN (rows : List Row) (n : Nat) : List Nat := (List.range rows.length).filter fun c => decide (n ∈ me rows c)
def offB (rows : List Row) (a : Nat) (l : List Nat) : Option (Nat × Nat) := (l.find? fun b => decide (a ∉ el rows b)).map fun b => (a, b)
def offN (rows : List Row) : List Nat → Option (Nat × Nat)
  | [] => none
  | a :: l => match offB rows a l with
    | some p => some p
    | none => offN rows l
theorem offN_none {a : Nat} {l : List Nat} (h : offB rows a l = none) : offN rows (a :: l) = offN rows l := by
  show (match offB rows a l with
    | some p => some p
    | none => offN rows l) = _
  rw [h]
theorem offN_some {a : Nat} {l : List Nat} {p : Nat × Nat} (h : offB rows a l = some p) : offN rows (a :: l) = some p := by
  show (match offB rows a l with
    | some p => some p
    | none => offN rows l) = _
  rw [h]
def offD : Option (Nat × Nat) → D
  | none => .non
  | some p => .tup [.int p.1, .int p.2]
theorem off_line_ok (ok : RowsOk rows) (h12 : rows.length ≤ 12) {n : Nat} (hn : n ≤ 5) : f_off_line [worldD rows, .int n] h = .ok (.val (offD (offN rows (lotN rows n)))) h := by
  apply fow_eq
  have e1 := check_name_ok (h := h) hn
  have n6 : rows.length < 1000000 := by omega
  simpa! only [↓see_world, fldW_2, e1, rowsD_len, n6, f_off_line, c_off_line, e_off_line_0, e_off_line_1, e_off_line_2, e_off_line_3]
  refine lc_fil (fun c => decide (n ∈ me rows c)) (.inl rfl) (by simp; unfold big; omega) ?_ ?_
  · intro c hc
    have g := me_get (List.mem_range.mp hc)
    simpa! only [↓see_world, fldW_5, g, c_off_line, e_off_line_0, e_off_line_1, e_off_line_2, e_off_line_3]
    exact bK_same rfl
  · simpa! only [c_off_line, e_off_line_0, e_off_line_1, e_off_line_2, e_off_line_3]
    rw [show ((List.range rows.length).filter fun c => decide (n ∈ me rows c)) = lotN rows n from rfl]
    have hlot : ∀ x ∈ lotN rows n, x < rows.length := fun x hx => List.mem_range.mp (List.mem_filter.mp hx).1
    have hlen : (lotN rows n).length ≤ 12 := Nat.le_trans (List.length_filter_le _ _) (by simpa using h12)
    refine wp_forE (fun i s => offN rows (lotN rows n) = offN rows ((lotN rows n).drop i) ∧ ∃ x y z w, s = ⟨[.val (worldD rows), .val (.int n), .val (.lst (ns (lotN rows n))), x, y, z, w], h⟩) ⟨rfl, _, _, _, _, rfl⟩ ?_ ?_
    · rintro _ ⟨q, x, y, z, w, rfl⟩
      simpa! only [c_off_line, e_off_line_0, e_off_line_1, e_off_line_2, e_off_line_3]
      rw [ns_len, List.drop_length] at q
      rw [q]
      exact ⟨rfl, trivial⟩
    · rintro i d _ hd ⟨q, x, y, z, w, rfl⟩
      rw [ns_get] at hd
      cases ha : (lotN rows n)[i]? with
      | none => rw [ha] at hd; cases hd
      | some a =>
        rw [ha] at hd
        cases hd
        have hi := (List.getElem?_eq_some_iff.mp ha).1
        have dr : (lotN rows n).drop i = a :: (lotN rows n).drop (i + 1) := by
          rw [List.drop_eq_getElem_cons hi]
          rw [List.getElem?_eq_getElem hi] at ha
          cases ha
          rfl
        have c1 : (i : Int) + 1 = ((i + 1 : Nat) : Int) := by omega
        have c2 : (ns (lotN rows n)).drop (i + 1) = ns ((lotN rows n).drop (i + 1)) := by unfold ns; rw [List.map_drop]
        simpa! only [c1, c2, c_off_line, e_off_line_0, e_off_line_1, e_off_line_2, e_off_line_3, c_off_line_2]
        refine wp_forN (fun pre s => (∀ b ∈ pre, a ∈ el rows b) ∧ ∃ z, s = ⟨[.val (worldD rows), .val (.int n), .val (.lst (ns (lotN rows n))), .val (.int i), .val (.int a), z, w], h⟩) ⟨by simp, _, rfl⟩ ?_ ?_
        · rintro _ ⟨p, z, rfl⟩
          simpa! only [c_off_line, e_off_line_0, e_off_line_1, e_off_line_2, e_off_line_3]
          refine ⟨?_, _, _, _, _, rfl⟩
          rw [q, dr]
          have : offB rows a ((lotN rows n).drop (i + 1)) = none := by
            unfold offB
            rw [List.find?_eq_none.mpr]
            · rfl
            · intro b hb; simp [p b hb]
          exact offN_none this
        · rintro pre b suf _ el2 ⟨p, z, rfl⟩
          have hb : b < rows.length := hlot b (List.mem_of_mem_drop (i := i + 1) (by rw [el2]; simp))
          have g := el_get hb
          by_cases m : a ∈ el rows b
          · simpa! only [↓see_world, fldW_6, g, m, c_off_line, e_off_line_0, e_off_line_1, e_off_line_2, e_off_line_3, c_off_line_1]
            exact ⟨fun c hc => by
              rcases List.mem_append.mp hc with hc | hc
              · exact p c hc
              · simp at hc; rw [hc]; exact m, _, rfl⟩
          · simpa! only [↓see_world, fldW_6, g, m, c_off_line, e_off_line_0, e_off_line_1, e_off_line_2, e_off_line_3, c_off_line_1]
            refine ⟨?_, trivial⟩
            rw [q, dr]
            have : offB rows a ((lotN rows n).drop (i + 1)) = some (a, b) := by
              unfold offB
              rw [el2, List.find?_append, List.find?_eq_none.mpr fun c hc => by simp [p c hc]]
              simp [m]
            rw [offN_some this]
            rfl
end
end LawP
set_option Elab.async false
set_option linter.all false
set_option maxRecDepth 100000
set_option maxHeartbeats 0
namespace LawP
open PySem MP
local macro_rules
  | `(tactic| simpa! only [$ls,*]) => `(tactic| simp -implicitDefEqProofs only [$ls,*, ↓wp_ok, ↓wp_bad, ↓wp_exc, ↓wp_opt, ↓ow_bind, ↓ow_map, ↓ow_some, ↓ow_none, ↓fow_ok, ↓fow_exc, ↓bK_t, ↓bK_f, ↓bK_not, ↓lk0, ↓lkS, ↓stK0, ↓stKS, ↓see_int, ↓see_bl, ↓see_str, ↓see_non, ↓see_tup, ↓see_lst, ↓see_ext, ↓see_rng, ↓see_ins, ↓see_cell, ↓cellD_lst, ↓cellD_ins, ↓hpK_0, ↓hpK_end, ↓get_dat, ↓get_sl, ↓slotP_val, ↓slotP_own, ↓varK_val, ↓varK_own, ↓varRK_val, ↓varRK_own, ↓varPK_val, ↓varPK_own, ↓x_var_v, ↓x_var_p, ↓x_var_t, ↓x_ret_var, ↓x_int_v, ↓x_int_p, ↓x_int_t, ↓x_bl_v, ↓x_bl_p, ↓x_bl_t, ↓x_non_v, ↓x_non_p, ↓x_non_t, ↓x_str_v, ↓x_str_p, ↓x_str_t, ↓x_bin_v, ↓x_bin_p, ↓x_bin_t, ↓x_neg_v, ↓x_neg_p, ↓x_neg_t, ↓x_cmp_v, ↓x_cmp_p, ↓x_cmp_t, ↓x_chain_v, ↓x_chain_p, ↓x_chain_t, ↓x_tup_v, ↓x_tup_p, ↓x_tup_t, ↓x_lst_v, ↓x_lst_p, ↓x_lst_t, ↓x_ix_v, ↓x_ix_p, ↓x_ix_t, ↓x_slc_v, ↓x_slc_p, ↓x_slc_t, ↓x_rev_v, ↓x_rev_p, ↓x_rev_t, ↓fldK_ins, ↓x_fld_v, ↓x_fld_p, ↓x_fld_t, ↓x_call_v, ↓x_call_p, ↓x_call_t, ↓x_mk_v, ↓x_mk_p, ↓x_mk_t, ↓x_bi_v, ↓x_bi_p, ↓x_bi_t, ↓x_isi_v, ↓x_isi_p, ↓x_isi_t, ↓x_lend_p, ↓x_im_v, ↓x_im_p, ↓x_im_t, ↓x_lm_v, ↓x_lm_p, ↓x_lm_t, ↓x_xf_v, ↓x_xf_p, ↓x_xf_t, ↓blK_bl, ↓x_eqI_v, ↓x_eqI_p, ↓x_eqI_t, ↓x_lenSet_v, ↓x_lenSet_p, ↓x_lenSet_t, ↓x_rng1_v, ↓x_rng1_p, ↓x_rng1_t, ↓x_rng2_v, ↓x_rng2_p, ↓x_rng2_t, ↓x_lc_v, ↓x_lc_p, ↓x_lc_t, ↓x_not_v, ↓x_not_t, ↓x_not_p, ↓x_and_v, ↓x_and_t, ↓x_and_p, ↓x_or_v, ↓x_or_t, ↓x_or_p, ↓x_ite_v, ↓x_ite_t, ↓x_ite_p, ↓x_vnil, ↓x_vcons, ↓x_pnil, ↓x_pcons, ↓gets_nil, ↓gets_cons, ↓x_inil, ↓x_icons, ↓x_ono, ↓x_oso, ↓walk_dat, ↓walkS_val, ↓walkS_own, ↓walk_sl, ↓x_seq, ↓x_r1, ↓x_r2, ↓seq_dat, ↓seqS_val, ↓seqS_own, ↓seq_sl, ↓x_enum, ↓x_zip, ↓fl_next, ↓fl_brk, ↓fl_cont, ↓fl_ret, ↓x_nil, ↓x_cons, ↓x_asg, ↓asg_val, ↓asg_own_val, ↓asg_own_own, ↓asg_own_cell, ↓tg_name, ↓tg_tup, ↓puts_nil, ↓puts_cons, ↓x_asgT, ↓x_setIx, ↓x_setF, ↓x_ex, ↓x_ret, ↓x_retN, ↓x_if, ↓x_for, ↓x_whl, ↓x_brk, ↓x_cont, ↓x_pass, ↓x_raise, ↓x_try, ↓x_hnil, ↓x_hconsN, ↓x_hconsS, ↓fret_next, ↓fret_ret, ↓ent_nil, ↓ent_cons, ↓nos0, ↓nosS, hp_mk, sl_mk, d_val, d_own, ↓negK_int, ↓intK_int, ↓lstK_lst, ↓insK_ins, ↓excK_exc, ↓bigK_nil, ↓bigK_1, ↓bigK_2, ↓bigK_3, ↓bigK_4, ↓bigK_5, ↓fnK0, ↓fnK1, ↓fnK12, ↓fnK2, ↓mkK_some, ↓xcK_1, ↓xcK_2, ↓xcK_3, ↓xcK_4, ↓xcK_5, ↓xkK_t, ↓xkK_f, ↓clK_nil, ↓clK_val, ↓clK_own, ↓clK_no, ↓smK_t, ↓r_int, ↓r_bl, ↓r_non, ↓r_str, ↓r_bin, ↓r_neg, ↓r_not, ↓r_cmp, ↓r_chain, ↓r_and, ↓r_or, ↓r_ite, ↓r_tup, ↓r_lst, ↓r_ix, ↓r_slc, ↓r_rev, ↓r_fld, ↓r_call, ↓r_mk, ↓r_bi, ↓r_isi, ↓r_im, ↓r_lm, ↓r_lc, ↓r_eqI, ↓r_lenSet, ↓r_xf, b_add, b_sub, c_lt, c_le, c_gt, c_ge, c_eq, c_ne, c_isN_non, c_isN_int, c_isN_str, c_isN_tup, c_isN_lst, c_notN_non, c_notN_int, c_notN_str, c_notN_tup, c_notN_lst, tr_bl, tr_non, tr_int, tr_tup, tr_lst, u_lenL, u_lenT, u_lenE, u_abs, u_int, u_tupL, u_tupT, u_lstL, u_lstT, u_max2, u_min2, q_lst, q_tup, q_ext, w_lst, w_tup, w_ext, s_lst, s_tup, cut_take, cut_drop, ix_lst, ix_tup, ix_lst0, ix_tup0, ix_lst1, ix_tup1, ix_tup2, ix_lst2, ix_lst3, ↓lm_append, ↓set_ix, ↓ixK_own, ↓ixK_cell, ↓flK_next, ↓flK_cont, ↓flK_brk, ↓flK_ret, range0, Int.toNat_natCast, ixN_0, ixN_1, ixN_2, ixN_3, apK_own, and_self, setF_end, x_fn, bigK_m, b_mod, b_div, b_mul, b_pow, smK_nat, in_lst, in_tup, nin_lst, nin_tup, putF, List.lookup, List.length_cons, List.length_nil, Nat.reduceAdd, decide_true, decide_false, Bool.not_true, Bool.not_false, if_true, Nat.reduceLT, Nat.reduceLeDiff, Nat.reduceEqDiff, Nat.reduceBEq, beq_self_eq_true, Int.reduceLT, Int.reduceLE, Int.reduceEq, Int.reduceAdd, Int.reduceSub, Int.reduceNeg, Int.reduceToNat, Bool.false_eq_true, List.set_cons_succ, List.set_cons_zero, List.getElem?_cons_succ, List.getElem?_cons_zero, Int.cast_ofNat_Int, eq_self, if_false, List.cons_append, List.nil_append, Option.isNone_none])
/-! ### the hand -/
def once (a b : Int) : Int := (a * 48271 + b * 7919 + 30011) % 2147483399
def twice (a b : Int) : Int := (once a b * once a b + b * 92821 + once a b / 131) % 2147483629
def mixed (a b : Int) : Int := (twice a b * 69621 + once a b / 13) % 2147483587 / 32
theorem mixed_ok (a b : Int) (h : List Cell) : f__law_mixed_559e [.int a, .int b] h = .ok (.val (.int (mixed a b))) h := by
  apply fow_eq
  have p1 : (0 : Int) < 2147483399 := by decide
  have p2 : (0 : Int) < 2147483629 := by decide
  have p3 : (0 : Int) < 2147483587 := by decide
  have q1 : (0 : Int) < 131 ∧ (131 : Int) < 2 ^ 30 := by decide
  have q2 : (0 : Int) < 13 ∧ (13 : Int) < 2 ^ 30 := by decide
  have q3 : (0 : Int) < 32 ∧ (32 : Int) < 2 ^ 30 := by decide
  have m : ∀ i j : Int, j.natAbs < 2 ^ 64 → binSem .mul (.int i) (.int j) = some (.val (.int (i * j))) := fun i j h => b_mul (.inr h)
  have m1 := fun i => m i 48271 (by decide)
  have m2 := fun i => m i 7919 (by decide)
  have m3 := fun i => m i 92821 (by decide)
  have m4 := fun i => m i 69621 (by decide)
  have m5 : binSem .mul (.int (once a b)) (.int (once a b)) = some (.val (.int (once a b * once a b))) := m _ _ (by unfold once; omega)
  have o : (a * 48271 + b * 7919 + 30011) % 2147483399 = once a b := rfl
  have t : (once a b * once a b + b * 92821 + once a b / 131) % 2147483629 = twice a b := rfl
  simpa! only [m1, m2, m3, m4, m5, b_mod p1, b_mod p2, b_mod p3, b_div q1, b_div q2, b_div q3, o, t, f__law_mixed_559e, c__law_mixed_559e]
  exact ⟨rfl, trivial⟩
theorem mixed_nonneg (a b : Int) : 0 ≤ mixed a b := by unfold mixed; omega
def hand (cs : List Int) (p r t : Int) (w : List Cell) : List Cell := .lst [.lst (cs.map .int), .int p, .int r, .int t] :: w
/-- a hand as the draws leave it, the cells w behind it -/
def HandOn (w h : List Cell) : Prop := ∃ cs p r t, h = hand cs p r t w ∧ (∀ c ∈ cs, 0 ≤ c) ∧ 0 ≤ p ∧ 0 ≤ r
abbrev HandOk : List Cell → Prop := HandOn []
theorem ix_ints {l : List Int} {i x : Int} (h0 : 0 ≤ i) (h : l[i.toNat]? = some x) : ixSem (.lst (l.map D.int)) (.int i) = some (.int x) := by
  show L2.atI (l.map D.int) i = _
  have hl := (List.getElem?_eq_some_iff.mp h).1
  unfold L2.atI L2.ixN
  rw [if_pos h0, if_pos (by rw [List.length_map]; omega)]
  simp [h]
theorem take_ok {w h : List Cell} (H : HandOn w h) (many : Int) (hm : 0 < many := by omega) (hm2 : many < 2 ^ 30 := by omega) : ∃ (v : Nat) (h' : List Cell), f__law_take_1561 [.cell 0, .int many] h = .ok (.val (.int v)) h' ∧ HandOn w h' ∧ v < many := by
  obtain ⟨cs, p, r, t, rfl, h1, h2, h3⟩ := H
  suffices q : fow (f__law_take_1561 [.cell 0, .int many] (hand cs p r t w)) (fun r' h' => ∃ x : Int, r' = .val (.int (x % many)) ∧ HandOn w h') fun _ _ => False by
    cases e : f__law_take_1561 [.cell 0, .int many] (hand cs p r t w) with
    | bad => rw [e] at q; exact q.elim
    | exc _ _ => rw [e] at q; exact q.elim
    | ok r' h' =>
      rw [e] at q
      obtain ⟨x, rfl, H'⟩ := q
      have m0 := Int.emod_nonneg x (show many ≠ 0 by omega)
      have m1 := Int.emod_lt_of_pos x (show 0 < many by omega)
      refine ⟨(x % many).toNat, h', ?_, H', by omega⟩
      rw [Int.toNat_of_nonneg m0]
  have pm : (0 : Int) < many := by omega
  have qd : (0 : Int) < many ∧ many < 2 ^ 30 := ⟨pm, by omega⟩
  have p1 : (0 : Int) < 2147483399 := by decide
  have p2 : (0 : Int) < 2147483549 := by decide
  have pw : binSem .pow (.int 10) (.int 18) = some (.val (.int (10 ^ 18))) := rfl
  unfold hand
  by_cases hr : r = 0
  · subst hr
    by_cases hl : p < ((cs.map D.int).length : Int)
    · have hl' : p < (cs.length : Int) := by simpa using hl
      have hi : p.toNat < cs.length := by omega
      have hc := List.getElem?_eq_getElem hi
      have hix := ix_ints h2 hc
      have h0 := h1 _ (List.getElem_mem hi)
      generalize cs[p.toNat] = c at hc hix h0
      by_cases hb : c < 10 ^ 18
      · simpa! only [hl, hix, hb, pw, b_mod p1, b_mod pm, mixed_ok, f__law_take_1561, c__law_take_1561, e__law_take_1561_0]
        exact ⟨_, rfl, cs, p + 1, 0, t, rfl, h1, by omega, by omega⟩
      · have hc0 : 0 < c := by
          have : (10 : Int) ^ 18 = 1000000000000000000 := by decide
          omega
        simpa! only [hl, hix, hb, pw, hc0, b_mod pm, b_div qd, f__law_take_1561, c__law_take_1561, e__law_take_1561_0]
        exact ⟨_, rfl, cs, p + 1, c / many, t, rfl, h1, by omega, Int.ediv_nonneg h0 (by omega)⟩
    · simpa! only [hl, Int.lt_irrefl, b_mod p2, b_mod pm, mixed_ok, f__law_take_1561, c__law_take_1561, e__law_take_1561_0]
      exact ⟨_, rfl, cs, p, 0, _, rfl, h1, by omega, by omega⟩
  · have hr0 : 0 < r := by omega
    simpa! only [hr, hr0, b_mod pm, b_div qd, f__law_take_1561, c__law_take_1561, e__law_take_1561_0]
    exact ⟨_, rfl, cs, p, _, t, rfl, h1, by omega, Int.ediv_nonneg h3 (by omega)⟩
def absI (i : Int) : Int := if i < 0 then -i else i
theorem absI_nonneg (i : Int) : 0 ≤ absI i := by unfold absI; split <;> omega
theorem hand_ok (l : List Int) (h : List Cell) (hn : l.length ≤ 63) : ∃ t, f__law_hand_bbe7 [.ext (l.map .int)] h = .ok (.own [.lst ((l.map absI).map .int), .int 0, .int 0, .int t]) h := by
  suffices q : fow (f__law_hand_bbe7 [.ext (l.map .int)] h) (fun r' h' => ∃ t, r' = .own [.lst ((l.map absI).map .int), .int 0, .int 0, .int t] ∧ h' = h) fun _ _ => False by
    cases e : f__law_hand_bbe7 [.ext (l.map .int)] h with
    | bad => rw [e] at q; exact q.elim
    | exc _ _ => rw [e] at q; exact q.elim
    | ok r' h' =>
      rw [e] at q
      obtain ⟨t, rfl, rfl⟩ := q
      exact ⟨t, rfl⟩
  have m : ∀ i : Int, binSem .mul (.int i) (.int 1709) = some (.val (.int (i * 1709))) := fun i => b_mul (.inr (by decide))
  have p1 : (0 : Int) < 2147483549 := by decide
  simpa! only [f__law_hand_bbe7, c__law_hand_bbe7]
  refine wp_for (en := D.int) (fun pre s => ∃ t x, s = ⟨[.val (.ext (l.map .int)), .val (.int t), .own ((pre.map absI).map .int), x], h⟩) ⟨_, _, rfl⟩ ?_ ?_
  · rintro _ ⟨t, x, rfl⟩
    simpa! only [c__law_hand_bbe7]
    exact ⟨_, rfl, trivial⟩
  · rintro pre c suf _ el ⟨t, x, rfl⟩
    have hb : ((pre.map absI).map D.int).length < big := by
      rw [el] at hn
      simp at hn ⊢
      unfold big
      omega
    simpa! only [m, b_mod p1, hb, c__law_hand_bbe7, c__law_hand_bbe7_1]
    exact ⟨_, _, by rw [List.map_append, List.map_append]; rfl⟩
/-! ### bases, methods drawn -/
/-- a class's bases: unlike, below -/
def BOk (i : Nat) (b : List Nat) : Prop := b.Nodup ∧ (∀ x ∈ b, x < i) ∧ b.length ≤ 3
theorem bases_ok {w h : List Cell} (H : HandOn w h) (c : Nat) (hc : c < 2 ^ 30) : ∃ (b : List Nat) (h' : List Cell), f__law_bases_c4c7 [.cell 0, .int c] h = .ok (.own (ns b)) h' ∧ HandOn w h' ∧ BOk c b := by
  suffices q : fow (f__law_bases_c4c7 [.cell 0, .int c] h) (fun r' h' => ∃ b, r' = .own (ns b) ∧ HandOn w h' ∧ BOk c b) fun _ _ => False by
    cases e : f__law_bases_c4c7 [.cell 0, .int c] h with
    | bad => rw [e] at q; exact q.elim
    | exc _ _ => rw [e] at q; exact q.elim
    | ok r' h' =>
      rw [e] at q
      obtain ⟨b, rfl, q⟩ := q
      exact ⟨b, h', rfl, q⟩
  obtain ⟨v, h1, e1, H1, v1⟩ := take_ok H 8
  obtain ⟨k, hk, km⟩ := pick (l := [0, 1, 1, 2, 2, 2, 3, 1]) (v := v) (by show v < 8; omega)
  have k3 : k ≤ 3 := (by decide : ∀ k ∈ [0, 1, 1, 2, 2, 2, 3, 1], k ≤ 3) k km
  have k6 : k < 1000000 := by omega
  simpa! only [e1, f__law_bases_c4c7, c__law_bases_c4c7, e__law_bases_c4c7_0]
  refine ow_of hk ?_
  simpa! only [k6, c__law_bases_c4c7, e__law_bases_c4c7_0]
  refine wp_forN (fun pre s => ∃ b x y hp, s = ⟨[.val (.cell 0), .val (.int c), .own (ns b), x, y], hp⟩ ∧ HandOn w hp ∧ b.Nodup ∧ (∀ x ∈ b, x < c) ∧ b.length ≤ pre.length) ⟨[], _, _, _, rfl, H1, List.nodup_nil, by simp, by simp⟩ ?_ ?_
  · rintro _ ⟨b, x, y, hp, rfl, Hp, b1, b2, b3⟩
    simpa! only [c__law_bases_c4c7, e__law_bases_c4c7_0]
    rw [List.length_range] at b3
    exact ⟨b, rfl, Hp, b1, b2, by omega⟩
  · rintro pre i suf _ el ⟨b, x, y, hp, rfl, Hp, b1, b2, b3⟩
    have lp : pre.length ≤ 3 := by
      have := congrArg List.length el
      simp at this
      omega
    have hb : (ns b).length < big := by rw [ns_len]; unfold big; omega
    by_cases hc0 : 0 < c
    · have hc1 : (0 : Int) < c := by omega
      obtain ⟨u, h2, e2, H2, u1⟩ := take_ok Hp c
      by_cases hm : u ∈ b
      · simpa! only [hc1, e2, hm, c__law_bases_c4c7, e__law_bases_c4c7_0, c__law_bases_c4c7_1]
        exact ⟨b, _, _, _, rfl, H2, b1, b2, by simp; omega⟩
      · simpa! only [hc1, e2, hm, hb, c__law_bases_c4c7, e__law_bases_c4c7_0, c__law_bases_c4c7_1]
        refine ⟨b ++ [u], _, _, _, by rw [ns_app]; rfl, H2, ?_, fun z hz => ?_, by simp; omega⟩
        · rw [List.nodup_append]
          exact ⟨b1, by simp, fun z hz w hw e => hm (by simp at hw; rw [← hw, ← e]; exact hz)⟩
        · rcases List.mem_append.mp hz with hz | hz
          · exact b2 z hz
          · simp at hz; omega
    · have hc1 : ¬ (0 : Int) < c := by omega
      simpa! only [hc1, c__law_bases_c4c7, e__law_bases_c4c7_0, c__law_bases_c4c7_1]
      exact ⟨b, _, _, _, rfl, Hp, b1, b2, by simp; omega⟩
theorem methods_ok {h : List Cell} (H : HandOk h) : ∃ (m : List Nat) (h' : List Cell), f__law_methods_2714 [.cell 0] h = .ok (.own (ns m)) h' ∧ HandOk h' ∧ Asc m ∧ (∀ x ∈ m, x ≤ 5) ∧ m.length ≤ 3 := by
  suffices q : fow (f__law_methods_2714 [.cell 0] h) (fun r' h' => ∃ m, r' = .own (ns m) ∧ HandOk h' ∧ Asc m ∧ (∀ x ∈ m, x ≤ 5) ∧ m.length ≤ 3) fun _ _ => False by
    cases e : f__law_methods_2714 [.cell 0] h with
    | bad => rw [e] at q; exact q.elim
    | exc _ _ => rw [e] at q; exact q.elim
    | ok r' h' =>
      rw [e] at q
      obtain ⟨b, rfl, q⟩ := q
      exact ⟨b, h', rfl, q⟩
  obtain ⟨v, h1, e1, H1, v1⟩ := take_ok H 6
  obtain ⟨k, hk, km⟩ := pick (l := [0, 1, 0, 2, 1, 3]) (v := v) (by show v < 6; omega)
  have k3 : k ≤ 3 := (by decide : ∀ k ∈ [0, 1, 0, 2, 1, 3], k ≤ 3) k km
  have k6 : k < 1000000 := by omega
  simpa! only [e1, f__law_methods_2714, c__law_methods_2714, e__law_methods_2714_0]
  refine ow_of hk ?_
  simpa! only [k6, c__law_methods_2714, e__law_methods_2714_0]
  refine wp_forN (fun pre s => ∃ m x hp, s = ⟨[.val (.cell 0), .own (ns m), x], hp⟩ ∧ HandOk hp ∧ (∀ x ∈ m, x ≤ 5) ∧ m.length ≤ pre.length) ⟨[], _, _, rfl, H1, by simp, by simp⟩ ?_ ?_
  · rintro _ ⟨m, x, hp, rfl, Hp, b2, b3⟩
    rw [List.length_range] at b3
    have s1 : (sortN m).length ≤ 3 := by
      have := sortN_len m
      omega
    have u := u_sset (l := m) (by omega) (by omega)
    simpa! only [u, c__law_methods_2714, e__law_methods_2714_0]
    exact ⟨sortN m, rfl, Hp, sortN_asc m, fun x hx => b2 x (sortN_mem.mp hx), s1⟩
  · rintro pre i suf _ el ⟨m, x, hp, rfl, Hp, b2, b3⟩
    have lp : pre.length ≤ 3 := by
      have := congrArg List.length el
      simp at this
      omega
    have hb : (ns m).length < big := by rw [ns_len]; unfold big; omega
    obtain ⟨u, h2, e2, H2, u1⟩ := take_ok Hp 6
    simpa! only [e2, hb, c__law_methods_2714, e__law_methods_2714_0, c__law_methods_2714_1]
    refine ⟨m ++ [u], _, _, by rw [ns_app]; rfl, H2, fun z hz => ?_, by simp; omega⟩
    rcases List.mem_append.mp hz with hz | hz
    · exact b2 z hz
    · simp at hz; omega
end LawP
set_option Elab.async false
set_option linter.all false
set_option maxRecDepth 100000
set_option maxHeartbeats 0
namespace LawP
open PySem MP
local macro_rules
  | `(tactic| simpa! only [$ls,*]) => `(tactic| simp -implicitDefEqProofs only [$ls,*, ↓wp_ok, ↓wp_bad, ↓wp_exc, ↓wp_opt, ↓ow_bind, ↓ow_map, ↓ow_some, ↓ow_none, ↓fow_ok, ↓fow_exc, ↓bK_t, ↓bK_f, ↓bK_not, ↓lk0, ↓lkS, ↓stK0, ↓stKS, ↓see_int, ↓see_bl, ↓see_str, ↓see_non, ↓see_tup, ↓see_lst, ↓see_ext, ↓see_rng, ↓see_ins, ↓see_cell, ↓cellD_lst, ↓cellD_ins, ↓hpK_0, ↓hpK_end, ↓get_dat, ↓get_sl, ↓slotP_val, ↓slotP_own, ↓varK_val, ↓varK_own, ↓varRK_val, ↓varRK_own, ↓varPK_val, ↓varPK_own, ↓x_var_v, ↓x_var_p, ↓x_var_t, ↓x_ret_var, ↓x_int_v, ↓x_int_p, ↓x_int_t, ↓x_bl_v, ↓x_bl_p, ↓x_bl_t, ↓x_non_v, ↓x_non_p, ↓x_non_t, ↓x_str_v, ↓x_str_p, ↓x_str_t, ↓x_bin_v, ↓x_bin_p, ↓x_bin_t, ↓x_neg_v, ↓x_neg_p, ↓x_neg_t, ↓x_cmp_v, ↓x_cmp_p, ↓x_cmp_t, ↓x_chain_v, ↓x_chain_p, ↓x_chain_t, ↓x_tup_v, ↓x_tup_p, ↓x_tup_t, ↓x_lst_v, ↓x_lst_p, ↓x_lst_t, ↓x_ix_v, ↓x_ix_p, ↓x_ix_t, ↓x_slc_v, ↓x_slc_p, ↓x_slc_t, ↓x_rev_v, ↓x_rev_p, ↓x_rev_t, ↓fldK_ins, ↓x_fld_v, ↓x_fld_p, ↓x_fld_t, ↓x_call_v, ↓x_call_p, ↓x_call_t, ↓x_mk_v, ↓x_mk_p, ↓x_mk_t, ↓x_bi_v, ↓x_bi_p, ↓x_bi_t, ↓x_isi_v, ↓x_isi_p, ↓x_isi_t, ↓x_lend_p, ↓x_im_v, ↓x_im_p, ↓x_im_t, ↓x_lm_v, ↓x_lm_p, ↓x_lm_t, ↓x_xf_v, ↓x_xf_p, ↓x_xf_t, ↓blK_bl, ↓x_eqI_v, ↓x_eqI_p, ↓x_eqI_t, ↓x_lenSet_v, ↓x_lenSet_p, ↓x_lenSet_t, ↓x_rng1_v, ↓x_rng1_p, ↓x_rng1_t, ↓x_rng2_v, ↓x_rng2_p, ↓x_rng2_t, ↓x_lc_v, ↓x_lc_p, ↓x_lc_t, ↓x_not_v, ↓x_not_t, ↓x_not_p, ↓x_and_v, ↓x_and_t, ↓x_and_p, ↓x_or_v, ↓x_or_t, ↓x_or_p, ↓x_ite_v, ↓x_ite_t, ↓x_ite_p, ↓x_vnil, ↓x_vcons, ↓x_pnil, ↓x_pcons, ↓gets_nil, ↓gets_cons, ↓x_inil, ↓x_icons, ↓x_ono, ↓x_oso, ↓walk_dat, ↓walkS_val, ↓walkS_own, ↓walk_sl, ↓x_seq, ↓x_r1, ↓x_r2, ↓seq_dat, ↓seqS_val, ↓seqS_own, ↓seq_sl, ↓x_enum, ↓x_zip, ↓fl_next, ↓fl_brk, ↓fl_cont, ↓fl_ret, ↓x_nil, ↓x_cons, ↓x_asg, ↓asg_val, ↓asg_own_val, ↓asg_own_own, ↓asg_own_cell, ↓tg_name, ↓tg_tup, ↓puts_nil, ↓puts_cons, ↓x_asgT, ↓x_setIx, ↓x_setF, ↓x_ex, ↓x_ret, ↓x_retN, ↓x_if, ↓x_for, ↓x_whl, ↓x_brk, ↓x_cont, ↓x_pass, ↓x_raise, ↓x_try, ↓x_hnil, ↓x_hconsN, ↓x_hconsS, ↓fret_next, ↓fret_ret, ↓ent_nil, ↓ent_cons, ↓nos0, ↓nosS, hp_mk, sl_mk, d_val, d_own, ↓negK_int, ↓intK_int, ↓lstK_lst, ↓insK_ins, ↓excK_exc, ↓bigK_nil, ↓bigK_1, ↓bigK_2, ↓bigK_3, ↓bigK_4, ↓bigK_5, ↓fnK0, ↓fnK1, ↓fnK12, ↓fnK2, ↓mkK_some, ↓xcK_1, ↓xcK_2, ↓xcK_3, ↓xcK_4, ↓xcK_5, ↓xkK_t, ↓xkK_f, ↓clK_nil, ↓clK_val, ↓clK_own, ↓clK_no, ↓smK_t, ↓r_int, ↓r_bl, ↓r_non, ↓r_str, ↓r_bin, ↓r_neg, ↓r_not, ↓r_cmp, ↓r_chain, ↓r_and, ↓r_or, ↓r_ite, ↓r_tup, ↓r_lst, ↓r_ix, ↓r_slc, ↓r_rev, ↓r_fld, ↓r_call, ↓r_mk, ↓r_bi, ↓r_isi, ↓r_im, ↓r_lm, ↓r_lc, ↓r_eqI, ↓r_lenSet, ↓r_xf, b_add, b_sub, c_lt, c_le, c_gt, c_ge, c_eq, c_ne, c_isN_non, c_isN_int, c_isN_str, c_isN_tup, c_isN_lst, c_notN_non, c_notN_int, c_notN_str, c_notN_tup, c_notN_lst, tr_bl, tr_non, tr_int, tr_tup, tr_lst, u_lenL, u_lenT, u_lenE, u_abs, u_int, u_tupL, u_tupT, u_lstL, u_lstT, u_max2, u_min2, q_lst, q_tup, q_ext, w_lst, w_tup, w_ext, s_lst, s_tup, cut_take, cut_drop, ix_lst, ix_tup, ix_lst0, ix_tup0, ix_lst1, ix_tup1, ix_tup2, ix_lst2, ix_lst3, ↓lm_append, ↓set_ix, ↓ixK_own, ↓ixK_cell, ↓flK_next, ↓flK_cont, ↓flK_brk, ↓flK_ret, range0, Int.toNat_natCast, ixN_0, ixN_1, ixN_2, ixN_3, apK_own, and_self, setF_end, x_fn, bigK_m, b_mod, b_div, b_mul, b_pow, smK_nat, in_lst, in_tup, nin_lst, nin_tup, putF, List.lookup, List.length_cons, List.length_nil, Nat.reduceAdd, decide_true, decide_false, Bool.not_true, Bool.not_false, if_true, Nat.reduceLT, Nat.reduceLeDiff, Nat.reduceEqDiff, Nat.reduceBEq, beq_self_eq_true, Int.reduceLT, Int.reduceLE, Int.reduceEq, Int.reduceAdd, Int.reduceSub, Int.reduceNeg, Int.reduceToNat, Bool.false_eq_true, List.set_cons_succ, List.set_cons_zero, List.getElem?_cons_succ, List.getElem?_cons_zero, Int.cast_ofNat_Int, eq_self, if_false, List.cons_append, List.nil_append, Option.isNone_none])
/-! ### shapes, classes drawn (k27) -/
def lls (l : List (List Nat)) : List D := l.map fun r => .lst (ns r)
theorem lls_len {l : List (List Nat)} : (lls l).length = l.length := by unfold lls; simp
def BsOk (bss : List (List Nat)) : Prop := ∀ (i : Nat) (b : List Nat), bss[i]? = some b → BOk i b
theorem BsOk.snoc {bss : List (List Nat)} {b : List Nat} (h : BsOk bss) (hb : BOk bss.length b) : BsOk (bss ++ [b]) := fun i c hc => by
  by_cases hi : i < bss.length
  · rw [List.getElem?_append_left hi] at hc
    exact h i c hc
  · have := (List.getElem?_eq_some_iff.mp hc).1
    simp at this
    have e : i = bss.length := by omega
    subst e
    simp at hc
    subst hc
    exact hb
theorem BsOk.take {bss : List (List Nat)} (h : BsOk bss) (n : Nat) : BsOk (bss.take n) := fun i b hb => by
  rw [List.getElem?_take] at hb
  split at hb
  · exact h i b hb
  · cases hb
theorem BsOk.set {bss : List (List Nat)} {b : List Nat} {j : Nat} (h : BsOk bss) (hb : BOk j b) : BsOk (bss.set j b) := fun i c hc => by
  rw [List.getElem?_set] at hc
  split at hc
  · split at hc
    · cases hc; subst_vars; exact hb
    · cases hc
  · exact h i c hc
def bsB (bss : List (List Nat)) : Bool := (List.range bss.length).all fun i => match bss[i]? with
  | some l => decide (l.Nodup) && decide (l.length ≤ 3) && l.all fun x => decide (x < i)
  | none => true
theorem bsB_ok {bss : List (List Nat)} (h : bsB bss = true) : BsOk bss := fun i l hl => by
  have hi : i < bss.length := (List.getElem?_eq_some_iff.mp hl).1
  have := List.all_eq_true.mp h i (List.mem_range.mpr hi)
  rw [hl] at this
  simp only [Bool.and_eq_true, decide_eq_true_eq, List.all_eq_true] at this
  exact ⟨this.1.1, this.2, this.1.2⟩
theorem fow_ex {o : Fo} {P : R → List Cell → Prop} (q : fow o P fun _ _ => False) : ∃ r h, o = .ok r h ∧ P r h := by
  cases o with
  | bad => exact q.elim
  | exc _ _ => exact q.elim
  | ok r h => exact ⟨r, h, rfl, q⟩
def tables : List (List (List Nat)) := [[[], [], [0, 1], [], [1, 3], [3, 0], [2, 4]], [[], [], [], [0, 1], [1, 2], [2, 0], [3, 4], [5]], [[], [0], [0], [2, 1], [0], [4, 2], [1, 4], [3, 4]], [[], [0], [0], [0], [1, 2], [2, 3], [3, 1], [4, 3]], [[], [0], [0], [1, 2], [0], [3, 4], [4], [5, 6]], [[], [], [0, 1], [], [2, 3], [0], [5, 3], [4]]]
theorem tables_ok : ∀ t ∈ tables, BsOk t ∧ t.length ≤ 8 := fun t ht => by
  have : (tables.all fun t => bsB t && decide (t.length ≤ 8)) = true := by decide
  have := List.all_eq_true.mp this t ht
  simp only [Bool.and_eq_true, decide_eq_true_eq] at this
  exact ⟨bsB_ok this.1, this.2⟩
theorem shape_ok {h : List Cell} (H : HandOk h) (n : Nat) (h0 : 1 ≤ n) (h12 : n ≤ 12) : ∃ (bss : List (List Nat)) (h' : List Cell), f__law_shape_47cf [.cell 0, .int n] h = .ok (.own (lls bss)) h' ∧ HandOk h' ∧ bss.length = n ∧ BsOk bss := by
  suffices q : fow (f__law_shape_47cf [.cell 0, .int n] h) (fun r' h' => ∃ bss, r' = .own (lls bss) ∧ HandOk h' ∧ bss.length = n ∧ BsOk bss) fun _ _ => False by
    obtain ⟨_, h', e, bss, rfl, q⟩ := fow_ex q
    exact ⟨bss, h', e, q⟩
  obtain ⟨v, h1, e1, H1, v1⟩ := take_ok H 8
  have n6 : n < 1000000 := by omega
  by_cases hv : (v : Int) < 2
  · simpa! only [e1, hv, n6, f__law_shape_47cf, c__law_shape_47cf, e__law_shape_47cf_0, e__law_shape_47cf_1]
    refine lc_ind (en := fun n : Nat => .int n) (fun pre acc hp => HandOk hp ∧ ∃ bss, acc = lls bss ∧ bss.length = pre.length ∧ BsOk bss) (.inl rfl) ⟨H1, [], rfl, rfl, fun i b hb => by cases hb⟩ ?_ ?_
    · rintro pre x suf acc hp el ⟨Hp, bss, rfl, b1, b2⟩
      have hx : x = pre.length ∧ pre.length < n := by
        have g : (List.range n)[pre.length]? = some x := by rw [el]; simp
        have l : pre.length < n := by
          have := (List.getElem?_eq_some_iff.mp g).1
          simpa using this
        rw [List.getElem?_range l] at g
        exact ⟨(Option.some.inj g).symm, l⟩
      obtain ⟨b, h2, e2, H2, b3⟩ := bases_ok Hp x (by omega)
      simpa! only [e2, c__law_shape_47cf, e__law_shape_47cf_0, e__law_shape_47cf_1]
      refine ⟨trivial, trivial, ?_, H2, bss ++ [b], by unfold lls; rw [List.map_append]; rfl, by simp; omega, b2.snoc (by rw [b1, ← hx.1]; exact b3)⟩
      rw [lls_len]
      unfold big
      omega
    · rintro acc hp ⟨Hp, bss, rfl, b1, b2⟩
      simpa! only [c__law_shape_47cf, e__law_shape_47cf_0, e__law_shape_47cf_1]
      rw [List.length_range] at b1
      exact ⟨bss, rfl, Hp, b1, b2⟩
  · have hk : (v - 2 : Nat) < tables.length := by show v - 2 < 6; omega
    have ht := List.getElem?_eq_getElem hk
    generalize tables[v - 2] = t at ht
    obtain ⟨t1, t2⟩ := tables_ok t (List.mem_of_getElem? ht)
    have hix : ixSem (.lst (tables.map fun t => .lst (lls t))) (.int ((v : Int) - 2)) = some (.lst (lls t)) := by
      have e : ((v : Int) - 2) = ((v - 2 : Nat) : Int) := by omega
      rw [e, ix_lst, List.getElem?_map, ht]
      rfl
    simpa! only [e1, hv, n6, f__law_shape_47cf, c__law_shape_47cf, e__law_shape_47cf_0, e__law_shape_47cf_1]
    refine ow_of hix ?_
    simpa! only [c__law_shape_47cf, e__law_shape_47cf_0, e__law_shape_47cf_1]
    have tk : (lls t).take n = lls (t.take n) := by unfold lls; rw [List.map_take]
    rw [tk]
    refine lc_map (en := fun r => .lst (ns r)) (en2 := fun r => .lst (ns r)) id (.inl rfl) (by simp; unfold big; omega) (fun r _ => ?_) ?_
    · simpa! only [c__law_shape_47cf, e__law_shape_47cf_0, e__law_shape_47cf_1]
      exact ⟨rfl, trivial⟩
    rw [List.map_id]
    simpa! only [c__law_shape_47cf, e__law_shape_47cf_0, e__law_shape_47cf_1]
    refine wp_whl (fun k s => ∃ bss hp, s = ⟨[.val (.cell 0), .val (.int n), .val (.int v), .val (.lst (lls t)), .own (lls bss), .no, .no, .no], hp⟩ ∧ HandOk hp ∧ bss.length + k = n ∧ BsOk bss) (n - (t.take n).length) (by omega) ⟨t.take n, h1, rfl, H1, by simp; omega, t1.take n⟩ ?_
    rintro j _ ⟨bss, hp, rfl, Hp, b1, b2⟩
    by_cases hl : ((lls bss).length : Int) < n
    · have hl2 : bss.length < n := by rw [lls_len] at hl; omega
      have hb : (lls bss).length < big := by rw [lls_len]; unfold big; omega
      obtain ⟨b, h2, e2, H2, b3⟩ := bases_ok Hp (lls bss).length (by rw [lls_len]; omega)
      simpa! only [hl, e2, hb, c__law_shape_47cf, e__law_shape_47cf_0, e__law_shape_47cf_1, c__law_shape_47cf_1]
      exact ⟨j - 1, by omega, bss ++ [b], h2, by unfold lls; rw [List.map_append]; rfl, H2, by simp; omega, b2.snoc (by rw [lls_len] at b3; exact b3)⟩
    · have hl2 : bss.length = n := by rw [lls_len] at hl; omega
      obtain ⟨a, h3, e3, H3, a1⟩ := take_ok Hp n (by omega) (by omega)
      obtain ⟨c, h4, e4, H4, c1⟩ := take_ok H3 3
      by_cases hc : (c : Int) = 0
      · obtain ⟨b, h5, e5, H5, b3⟩ := bases_ok H4 a (by omega)
        have hix : L2.ixN (lls bss).length (a : Int) = some a := ixN_nat (by rw [lls_len]; omega)
        simpa! only [hl, e3, e4, hc, e5, hix, c__law_shape_47cf, e__law_shape_47cf_0, e__law_shape_47cf_1]
        refine ⟨bss.set a b, ?_, H5, by simp; omega, b2.set b3⟩
        unfold lls
        rw [List.map_set]
      · simpa! only [hl, e3, e4, hc, c__law_shape_47cf, e__law_shape_47cf_0, e__law_shape_47cf_1]
        exact ⟨bss, rfl, H4, hl2, b2⟩
end LawP
set_option Elab.async false
set_option linter.all false
set_option maxRecDepth 100000
set_option maxHeartbeats 0
namespace LawP
open PySem MP
local macro_rules
  | `(tactic| simpa! only [$ls,*]) => `(tactic| simp -implicitDefEqProofs only [$ls,*, ↓wp_ok, ↓wp_bad, ↓wp_exc, ↓wp_opt, ↓ow_bind, ↓ow_map, ↓ow_some, ↓ow_none, ↓fow_ok, ↓fow_exc, ↓bK_t, ↓bK_f, ↓bK_not, ↓lk0, ↓lkS, ↓stK0, ↓stKS, ↓see_int, ↓see_bl, ↓see_str, ↓see_non, ↓see_tup, ↓see_lst, ↓see_ext, ↓see_rng, ↓see_ins, ↓see_cell, ↓cellD_lst, ↓cellD_ins, ↓hpK_0, ↓hpK_end, ↓get_dat, ↓get_sl, ↓slotP_val, ↓slotP_own, ↓varK_val, ↓varK_own, ↓varRK_val, ↓varRK_own, ↓varPK_val, ↓varPK_own, ↓x_var_v, ↓x_var_p, ↓x_var_t, ↓x_ret_var, ↓x_int_v, ↓x_int_p, ↓x_int_t, ↓x_bl_v, ↓x_bl_p, ↓x_bl_t, ↓x_non_v, ↓x_non_p, ↓x_non_t, ↓x_str_v, ↓x_str_p, ↓x_str_t, ↓x_bin_v, ↓x_bin_p, ↓x_bin_t, ↓x_neg_v, ↓x_neg_p, ↓x_neg_t, ↓x_cmp_v, ↓x_cmp_p, ↓x_cmp_t, ↓x_chain_v, ↓x_chain_p, ↓x_chain_t, ↓x_tup_v, ↓x_tup_p, ↓x_tup_t, ↓x_lst_v, ↓x_lst_p, ↓x_lst_t, ↓x_ix_v, ↓x_ix_p, ↓x_ix_t, ↓x_slc_v, ↓x_slc_p, ↓x_slc_t, ↓x_rev_v, ↓x_rev_p, ↓x_rev_t, ↓fldK_ins, ↓x_fld_v, ↓x_fld_p, ↓x_fld_t, ↓x_call_v, ↓x_call_p, ↓x_call_t, ↓x_mk_v, ↓x_mk_p, ↓x_mk_t, ↓x_bi_v, ↓x_bi_p, ↓x_bi_t, ↓x_isi_v, ↓x_isi_p, ↓x_isi_t, ↓x_lend_p, ↓x_im_v, ↓x_im_p, ↓x_im_t, ↓x_lm_v, ↓x_lm_p, ↓x_lm_t, ↓x_xf_v, ↓x_xf_p, ↓x_xf_t, ↓blK_bl, ↓x_eqI_v, ↓x_eqI_p, ↓x_eqI_t, ↓x_lenSet_v, ↓x_lenSet_p, ↓x_lenSet_t, ↓x_rng1_v, ↓x_rng1_p, ↓x_rng1_t, ↓x_rng2_v, ↓x_rng2_p, ↓x_rng2_t, ↓x_lc_v, ↓x_lc_p, ↓x_lc_t, ↓x_not_v, ↓x_not_t, ↓x_not_p, ↓x_and_v, ↓x_and_t, ↓x_and_p, ↓x_or_v, ↓x_or_t, ↓x_or_p, ↓x_ite_v, ↓x_ite_t, ↓x_ite_p, ↓x_vnil, ↓x_vcons, ↓x_pnil, ↓x_pcons, ↓gets_nil, ↓gets_cons, ↓x_inil, ↓x_icons, ↓x_ono, ↓x_oso, ↓walk_dat, ↓walkS_val, ↓walkS_own, ↓walk_sl, ↓x_seq, ↓x_r1, ↓x_r2, ↓seq_dat, ↓seqS_val, ↓seqS_own, ↓seq_sl, ↓x_enum, ↓x_zip, ↓fl_next, ↓fl_brk, ↓fl_cont, ↓fl_ret, ↓x_nil, ↓x_cons, ↓x_asg, ↓asg_val, ↓asg_own_val, ↓asg_own_own, ↓asg_own_cell, ↓tg_name, ↓tg_tup, ↓puts_nil, ↓puts_cons, ↓x_asgT, ↓x_setIx, ↓x_setF, ↓x_ex, ↓x_ret, ↓x_retN, ↓x_if, ↓x_for, ↓x_whl, ↓x_brk, ↓x_cont, ↓x_pass, ↓x_raise, ↓x_try, ↓x_hnil, ↓x_hconsN, ↓x_hconsS, ↓fret_next, ↓fret_ret, ↓ent_nil, ↓ent_cons, ↓nos0, ↓nosS, hp_mk, sl_mk, d_val, d_own, ↓negK_int, ↓intK_int, ↓lstK_lst, ↓insK_ins, ↓excK_exc, ↓bigK_nil, ↓bigK_1, ↓bigK_2, ↓bigK_3, ↓bigK_4, ↓bigK_5, ↓fnK0, ↓fnK1, ↓fnK12, ↓fnK2, ↓mkK_some, ↓xcK_1, ↓xcK_2, ↓xcK_3, ↓xcK_4, ↓xcK_5, ↓xkK_t, ↓xkK_f, ↓clK_nil, ↓clK_val, ↓clK_own, ↓clK_no, ↓smK_t, ↓r_int, ↓r_bl, ↓r_non, ↓r_str, ↓r_bin, ↓r_neg, ↓r_not, ↓r_cmp, ↓r_chain, ↓r_and, ↓r_or, ↓r_ite, ↓r_tup, ↓r_lst, ↓r_ix, ↓r_slc, ↓r_rev, ↓r_fld, ↓r_call, ↓r_mk, ↓r_bi, ↓r_isi, ↓r_im, ↓r_lm, ↓r_lc, ↓r_eqI, ↓r_lenSet, ↓r_xf, b_add, b_sub, c_lt, c_le, c_gt, c_ge, c_eq, c_ne, c_isN_non, c_isN_int, c_isN_str, c_isN_tup, c_isN_lst, c_notN_non, c_notN_int, c_notN_str, c_notN_tup, c_notN_lst, tr_bl, tr_non, tr_int, tr_tup, tr_lst, u_lenL, u_lenT, u_lenE, u_abs, u_int, u_tupL, u_tupT, u_lstL, u_lstT, u_max2, u_min2, q_lst, q_tup, q_ext, w_lst, w_tup, w_ext, s_lst, s_tup, cut_take, cut_drop, ix_lst, ix_tup, ix_lst0, ix_tup0, ix_lst1, ix_tup1, ix_tup2, ix_lst2, ix_lst3, ↓lm_append, ↓set_ix, ↓ixK_own, ↓ixK_cell, ↓flK_next, ↓flK_cont, ↓flK_brk, ↓flK_ret, range0, Int.toNat_natCast, ixN_0, ixN_1, ixN_2, ixN_3, apK_own, and_self, setF_end, x_fn, bigK_m, b_mod, b_div, b_mul, b_pow, smK_nat, in_lst, in_tup, nin_lst, nin_tup, putF, List.lookup, List.length_cons, List.length_nil, Nat.reduceAdd, decide_true, decide_false, Bool.not_true, Bool.not_false, if_true, Nat.reduceLT, Nat.reduceLeDiff, Nat.reduceEqDiff, Nat.reduceBEq, beq_self_eq_true, Int.reduceLT, Int.reduceLE, Int.reduceEq, Int.reduceAdd, Int.reduceSub, Int.reduceNeg, Int.reduceToNat, Bool.false_eq_true, List.set_cons_succ, List.set_cons_zero, List.getElem?_cons_succ, List.getElem?_cons_zero, Int.cast_ofNat_Int, eq_self, if_false, List.cons_append, List.nil_append, Option.isNone_none])
/-- a class as the law draws it -/
abbrev LRow := List Nat × Nat × List Nat
def lrD (r : LRow) : D := .tup [.lst (ns r.1), .int r.2.1, .lst (ns r.2.2)]
def lrsD (rows : List LRow) : List D := rows.map lrD
def LOk (i : Nat) (r : LRow) : Prop := BOk i r.1 ∧ r.2.1 ≤ 3 ∧ Asc r.2.2 ∧ (∀ x ∈ r.2.2, x ≤ 5) ∧ r.2.2.length ≤ 3
def LsOk (rows : List LRow) : Prop := ∀ (i : Nat) (r : LRow), rows[i]? = some r → LOk i r
theorem lrs_len {rows : List LRow} : (lrsD rows).length = rows.length := by unfold lrsD; simp
theorem lrs_snoc {rows : List LRow} {r : LRow} : lrsD (rows ++ [r]) = lrsD rows ++ [lrD r] := by unfold lrsD; simp
theorem LsOk.snoc {rows : List LRow} {r : LRow} (h : LsOk rows) (hr : LOk rows.length r) : LsOk (rows ++ [r]) := fun i c hc => by
  by_cases hi : i < rows.length
  · rw [List.getElem?_append_left hi] at hc
    exact h i c hc
  · have := (List.getElem?_eq_some_iff.mp hc).1
    simp at this
    have e : i = rows.length := by omega
    subst e
    simp at hc
    subst hc
    exact hr
theorem classes_ok {h : List Cell} (H : HandOk h) (low high most : Int) (w : Bool) (h0 : 1 ≤ low) (h1 : low ≤ high) (h12 : high ≤ 12) (hm : 0 ≤ most) (hm2 : most < 1000) :
    ∃ (rows : List LRow) (h' : List Cell), f__law_classes_d301 [.cell 0, .int low, .int high, .int most, .bl w] h = .ok (.own (lrsD rows)) h' ∧ HandOk h' ∧ low ≤ rows.length ∧ rows.length ≤ high ∧ LsOk rows ∧ (rows.map fun r => r.2.1).sum ≤ most := by
  suffices q : fow (f__law_classes_d301 [.cell 0, .int low, .int high, .int most, .bl w] h) (fun r' h' => ∃ rows, r' = .own (lrsD rows) ∧ HandOk h' ∧ low ≤ rows.length ∧ rows.length ≤ high ∧ LsOk rows ∧ (rows.map fun r => r.2.1).sum ≤ most) fun _ _ => False by
    obtain ⟨_, h', e, rows, rfl, q⟩ := fow_ex q
    exact ⟨rows, h', e, q⟩
  obtain ⟨a, g1, e1, H1, a1⟩ := take_ok H (high - low + 1)
  obtain ⟨b, g2, e2, H2, b1⟩ := take_ok H1 (high - low + 1)
  obtain ⟨bss, g3, e3, H3, s1, s2⟩ := shape_ok H2 (low + max (a : Int) b).toNat (by omega) (by omega)
  rw [Int.toNat_of_nonneg (by omega)] at e3
  obtain ⟨mo, rfl⟩ : ∃ mo : Nat, most = mo := ⟨most.toNat, by omega⟩
  simpa! only [e1, e2, e3, f__law_classes_d301, c__law_classes_d301, e__law_classes_d301_0, e__law_classes_d301_1, e__law_classes_d301_2]
  refine wp_for (en := fun r => .lst (ns r)) (fun pre s => ∃ rows rest x y hp, s = ⟨[.val (.cell 0), .val (.int low), .val (.int high), .val (.int mo), .val (.bl w), .val (.int (low + max (a : Int) b)), .val (.lst (lls bss)), .val (.int (rest : Nat)), .own (lrsD rows), x, y], hp⟩ ∧ HandOk hp ∧ rows.length = pre.length ∧ LsOk rows ∧ (rows.map fun r => r.2.1).sum + rest = mo) ⟨[], mo, _, _, _, rfl, H3, rfl, (fun i r hr => by cases hr), by simp⟩ ?_ ?_
  · rintro _ ⟨rows, rest, x, y, hp, rfl, Hp, r1, r2, r3⟩
    simpa! only [c__law_classes_d301, e__law_classes_d301_0, e__law_classes_d301_1, e__law_classes_d301_2]
    exact ⟨rows, rfl, Hp, by omega, by omega, r2, by omega⟩
  · rintro pre own suf _ el ⟨rows, rest, x, y, hp, rfl, Hp, r1, r2, r3⟩
    have pl : pre.length < bss.length := by rw [el]; simp
    have ob := s2 pre.length own (by rw [el]; simp)
    obtain ⟨v, g4, e4, H4, v1⟩ := take_ok Hp 10
    obtain ⟨k, hk, km⟩ := pick (l := [1, 1, 0, 1, 2, 1, 2, 1, 1, 3]) (v := v) (by show v < 10; omega)
    have k3 : k ≤ 3 := (by decide : ∀ k ∈ [1, 1, 0, 1, 2, 1, 2, 1, 1, 3], k ≤ 3) k km
    have m1 : min (rest : Int) (k : Int) = ((min rest k : Nat) : Int) := by omega
    have m2 : (rest : Int) - ((min rest k : Nat) : Int) = ((rest - min rest k : Nat) : Int) := by omega
    have hb : (lrsD rows).length < big := by rw [lrs_len]; unfold big; omega
    cases w with
    | true =>
      obtain ⟨m, g5, e5, H5, m3, m4, m5⟩ := methods_ok H4
      simpa! only [e4, c__law_classes_d301, e__law_classes_d301_0, e__law_classes_d301_1, e__law_classes_d301_2, c__law_classes_d301_1]
      refine ow_of hk ?_
      simpa! only [m1, m2, e5, hb, c__law_classes_d301, e__law_classes_d301_0, e__law_classes_d301_1, e__law_classes_d301_2]
      refine ⟨rows ++ [(own, min rest k, m)], rest - min rest k, _, _, _, by rw [lrs_snoc]; rfl, H5, by simp; omega, r2.snoc ⟨by rw [r1]; exact ob, by show min rest k ≤ 3; omega, m3, m4, m5⟩, by simp; omega⟩
    | false =>
      simpa! only [e4, c__law_classes_d301, e__law_classes_d301_0, e__law_classes_d301_1, e__law_classes_d301_2, c__law_classes_d301_1]
      refine ow_of hk ?_
      simpa! only [m1, m2, hb, c__law_classes_d301, e__law_classes_d301_0, e__law_classes_d301_1, e__law_classes_d301_2]
      refine ⟨rows ++ [(own, min rest k, [])], rest - min rest k, _, _, _, by rw [lrs_snoc]; rfl, H4, by simp; omega, r2.snoc ⟨by rw [r1]; exact ob, by show min rest k ≤ 3; omega, List.Pairwise.nil, by simp, by simp⟩, by simp; omega⟩
theorem few_ok {h : List Cell} (H : HandOk h) {rows : List LRow} (ok : LsOk rows) (hl : rows.length ≤ 60) :
    ∃ (r : R) (rows' : List LRow) (h' : List Cell), f__law_few_d7fb [.cell 0, .lst (lrsD rows)] h = .ok r h' ∧ (r = .val (.lst (lrsD rows')) ∨ r = .own (lrsD rows')) ∧ HandOk h' ∧ rows'.length = rows.length ∧ LsOk rows' := by
  suffices q : fow (f__law_few_d7fb [.cell 0, .lst (lrsD rows)] h) (fun r h' => ∃ rows', (r = .val (.lst (lrsD rows')) ∨ r = .own (lrsD rows')) ∧ HandOk h' ∧ rows'.length = rows.length ∧ LsOk rows') fun _ _ => False by
    obtain ⟨r, h', e, rows', q⟩ := fow_ex q
    exact ⟨r, rows', h', e, q⟩
  obtain ⟨a, g1, e1, H1, a1⟩ := take_ok H 3
  by_cases ha : (a : Int) = 0
  · simpa! only [e1, ha, f__law_few_d7fb, c__law_few_d7fb, e__law_few_d7fb_0]
    exact ⟨rows, .inl rfl, H1, rfl, ok⟩
  · obtain ⟨b, g2, e2, H2, b1⟩ := take_ok H1 4
    obtain ⟨k, hk, km⟩ := pick (l := [1, 1, 2, 3]) (v := b) (by show b < 4; omega)
    have k3 : 1 ≤ k ∧ k ≤ 3 := (by decide : ∀ k ∈ [1, 1, 2, 3], 1 ≤ k ∧ k ≤ 3) k km
    simpa! only [e1, ha, e2, f__law_few_d7fb, c__law_few_d7fb, e__law_few_d7fb_0]
    refine ow_of hk ?_
    simpa! only [c__law_few_d7fb, e__law_few_d7fb_0]
    refine wp_for (en := lrD) (fun pre s => ∃ rows' x4 x5 x6 x7 x8 hp, s = ⟨[.val (.cell 0), .val (.lst (lrsD rows)), .val (.int k), .own (lrsD rows'), x4, x5, x6, x7, x8], hp⟩ ∧ HandOk hp ∧ rows'.length = pre.length ∧ LsOk rows') ⟨[], _, _, _, _, _, _, rfl, H2, rfl, fun i r hr => by cases hr⟩ ?_ ?_
    · rintro _ ⟨rows', x4, x5, x6, x7, x8, hp, rfl, Hp, r1, r2⟩
      simpa! only [c__law_few_d7fb, e__law_few_d7fb_0]
      exact ⟨rows', .inr rfl, Hp, r1, r2⟩
    · rintro pre r suf _ el ⟨rows', x4, x5, x6, x7, x8, hp, rfl, Hp, r1, r2⟩
      have pl : pre.length < rows.length := by rw [el]; simp
      obtain ⟨o1, o2, o3, o4, o5⟩ := ok pre.length r (by rw [el]; simp)
      have hb : (lrsD rows').length < big := by rw [lrs_len]; unfold big; omega
      have names : ∀ (n : Nat) (hp : List Cell) (s : MP.St) (x8 : MP.Slot) (KF : MP.Flow → MP.St → Prop), HandOk hp → n ≤ 3 → s = ⟨[.val (.cell 0), .val (.lst (lrsD rows)), .val (.int k), .own (lrsD rows'), .val (.lst (ns r.1)), .val (.int r.2.1), .val (.lst (ns r.2.2)), .own [], x8], hp⟩ →
          (∀ (m : List Nat) (x8 : MP.Slot) (hp : List Cell), HandOk hp → m.length ≤ 3 → (∀ x ∈ m, x ≤ 5) → KF .next ⟨[.val (.cell 0), .val (.lst (lrsD rows)), .val (.int k), .own (lrsD rows'), .val (.lst (ns r.1)), .val (.int r.2.1), .val (.lst (ns r.2.2)), .own (ns m), x8], hp⟩) →
          wp (runFor (exs E__law_few_d7fb.env c__law_few_d7fb_1) (.name 8) (ns (List.range n)) s) KF fun _ _ => False := by
        rintro n hp _ x8 KF Hp hn rfl fin
        refine wp_forN (fun pre s => ∃ m x8 hp, s = ⟨[.val (.cell 0), .val (.lst (lrsD rows)), .val (.int k), .own (lrsD rows'), .val (.lst (ns r.1)), .val (.int r.2.1), .val (.lst (ns r.2.2)), .own (ns m), x8], hp⟩ ∧ HandOk hp ∧ (∀ x ∈ m, x ≤ 5) ∧ m.length = pre.length) ⟨[], _, _, rfl, Hp, by simp, rfl⟩ ?_ ?_
        · rintro _ ⟨m, x8, hp, rfl, Hp, m1, m2⟩
          exact fin m x8 hp Hp (by rw [m2, List.length_range]; exact hn) m1
        · rintro pre i suf _ el ⟨m, x8, hp, rfl, Hp, m1, m2⟩
          have lp : pre.length < n := by
            have := congrArg List.length el
            simp at this
            omega
          have hb : (ns m).length < big := by rw [ns_len]; unfold big; omega
          obtain ⟨u, g3, e3, H3, u1⟩ := take_ok Hp k (by omega) (by omega)
          simpa! only [e3, hb, c__law_few_d7fb, e__law_few_d7fb_0, c__law_few_d7fb_1]
          refine ⟨m ++ [u], _, _, by rw [ns_app]; rfl, H3, fun z hz => ?_, by simp; omega⟩
          rcases List.mem_append.mp hz with hz | hz
          · exact m1 z hz
          · simp at hz; omega
      have fin : ∀ (m : List Nat) (x8 : MP.Slot) (hp : List Cell), HandOk hp → m.length ≤ 3 → (∀ x ∈ m, x ≤ 5) → ∃ rows'' x4 x5 x6 x7 x8' hp', (⟨[.val (.cell 0), .val (.lst (lrsD rows)), .val (.int k), .own (lrsD rows' ++ [.tup [.lst (ns r.1), .int r.2.1, .lst (ns (sortN m))]]), .val (.lst (ns r.1)), .val (.int r.2.1), .val (.lst (ns r.2.2)), .own (ns m), x8], hp⟩ : MP.St) = ⟨[.val (.cell 0), .val (.lst (lrsD rows)), .val (.int k), .own (lrsD rows''), x4, x5, x6, x7, x8'], hp'⟩ ∧ HandOk hp' ∧ rows''.length = (pre ++ [r]).length ∧ LsOk rows'' := fun m x8 hp Hp m1 m2 =>
        ⟨rows' ++ [(r.1, r.2.1, sortN m)], _, _, _, _, _, _, by rw [lrs_snoc]; rfl, Hp, by simp; omega, r2.snoc ⟨by rw [r1]; exact o1, o2, sortN_asc m, fun x hx => m2 x (sortN_mem.mp hx), Nat.le_trans (sortN_len m) m1⟩⟩
      unfold lrD
      by_cases hn : (ns r.1).isEmpty
      · obtain ⟨v, g4, e4, H4, v1⟩ := take_ok Hp 2
        have w1 : (1 : Int) + (v : Int) = ((1 + v : Nat) : Int) := by omega
        have w2 : 1 + v < 1000000 := by omega
        simpa! only [hn, e4, w1, w2, c__law_few_d7fb, e__law_few_d7fb_0, c__law_few_d7fb_2]
        refine names _ _ _ _ _ H4 (by omega) rfl fun m x8 hp Hp m1 m2 => ?_
        have u := u_sset (l := m) (by omega) (by have := sortN_len m; omega)
        simpa! only [u, hb, c__law_few_d7fb, e__law_few_d7fb_0]
        exact fin m x8 hp Hp m1 m2
      · obtain ⟨v, g4, e4, H4, v1⟩ := take_ok Hp 6
        obtain ⟨j, hj, jm⟩ := pick (l := [0, 1, 1, 0, 1, 2]) (v := v) (by show v < 6; omega)
        have j3 : j ≤ 2 := (by decide : ∀ k ∈ [0, 1, 1, 0, 1, 2], k ≤ 2) j jm
        have j6 : j < 1000000 := by omega
        have hn : (ns r.1).isEmpty = false := by simpa using hn
        simpa! only [hn, e4, c__law_few_d7fb, e__law_few_d7fb_0, c__law_few_d7fb_2]
        refine ow_of hj ?_
        simpa! only [j6, c__law_few_d7fb, e__law_few_d7fb_0]
        refine names _ _ _ _ _ H4 (by omega) rfl fun m x8 hp Hp m1 m2 => ?_
        have u := u_sset (l := m) (by omega) (by have := sortN_len m; omega)
        simpa! only [u, hb, c__law_few_d7fb, e__law_few_d7fb_0]
        exact fin m x8 hp Hp m1 m2
end LawP
set_option Elab.async false
set_option linter.all false
set_option maxRecDepth 100000
set_option maxHeartbeats 0
namespace LawP
open PySem MP
local macro_rules
  | `(tactic| simpa! only [$ls,*]) => `(tactic| simp -implicitDefEqProofs only [$ls,*, ↓wp_ok, ↓wp_bad, ↓wp_exc, ↓wp_opt, ↓ow_bind, ↓ow_map, ↓ow_some, ↓ow_none, ↓fow_ok, ↓fow_exc, ↓bK_t, ↓bK_f, ↓bK_not, ↓lk0, ↓lkS, ↓stK0, ↓stKS, ↓see_int, ↓see_bl, ↓see_str, ↓see_non, ↓see_tup, ↓see_lst, ↓see_ext, ↓see_rng, ↓see_ins, ↓see_cell, ↓cellD_lst, ↓cellD_ins, ↓hpK_0, ↓hpK_end, ↓get_dat, ↓get_sl, ↓slotP_val, ↓slotP_own, ↓varK_val, ↓varK_own, ↓varRK_val, ↓varRK_own, ↓varPK_val, ↓varPK_own, ↓x_var_v, ↓x_var_p, ↓x_var_t, ↓x_ret_var, ↓x_int_v, ↓x_int_p, ↓x_int_t, ↓x_bl_v, ↓x_bl_p, ↓x_bl_t, ↓x_non_v, ↓x_non_p, ↓x_non_t, ↓x_str_v, ↓x_str_p, ↓x_str_t, ↓x_bin_v, ↓x_bin_p, ↓x_bin_t, ↓x_neg_v, ↓x_neg_p, ↓x_neg_t, ↓x_cmp_v, ↓x_cmp_p, ↓x_cmp_t, ↓x_chain_v, ↓x_chain_p, ↓x_chain_t, ↓x_tup_v, ↓x_tup_p, ↓x_tup_t, ↓x_lst_v, ↓x_lst_p, ↓x_lst_t, ↓x_ix_v, ↓x_ix_p, ↓x_ix_t, ↓x_slc_v, ↓x_slc_p, ↓x_slc_t, ↓x_rev_v, ↓x_rev_p, ↓x_rev_t, ↓fldK_ins, ↓x_fld_v, ↓x_fld_p, ↓x_fld_t, ↓x_call_v, ↓x_call_p, ↓x_call_t, ↓x_mk_v, ↓x_mk_p, ↓x_mk_t, ↓x_bi_v, ↓x_bi_p, ↓x_bi_t, ↓x_isi_v, ↓x_isi_p, ↓x_isi_t, ↓x_lend_p, ↓x_im_v, ↓x_im_p, ↓x_im_t, ↓x_lm_v, ↓x_lm_p, ↓x_lm_t, ↓x_xf_v, ↓x_xf_p, ↓x_xf_t, ↓blK_bl, ↓x_eqI_v, ↓x_eqI_p, ↓x_eqI_t, ↓x_lenSet_v, ↓x_lenSet_p, ↓x_lenSet_t, ↓x_rng1_v, ↓x_rng1_p, ↓x_rng1_t, ↓x_rng2_v, ↓x_rng2_p, ↓x_rng2_t, ↓x_lc_v, ↓x_lc_p, ↓x_lc_t, ↓x_not_v, ↓x_not_t, ↓x_not_p, ↓x_and_v, ↓x_and_t, ↓x_and_p, ↓x_or_v, ↓x_or_t, ↓x_or_p, ↓x_ite_v, ↓x_ite_t, ↓x_ite_p, ↓x_vnil, ↓x_vcons, ↓x_pnil, ↓x_pcons, ↓gets_nil, ↓gets_cons, ↓x_inil, ↓x_icons, ↓x_ono, ↓x_oso, ↓walk_dat, ↓walkS_val, ↓walkS_own, ↓walk_sl, ↓x_seq, ↓x_r1, ↓x_r2, ↓seq_dat, ↓seqS_val, ↓seqS_own, ↓seq_sl, ↓x_enum, ↓x_zip, ↓fl_next, ↓fl_brk, ↓fl_cont, ↓fl_ret, ↓x_nil, ↓x_cons, ↓x_asg, ↓asg_val, ↓asg_own_val, ↓asg_own_own, ↓asg_own_cell, ↓tg_name, ↓tg_tup, ↓puts_nil, ↓puts_cons, ↓x_asgT, ↓x_setIx, ↓x_setF, ↓x_ex, ↓x_ret, ↓x_retN, ↓x_if, ↓x_for, ↓x_whl, ↓x_brk, ↓x_cont, ↓x_pass, ↓x_raise, ↓x_try, ↓x_hnil, ↓x_hconsN, ↓x_hconsS, ↓fret_next, ↓fret_ret, ↓ent_nil, ↓ent_cons, ↓nos0, ↓nosS, hp_mk, sl_mk, d_val, d_own, ↓negK_int, ↓intK_int, ↓lstK_lst, ↓insK_ins, ↓excK_exc, ↓bigK_nil, ↓bigK_1, ↓bigK_2, ↓bigK_3, ↓bigK_4, ↓bigK_5, ↓fnK0, ↓fnK1, ↓fnK12, ↓fnK2, ↓mkK_some, ↓xcK_1, ↓xcK_2, ↓xcK_3, ↓xcK_4, ↓xcK_5, ↓xkK_t, ↓xkK_f, ↓clK_nil, ↓clK_val, ↓clK_own, ↓clK_no, ↓smK_t, ↓r_int, ↓r_bl, ↓r_non, ↓r_str, ↓r_bin, ↓r_neg, ↓r_not, ↓r_cmp, ↓r_chain, ↓r_and, ↓r_or, ↓r_ite, ↓r_tup, ↓r_lst, ↓r_ix, ↓r_slc, ↓r_rev, ↓r_fld, ↓r_call, ↓r_mk, ↓r_bi, ↓r_isi, ↓r_im, ↓r_lm, ↓r_lc, ↓r_eqI, ↓r_lenSet, ↓r_xf, b_add, b_sub, c_lt, c_le, c_gt, c_ge, c_eq, c_ne, c_isN_non, c_isN_int, c_isN_str, c_isN_tup, c_isN_lst, c_notN_non, c_notN_int, c_notN_str, c_notN_tup, c_notN_lst, tr_bl, tr_non, tr_int, tr_tup, tr_lst, u_lenL, u_lenT, u_lenE, u_abs, u_int, u_tupL, u_tupT, u_lstL, u_lstT, u_max2, u_min2, q_lst, q_tup, q_ext, w_lst, w_tup, w_ext, s_lst, s_tup, cut_take, cut_drop, ix_lst, ix_tup, ix_lst0, ix_tup0, ix_lst1, ix_tup1, ix_tup2, ix_lst2, ix_lst3, ↓lm_append, ↓set_ix, ↓ixK_own, ↓ixK_cell, ↓flK_next, ↓flK_cont, ↓flK_brk, ↓flK_ret, range0, Int.toNat_natCast, ixN_0, ixN_1, ixN_2, ixN_3, apK_own, and_self, setF_end, x_fn, bigK_m, b_mod, b_div, b_mul, b_pow, smK_nat, in_lst, in_tup, nin_lst, nin_tup, putF, List.lookup, List.length_cons, List.length_nil, Nat.reduceAdd, decide_true, decide_false, Bool.not_true, Bool.not_false, if_true, Nat.reduceLT, Nat.reduceLeDiff, Nat.reduceEqDiff, Nat.reduceBEq, beq_self_eq_true, Int.reduceLT, Int.reduceLE, Int.reduceEq, Int.reduceAdd, Int.reduceSub, Int.reduceNeg, Int.reduceToNat, Bool.false_eq_true, List.set_cons_succ, List.set_cons_zero, List.getElem?_cons_succ, List.getElem?_cons_zero, Int.cast_ofNat_Int, eq_self, if_false, List.cons_append, List.nil_append, Option.isNone_none])
/-! ### the law's own part (k27) -/
section
variable {rows : List LRow} {h : List Cell}
theorem asc_nodup {l : List Nat} (h : Asc l) : l.Nodup := List.Pairwise.imp (fun h => Nat.ne_of_lt h) h
theorem LsOk.row (ok : LsOk rows) : RowsOk rows := fun i r hr => by
  obtain ⟨⟨b1, b2, b3⟩, o2, o3, o4, o5⟩ := ok i r hr
  exact ⟨b1, b2, o2, asc_nodup o3, o4, o5⟩
theorem LsOk.norm (ok : LsOk rows) : rows.map norm = rows := by
  refine (List.map_congr_left fun r hr => ?_).trans (List.map_id _)
  obtain ⟨i, hi⟩ := List.mem_iff_getElem?.mp hr
  obtain ⟨_, _, o3, _, _⟩ := ok i r hi
  show (r.1, r.2.1, sortM r.2.2) = id r
  rw [sortM_of_asc o3]
  rfl
theorem lrs_get {i : Nat} : (lrsD rows)[i]? = (rows[i]?).map lrD := by unfold lrsD; simp
theorem lrs_ens : Ens (lrsD rows) rows := ⟨lrs_len, fun i d r hd hr => by
  rw [lrs_get, hr] at hd
  cases hd
  exact ⟨_, _, .inr rfl, .inl rfl, .inl rfl⟩⟩
theorem lls_at {l : List (List Nat)} {c : Nat} (h : c < l.length) : (lls l)[c]? = some (.lst (ns (l.getD c []))) := by
  unfold lls
  rw [List.getElem?_map, List.getD_eq_getElem?_getD, List.getElem?_eq_getElem h]; rfl
theorem lls_snoc {l : List (List Nat)} {r : List Nat} : lls (l ++ [r]) = lls l ++ [.lst (ns r)] := by unfold lls; simp
theorem law_elders_ok (ok : LsOk rows) (hl : rows.length ≤ 12) : f__law_elders_2534 [.lst (lrsD rows)] h = .ok (.own (lls (elders (basesR rows)))) h := by
  apply fow_eq
  simpa! only [f__law_elders_2534, c__law_elders_2534]
  refine wp_for (en := lrD) (fun pre s => ∃ x2 x3 x4 x5 x6, s = ⟨[.val (.lst (lrsD rows)), .own (lls (elders (basesR pre))), x2, x3, x4, x5, x6], h⟩) ⟨_, _, _, _, _, rfl⟩ ?_ ?_
  · rintro _ ⟨x2, x3, x4, x5, x6, rfl⟩
    simpa! only [c__law_elders_2534]
  · rintro pre r suf _ el ⟨x2, x3, x4, x5, x6, rfl⟩
    have hbp : Bel (basesR pre ++ [r.1]) := by
      have := ok.row.bel
      rw [el] at this
      unfold basesR at this ⊢
      rw [List.map_append, List.map_cons] at this
      exact Bel.pre (suf := suf.map fun r => r.1) (by simpa using this)
    have hpl : pre.length + 1 ≤ 12 := by rw [el] at hl; simp at hl; omega
    have hown : r.1.length ≤ 3 := (ok pre.length r (by rw [el]; simp)).1.2.2
    have eo := elders_ok hbp.init
    have hlen : (lls (elders (basesR pre))).length < big := by rw [lls_len, elders_len, basesR_len]; unfold big; omega
    unfold lrD
    simpa! only [c__law_elders_2534, c__law_elders_2534_2]
    refine wp_forN (fun done s => ∃ z, s = ⟨[.val (.lst (lrsD rows)), .own (lls (elders (basesR pre))), .val (.lst (ns r.1)), .val (.int r.2.1), .val (.lst (ns r.2.2)), .val (.lst (ns (done.flatMap fun b => b :: (elders (basesR pre)).getD b []))), z], h⟩) ⟨_, rfl⟩ ?_ ?_
    · rintro _ ⟨z, rfl⟩
      have f1 : (r.1.flatMap fun b => b :: (elders (basesR pre)).getD b []).length ≤ r.1.length * 61 := flat_len fun b hb => by
        have h1 := hbp.last b hb
        rw [← elders_len] at h1
        rw [List.getD_eq_getElem?_getD, List.getElem?_eq_getElem h1]
        have := eo b _ (List.getElem?_eq_getElem h1)
        have := asc_len0 this.1 this.2
        rw [elders_len, basesR_len] at h1
        simp only [Option.getD_some, List.length_cons]
        omega
      have f2 := elders_ok hbp (basesR pre).length (sortN (r.1.flatMap fun b => b :: (elders (basesR pre)).getD b [])) (by rw [elders_snoc, ← elders_len (basesR pre)]; simp)
      have f3 := asc_len0 f2.1 f2.2
      rw [basesR_len] at f3
      have u := u_sset (l := r.1.flatMap fun b => b :: (elders (basesR pre)).getD b []) (by omega) (by omega)
      simpa! only [u, hlen, c__law_elders_2534]
      have e : lls (elders (basesR pre)) ++ [.lst (ns (sortN (r.1.flatMap fun b => b :: (elders (basesR pre)).getD b [])))] = lls (elders (basesR (pre ++ [r]))) := by
        rw [show basesR (pre ++ [r]) = basesR pre ++ [r.1] by unfold basesR; simp, elders_snoc, lls_snoc]
      rw [e]
      exact ⟨_, _, _, _, _, rfl⟩
    · rintro done b rest _ el2 ⟨z, rfl⟩
      have h1 := hbp.last b (by rw [el2]; simp)
      rw [← elders_len] at h1
      have g1 := lls_at h1
      have g0 : (elders (basesR pre)).getD b [] = (elders (basesR pre))[b] := by rw [List.getD_eq_getElem?_getD, List.getElem?_eq_getElem h1]; rfl
      have g2 := asc_len0 (eo b _ (List.getElem?_eq_getElem h1)).1 (eo b _ (List.getElem?_eq_getElem h1)).2
      rw [← g0] at g2
      have f1 : (done.flatMap fun b => b :: (elders (basesR pre)).getD b []).length ≤ done.length * 61 := flat_len fun b hb => by
        have h1 := hbp.last b (by rw [el2]; simp [hb])
        rw [← elders_len] at h1
        rw [List.getD_eq_getElem?_getD, List.getElem?_eq_getElem h1]
        have := eo b _ (List.getElem?_eq_getElem h1)
        have := asc_len0 this.1 this.2
        rw [elders_len, basesR_len] at h1
        simp only [Option.getD_some, List.length_cons]
        omega
      have hd : done.length ≤ 3 := by rw [el2] at hown; simp at hown; omega
      rw [elders_len, basesR_len] at h1
      have a1 : (ns (done.flatMap fun b => b :: (elders (basesR pre)).getD b [])).length + [D.int b].length ≤ big := by rw [ns_len]; unfold big; simp only [List.length_cons, List.length_nil]; omega
      have a2 : (ns (done.flatMap fun b => b :: (elders (basesR pre)).getD b []) ++ [D.int b]).length + (ns ((elders (basesR pre)).getD b [])).length ≤ big := by
        rw [List.length_append, ns_len, ns_len]; unfold big; simp only [List.length_cons, List.length_nil]; omega
      simpa! only [g1, b_addL a1, b_addL a2, c__law_elders_2534, c__law_elders_2534_1]
      have e : ns ((done ++ [b]).flatMap fun b => b :: (elders (basesR pre)).getD b []) = ns (done.flatMap fun b => b :: (elders (basesR pre)).getD b []) ++ [D.int b] ++ ns ((elders (basesR pre)).getD b []) := by
        rw [List.flatMap_append, ns_app]
        simp only [List.flatMap_cons, List.flatMap_nil, List.append_nil, List.append_assoc]
        rfl
      rw [e]
      exact ⟨_, rfl⟩
/-! the same sums -/
theorem lrow_at {c : Nat} (h : c < rows.length) : ∃ r, (lrsD rows)[c]? = some (lrD r) ∧ r.2.2 = me rows c := by
  have q := List.getElem?_eq_getElem h
  refine ⟨rows[c], by rw [lrs_get, q]; rfl, ?_⟩
  unfold me methsR
  rw [List.getD_eq_getElem?_getD, List.getElem?_map, q]
  rfl
theorem lel_at {c : Nat} (h : c < rows.length) : (lls (elders (basesR rows)))[c]? = some (.lst (ns (el rows c))) := lls_at (by rw [elders_len, basesR_len]; exact h)
theorem law_tops_ok (h12 : rows.length ≤ 12) {lot : List Nat} (hl : ∀ x ∈ lot, x < rows.length) (hlen : lot.length ≤ 100) : f__law_tops [.lst (lls (elders (basesR rows))), .lst (ns lot)] h = .ok (.own (ns (topsN rows lot))) h := by
  apply fow_eq
  have s1 : (sortN lot).length ≤ 12 := Nat.le_trans (asc_len0 (n := rows.length) (sortN_asc lot) fun x hx => hl x (sortN_mem.mp hx)) h12
  have u := u_sset (l := lot) (by omega) (by omega)
  simpa! only [u, f__law_tops, c__law_tops]
  refine lc_fil (fun c => (lot.filter fun one => decide (c ∈ LawP.el rows one)).isEmpty) (.inl rfl) (by unfold big; omega) ?_ ?_
  · intro c hc
    simpa! only [c__law_tops]
    refine lc_fil (fun one => decide (c ∈ LawP.el rows one)) (.inl rfl) (by unfold big; omega) ?_ ?_
    · intro x hx
      have g := lel_at (hl x hx)
      simpa! only [g, c__law_tops]
      exact bK_same rfl
    · simpa! only [isEmpty_ns, Bool.not_not, c__law_tops]
      exact bK_same rfl
  · simpa! only [c__law_tops]
    exact ⟨rfl, trivial⟩
theorem el_end (ok : RowsOk rows) (c : Nat) : Asc (LawP.el rows c ++ [c]) := by
  have := el_ok ok c
  refine List.pairwise_append.mpr ⟨this.1, by simp, fun x hx y hy => ?_⟩
  simp at hy
  rw [hy]
  exact this.2 x hx
theorem law_defining_ok (ok : RowsOk rows) (h12 : rows.length ≤ 12) {c n : Nat} (hc : c < rows.length) : f__law_defining [.lst (lrsD rows), .lst (lls (elders (basesR rows))), .int c, .int n] h = .ok (.own (ns (defN rows c n))) h := by
  apply fow_eq
  have g := lel_at hc
  have hlen := el_len ok c
  have e3 := b_addL (xs := ns (LawP.el rows c)) (ys := [.int c]) (by rw [ns_len]; unfold big; simp only [List.length_cons, List.length_nil]; omega)
  have e4 : ns (LawP.el rows c) ++ [D.int c] = ns (LawP.el rows c ++ [c]) := by rw [ns_app]; rfl
  have u : biSem .sorted [.lst (ns (LawP.el rows c ++ [c]))] = some (.own (ns (LawP.el rows c ++ [c]))) := by rw [u_sort, sortM_of_asc (el_end ok c)]
  simpa! only [g, e3, e4, u, f__law_defining, c__law_defining]
  refine lc_fil (fun one => decide (n ∈ me rows one)) (.inl rfl) (by simp; unfold big; omega) ?_ ?_
  · intro x hx
    have hx2 : x < rows.length := by
      rcases List.mem_append.mp hx with z | z
      · have := (el_ok ok c).2 x z
        omega
      · simp at z; omega
    obtain ⟨r, g2, g3⟩ := lrow_at hx2
    simpa! only [g2, lrD, g3, c__law_defining]
    exact bK_same rfl
  · simpa! only [c__law_defining]
    exact ⟨rfl, trivial⟩
theorem law_answers_ok (ok : RowsOk rows) (h12 : rows.length ≤ 12) {c n : Nat} (hc : c < rows.length) : f__law_answers_53d9 [.lst (lrsD rows), .lst (lls (elders (basesR rows))), .int c, .int n] h = .ok (.own (ns (ansN rows c n))) h := by
  apply fow_eq
  have e1 := law_defining_ok (h := h) ok h12 (n := n) hc
  have e2 := law_tops_ok (h := h) h12 (defN_lt ok (n := n) hc) (by have := defN_len (rows := rows) ok (c := c) (n := n); omega)
  simpa! only [e1, e2, f__law_answers_53d9, c__law_answers_53d9, e__law_answers_53d9_0, e__law_answers_53d9_1]
  exact ⟨rfl, trivial⟩
/-- the word for the definer -/
def dueD (l : List Nat) (c n : Nat) : D := match l with
  | [] => .tup [.str "none", .int c, .int n]
  | [a] => .int a
  | a :: b :: _ => .tup [.str "two", .int c, .int n, .int a, .int b]
theorem law_definer_ok (ok : RowsOk rows) (h12 : rows.length ≤ 12) {c n : Nat} (hc : c < rows.length) (hn : n ≤ 5) : f__law_definer [worldD rows, .int c, .int n] h = .ok (.val (dueD (ansN rows c n) c n)) h := by
  apply fow_eq
  cases ha : ansN rows c n with
  | nil =>
    have e := definer_of_none (h := h) ok h12 hc hn ha
    simpa! only [e, f__law_definer, c__law_definer, e__law_definer_0, e__law_definer_1, e__law_definer_2, e__law_definer_3, e__law_definer_4, e__law_definer_5, e__law_definer_6, e__law_definer_7, e__law_definer_8, e__law_definer_9, e__law_definer_10, e__law_definer_11, e__law_definer_12, e__law_definer_13, e__law_definer_14]
    exact ⟨rfl, trivial⟩
  | cons a l => cases l with
    | nil =>
      have e := definer_of_one (h := h) ok h12 hc hn ha
      simpa! only [e, f__law_definer, c__law_definer, e__law_definer_0, e__law_definer_1, e__law_definer_2, e__law_definer_3, e__law_definer_4, e__law_definer_5, e__law_definer_6, e__law_definer_7, e__law_definer_8, e__law_definer_9, e__law_definer_10, e__law_definer_11, e__law_definer_12, e__law_definer_13, e__law_definer_14]
      exact ⟨rfl, trivial⟩
    | cons b l =>
      have e := definer_of_two (h := h) ok h12 hc hn ha
      simpa! only [e, f__law_definer, c__law_definer, e__law_definer_0, e__law_definer_1, e__law_definer_2, e__law_definer_3, e__law_definer_4, e__law_definer_5, e__law_definer_6, e__law_definer_7, e__law_definer_8, e__law_definer_9, e__law_definer_10, e__law_definer_11, e__law_definer_12, e__law_definer_13, e__law_definer_14]
      exact ⟨rfl, trivial⟩
theorem eq_nil_lst {l : List Nat} : cmpSem .eq (.lst (ns l)) (.lst []) = some l.isEmpty := by
  have f : ∀ l : List Nat, D.fits 60 (ns l) = true := fun l => by
    induction l with
    | nil => rfl
    | cons a l ih => rw [ns_cons]; unfold D.fits; rw [ih]; rfl
  have f1 : D.fit depthMax (.lst (ns l)) = true := by unfold D.fit; exact f l
  have f2 : D.fit depthMax (.lst []) = true := by unfold D.fit; exact f []
  show (if (D.fit depthMax (.lst (ns l)) && D.fit depthMax (.lst [])) = true then some (D.eqv (.lst (ns l)) (.lst [])) else none) = _
  rw [f1, f2]
  cases l <;> rfl
theorem law_due_ok {l : List Nat} {c n : Nat} : f__law_definer_due [.lst (ns l), .int c, .int n] h = .ok (.val (dueD l c n)) h := by
  apply fow_eq
  cases l with
  | nil =>
    have e := eq_nil_lst (l := [])
    rw [ns_nil] at e
    simpa! only [ns_nil, e, List.isEmpty_nil, f__law_definer_due, c__law_definer_due]
    exact ⟨rfl, trivial⟩
  | cons a l => cases l with
    | nil =>
      have e := eq_nil_lst (l := [a])
      rw [ns_cons, ns_nil] at e
      simpa! only [ns_cons, ns_nil, e, List.isEmpty_cons, f__law_definer_due, c__law_definer_due]
      exact ⟨rfl, trivial⟩
    | cons b l =>
      have e := eq_nil_lst (l := a :: b :: l)
      rw [ns_cons, ns_cons] at e
      have q : ¬ ((((ns l).length + 1 + 1 : Nat) : Int) = 1) := by omega
      simpa! only [ns_cons, e, List.isEmpty_cons, q, f__law_definer_due, c__law_definer_due]
      exact ⟨rfl, trivial⟩
theorem law_off_ok (ok : RowsOk rows) (h12 : rows.length ≤ 12) {n : Nat} : f__law_off [.lst (lrsD rows), .lst (lls (elders (basesR rows))), .int n] h = .ok (.val (offD (offN rows (lotN rows n)))) h := by
  apply fow_eq
  have n6 : rows.length < 1000000 := by omega
  simpa! only [lrs_len, n6, f__law_off, c__law_off]
  refine lc_fil (fun c => decide (n ∈ me rows c)) (.inl rfl) (by simp; unfold big; omega) ?_ ?_
  · intro c hc
    obtain ⟨r, g2, g3⟩ := lrow_at (List.mem_range.mp hc)
    simpa! only [g2, lrD, g3, c__law_off]
    exact bK_same rfl
  · simpa! only [c__law_off]
    rw [show ((List.range rows.length).filter fun c => decide (n ∈ me rows c)) = lotN rows n from rfl]
    have hlot : ∀ x ∈ lotN rows n, x < rows.length := fun x hx => List.mem_range.mp (List.mem_filter.mp hx).1
    have hasc : Asc (lotN rows n) := List.Pairwise.filter _ List.pairwise_lt_range
    refine wp_forN (fun pre s => (∀ suf, lotN rows n = pre ++ suf → offN rows (lotN rows n) = offN rows suf) ∧ ∃ x y z, s = ⟨[.val (.lst (lrsD rows)), .val (.lst (lls (elders (basesR rows)))), .val (.int n), .val (.lst (ns (lotN rows n))), x, y, z], h⟩) ⟨fun suf e => by rw [e]; rfl, _, _, _, rfl⟩ ?_ ?_
    · rintro _ ⟨q, x, y, z, rfl⟩
      simpa! only [c__law_off]
      rw [q [] (by simp)]
      exact ⟨rfl, trivial⟩
    · rintro pre a suf _ el2 ⟨q, x, y, z, rfl⟩
      have q := q _ el2
      rw [el2] at hasc
      have hp := List.pairwise_append.mp hasc
      have hs := List.pairwise_cons.mp hp.2.1
      simpa! only [c__law_off, c__law_off_2]
      refine wp_forN (fun pre2 s => (∀ b ∈ pre2, a < b → a ∈ LawP.el rows b) ∧ ∃ y z, s = ⟨[.val (.lst (lrsD rows)), .val (.lst (lls (elders (basesR rows)))), .val (.int n), .val (.lst (ns (lotN rows n))), .val (.int a), y, z], h⟩) ⟨by simp, _, _, rfl⟩ ?_ ?_
      · rintro _ ⟨p, y, z, rfl⟩
        simpa! only [c__law_off]
        refine ⟨fun suf2 e => ?_, _, _, _, rfl⟩
        have e2 : suf2 = suf := by
          rw [el2] at e
          simpa using e.symm
        subst e2
        rw [q]
        refine offN_none ?_
        unfold offB
        rw [List.find?_eq_none.mpr]
        · rfl
        · intro b hb
          simp [p b (by rw [el2]; simp [hb]) (hs.1 b hb)]
      · rintro pre2 b suf2 _ el3 ⟨p, y, z, rfl⟩
        have hb : b < rows.length := hlot b (by rw [el3]; simp)
        have g := lel_at hb
        by_cases hab : (a : Int) < (b : Int)
        · by_cases m : a ∈ LawP.el rows b
          · simpa! only [hab, g, m, c__law_off, c__law_off_1]
            exact ⟨fun c hc hac => by
              rcases List.mem_append.mp hc with hc | hc
              · exact p c hc hac
              · simp at hc; rw [hc]; exact m, _, _, rfl⟩
          · simpa! only [hab, g, m, c__law_off, c__law_off_1]
            refine ⟨?_, trivial⟩
            -- b stands behind a
            have hbs : b ∈ suf := by
              have hm : b ∈ pre ++ a :: suf := by rw [← el2, el3]; simp
              rcases List.mem_append.mp hm with z | z
              · have := hp.2.2 b z a List.mem_cons_self
                omega
              · rcases List.mem_cons.mp z with z | z
                · omega
                · exact z
            have key : ∀ c ∈ suf, c < b → a ∈ LawP.el rows c := fun c hc hcb => by
              refine p c ?_ (hs.1 c hc)
              have hm : c ∈ pre2 ++ b :: suf2 := by rw [← el3, el2]; simp [hc]
              rcases List.mem_append.mp hm with z | z
              · exact z
              · have h3 : Asc (pre2 ++ b :: suf2) := by rw [← el3, el2]; exact hasc
                have h4 := List.pairwise_cons.mp (List.pairwise_append.mp h3).2.1
                rcases List.mem_cons.mp z with z | z
                · omega
                · have := h4.1 c z; omega
            obtain ⟨s1, s2, es⟩ := List.append_of_mem hbs
            have : offB rows a suf = some (a, b) := by
              unfold offB
              have hsuf := hs.2
              rw [es] at hsuf
              rw [es, List.find?_append, List.find?_eq_none.mpr fun c hc => by
                have c1 := (List.pairwise_append.mp hsuf).2.2 c hc b List.mem_cons_self
                simp [key c (by rw [es]; simp [hc]) c1]]
              simp [m]
            rw [q, offN_some this]
            rfl
        · simpa! only [hab, c__law_off, c__law_off_1]
          exact ⟨fun c hc hac => by
              rcases List.mem_append.mp hc with hc | hc
              · exact p c hc hac
              · simp at hc; omega, _, _, rfl⟩
end
end LawP
set_option Elab.async false
set_option linter.all false
set_option maxRecDepth 100000
set_option maxHeartbeats 0
namespace LawP
open PySem MP
local macro_rules
  | `(tactic| simpa! only [$ls,*]) => `(tactic| simp -implicitDefEqProofs only [$ls,*, ↓wp_ok, ↓wp_bad, ↓wp_exc, ↓wp_opt, ↓ow_bind, ↓ow_map, ↓ow_some, ↓ow_none, ↓fow_ok, ↓fow_exc, ↓bK_t, ↓bK_f, ↓bK_not, ↓lk0, ↓lkS, ↓stK0, ↓stKS, ↓see_int, ↓see_bl, ↓see_str, ↓see_non, ↓see_tup, ↓see_lst, ↓see_ext, ↓see_rng, ↓see_ins, ↓see_cell, ↓cellD_lst, ↓cellD_ins, ↓hpK_0, ↓hpK_end, ↓get_dat, ↓get_sl, ↓slotP_val, ↓slotP_own, ↓varK_val, ↓varK_own, ↓varRK_val, ↓varRK_own, ↓varPK_val, ↓varPK_own, ↓x_var_v, ↓x_var_p, ↓x_var_t, ↓x_ret_var, ↓x_int_v, ↓x_int_p, ↓x_int_t, ↓x_bl_v, ↓x_bl_p, ↓x_bl_t, ↓x_non_v, ↓x_non_p, ↓x_non_t, ↓x_str_v, ↓x_str_p, ↓x_str_t, ↓x_bin_v, ↓x_bin_p, ↓x_bin_t, ↓x_neg_v, ↓x_neg_p, ↓x_neg_t, ↓x_cmp_v, ↓x_cmp_p, ↓x_cmp_t, ↓x_chain_v, ↓x_chain_p, ↓x_chain_t, ↓x_tup_v, ↓x_tup_p, ↓x_tup_t, ↓x_lst_v, ↓x_lst_p, ↓x_lst_t, ↓x_ix_v, ↓x_ix_p, ↓x_ix_t, ↓x_slc_v, ↓x_slc_p, ↓x_slc_t, ↓x_rev_v, ↓x_rev_p, ↓x_rev_t, ↓fldK_ins, ↓x_fld_v, ↓x_fld_p, ↓x_fld_t, ↓x_call_v, ↓x_call_p, ↓x_call_t, ↓x_mk_v, ↓x_mk_p, ↓x_mk_t, ↓x_bi_v, ↓x_bi_p, ↓x_bi_t, ↓x_isi_v, ↓x_isi_p, ↓x_isi_t, ↓x_lend_p, ↓x_im_v, ↓x_im_p, ↓x_im_t, ↓x_lm_v, ↓x_lm_p, ↓x_lm_t, ↓x_xf_v, ↓x_xf_p, ↓x_xf_t, ↓blK_bl, ↓x_eqI_v, ↓x_eqI_p, ↓x_eqI_t, ↓x_lenSet_v, ↓x_lenSet_p, ↓x_lenSet_t, ↓x_rng1_v, ↓x_rng1_p, ↓x_rng1_t, ↓x_rng2_v, ↓x_rng2_p, ↓x_rng2_t, ↓x_lc_v, ↓x_lc_p, ↓x_lc_t, ↓x_not_v, ↓x_not_t, ↓x_not_p, ↓x_and_v, ↓x_and_t, ↓x_and_p, ↓x_or_v, ↓x_or_t, ↓x_or_p, ↓x_ite_v, ↓x_ite_t, ↓x_ite_p, ↓x_vnil, ↓x_vcons, ↓x_pnil, ↓x_pcons, ↓gets_nil, ↓gets_cons, ↓x_inil, ↓x_icons, ↓x_ono, ↓x_oso, ↓walk_dat, ↓walkS_val, ↓walkS_own, ↓walk_sl, ↓x_seq, ↓x_r1, ↓x_r2, ↓seq_dat, ↓seqS_val, ↓seqS_own, ↓seq_sl, ↓x_enum, ↓x_zip, ↓fl_next, ↓fl_brk, ↓fl_cont, ↓fl_ret, ↓x_nil, ↓x_cons, ↓x_asg, ↓asg_val, ↓asg_own_val, ↓asg_own_own, ↓asg_own_cell, ↓tg_name, ↓tg_tup, ↓puts_nil, ↓puts_cons, ↓x_asgT, ↓x_setIx, ↓x_setF, ↓x_ex, ↓x_ret, ↓x_retN, ↓x_if, ↓x_for, ↓x_whl, ↓x_brk, ↓x_cont, ↓x_pass, ↓x_raise, ↓x_try, ↓x_hnil, ↓x_hconsN, ↓x_hconsS, ↓fret_next, ↓fret_ret, ↓ent_nil, ↓ent_cons, ↓nos0, ↓nosS, hp_mk, sl_mk, d_val, d_own, ↓negK_int, ↓intK_int, ↓lstK_lst, ↓insK_ins, ↓excK_exc, ↓bigK_nil, ↓bigK_1, ↓bigK_2, ↓bigK_3, ↓bigK_4, ↓bigK_5, ↓fnK0, ↓fnK1, ↓fnK12, ↓fnK2, ↓mkK_some, ↓xcK_1, ↓xcK_2, ↓xcK_3, ↓xcK_4, ↓xcK_5, ↓xkK_t, ↓xkK_f, ↓clK_nil, ↓clK_val, ↓clK_own, ↓clK_no, ↓smK_t, ↓r_int, ↓r_bl, ↓r_non, ↓r_str, ↓r_bin, ↓r_neg, ↓r_not, ↓r_cmp, ↓r_chain, ↓r_and, ↓r_or, ↓r_ite, ↓r_tup, ↓r_lst, ↓r_ix, ↓r_slc, ↓r_rev, ↓r_fld, ↓r_call, ↓r_mk, ↓r_bi, ↓r_isi, ↓r_im, ↓r_lm, ↓r_lc, ↓r_eqI, ↓r_lenSet, ↓r_xf, b_add, b_sub, c_lt, c_le, c_gt, c_ge, c_eq, c_ne, c_isN_non, c_isN_int, c_isN_str, c_isN_tup, c_isN_lst, c_notN_non, c_notN_int, c_notN_str, c_notN_tup, c_notN_lst, tr_bl, tr_non, tr_int, tr_tup, tr_lst, u_lenL, u_lenT, u_lenE, u_abs, u_int, u_tupL, u_tupT, u_lstL, u_lstT, u_max2, u_min2, q_lst, q_tup, q_ext, w_lst, w_tup, w_ext, s_lst, s_tup, cut_take, cut_drop, ix_lst, ix_tup, ix_lst0, ix_tup0, ix_lst1, ix_tup1, ix_tup2, ix_lst2, ix_lst3, ↓lm_append, ↓set_ix, ↓ixK_own, ↓ixK_cell, ↓flK_next, ↓flK_cont, ↓flK_brk, ↓flK_ret, range0, Int.toNat_natCast, ixN_0, ixN_1, ixN_2, ixN_3, apK_own, and_self, setF_end, x_fn, bigK_m, b_mod, b_div, b_mul, b_pow, smK_nat, in_lst, in_tup, nin_lst, nin_tup, putF, List.lookup, List.length_cons, List.length_nil, Nat.reduceAdd, decide_true, decide_false, Bool.not_true, Bool.not_false, if_true, Nat.reduceLT, Nat.reduceLeDiff, Nat.reduceEqDiff, Nat.reduceBEq, beq_self_eq_true, Int.reduceLT, Int.reduceLE, Int.reduceEq, Int.reduceAdd, Int.reduceSub, Int.reduceNeg, Int.reduceToNat, Bool.false_eq_true, List.set_cons_succ, List.set_cons_zero, List.getElem?_cons_succ, List.getElem?_cons_zero, Int.cast_ofNat_Int, eq_self, if_false, List.cons_append, List.nil_append, Option.isNone_none])
/-! ### elders: whose, of whom -/
section
variable {rows : List Row} {r : Row}
theorem el_app_lt {c : Nat} (hc : c < rows.length) : el (rows ++ [r]) c = el rows c := by
  unfold el
  have e : basesR (rows ++ [r]) = basesR rows ++ [r.1] := by unfold basesR; simp
  rw [e, elders_snoc, List.getD_eq_getElem?_getD, List.getD_eq_getElem?_getD, List.getElem?_append_left (by rw [elders_len, basesR_len]; exact hc)]
theorem el_app_last : el (rows ++ [r]) rows.length = sortN (r.1.flatMap fun b => b :: el rows b) := by
  unfold el
  have e : basesR (rows ++ [r]) = basesR rows ++ [r.1] := by unfold basesR; simp
  rw [e, elders_snoc, List.getD_eq_getElem?_getD, List.getElem?_append_right (by rw [elders_len, basesR_len]; exact Nat.le_refl _), elders_len, basesR_len, Nat.sub_self]
  rfl
/-- the bases of a class -/
def ba (rows : List Row) (c : Nat) : List Nat := (basesR rows).getD c []
theorem ba_app_lt {c : Nat} (hc : c < rows.length) : ba (rows ++ [r]) c = ba rows c := by
  unfold ba basesR
  rw [List.map_append, List.getD_eq_getElem?_getD, List.getD_eq_getElem?_getD, List.getElem?_append_left (by simpa using hc)]
theorem ba_app_last : ba (rows ++ [r]) rows.length = r.1 := by
  unfold ba basesR
  rw [List.map_append, List.getD_eq_getElem?_getD, List.getElem?_append_right (by simp)]
  simp
theorem RowsOk.of_app {rows : List Row} {r : Row} (ok : RowsOk (rows ++ [r])) : RowsOk rows := fun i x hx => ok i x (by
  rw [List.getElem?_append_left (List.getElem?_eq_some_iff.mp hx).1]; exact hx)
theorem ba_lt (ok : RowsOk rows) {c : Nat} : ∀ b ∈ ba rows c, b < c := by
  intro b hb
  unfold ba at hb
  rw [List.getD_eq_getElem?_getD] at hb
  cases q : (basesR rows)[c]? with
  | none => rw [q] at hb; cases hb
  | some l => rw [q] at hb; exact ok.bel c l q b hb
theorem el_mem : ∀ {rows : List Row}, RowsOk rows → ∀ {c : Nat}, c < rows.length → ∀ {x : Nat}, x ∈ el rows c ↔ ∃ b ∈ ba rows c, x = b ∨ x ∈ el rows b := by
  intro rows
  refine snoc_ind (P := fun rows => RowsOk rows → ∀ {c : Nat}, c < rows.length → ∀ {x : Nat}, x ∈ el rows c ↔ ∃ b ∈ ba rows c, x = b ∨ x ∈ el rows b) (fun _ c hc => by simp at hc) (fun rows r ih ok c hc x => ?_) rows
  rw [List.length_append] at hc
  by_cases q : c < rows.length
  · rw [el_app_lt q, ba_app_lt q, ih ok.of_app q]
    have bl := ba_lt ok.of_app (c := c)
    exact ⟨fun ⟨b, h1, h2⟩ => ⟨b, h1, by rw [el_app_lt (by have := bl b h1; omega)]; exact h2⟩, fun ⟨b, h1, h2⟩ => ⟨b, h1, by rw [el_app_lt (by have := bl b h1; omega)] at h2; exact h2⟩⟩
  · have e : c = rows.length := by simp at hc; omega
    subst e
    rw [el_app_last, ba_app_last, sortN_mem, List.mem_flatMap]
    have bl := ba_lt ok (c := rows.length)
    rw [ba_app_last] at bl
    refine exists_congr fun b => and_congr_right fun h1 => ?_
    rw [List.mem_cons, el_app_lt (bl b h1)]
theorem el_trans (ok : RowsOk rows) {x y : Nat} : ∀ {c : Nat}, c < rows.length → x ∈ el rows c → y ∈ el rows x → y ∈ el rows c := by
  intro c
  induction c using Nat.strongRecOn with
  | _ c ih =>
    intro hc hx hy
    obtain ⟨b, h1, h2⟩ := (el_mem ok hc).mp hx
    have bl := ba_lt ok b h1
    rcases h2 with rfl | h2
    · exact (el_mem ok hc).mpr ⟨x, h1, .inr hy⟩
    · exact (el_mem ok hc).mpr ⟨b, h1, .inr (ih b bl (by omega) h2 hy)⟩
end
end LawP
set_option Elab.async false
set_option linter.all false
set_option maxRecDepth 100000
set_option maxHeartbeats 0
namespace LawP
open PySem MP
local macro_rules
  | `(tactic| simpa! only [$ls,*]) => `(tactic| simp -implicitDefEqProofs only [$ls,*, ↓wp_ok, ↓wp_bad, ↓wp_exc, ↓wp_opt, ↓ow_bind, ↓ow_map, ↓ow_some, ↓ow_none, ↓fow_ok, ↓fow_exc, ↓bK_t, ↓bK_f, ↓bK_not, ↓lk0, ↓lkS, ↓stK0, ↓stKS, ↓see_int, ↓see_bl, ↓see_str, ↓see_non, ↓see_tup, ↓see_lst, ↓see_ext, ↓see_rng, ↓see_ins, ↓see_cell, ↓cellD_lst, ↓cellD_ins, ↓hpK_0, ↓hpK_end, ↓get_dat, ↓get_sl, ↓slotP_val, ↓slotP_own, ↓varK_val, ↓varK_own, ↓varRK_val, ↓varRK_own, ↓varPK_val, ↓varPK_own, ↓x_var_v, ↓x_var_p, ↓x_var_t, ↓x_ret_var, ↓x_int_v, ↓x_int_p, ↓x_int_t, ↓x_bl_v, ↓x_bl_p, ↓x_bl_t, ↓x_non_v, ↓x_non_p, ↓x_non_t, ↓x_str_v, ↓x_str_p, ↓x_str_t, ↓x_bin_v, ↓x_bin_p, ↓x_bin_t, ↓x_neg_v, ↓x_neg_p, ↓x_neg_t, ↓x_cmp_v, ↓x_cmp_p, ↓x_cmp_t, ↓x_chain_v, ↓x_chain_p, ↓x_chain_t, ↓x_tup_v, ↓x_tup_p, ↓x_tup_t, ↓x_lst_v, ↓x_lst_p, ↓x_lst_t, ↓x_ix_v, ↓x_ix_p, ↓x_ix_t, ↓x_slc_v, ↓x_slc_p, ↓x_slc_t, ↓x_rev_v, ↓x_rev_p, ↓x_rev_t, ↓fldK_ins, ↓x_fld_v, ↓x_fld_p, ↓x_fld_t, ↓x_call_v, ↓x_call_p, ↓x_call_t, ↓x_mk_v, ↓x_mk_p, ↓x_mk_t, ↓x_bi_v, ↓x_bi_p, ↓x_bi_t, ↓x_isi_v, ↓x_isi_p, ↓x_isi_t, ↓x_lend_p, ↓x_im_v, ↓x_im_p, ↓x_im_t, ↓x_lm_v, ↓x_lm_p, ↓x_lm_t, ↓x_xf_v, ↓x_xf_p, ↓x_xf_t, ↓blK_bl, ↓x_eqI_v, ↓x_eqI_p, ↓x_eqI_t, ↓x_lenSet_v, ↓x_lenSet_p, ↓x_lenSet_t, ↓x_rng1_v, ↓x_rng1_p, ↓x_rng1_t, ↓x_rng2_v, ↓x_rng2_p, ↓x_rng2_t, ↓x_lc_v, ↓x_lc_p, ↓x_lc_t, ↓x_not_v, ↓x_not_t, ↓x_not_p, ↓x_and_v, ↓x_and_t, ↓x_and_p, ↓x_or_v, ↓x_or_t, ↓x_or_p, ↓x_ite_v, ↓x_ite_t, ↓x_ite_p, ↓x_vnil, ↓x_vcons, ↓x_pnil, ↓x_pcons, ↓gets_nil, ↓gets_cons, ↓x_inil, ↓x_icons, ↓x_ono, ↓x_oso, ↓walk_dat, ↓walkS_val, ↓walkS_own, ↓walk_sl, ↓x_seq, ↓x_r1, ↓x_r2, ↓seq_dat, ↓seqS_val, ↓seqS_own, ↓seq_sl, ↓x_enum, ↓x_zip, ↓fl_next, ↓fl_brk, ↓fl_cont, ↓fl_ret, ↓x_nil, ↓x_cons, ↓x_asg, ↓asg_val, ↓asg_own_val, ↓asg_own_own, ↓asg_own_cell, ↓tg_name, ↓tg_tup, ↓puts_nil, ↓puts_cons, ↓x_asgT, ↓x_setIx, ↓x_setF, ↓x_ex, ↓x_ret, ↓x_retN, ↓x_if, ↓x_for, ↓x_whl, ↓x_brk, ↓x_cont, ↓x_pass, ↓x_raise, ↓x_try, ↓x_hnil, ↓x_hconsN, ↓x_hconsS, ↓fret_next, ↓fret_ret, ↓ent_nil, ↓ent_cons, ↓nos0, ↓nosS, hp_mk, sl_mk, d_val, d_own, ↓negK_int, ↓intK_int, ↓lstK_lst, ↓insK_ins, ↓excK_exc, ↓bigK_nil, ↓bigK_1, ↓bigK_2, ↓bigK_3, ↓bigK_4, ↓bigK_5, ↓fnK0, ↓fnK1, ↓fnK12, ↓fnK2, ↓mkK_some, ↓xcK_1, ↓xcK_2, ↓xcK_3, ↓xcK_4, ↓xcK_5, ↓xkK_t, ↓xkK_f, ↓clK_nil, ↓clK_val, ↓clK_own, ↓clK_no, ↓smK_t, ↓r_int, ↓r_bl, ↓r_non, ↓r_str, ↓r_bin, ↓r_neg, ↓r_not, ↓r_cmp, ↓r_chain, ↓r_and, ↓r_or, ↓r_ite, ↓r_tup, ↓r_lst, ↓r_ix, ↓r_slc, ↓r_rev, ↓r_fld, ↓r_call, ↓r_mk, ↓r_bi, ↓r_isi, ↓r_im, ↓r_lm, ↓r_lc, ↓r_eqI, ↓r_lenSet, ↓r_xf, b_add, b_sub, c_lt, c_le, c_gt, c_ge, c_eq, c_ne, c_isN_non, c_isN_int, c_isN_str, c_isN_tup, c_isN_lst, c_notN_non, c_notN_int, c_notN_str, c_notN_tup, c_notN_lst, tr_bl, tr_non, tr_int, tr_tup, tr_lst, u_lenL, u_lenT, u_lenE, u_abs, u_int, u_tupL, u_tupT, u_lstL, u_lstT, u_max2, u_min2, q_lst, q_tup, q_ext, w_lst, w_tup, w_ext, s_lst, s_tup, cut_take, cut_drop, ix_lst, ix_tup, ix_lst0, ix_tup0, ix_lst1, ix_tup1, ix_tup2, ix_lst2, ix_lst3, ↓lm_append, ↓set_ix, ↓ixK_own, ↓ixK_cell, ↓flK_next, ↓flK_cont, ↓flK_brk, ↓flK_ret, range0, Int.toNat_natCast, ixN_0, ixN_1, ixN_2, ixN_3, apK_own, and_self, setF_end, x_fn, bigK_m, b_mod, b_div, b_mul, b_pow, smK_nat, in_lst, in_tup, nin_lst, nin_tup, putF, List.lookup, List.length_cons, List.length_nil, Nat.reduceAdd, decide_true, decide_false, Bool.not_true, Bool.not_false, if_true, Nat.reduceLT, Nat.reduceLeDiff, Nat.reduceEqDiff, Nat.reduceBEq, beq_self_eq_true, Int.reduceLT, Int.reduceLE, Int.reduceEq, Int.reduceAdd, Int.reduceSub, Int.reduceNeg, Int.reduceToNat, Bool.false_eq_true, List.set_cons_succ, List.set_cons_zero, List.getElem?_cons_succ, List.getElem?_cons_zero, Int.cast_ofNat_Int, eq_self, if_false, List.cons_append, List.nil_append, Option.isNone_none])
/-! ### hues -/
theorem al__law_shape_ca58 : f__law_shape_ca58 = f__law_shape_47cf := rfl
theorem al__law_classes_f9b7 : f__law_classes_f9b7 = f__law_classes_d301 := rfl
def hD : Option Nat → D
  | none => .non
  | some n => .int n
def hsD (hs : List (Option Nat)) : List D := hs.map hD
def hu (hs : List (Option Nat)) (i : Nat) : Option Nat := hs.getD i none
section
variable {hs : List (Option Nat)} {h : List Cell} {o p : Option Nat} {k : D → Prop} {i : Nat}
theorem hs_len : (hsD hs).length = hs.length := by unfold hsD; simp
theorem hs_at (h : i < hs.length) : (hsD hs)[i]? = some (hD (hu hs i)) := by
  unfold hsD hu
  rw [List.getElem?_map, List.getD_eq_getElem?_getD, List.getElem?_eq_getElem h]; rfl
theorem see_h : seeK h (hD o) k = k (hD o) := by cases o <;> rfl
theorem hfit : D.fit depthMax (hD o) = true := by cases o <;> (unfold hD D.fit; rfl)
theorem h_eq : cmpSem .eq (hD o) (hD p) = some (decide (o = p)) := by
  show (if D.fit depthMax (hD o) && D.fit depthMax (hD p) then some (D.eqv (hD o) (hD p)) else none) = _
  rw [hfit, hfit]
  cases o with
  | none => cases p <;> simp [hD, D.eqv]
  | some a =>
    cases p with
    | none => simp [hD, D.eqv]
    | some b =>
      have : D.eqv (.int (a : Int)) (.int (b : Int)) = decide (some a = some b) := by
        unfold D.eqv
        by_cases e : a = b
        · subst e; simp
        · have : ¬ ((a : Int) = (b : Int)) := by omega
          simp [e, this]
      simp [hD, this]
theorem h_notN : cmpSem .notN (hD o) .non = some o.isSome := by cases o <;> rfl
theorem h_isN : cmpSem .isN (hD o) .non = some o.isNone := by cases o <;> rfl
theorem is_hue_ok (h7 : ∀ n, o = some n → n ≤ 7) : f_is_hue [hD o] h = .ok (.val (.bl true)) h := by
  apply fow_eq
  cases o with
  | none => simpa! only [hD, f_is_hue, c_is_hue, e_is_hue_0]
  | some n =>
    have e := is_whole_in (i := n) (lo := 0) (hi := 7) h (by omega) (by have := h7 n rfl; omega)
    simpa! only [hD, e, f_is_hue, c_is_hue, e_is_hue_0]
end
section
variable {rows : List Row} {hs : List (Option Nat)} {h : List Cell}
def HuOk (hs : List (Option Nat)) : Prop := ∀ o ∈ hs, ∀ n, o = some n → n ≤ 7
theorem check_hues_ok {d : D} (s : Sq d (hsD hs)) (hl : hs.length = rows.length) (h12 : rows.length ≤ 12) (ok : HuOk hs) : f_check_hues [worldD rows, d] h = .ok (.val (.tup (hsD hs))) h := by
  apply fow_eq
  have e1 := is_sequence_ok h s
  have hl2 : ((hsD hs).length : Int) = (rowsD rows).length := by rw [hs_len, rowsD_len, hl]
  rcases s with rfl | rfl
  all_goals
    simpa! only [e1, see_world, fldW_2, hl2, f_check_hues, c_check_hues, e_check_hues_0, e_check_hues_1, e_check_hues_2, e_check_hues_3]
    refine wp_forE (fun i s => ∃ x y, s = ⟨[.val (worldD rows), _, x, y], h⟩) ⟨_, _, rfl⟩ ?_ ?_
    · rintro _ ⟨x, y, rfl⟩
      simpa! only [c_check_hues, e_check_hues_0, e_check_hues_1, e_check_hues_2, e_check_hues_3]
    · rintro i d _ hd ⟨x, y, rfl⟩
      have hi : i < hs.length := by
        have := (List.getElem?_eq_some_iff.mp hd).1
        rwa [hs_len] at this
      rw [hs_at hi] at hd
      cases hd
      have e2 := is_hue_ok (o := hu hs i) (h := h) (ok _ (by unfold hu; rw [List.getD_eq_getElem?_getD, List.getElem?_eq_getElem hi]; exact List.getElem_mem hi))
      simpa! only [e2, c_check_hues, e_check_hues_0, e_check_hues_1, e_check_hues_2, e_check_hues_3, c_check_hues_1]
      exact ⟨_, _, rfl⟩
theorem stand_off_ok (ok : RowsOk rows) {a b : Nat} (ha : a < rows.length) (hb : b < rows.length) : f_stand_off [worldD rows, .int a, .int b] h = .ok (.val (.bl (decide (a ≠ b) && !decide (a ∈ el rows b) && !decide (b ∈ el rows a)))) h := by
  apply fow_eq
  have g1 := el_get ha
  have g2 := el_get hb
  by_cases e : a = b
  · subst e
    simpa! only [see_world, fldW_6, f_stand_off, c_stand_off, e_stand_off_0]
    simp
  · have e2 : ¬ ((a : Int) = (b : Int)) := by omega
    by_cases m : a ∈ el rows b
    · simpa! only [see_world, fldW_6, g1, g2, e2, m, f_stand_off, c_stand_off, e_stand_off_0]
      simp [e, m]
    · simpa! only [see_world, fldW_6, g1, g2, e2, m, f_stand_off, c_stand_off, e_stand_off_0]
      simp [e, m]
def clB (rows : List Row) (hs : List (Option Nat)) (a b : Nat) : Option (Nat × Nat) := if a < b ∧ (hu hs a).isSome = true ∧ hu hs a = hu hs b ∧ a ∉ el rows b then some (a, b) else none
def pairN (rows : List Row) (hs : List (Option Nat)) (l : List Nat) : Option (Nat × Nat) := l.findSome? fun a => l.findSome? fun b => clB rows hs a b
def pairD : Option (Nat × Nat) → D
  | none => .non
  | some p => .tup [.int p.1, .int p.2]
def kin (rows : List Row) (c : Nat) : List Nat := el rows c ++ [c]
theorem kin_lt (ok : RowsOk rows) {c : Nat} : ∀ x ∈ kin rows c, x ≤ c := fun x hx => by
  rcases List.mem_append.mp hx with z | z
  · exact Nat.le_of_lt ((el_ok ok c).2 x z)
  · rw [List.mem_singleton.mp z]; exact Nat.le_refl _
theorem first_clash_ok (ok : RowsOk rows) {l : List Nat} (hl : hs.length = rows.length ∨ rows.length = hs.length + 1) (hb : ∀ x ∈ l, x < hs.length) : f_first_clash [worldD rows, .tup (hsD hs), .tup (ns l)] h = .ok (.val (pairD (pairN rows hs l))) h := by
  apply fow_eq
  simpa! only [see_world, f_first_clash, c_first_clash, e_first_clash_0]
  refine wp_forF (en := fun n : Nat => D.int n) (fun a => l.findSome? fun b => clB rows hs a b) (fun s => ∃ x y, s = ⟨[.val (worldD rows), .val (.tup (hsD hs)), .val (.tup (ns l)), x, y], h⟩) ⟨_, _, rfl⟩ ?_ ?_
  · rintro e _ ⟨x, y, rfl⟩
    simpa! only [c_first_clash, e_first_clash_0]
    rw [show pairN rows hs l = none from e]
    exact ⟨rfl, trivial⟩
  · rintro a _ ha ⟨x, y, rfl⟩
    simpa! only [c_first_clash, e_first_clash_0, c_first_clash_2]
    refine wp_forF (en := fun n : Nat => D.int n) (clB rows hs a) (fun s => ∃ y, s = ⟨[.val (worldD rows), .val (.tup (hsD hs)), .val (.tup (ns l)), .val (.int a), y], h⟩) ⟨_, rfl⟩ ?_ ?_
    · rintro e _ ⟨y, rfl⟩
      simpa! only [c_first_clash, e_first_clash_0]
      exact ⟨e, _, _, rfl⟩
    · rintro b _ hb' ⟨y, rfl⟩
      have g1 := hs_at (hb a ha)
      have g2 := hs_at (hb b hb')
      have la := hb a ha
      have lb := hb b hb'
      have so := stand_off_ok (h := h) ok (a := a) (b := b) (by omega) (by omega)
      by_cases h1 : (a : Int) < (b : Int)
      · have h1' : a < b := by omega
        cases h2 : (hu hs a).isSome with
        | false =>
          simpa! only [h1, g1, see_h, h_notN, h2, c_first_clash, e_first_clash_0, c_first_clash_1]
          exact ⟨by simp [clB, h2], _, rfl⟩
        | true =>
          by_cases h3 : hu hs a = hu hs b
          · have nb : b ∉ el rows a := fun z => by have := (el_ok ok a).2 b z; omega
            have h3d : decide (hu hs a = hu hs b) = true := decide_eq_true h3
            by_cases m : a ∈ el rows b
            · rw [show (decide (a ≠ b) && !decide (a ∈ el rows b) && !decide (b ∈ el rows a)) = false by simp [m]] at so
              simpa! only [h1, g1, g2, see_h, h_notN, h2, h_eq, h3d, so, c_first_clash, e_first_clash_0, c_first_clash_1]
              exact ⟨by simp [clB, m], _, rfl⟩
            · rw [show (decide (a ≠ b) && !decide (a ∈ el rows b) && !decide (b ∈ el rows a)) = true by simp [m, nb]; omega] at so
              simpa! only [h1, g1, g2, see_h, h_notN, h2, h_eq, h3d, so, c_first_clash, e_first_clash_0, c_first_clash_1]
              refine ⟨_, by unfold clB; rw [if_pos ⟨h1', h2, h3, m⟩], fun e => ?_⟩
              refine ⟨_, e, fun e2 => ?_⟩
              rw [show pairN rows hs l = _ from e2]
              exact ⟨rfl, trivial⟩
          · have h3d : decide (hu hs a = hu hs b) = false := decide_eq_false h3
            simpa! only [h1, g1, g2, see_h, h_notN, h2, h_eq, h3d, c_first_clash, e_first_clash_0, c_first_clash_1]
            exact ⟨by simp [clB, h3], _, rfl⟩
      · simpa! only [h1, c_first_clash, e_first_clash_0, c_first_clash_1]
        exact ⟨by simp [clB]; omega, _, rfl⟩
end
end LawP
set_option Elab.async false
set_option linter.all false
set_option maxRecDepth 100000
set_option maxHeartbeats 0
namespace LawP
open PySem MP
local macro_rules
  | `(tactic| simpa! only [$ls,*]) => `(tactic| simp -implicitDefEqProofs only [$ls,*, ↓wp_ok, ↓wp_bad, ↓wp_exc, ↓wp_opt, ↓ow_bind, ↓ow_map, ↓ow_some, ↓ow_none, ↓fow_ok, ↓fow_exc, ↓bK_t, ↓bK_f, ↓bK_not, ↓lk0, ↓lkS, ↓stK0, ↓stKS, ↓see_int, ↓see_bl, ↓see_str, ↓see_non, ↓see_tup, ↓see_lst, ↓see_ext, ↓see_rng, ↓see_ins, ↓see_cell, ↓cellD_lst, ↓cellD_ins, ↓hpK_0, ↓hpK_end, ↓get_dat, ↓get_sl, ↓slotP_val, ↓slotP_own, ↓varK_val, ↓varK_own, ↓varRK_val, ↓varRK_own, ↓varPK_val, ↓varPK_own, ↓x_var_v, ↓x_var_p, ↓x_var_t, ↓x_ret_var, ↓x_int_v, ↓x_int_p, ↓x_int_t, ↓x_bl_v, ↓x_bl_p, ↓x_bl_t, ↓x_non_v, ↓x_non_p, ↓x_non_t, ↓x_str_v, ↓x_str_p, ↓x_str_t, ↓x_bin_v, ↓x_bin_p, ↓x_bin_t, ↓x_neg_v, ↓x_neg_p, ↓x_neg_t, ↓x_cmp_v, ↓x_cmp_p, ↓x_cmp_t, ↓x_chain_v, ↓x_chain_p, ↓x_chain_t, ↓x_tup_v, ↓x_tup_p, ↓x_tup_t, ↓x_lst_v, ↓x_lst_p, ↓x_lst_t, ↓x_ix_v, ↓x_ix_p, ↓x_ix_t, ↓x_slc_v, ↓x_slc_p, ↓x_slc_t, ↓x_rev_v, ↓x_rev_p, ↓x_rev_t, ↓fldK_ins, ↓x_fld_v, ↓x_fld_p, ↓x_fld_t, ↓x_call_v, ↓x_call_p, ↓x_call_t, ↓x_mk_v, ↓x_mk_p, ↓x_mk_t, ↓x_bi_v, ↓x_bi_p, ↓x_bi_t, ↓x_isi_v, ↓x_isi_p, ↓x_isi_t, ↓x_lend_p, ↓x_im_v, ↓x_im_p, ↓x_im_t, ↓x_lm_v, ↓x_lm_p, ↓x_lm_t, ↓x_xf_v, ↓x_xf_p, ↓x_xf_t, ↓blK_bl, ↓x_eqI_v, ↓x_eqI_p, ↓x_eqI_t, ↓x_lenSet_v, ↓x_lenSet_p, ↓x_lenSet_t, ↓x_rng1_v, ↓x_rng1_p, ↓x_rng1_t, ↓x_rng2_v, ↓x_rng2_p, ↓x_rng2_t, ↓x_lc_v, ↓x_lc_p, ↓x_lc_t, ↓x_not_v, ↓x_not_t, ↓x_not_p, ↓x_and_v, ↓x_and_t, ↓x_and_p, ↓x_or_v, ↓x_or_t, ↓x_or_p, ↓x_ite_v, ↓x_ite_t, ↓x_ite_p, ↓x_vnil, ↓x_vcons, ↓x_pnil, ↓x_pcons, ↓gets_nil, ↓gets_cons, ↓x_inil, ↓x_icons, ↓x_ono, ↓x_oso, ↓walk_dat, ↓walkS_val, ↓walkS_own, ↓walk_sl, ↓x_seq, ↓x_r1, ↓x_r2, ↓seq_dat, ↓seqS_val, ↓seqS_own, ↓seq_sl, ↓x_enum, ↓x_zip, ↓fl_next, ↓fl_brk, ↓fl_cont, ↓fl_ret, ↓x_nil, ↓x_cons, ↓x_asg, ↓asg_val, ↓asg_own_val, ↓asg_own_own, ↓asg_own_cell, ↓tg_name, ↓tg_tup, ↓puts_nil, ↓puts_cons, ↓x_asgT, ↓x_setIx, ↓x_setF, ↓x_ex, ↓x_ret, ↓x_retN, ↓x_if, ↓x_for, ↓x_whl, ↓x_brk, ↓x_cont, ↓x_pass, ↓x_raise, ↓x_try, ↓x_hnil, ↓x_hconsN, ↓x_hconsS, ↓fret_next, ↓fret_ret, ↓ent_nil, ↓ent_cons, ↓nos0, ↓nosS, hp_mk, sl_mk, d_val, d_own, ↓negK_int, ↓intK_int, ↓lstK_lst, ↓insK_ins, ↓excK_exc, ↓bigK_nil, ↓bigK_1, ↓bigK_2, ↓bigK_3, ↓bigK_4, ↓bigK_5, ↓fnK0, ↓fnK1, ↓fnK12, ↓fnK2, ↓mkK_some, ↓xcK_1, ↓xcK_2, ↓xcK_3, ↓xcK_4, ↓xcK_5, ↓xkK_t, ↓xkK_f, ↓clK_nil, ↓clK_val, ↓clK_own, ↓clK_no, ↓smK_t, ↓r_int, ↓r_bl, ↓r_non, ↓r_str, ↓r_bin, ↓r_neg, ↓r_not, ↓r_cmp, ↓r_chain, ↓r_and, ↓r_or, ↓r_ite, ↓r_tup, ↓r_lst, ↓r_ix, ↓r_slc, ↓r_rev, ↓r_fld, ↓r_call, ↓r_mk, ↓r_bi, ↓r_isi, ↓r_im, ↓r_lm, ↓r_lc, ↓r_eqI, ↓r_lenSet, ↓r_xf, b_add, b_sub, c_lt, c_le, c_gt, c_ge, c_eq, c_ne, c_isN_non, c_isN_int, c_isN_str, c_isN_tup, c_isN_lst, c_notN_non, c_notN_int, c_notN_str, c_notN_tup, c_notN_lst, tr_bl, tr_non, tr_int, tr_tup, tr_lst, u_lenL, u_lenT, u_lenE, u_abs, u_int, u_tupL, u_tupT, u_lstL, u_lstT, u_max2, u_min2, q_lst, q_tup, q_ext, w_lst, w_tup, w_ext, s_lst, s_tup, cut_take, cut_drop, ix_lst, ix_tup, ix_lst0, ix_tup0, ix_lst1, ix_tup1, ix_tup2, ix_lst2, ix_lst3, ↓lm_append, ↓set_ix, ↓ixK_own, ↓ixK_cell, ↓flK_next, ↓flK_cont, ↓flK_brk, ↓flK_ret, range0, Int.toNat_natCast, ixN_0, ixN_1, ixN_2, ixN_3, apK_own, and_self, setF_end, x_fn, bigK_m, b_mod, b_div, b_mul, b_pow, smK_nat, in_lst, in_tup, nin_lst, nin_tup, putF, List.lookup, List.length_cons, List.length_nil, Nat.reduceAdd, decide_true, decide_false, Bool.not_true, Bool.not_false, if_true, Nat.reduceLT, Nat.reduceLeDiff, Nat.reduceEqDiff, Nat.reduceBEq, beq_self_eq_true, Int.reduceLT, Int.reduceLE, Int.reduceEq, Int.reduceAdd, Int.reduceSub, Int.reduceNeg, Int.reduceToNat, Bool.false_eq_true, List.set_cons_succ, List.set_cons_zero, List.getElem?_cons_succ, List.getElem?_cons_zero, Int.cast_ofNat_Int, eq_self, if_false, List.cons_append, List.nil_append, Option.isNone_none])
/-! ### hues judged, ladders made -/
mutual
theorem bel_mono {n m : Nat} (h : n ≤ m) : ∀ d : D, D.bel n d = true → D.bel m d = true
  | .tup xs => fun q => by unfold D.bel at q ⊢; exact bels_mono h xs q
  | .lst xs => fun q => by unfold D.bel at q ⊢; exact bels_mono h xs q
  | .ext xs => fun q => by unfold D.bel at q ⊢; exact bels_mono h xs q
  | .ins _ fs => fun q => by unfold D.bel at q ⊢; exact belf_mono h fs q
  | .cell i => fun q => by unfold D.bel at q ⊢; exact decide_eq_true (Nat.lt_of_lt_of_le (of_decide_eq_true q) h)
  | .non => fun _ => by unfold D.bel; rfl
  | .bl _ => fun _ => by unfold D.bel; rfl
  | .int _ => fun _ => by unfold D.bel; rfl
  | .str _ => fun _ => by unfold D.bel; rfl
  | .rng _ _ => fun _ => by unfold D.bel; rfl
theorem bels_mono {n m : Nat} (h : n ≤ m) : ∀ l : List D, D.bels n l = true → D.bels m l = true
  | [] => fun _ => rfl
  | x :: xs => fun q => by
    unfold D.bels at q ⊢
    rw [Bool.and_eq_true] at q
    rw [bel_mono h x q.1, bels_mono h xs q.2]
    rfl
theorem belf_mono {n m : Nat} (h : n ≤ m) : ∀ l : List (Nat × D), D.belf n l = true → D.belf m l = true
  | [] => fun _ => rfl
  | (_, x) :: xs => fun q => by
    unfold D.belf at q ⊢
    rw [Bool.and_eq_true] at q
    rw [bel_mono h x q.1, belf_mono h xs q.2]
    rfl
end
theorem HpOk.snoc {h : List Cell} {c : Cell} (H : HpOk h) (hc : Cell.below (h.length + 1) c = true) : HpOk (h ++ [c]) := by
  unfold HpOk at H ⊢
  rw [List.all_append, List.length_append, Bool.and_eq_true]
  refine ⟨List.all_eq_true.mpr fun x hx => ?_, by simpa using hc⟩
  have := List.all_eq_true.mp H x hx
  cases x with
  | lst xs => exact bels_mono (Nat.le_add_right _ _) xs this
  | ins k fs => exact belf_mono (Nat.le_add_right _ _) fs this
theorem make_exc {c : Nat} {init : FnSem} {ds : List D} {hp : List Cell} {x : X} {cl : Cell} (e : init (.cell hp.length :: ds) (hp ++ [.ins c []]) = .exc x (hp ++ [cl])) (h1 : (x.fs.all fun p => D.bel hp.length p.2) = true) (h2 : HpOk hp) : runMake c init ds hp = .exc x hp := by
  unfold runMake
  rw [e]
  dsimp only
  have t : (hp ++ [cl]).take hp.length = hp := by simp
  rw [t, if_pos ⟨h1, h2, by simp⟩]
theorem hand_hp {h : List Cell} (H : HandOk h) : HpOk h := by
  obtain ⟨cs, p, r, t, rfl, _⟩ := H
  unfold HpOk hand
  simp only [List.all_cons, List.all_nil, Bool.and_true, Cell.below, D.bels, D.bel]
  rw [bels_map fun x _ => by unfold D.bel; rfl]
abbrev Tri := Nat × Nat × Nat
def clashN (rows : List Row) (hs : List (Option Nat)) : Option Tri := (List.range rows.length).findSome? fun c => (pairN rows hs (kin rows c)).map fun p => (c, p)
def clashI (t : Tri) : D := .ins 30 [(9, .int t.1), (11, .int t.2.1), (12, .int t.2.2)]
def clashD : Option Tri → D
  | none => .non
  | some t => clashI t
def triD : Option Tri → D
  | none => .non
  | some t => .tup [.int t.1, .int t.2.1, .int t.2.2]
def notLine (t : Tri) : X := ⟨29, [(9, .int t.1), (11, .int t.2.1), (12, .int t.2.2)]⟩
def laddersD (rows : List Row) (hs : List (Option Nat)) : D := .ins 31 [(32, worldD rows), (33, .tup (hsD hs))]
section
variable {rows : List Row} {hs : List (Option Nat)} {h : List Cell}
theorem Clash_ok {a b c : Nat} (H : HpOk h) : k_Clash [.int a, .int b, .int c] h = .ok (.val (clashI (a, b, c))) h := by
  refine make_eq ?_ ?_ H
  · apply fow_eq
    simpa! only [f_Clash_init, c_Clash_init, e_Clash_init_0, e_Clash_init_1, e_Clash_init_2]
  · rfl
theorem kin_in (ok : RowsOk rows) {c : Nat} (hc : c < rows.length) : ∀ x ∈ kin rows c, x < rows.length := fun x hx => Nat.lt_of_le_of_lt (kin_lt ok x hx) hc
theorem hue_fault_ok (H : HpOk h) (ok : RowsOk rows) (h12 : rows.length ≤ 12) {d : D} (s : Sq d (hsD hs)) (hl : hs.length = rows.length) (hok : HuOk hs) : f_hue_fault [worldD rows, d] h = .ok (.val (clashD (clashN rows hs))) h := by
  apply fow_eq
  have e1 := check_hues_ok (h := h) s hl h12 hok
  have n6 : (hsD hs).length < 1000000 := by rw [hs_len]; omega
  simpa! only [e1, n6, f_hue_fault, c_hue_fault, e_hue_fault_0, e_hue_fault_1, e_hue_fault_2, e_hue_fault_3]
  rw [hs_len, hl]
  refine wp_forF (en := fun n : Nat => D.int n) (fun c => (pairN rows hs (kin rows c)).map fun p => (c, p)) (fun s => ∃ x y, s = ⟨[.val (worldD rows), .val d, .val (.tup (hsD hs)), x, y], h⟩) ⟨_, _, rfl⟩ ?_ ?_
  · rintro e _ ⟨x, y, rfl⟩
    simpa! only [c_hue_fault, e_hue_fault_0, e_hue_fault_1, e_hue_fault_2, e_hue_fault_3]
    rw [show clashN rows hs = none from e]
    exact ⟨rfl, trivial⟩
  · rintro c _ hc ⟨x, y, rfl⟩
    have hc := List.mem_range.mp hc
    have g := el_get hc
    have a1 := b_addT (xs := ns (el rows c)) (ys := [.int c]) (by rw [ns_len]; have := el_len ok c; unfold big; simp only [List.length_cons, List.length_nil]; omega)
    have a2 : ns (el rows c) ++ [D.int c] = ns (kin rows c) := by unfold kin; rw [ns_app]; rfl
    have e2 := first_clash_ok (h := h) ok (l := kin rows c) (.inl hl) (by rw [hl]; exact kin_in ok hc)
    cases q : pairN rows hs (kin rows c) with
    | none =>
      rw [q] at e2
      simpa! only [see_world, fldW_6, g, a1, a2, e2, pairD, c_hue_fault, e_hue_fault_0, e_hue_fault_1, e_hue_fault_2, e_hue_fault_3, c_hue_fault_1]
      exact ⟨rfl, _, _, rfl⟩
    | some p =>
      rw [q] at e2
      have e3 := Clash_ok (a := c) (b := p.1) (c := p.2) H
      simpa! only [see_world, fldW_6, g, a1, a2, e2, pairD, e3, c_hue_fault, e_hue_fault_0, e_hue_fault_1, e_hue_fault_2, e_hue_fault_3, c_hue_fault_1]
      refine ⟨_, rfl, fun e => ?_⟩
      rw [show clashN rows hs = some (c, p) from e]
      exact ⟨rfl, trivial⟩
theorem see_clash {t : Tri} {k : D → Prop} : seeK h (clashI t) k = k (clashI t) := rfl
theorem fldC_9 {fa : Nat → Nat → Bool} {t : Tri} {k : D → Prop} (q : fa 30 9 = true) : fldK fa (clashI t) 9 k = k (.int t.1) := by unfold clashI; rw [fldK_ins, q]; rfl
theorem fldC_11 {fa : Nat → Nat → Bool} {t : Tri} {k : D → Prop} (q : fa 30 11 = true) : fldK fa (clashI t) 11 k = k (.int t.2.1) := by unfold clashI; rw [fldK_ins, q]; rfl
theorem fldC_12 {fa : Nat → Nat → Bool} {t : Tri} {k : D → Prop} (q : fa 30 12 = true) : fldK fa (clashI t) 12 k = k (.int t.2.2) := by unfold clashI; rw [fldK_ins, q]; rfl
theorem c_notN_ins {c : Nat} {fs : List (Nat × D)} : cmpSem .notN (.ins c fs) .non = some true := rfl
theorem c_isN_ins {c : Nat} {fs : List (Nat × D)} : cmpSem .isN (.ins c fs) .non = some false := rfl
theorem clash_notN {t : Tri} : cmpSem .notN (clashI t) .non = some true := rfl
theorem clash_isN {t : Tri} : cmpSem .isN (clashI t) .non = some false := rfl
theorem hs_bels {n : Nat} : D.bels n (hsD hs) = true := bels_map fun x _ => by cases x <;> (unfold hD D.bel; rfl)
theorem Ladders_ok (H : HpOk h) (ok : RowsOk rows) (h12 : rows.length ≤ 12) {d : D} (s : Sq d (hsD hs)) (hl : hs.length = rows.length) (hok : HuOk hs) (q : clashN rows hs = none) : k_Ladders [worldD rows, d] h = .ok (.val (laddersD rows hs)) h := by
  refine make_eq ?_ ?_ H
  · apply fow_eq
    have hp2 : HpOk (h ++ [.ins 31 []]) := H.snoc rfl
    have e1 := hue_fault_ok hp2 ok h12 s hl hok
    rw [q] at e1
    rcases s with rfl | rfl
    · simpa! only [e1, clashD, f_Ladders_init, c_Ladders_init, e_Ladders_init_0, e_Ladders_init_1, e_Ladders_init_2, e_Ladders_init_3, e_Ladders_init_4, e_Ladders_init_5, e_Ladders_init_6]
    · simpa! only [e1, clashD, f_Ladders_init, c_Ladders_init, e_Ladders_init_0, e_Ladders_init_1, e_Ladders_init_2, e_Ladders_init_3, e_Ladders_init_4, e_Ladders_init_5, e_Ladders_init_6]
  · have b1 : D.bel h.length (worldD rows) = true := worldF_bel
    have b2 : D.bel h.length (.tup (hsD hs)) = true := by unfold D.bel; exact hs_bels
    simp only [D.belf, b1, b2, Bool.and_self]
theorem Ladders_exc (H : HpOk h) (ok : RowsOk rows) (h12 : rows.length ≤ 12) {d : D} (s : Sq d (hsD hs)) (hl : hs.length = rows.length) (hok : HuOk hs) {t : Tri} (q : clashN rows hs = some t) : k_Ladders [worldD rows, d] h = .exc (notLine t) h := by
  refine make_exc (cl := .ins 31 []) ?_ ?_ H
  · apply fow_exc_eq
    have hp2 : HpOk (h ++ [.ins 31 []]) := H.snoc rfl
    have e1 := hue_fault_ok hp2 ok h12 s hl hok
    rw [q] at e1
    simpa! only [e1, clashD, clash_notN, see_clash, fldC_9, fldC_11, fldC_12, f_Ladders_init, c_Ladders_init, e_Ladders_init_0, e_Ladders_init_1, e_Ladders_init_2, e_Ladders_init_3, e_Ladders_init_4, e_Ladders_init_5, e_Ladders_init_6]
    exact ⟨rfl, trivial⟩
  · rfl
end
end LawP
set_option Elab.async false
set_option linter.all false
set_option maxRecDepth 100000
set_option maxHeartbeats 0
namespace LawP
open PySem MP
local macro_rules
  | `(tactic| simpa! only [$ls,*]) => `(tactic| simp -implicitDefEqProofs only [$ls,*, ↓wp_ok, ↓wp_bad, ↓wp_exc, ↓wp_opt, ↓ow_bind, ↓ow_map, ↓ow_some, ↓ow_none, ↓fow_ok, ↓fow_exc, ↓bK_t, ↓bK_f, ↓bK_not, ↓lk0, ↓lkS, ↓stK0, ↓stKS, ↓see_int, ↓see_bl, ↓see_str, ↓see_non, ↓see_tup, ↓see_lst, ↓see_ext, ↓see_rng, ↓see_ins, ↓see_cell, ↓cellD_lst, ↓cellD_ins, ↓hpK_0, ↓hpK_end, ↓get_dat, ↓get_sl, ↓slotP_val, ↓slotP_own, ↓varK_val, ↓varK_own, ↓varRK_val, ↓varRK_own, ↓varPK_val, ↓varPK_own, ↓x_var_v, ↓x_var_p, ↓x_var_t, ↓x_ret_var, ↓x_int_v, ↓x_int_p, ↓x_int_t, ↓x_bl_v, ↓x_bl_p, ↓x_bl_t, ↓x_non_v, ↓x_non_p, ↓x_non_t, ↓x_str_v, ↓x_str_p, ↓x_str_t, ↓x_bin_v, ↓x_bin_p, ↓x_bin_t, ↓x_neg_v, ↓x_neg_p, ↓x_neg_t, ↓x_cmp_v, ↓x_cmp_p, ↓x_cmp_t, ↓x_chain_v, ↓x_chain_p, ↓x_chain_t, ↓x_tup_v, ↓x_tup_p, ↓x_tup_t, ↓x_lst_v, ↓x_lst_p, ↓x_lst_t, ↓x_ix_v, ↓x_ix_p, ↓x_ix_t, ↓x_slc_v, ↓x_slc_p, ↓x_slc_t, ↓x_rev_v, ↓x_rev_p, ↓x_rev_t, ↓fldK_ins, ↓x_fld_v, ↓x_fld_p, ↓x_fld_t, ↓x_call_v, ↓x_call_p, ↓x_call_t, ↓x_mk_v, ↓x_mk_p, ↓x_mk_t, ↓x_bi_v, ↓x_bi_p, ↓x_bi_t, ↓x_isi_v, ↓x_isi_p, ↓x_isi_t, ↓x_lend_p, ↓x_im_v, ↓x_im_p, ↓x_im_t, ↓x_lm_v, ↓x_lm_p, ↓x_lm_t, ↓x_xf_v, ↓x_xf_p, ↓x_xf_t, ↓blK_bl, ↓x_eqI_v, ↓x_eqI_p, ↓x_eqI_t, ↓x_lenSet_v, ↓x_lenSet_p, ↓x_lenSet_t, ↓x_rng1_v, ↓x_rng1_p, ↓x_rng1_t, ↓x_rng2_v, ↓x_rng2_p, ↓x_rng2_t, ↓x_lc_v, ↓x_lc_p, ↓x_lc_t, ↓x_not_v, ↓x_not_t, ↓x_not_p, ↓x_and_v, ↓x_and_t, ↓x_and_p, ↓x_or_v, ↓x_or_t, ↓x_or_p, ↓x_ite_v, ↓x_ite_t, ↓x_ite_p, ↓x_vnil, ↓x_vcons, ↓x_pnil, ↓x_pcons, ↓gets_nil, ↓gets_cons, ↓x_inil, ↓x_icons, ↓x_ono, ↓x_oso, ↓walk_dat, ↓walkS_val, ↓walkS_own, ↓walk_sl, ↓x_seq, ↓x_r1, ↓x_r2, ↓seq_dat, ↓seqS_val, ↓seqS_own, ↓seq_sl, ↓x_enum, ↓x_zip, ↓fl_next, ↓fl_brk, ↓fl_cont, ↓fl_ret, ↓x_nil, ↓x_cons, ↓x_asg, ↓asg_val, ↓asg_own_val, ↓asg_own_own, ↓asg_own_cell, ↓tg_name, ↓tg_tup, ↓puts_nil, ↓puts_cons, ↓x_asgT, ↓x_setIx, ↓x_setF, ↓x_ex, ↓x_ret, ↓x_retN, ↓x_if, ↓x_for, ↓x_whl, ↓x_brk, ↓x_cont, ↓x_pass, ↓x_raise, ↓x_try, ↓x_hnil, ↓x_hconsN, ↓x_hconsS, ↓fret_next, ↓fret_ret, ↓ent_nil, ↓ent_cons, ↓nos0, ↓nosS, hp_mk, sl_mk, d_val, d_own, ↓negK_int, ↓intK_int, ↓lstK_lst, ↓insK_ins, ↓excK_exc, ↓bigK_nil, ↓bigK_1, ↓bigK_2, ↓bigK_3, ↓bigK_4, ↓bigK_5, ↓fnK0, ↓fnK1, ↓fnK12, ↓fnK2, ↓mkK_some, ↓xcK_1, ↓xcK_2, ↓xcK_3, ↓xcK_4, ↓xcK_5, ↓xkK_t, ↓xkK_f, ↓clK_nil, ↓clK_val, ↓clK_own, ↓clK_no, ↓smK_t, ↓r_int, ↓r_bl, ↓r_non, ↓r_str, ↓r_bin, ↓r_neg, ↓r_not, ↓r_cmp, ↓r_chain, ↓r_and, ↓r_or, ↓r_ite, ↓r_tup, ↓r_lst, ↓r_ix, ↓r_slc, ↓r_rev, ↓r_fld, ↓r_call, ↓r_mk, ↓r_bi, ↓r_isi, ↓r_im, ↓r_lm, ↓r_lc, ↓r_eqI, ↓r_lenSet, ↓r_xf, b_add, b_sub, c_lt, c_le, c_gt, c_ge, c_eq, c_ne, c_isN_non, c_isN_int, c_isN_str, c_isN_tup, c_isN_lst, c_notN_non, c_notN_int, c_notN_str, c_notN_tup, c_notN_lst, tr_bl, tr_non, tr_int, tr_tup, tr_lst, u_lenL, u_lenT, u_lenE, u_abs, u_int, u_tupL, u_tupT, u_lstL, u_lstT, u_max2, u_min2, q_lst, q_tup, q_ext, w_lst, w_tup, w_ext, s_lst, s_tup, cut_take, cut_drop, ix_lst, ix_tup, ix_lst0, ix_tup0, ix_lst1, ix_tup1, ix_tup2, ix_lst2, ix_lst3, ↓lm_append, ↓set_ix, ↓ixK_own, ↓ixK_cell, ↓flK_next, ↓flK_cont, ↓flK_brk, ↓flK_ret, range0, Int.toNat_natCast, ixN_0, ixN_1, ixN_2, ixN_3, apK_own, and_self, setF_end, x_fn, bigK_m, b_mod, b_div, b_mul, b_pow, smK_nat, in_lst, in_tup, nin_lst, nin_tup, putF, List.lookup, List.length_cons, List.length_nil, Nat.reduceAdd, decide_true, decide_false, Bool.not_true, Bool.not_false, if_true, Nat.reduceLT, Nat.reduceLeDiff, Nat.reduceEqDiff, Nat.reduceBEq, beq_self_eq_true, Int.reduceLT, Int.reduceLE, Int.reduceEq, Int.reduceAdd, Int.reduceSub, Int.reduceNeg, Int.reduceToNat, Bool.false_eq_true, List.set_cons_succ, List.set_cons_zero, List.getElem?_cons_succ, List.getElem?_cons_zero, Int.cast_ofNat_Int, eq_self, if_false, List.cons_append, List.nil_append, Option.isNone_none])
/-! ### the law's sums over hues -/
def kins (rows : List Row) : List (List Nat) := (List.range rows.length).map (kin rows)
section
variable {rows : List LRow} {hs : List (Option Nat)} {h : List Cell}
theorem kins_len {rows : List Row} : (kins rows).length = rows.length := by unfold kins; simp
theorem kins_at {rows : List Row} {c : Nat} (hc : c < rows.length) : (lls (kins rows))[c]? = some (.lst (ns (kin rows c))) := by
  unfold lls kins
  rw [List.getElem?_map, List.getElem?_map, List.getElem?_range hc]; rfl
theorem kin_sort (ok : RowsOk rows) {c : Nat} : biSem .sorted [.lst (ns (kin rows c))] = some (.own (ns (kin rows c))) := by rw [u_sort, show sortM (kin rows c) = kin rows c from sortM_of_asc (el_end ok c)]
theorem law_kin_ok (ok : LsOk rows) (h12 : rows.length ≤ 12) : f__law_kin_51e8 [.lst (lrsD rows)] h = .ok (.own (lls (kins rows))) h := by
  apply fow_eq
  have e1 := law_elders_ok (h := h) ok h12
  have n6 : rows.length < 1000000 := by omega
  simpa! only [e1, lrs_len, n6, f__law_kin_51e8, c__law_kin_51e8, e__law_kin_51e8_0]
  refine lc_mapN (en2 := fun r => .lst (ns r)) (kin rows) (.inl rfl) (by simp; unfold big; omega) ?_ ?_
  · intro c hc
    have hc := List.mem_range.mp hc
    have g := lel_at hc
    have a1 := b_addL (xs := ns (LawP.el rows c)) (ys := [.int c]) (by rw [ns_len]; have := el_len ok.row c; unfold big; simp only [List.length_cons, List.length_nil]; omega)
    have a2 : ns (LawP.el rows c) ++ [D.int c] = ns (kin rows c) := by unfold kin; rw [ns_app]; rfl
    have u := kin_sort ok.row (c := c)
    simpa! only [g, a1, a2, u, c__law_kin_51e8, e__law_kin_51e8_0]
  · simpa! only [c__law_kin_51e8, e__law_kin_51e8_0]
    exact ⟨rfl, trivial⟩
end
section
variable {rows : List Row} {hs : List (Option Nat)} {h : List Cell}
theorem mem_kin {a b : Nat} (hab : a < b) : a ∈ kin rows b ↔ a ∈ el rows b := by
  unfold kin
  rw [List.mem_append, List.mem_singleton]
  exact ⟨fun z => z.elim id fun z => by omega, .inl⟩
theorem pair_among_ok {d : D} (sd : D.see h d = some (.lst (hsD hs))) {l : List Nat} (h1 : ∀ x ∈ l, x < hs.length) (h2 : ∀ x ∈ l, x < rows.length) : f__law_pair_among [.lst (lls (kins rows)), d, .lst (ns l)] h = .ok (.val (pairD (pairN rows hs l))) h := by
  have sk : ∀ k : D → Prop, seeK h d k = k (.lst (hsD hs)) := fun k => by unfold seeK; rw [sd]; rfl
  apply fow_eq
  simpa! only [f__law_pair_among, c__law_pair_among]
  refine wp_forF (en := fun n : Nat => D.int n) (fun a => l.findSome? fun b => clB rows hs a b) (fun s => ∃ x y, s = ⟨[.val (.lst (lls (kins rows))), .val d, .val (.lst (ns l)), x, y], h⟩) ⟨_, _, rfl⟩ ?_ ?_
  · rintro e _ ⟨x, y, rfl⟩
    simpa! only [c__law_pair_among]
    rw [show pairN rows hs l = none from e]
    exact ⟨rfl, trivial⟩
  · rintro a _ ha ⟨x, y, rfl⟩
    simpa! only [c__law_pair_among, c__law_pair_among_2]
    refine wp_forF (en := fun n : Nat => D.int n) (clB rows hs a) (fun s => ∃ y, s = ⟨[.val (.lst (lls (kins rows))), .val d, .val (.lst (ns l)), .val (.int a), y], h⟩) ⟨_, rfl⟩ ?_ ?_
    · rintro e _ ⟨y, rfl⟩
      simpa! only [c__law_pair_among]
      exact ⟨e, _, _, rfl⟩
    · rintro b _ hb' ⟨y, rfl⟩
      have g1 := hs_at (h1 a ha)
      have g2 := hs_at (h1 b hb')
      have g3 := kins_at (h2 b hb')
      by_cases q1 : (a : Int) < (b : Int)
      · have q1' : a < b := by omega
        cases q2 : (hu hs a).isSome with
        | false =>
          simpa! only [q1, sk, g1, see_h, h_notN, q2, c__law_pair_among, c__law_pair_among_1]
          exact ⟨by simp [clB, q2], _, rfl⟩
        | true =>
          by_cases q3 : hu hs a = hu hs b
          · have q3d : decide (hu hs a = hu hs b) = true := decide_eq_true q3
            by_cases m : a ∈ el rows b
            · have m2 := (mem_kin q1').mpr m
              simpa! only [q1, sk, g1, g2, g3, see_h, h_notN, q2, h_eq, q3d, m2, c__law_pair_among, c__law_pair_among_1]
              exact ⟨by simp [clB, m], _, rfl⟩
            · have m2 : a ∉ kin rows b := fun z => m ((mem_kin q1').mp z)
              simpa! only [q1, sk, g1, g2, g3, see_h, h_notN, q2, h_eq, q3d, m2, c__law_pair_among, c__law_pair_among_1]
              refine ⟨_, by unfold clB; rw [if_pos ⟨q1', q2, q3, m⟩], fun e => ?_⟩
              refine ⟨_, e, fun e2 => ?_⟩
              rw [show pairN rows hs l = _ from e2]
              exact ⟨rfl, trivial⟩
          · have q3d : decide (hu hs a = hu hs b) = false := decide_eq_false q3
            simpa! only [q1, sk, g1, g2, see_h, h_notN, q2, h_eq, q3d, c__law_pair_among, c__law_pair_among_1]
            exact ⟨by simp [clB, q3], _, rfl⟩
      · simpa! only [q1, c__law_pair_among, c__law_pair_among_1]
        exact ⟨by simp [clB]; omega, _, rfl⟩
theorem law_clash_ok (ok : RowsOk rows) (h12 : rows.length ≤ 12) {d : D} (sd : D.see h d = some (.lst (hsD hs))) (hl : hs.length = rows.length) : f__law_clash_4ff3 [.lst (lls (kins rows)), d] h = .ok (.val (triD (clashN rows hs))) h := by
  have n6 : (lls (kins rows)).length < 1000000 := by rw [lls_len, kins_len]; omega
  apply fow_eq
  simpa! only [n6, f__law_clash_4ff3, c__law_clash_4ff3, e__law_clash_4ff3_0]
  rw [lls_len, kins_len]
  refine wp_forF (en := fun n : Nat => D.int n) (fun c => (pairN rows hs (kin rows c)).map fun p => (c, p)) (fun s => ∃ x y, s = ⟨[.val (.lst (lls (kins rows))), .val d, x, y], h⟩) ⟨_, _, rfl⟩ ?_ ?_
  · rintro e _ ⟨x, y, rfl⟩
    simpa! only [c__law_clash_4ff3, e__law_clash_4ff3_0]
    rw [show clashN rows hs = none from e]
    exact ⟨rfl, trivial⟩
  · rintro c _ hc ⟨x, y, rfl⟩
    have hc := List.mem_range.mp hc
    have g := kins_at hc
    have e2 := pair_among_ok sd (rows := rows) (l := kin rows c) (by rw [hl]; exact kin_in ok hc) (kin_in ok hc)
    cases q : pairN rows hs (kin rows c) with
    | none =>
      rw [q] at e2
      simpa! only [g, e2, pairD, c__law_clash_4ff3, e__law_clash_4ff3_0, c__law_clash_4ff3_1]
      exact ⟨rfl, _, _, rfl⟩
    | some p =>
      rw [q] at e2
      simpa! only [g, e2, pairD, c__law_clash_4ff3, e__law_clash_4ff3_0, c__law_clash_4ff3_1]
      refine ⟨_, rfl, fun e => ?_⟩
      rw [show clashN rows hs = some (c, p) from e]
      exact ⟨rfl, trivial⟩
/-! depths -/
def dep (rows : List Row) (hs : List (Option Nat)) (c : Nat) : Nat := ((kin rows c).filter fun one => decide (hu hs one = hu hs c)).length - 1
def deps (rows : List Row) (hs : List (Option Nat)) : List Nat := (List.range rows.length).map (dep rows hs)
theorem dep_int {c : Nat} : (((kin rows c).filter fun one => decide (hu hs one = hu hs c)).length : Int) - 1 = ((dep rows hs c : Nat) : Int) := by
  unfold dep
  have : 0 < ((kin rows c).filter fun one => decide (hu hs one = hu hs c)).length := List.length_pos_of_mem (a := c) (List.mem_filter.mpr ⟨by simp [kin], by simp⟩)
  omega
theorem law_depths_ok (ok : RowsOk rows) (h12 : rows.length ≤ 12) {d : D} (sd : D.see h d = some (.lst (hsD hs))) (hl : hs.length = rows.length) : f__law_depths [.lst (lls (kins rows)), d] h = .ok (.own (ns (deps rows hs))) h := by
  have sk : ∀ k : D → Prop, seeK h d k = k (.lst (hsD hs)) := fun k => by unfold seeK; rw [sd]; rfl
  have n6 : (lls (kins rows)).length < 1000000 := by rw [lls_len, kins_len]; omega
  apply fow_eq
  simpa! only [n6, f__law_depths, c__law_depths]
  rw [lls_len, kins_len]
  refine lc_mapN (en2 := fun n : Nat => D.int n) (dep rows hs) (.inl rfl) (by simp; unfold big; omega) ?_ ?_
  · intro c hc
    have hc := List.mem_range.mp hc
    have g := kins_at hc
    have gc := hs_at (hs := hs) (i := c) (by omega)
    simpa! only [g, c__law_depths]
    refine lc_fil (fun one => decide (hu hs one = hu hs c)) (.inl rfl) (by have := el_len ok c; simp [kin]; unfold big; omega) ?_ ?_
    · intro x hx
      have gx := hs_at (hs := hs) (i := x) (by rw [hl]; exact kin_in ok hc x hx)
      simpa! only [sk, gx, gc, see_h, h_eq, c__law_depths]
      exact bK_same rfl
    · simpa! only [ns_len, dep_int, c__law_depths]
  · simpa! only [c__law_depths]
    exact ⟨rfl, trivial⟩
def mtN (rows : List Row) (hs : List (Option Nat)) (l : List Nat) : List (Nat × Nat) := (l.filter fun one => (hu hs one).isSome).map fun one => ((hu hs one).getD 0, dep rows hs one)
def unB (rows : List Row) (hs : List (Option Nat)) : Bool := (kins rows).all fun l => decide (mtN rows hs l).Nodup
def pl2 (p : Nat × Nat) : List Int := [(p.1 : Int), (p.2 : Int)]
theorem cp_tups : ∀ l : List (Nat × Nat), D.tups (cpD l) = some (l.map pl2)
  | [] => rfl
  | p :: l => by
    have := cp_tups l
    unfold cpD at this ⊢
    rw [List.map_cons, List.map_cons]
    unfold D.tups
    rw [this]
    rfl
theorem unlikes_le : ∀ l : List (List Int), unlikes l ≤ l.length
  | [] => Nat.le_refl _
  | x :: l => by
    have := unlikes_le l
    unfold unlikes
    split <;> simp <;> omega
theorem unlikes_nodup : ∀ l : List (List Int), unlikes l = l.length ↔ l.Nodup
  | [] => by simp [unlikes]
  | x :: l => by
    have i1 := unlikes_le l
    have i2 := unlikes_nodup l
    unfold unlikes
    rw [List.nodup_cons, List.length_cons]
    by_cases q : x ∈ l
    · rw [if_pos q]
      exact ⟨fun e => by omega, fun e => absurd q e.1⟩
    · rw [if_neg q]
      exact ⟨fun e => ⟨q, i2.mp (by omega)⟩, fun e => by rw [i2.mpr e.2]⟩
theorem pl2_nodup {l : List (Nat × Nat)} : (l.map pl2).Nodup ↔ l.Nodup := by
  induction l with
  | nil => simp
  | cons p l ih =>
    rw [List.map_cons, List.nodup_cons, List.nodup_cons, ih]
    refine and_congr (not_congr ⟨fun z => ?_, fun z => List.mem_map.mpr ⟨p, z, rfl⟩⟩) Iff.rfl
    obtain ⟨q, hq, e⟩ := List.mem_map.mp z
    have e2 : q = p := by
      unfold pl2 at e
      simp only [List.cons.injEq, and_true] at e
      exact Prod.ext (by omega) (by omega)
    rwa [e2] at hq
theorem lenSet_cp {l : List (Nat × Nat)} (h : l.length < 64) : lenSetSem (.lst (cpD l)) = some (.val (.int (unlikes (l.map pl2) : Nat))) := by
  show ((D.tups (cpD l)).bind _) = _
  rw [cp_tups]
  show (if (l.map pl2).length < 64 then _ else _) = _
  rw [if_pos (by rw [List.length_map]; exact h)]
theorem depths_unlike_ok (ok : RowsOk rows) (h12 : rows.length ≤ 12) {d : D} (sd : D.see h d = some (.lst (hsD hs))) (hl : hs.length = rows.length) : f__law_depths_unlike [.lst (lls (kins rows)), d] h = .ok (.val (.bl (unB rows hs))) h := by
  have sk : ∀ k : D → Prop, seeK h d k = k (.lst (hsD hs)) := fun k => by unfold seeK; rw [sd]; rfl
  have e1 := law_depths_ok ok h12 sd hl
  apply fow_eq
  simpa! only [e1, f__law_depths_unlike, c__law_depths_unlike, e__law_depths_unlike_0]
  refine wp_forF (en := fun l : List Nat => D.lst (ns l)) (fun l => if (mtN rows hs l).Nodup then none else some ()) (fun s => ∃ x y z, s = ⟨[.val (.lst (lls (kins rows))), .val d, .val (.lst (ns (deps rows hs))), x, y, z], h⟩ ∧ (z = .no ∨ ∃ d, z = .val d)) ⟨_, _, _, rfl, .inl rfl⟩ ?_ ?_
  · rintro e _ ⟨x, y, z, rfl, hz⟩
    simpa! only [c__law_depths_unlike, e__law_depths_unlike_0]
    have : unB rows hs = true := List.all_eq_true.mpr fun l hm => by
      have := List.findSome?_eq_none_iff.mp e l hm
      by_cases q : (mtN rows hs l).Nodup
      · exact decide_eq_true q
      · rw [if_neg q] at this; cases this
    rw [this]
    exact ⟨rfl, trivial⟩
  · rintro l _ hm ⟨x, y, z, rfl, hz⟩
    obtain ⟨c, hc, rfl⟩ := List.mem_map.mp hm
    have hc := List.mem_range.mp hc
    have kl : (kin rows c).length ≤ 12 := by have := el_len ok c; simp [kin]; omega
    have ml : (mtN rows hs (kin rows c)).length ≤ 12 := by unfold mtN; rw [List.length_map]; exact Nat.le_trans (List.length_filter_le _ _) kl
    simpa! only [c__law_depths_unlike, e__law_depths_unlike_0, c__law_depths_unlike_1]
    refine lc_pureN (en2 := fun p : Nat × Nat => D.tup [.int p.1, .int p.2]) (fun one => (hu hs one).isSome) (fun one => ((hu hs one).getD 0, dep rows hs one)) (hz.imp (fun e => by rw [e]; rfl) fun ⟨d, e⟩ => ⟨d, by rw [e]; rfl⟩) (by unfold big; omega) ?_ ?_ ?_
    · intro x hx
      have gx := hs_at (hs := hs) (i := x) (by rw [hl]; exact kin_in ok hc x hx)
      simpa! only [sk, gx, see_h, h_notN, c__law_depths_unlike, e__law_depths_unlike_0]
      exact bK_same rfl
    · intro x hx hs'
      have gx := hs_at (hs := hs) (i := x) (by rw [hl]; exact kin_in ok hc x hx)
      have gd : (ns (deps rows hs))[x]? = some (.int (dep rows hs x : Nat)) := by
        rw [ns_get]
        unfold deps
        rw [List.getElem?_map, List.getElem?_range (kin_in ok hc x hx)]
        rfl
      obtain ⟨n, hn⟩ := Option.isSome_iff_exists.mp hs'
      simpa! only [sk, gx, see_h, gd, c__law_depths_unlike, e__law_depths_unlike_0]
      rw [hn]
      exact ⟨rfl, trivial⟩
    · have ls := lenSet_cp (l := mtN rows hs (kin rows c)) (by omega)
      have lc : ((((kin rows c).filter fun one => (hu hs one).isSome).map fun one => ((hu hs one).getD 0, dep rows hs one)).map fun p : Nat × Nat => D.tup [.int p.1, .int p.2]) = cpD (mtN rows hs (kin rows c)) := rfl
      rw [lc]
      by_cases q : (mtN rows hs (kin rows c)).Nodup
      · have q2 : unlikes ((mtN rows hs (kin rows c)).map pl2) = (cpD (mtN rows hs (kin rows c))).length := by rw [(unlikes_nodup _).mpr (pl2_nodup.mpr q), cp_len, List.length_map]
        simpa! only [ls, q2, c__law_depths_unlike, e__law_depths_unlike_0]
        exact ⟨by rw [if_pos q], _, _, _, rfl, hz⟩
      · have q2 : ¬ (((unlikes ((mtN rows hs (kin rows c)).map pl2) : Nat) : Int) = ((cpD (mtN rows hs (kin rows c))).length : Int)) := fun e => q (pl2_nodup.mp ((unlikes_nodup _).mp (by rw [List.length_map, ← cp_len]; omega)))
        simpa! only [ls, q2, c__law_depths_unlike, e__law_depths_unlike_0]
        refine ⟨(), by rw [if_neg q], fun _ => ?_⟩
        have : unB rows hs = false := by
          cases e : unB rows hs with
          | false => rfl
          | true => exact absurd (of_decide_eq_true (List.all_eq_true.mp e _ (List.mem_map.mpr ⟨c, List.mem_range.mpr hc, rfl⟩))) q
        rw [this]
        exact ⟨rfl, trivial⟩
end
end LawP
set_option Elab.async false
set_option linter.all false
set_option maxRecDepth 100000
set_option maxHeartbeats 0
namespace LawP
open PySem MP
local macro_rules
  | `(tactic| simpa! only [$ls,*]) => `(tactic| simp -implicitDefEqProofs only [$ls,*, ↓wp_ok, ↓wp_bad, ↓wp_exc, ↓wp_opt, ↓ow_bind, ↓ow_map, ↓ow_some, ↓ow_none, ↓fow_ok, ↓fow_exc, ↓bK_t, ↓bK_f, ↓bK_not, ↓lk0, ↓lkS, ↓stK0, ↓stKS, ↓see_int, ↓see_bl, ↓see_str, ↓see_non, ↓see_tup, ↓see_lst, ↓see_ext, ↓see_rng, ↓see_ins, ↓see_cell, ↓cellD_lst, ↓cellD_ins, ↓hpK_0, ↓hpK_end, ↓get_dat, ↓get_sl, ↓slotP_val, ↓slotP_own, ↓varK_val, ↓varK_own, ↓varRK_val, ↓varRK_own, ↓varPK_val, ↓varPK_own, ↓x_var_v, ↓x_var_p, ↓x_var_t, ↓x_ret_var, ↓x_int_v, ↓x_int_p, ↓x_int_t, ↓x_bl_v, ↓x_bl_p, ↓x_bl_t, ↓x_non_v, ↓x_non_p, ↓x_non_t, ↓x_str_v, ↓x_str_p, ↓x_str_t, ↓x_bin_v, ↓x_bin_p, ↓x_bin_t, ↓x_neg_v, ↓x_neg_p, ↓x_neg_t, ↓x_cmp_v, ↓x_cmp_p, ↓x_cmp_t, ↓x_chain_v, ↓x_chain_p, ↓x_chain_t, ↓x_tup_v, ↓x_tup_p, ↓x_tup_t, ↓x_lst_v, ↓x_lst_p, ↓x_lst_t, ↓x_ix_v, ↓x_ix_p, ↓x_ix_t, ↓x_slc_v, ↓x_slc_p, ↓x_slc_t, ↓x_rev_v, ↓x_rev_p, ↓x_rev_t, ↓fldK_ins, ↓x_fld_v, ↓x_fld_p, ↓x_fld_t, ↓x_call_v, ↓x_call_p, ↓x_call_t, ↓x_mk_v, ↓x_mk_p, ↓x_mk_t, ↓x_bi_v, ↓x_bi_p, ↓x_bi_t, ↓x_isi_v, ↓x_isi_p, ↓x_isi_t, ↓x_lend_p, ↓x_im_v, ↓x_im_p, ↓x_im_t, ↓x_lm_v, ↓x_lm_p, ↓x_lm_t, ↓x_xf_v, ↓x_xf_p, ↓x_xf_t, ↓blK_bl, ↓x_eqI_v, ↓x_eqI_p, ↓x_eqI_t, ↓x_lenSet_v, ↓x_lenSet_p, ↓x_lenSet_t, ↓x_rng1_v, ↓x_rng1_p, ↓x_rng1_t, ↓x_rng2_v, ↓x_rng2_p, ↓x_rng2_t, ↓x_lc_v, ↓x_lc_p, ↓x_lc_t, ↓x_not_v, ↓x_not_t, ↓x_not_p, ↓x_and_v, ↓x_and_t, ↓x_and_p, ↓x_or_v, ↓x_or_t, ↓x_or_p, ↓x_ite_v, ↓x_ite_t, ↓x_ite_p, ↓x_vnil, ↓x_vcons, ↓x_pnil, ↓x_pcons, ↓gets_nil, ↓gets_cons, ↓x_inil, ↓x_icons, ↓x_ono, ↓x_oso, ↓walk_dat, ↓walkS_val, ↓walkS_own, ↓walk_sl, ↓x_seq, ↓x_r1, ↓x_r2, ↓seq_dat, ↓seqS_val, ↓seqS_own, ↓seq_sl, ↓x_enum, ↓x_zip, ↓fl_next, ↓fl_brk, ↓fl_cont, ↓fl_ret, ↓x_nil, ↓x_cons, ↓x_asg, ↓asg_val, ↓asg_own_val, ↓asg_own_own, ↓asg_own_cell, ↓tg_name, ↓tg_tup, ↓puts_nil, ↓puts_cons, ↓x_asgT, ↓x_setIx, ↓x_setF, ↓x_ex, ↓x_ret, ↓x_retN, ↓x_if, ↓x_for, ↓x_whl, ↓x_brk, ↓x_cont, ↓x_pass, ↓x_raise, ↓x_try, ↓x_hnil, ↓x_hconsN, ↓x_hconsS, ↓fret_next, ↓fret_ret, ↓ent_nil, ↓ent_cons, ↓nos0, ↓nosS, hp_mk, sl_mk, d_val, d_own, ↓negK_int, ↓intK_int, ↓lstK_lst, ↓insK_ins, ↓excK_exc, ↓bigK_nil, ↓bigK_1, ↓bigK_2, ↓bigK_3, ↓bigK_4, ↓bigK_5, ↓fnK0, ↓fnK1, ↓fnK12, ↓fnK2, ↓mkK_some, ↓xcK_1, ↓xcK_2, ↓xcK_3, ↓xcK_4, ↓xcK_5, ↓xkK_t, ↓xkK_f, ↓clK_nil, ↓clK_val, ↓clK_own, ↓clK_no, ↓smK_t, ↓r_int, ↓r_bl, ↓r_non, ↓r_str, ↓r_bin, ↓r_neg, ↓r_not, ↓r_cmp, ↓r_chain, ↓r_and, ↓r_or, ↓r_ite, ↓r_tup, ↓r_lst, ↓r_ix, ↓r_slc, ↓r_rev, ↓r_fld, ↓r_call, ↓r_mk, ↓r_bi, ↓r_isi, ↓r_im, ↓r_lm, ↓r_lc, ↓r_eqI, ↓r_lenSet, ↓r_xf, b_add, b_sub, c_lt, c_le, c_gt, c_ge, c_eq, c_ne, c_isN_non, c_isN_int, c_isN_str, c_isN_tup, c_isN_lst, c_notN_non, c_notN_int, c_notN_str, c_notN_tup, c_notN_lst, tr_bl, tr_non, tr_int, tr_tup, tr_lst, u_lenL, u_lenT, u_lenE, u_abs, u_int, u_tupL, u_tupT, u_lstL, u_lstT, u_max2, u_min2, q_lst, q_tup, q_ext, w_lst, w_tup, w_ext, s_lst, s_tup, cut_take, cut_drop, ix_lst, ix_tup, ix_lst0, ix_tup0, ix_lst1, ix_tup1, ix_tup2, ix_lst2, ix_lst3, ↓lm_append, ↓set_ix, ↓ixK_own, ↓ixK_cell, ↓flK_next, ↓flK_cont, ↓flK_brk, ↓flK_ret, range0, Int.toNat_natCast, ixN_0, ixN_1, ixN_2, ixN_3, apK_own, and_self, setF_end, x_fn, bigK_m, b_mod, b_div, b_mul, b_pow, smK_nat, in_lst, in_tup, nin_lst, nin_tup, putF, List.lookup, List.length_cons, List.length_nil, Nat.reduceAdd, decide_true, decide_false, Bool.not_true, Bool.not_false, if_true, Nat.reduceLT, Nat.reduceLeDiff, Nat.reduceEqDiff, Nat.reduceBEq, beq_self_eq_true, Int.reduceLT, Int.reduceLE, Int.reduceEq, Int.reduceAdd, Int.reduceSub, Int.reduceNeg, Int.reduceToNat, Bool.false_eq_true, List.set_cons_succ, List.set_cons_zero, List.getElem?_cons_succ, List.getElem?_cons_zero, Int.cast_ofNat_Int, eq_self, if_false, List.cons_append, List.nil_append, Option.isNone_none])
/-! ### what is exact; ladders built -/
section
variable {h : List Cell} {n : Nat} {i : Int} {b : Bool} {ic : Nat → Bool} {o : Option Nat}
theorem t_tuple_int : isiRun ic .tuple (.int i) = some false := rfl
theorem t_tuple_bl : isiRun ic .tuple (.bl b) = some false := rfl
theorem t_tuple_non : isiRun ic .tuple .non = some false := rfl
theorem t_tuple_tup {l : List D} : isiRun ic .tuple (.tup l) = some true := rfl
theorem t_bool_bl : isiRun ic .bool (.bl b) = some true := rfl
theorem t_isN_bl : cmpSem .isN (.bl b) .non = some false := rfl
theorem bl_eq : cmpSem .eq (.bl b) (.bl b) = some true := by cases b <;> rfl
theorem bl_ne : cmpSem .ne (.bl b) (.bl b) = some false := by cases b <;> rfl
theorem ex_int : f__law_exact_1b7e_n (n + 1) [.int i, .int i] h = .ok (.val (.bl true)) h := by
  have e : f__law_int [.int i] h = .ok (.val (.bl true)) h := by
    apply fow_eq
    simpa! only [i_int_int, i_bool_int, f__law_int, c__law_int]
  apply fow_eq
  simpa! only [t_tuple_int, i_bool_int, i_int_int, e, c__law_exact_1b7e, fs__law_exact_1b7e, e__law_exact_1b7e_1, e__law_exact_1b7e_2]
theorem ex_non : f__law_exact_1b7e_n (n + 1) [.non, .non] h = .ok (.val (.bl true)) h := by
  apply fow_eq
  simpa! only [t_tuple_non, c__law_exact_1b7e, fs__law_exact_1b7e, e__law_exact_1b7e_1, e__law_exact_1b7e_2]
theorem ex_bl : f__law_exact_1b7e_n (n + 1) [.bl b, .bl b] h = .ok (.val (.bl true)) h := by
  apply fow_eq
  simpa! only [t_tuple_bl, t_isN_bl, t_bool_bl, bl_eq, c__law_exact_1b7e, fs__law_exact_1b7e, e__law_exact_1b7e_1, e__law_exact_1b7e_2]
theorem ex_h : f__law_exact_1b7e_n (n + 1) [hD o, hD o] h = .ok (.val (.bl true)) h := by
  cases o with
  | none => exact ex_non
  | some k => exact ex_int
theorem ex_tup {xs : List D} (hl : xs.length < 1000) (hg : ∀ x ∈ xs, f__law_exact_1b7e_n n [x, x] h = .ok (.val (.bl true)) h) : f__law_exact_1b7e_n (n + 1) [.tup xs, .tup xs] h = .ok (.val (.bl true)) h := by
  apply fow_eq
  have l1 : xs.length < 1000000 := by omega
  simpa! only [t_tuple_tup, l1, c__law_exact_1b7e, fs__law_exact_1b7e, e__law_exact_1b7e_1, e__law_exact_1b7e_2]
  refine wp_forN (fun pre s => ∃ z, s = ⟨[.val (.tup xs), .val (.tup xs), z], h⟩) ⟨_, rfl⟩ ?_ ?_
  · rintro _ ⟨z, rfl⟩
    simpa! only [c__law_exact_1b7e, fs__law_exact_1b7e, e__law_exact_1b7e_1, e__law_exact_1b7e_2]
  · rintro pre c suf _ el ⟨z, rfl⟩
    have hc : c < xs.length := List.mem_range.mp (by rw [el]; simp)
    have g1 := List.getElem?_eq_getElem hc
    have g2 := hg _ (List.getElem_mem hc)
    simpa! only [g1, g2, c__law_exact_1b7e, fs__law_exact_1b7e, e__law_exact_1b7e_1, e__law_exact_1b7e_2, c__law_exact_1b7e_1]
    exact ⟨_, rfl⟩
theorem ex_hs {hs : List (Option Nat)} (hl : hs.length < 1000) : f__law_exact_1b7e_n (n + 2) [.tup (hsD hs), .tup (hsD hs)] h = .ok (.val (.bl true)) h :=
  ex_tup (by rw [hs_len]; exact hl) fun x hx => by
    obtain ⟨o, _, rfl⟩ := List.mem_map.mp hx
    exact ex_h
theorem ex_tri {t : Tri} : f__law_exact_1b7e_n (n + 2) [.tup [.int t.1, .int t.2.1, .int t.2.2], .tup [.int t.1, .int t.2.1, .int t.2.2]] h = .ok (.val (.bl true)) h :=
  ex_tup (by simp) fun x hx => by
    simp only [List.mem_cons, List.not_mem_nil, or_false] at hx
    rcases hx with rfl | rfl | rfl <;> exact ex_int
theorem three_right_ok {o : Option Tri} : f__law_three_right [clashD o, triD o] h = .ok (.val (.bl true)) h := by
  apply fow_eq
  cases o with
  | none => simpa! only [clashD, triD, f__law_three_right, c__law_three_right, e__law_three_right_0, e__law_three_right_1, e__law_three_right_2, e__law_three_right_3]
  | some t =>
    have e : f__law_exact_1b7e [.tup [.int t.1, .int t.2.1, .int t.2.2], .tup [.int t.1, .int t.2.1, .int t.2.2]] h = _ := ex_tri (n := 10)
    simpa! only [clashD, triD, see_clash, clash_notN, fldC_9, fldC_11, fldC_12, e, f__law_three_right, c__law_three_right, e__law_three_right_0, e__law_three_right_1, e__law_three_right_2, e__law_three_right_3]
end
section
variable {rows : List Row} {hs : List (Option Nat)} {h : List Cell}
theorem row_fit : ∀ rows : List Row, D.fit depthMax (.tup (rowsD rows)) = true := fun rows => by
  have f : ∀ l : List Nat, D.fits 59 (ns l) = true := fun l => by
    induction l with
    | nil => rfl
    | cons a l ih => rw [ns_cons]; unfold D.fits; rw [ih]; rfl
  have f3 : ∀ l : List Nat, D.fits 58 (ns l) = true := fun l => by
    induction l with
    | nil => rfl
    | cons a l ih => rw [ns_cons]; unfold D.fits; rw [ih]; rfl
  have f2 : D.fits 60 (rowsD rows) = true := by
    induction rows with
    | nil => rfl
    | cons r rows ih =>
      unfold rowsD at ih ⊢
      rw [List.map_cons]
      unfold D.fits
      rw [ih, Bool.and_true]
      unfold rowD D.fit
      simp only [D.fits, D.fit, f3, Bool.and_self]
  unfold D.fit
  exact f2
theorem eqvs_ns : ∀ l : List Nat, D.eqvs (ns l) (ns l) = true
  | [] => rfl
  | a :: l => by rw [ns_cons]; unfold D.eqvs; rw [eqvs_ns l]; simp [D.eqv]
theorem eqvs_rows : ∀ rows : List Row, D.eqvs (rowsD rows) (rowsD rows) = true
  | [] => rfl
  | r :: rows => by
    have i := eqvs_rows rows
    unfold rowsD at i ⊢
    rw [List.map_cons]
    unfold D.eqvs
    rw [i, Bool.and_true]
    unfold rowD
    simp only [D.eqv, D.eqvs, eqvs_ns, Bool.and_self, beq_self_eq_true]
theorem rows_eq : cmpSem .eq (.tup (rowsD rows)) (.tup (rowsD rows)) = some true := by
  show (if D.fit depthMax (.tup (rowsD rows)) && D.fit depthMax (.tup (rowsD rows)) then some (D.eqv (.tup (rowsD rows)) (.tup (rowsD rows))) else none) = _
  rw [row_fit]
  have : D.eqv (.tup (rowsD rows)) (.tup (rowsD rows)) = true := by unfold D.eqv; exact eqvs_rows rows
  rw [this]
  rfl
theorem isi_world {ic : Nat → Bool} (q : ic 2 = true) : isiRun ic (.cls 2) (worldD rows) = some true := by
  show (if ic 2 = true then (if ic 2 = true then some (decide (2 = 2)) else none) else none) = _
  rw [q]; rfl
theorem World_eq_ok : f_World_eq [worldD rows, worldD rows] h = .ok (.val (.bl true)) h := by
  apply fow_eq
  simpa! only [see_world, isi_world, fldW_2, rows_eq, f_World_eq, c_World_eq, e_World_eq_0, e_World_eq_1]
theorem see_lad {k : D → Prop} : seeK h (laddersD rows hs) k = k (laddersD rows hs) := rfl
theorem fldL_32 {fa : Nat → Nat → Bool} {k : D → Prop} (q : fa 31 32 = true) : fldK fa (laddersD rows hs) 32 k = k (worldD rows) := by unfold laddersD; rw [fldK_ins, q]; rfl
theorem fldL_33 {fa : Nat → Nat → Bool} {k : D → Prop} (q : fa 31 33 = true) : fldK fa (laddersD rows hs) 33 k = k (.tup (hsD hs)) := by unfold laddersD; rw [fldK_ins, q]; rfl
theorem insK_world {k : Nat → List (Nat × D) → Prop} : insK (worldD rows) k = k 2 (worldF rows) := rfl
theorem built_ok (H : HpOk h) (ok : RowsOk rows) (h12 : rows.length ≤ 12) (hl : hs.length = rows.length) (hok : HuOk hs) : f__law_built_c83e [worldD rows, .lst (hsD hs), triD (clashN rows hs)] h = .ok (.val (.bl true)) h := by
  apply fow_eq
  cases q : clashN rows hs with
  | none =>
    have e1 := Ladders_ok H ok h12 (.inl rfl) hl hok q
    have e2 : f__law_exact_1b7e [.tup [.tup (hsD hs), .bl true], .tup [.tup (hsD hs), .bl true]] h = .ok (.val (.bl true)) h := ex_tup (n := 11) (by simp) fun x hx => by
      simp only [List.mem_cons, List.not_mem_nil, or_false] at hx
      rcases hx with rfl | rfl
      · exact ex_hs (n := 9) (by omega)
      · exact ex_bl
    simpa! only [e1, see_lad, fldL_32, fldL_33, see_world, insK_world, World_eq_ok, triD, e2, f__law_built_c83e, c__law_built_c83e, e__law_built_c83e_0, e__law_built_c83e_1, e__law_built_c83e_2, e__law_built_c83e_3, e__law_built_c83e_4, e__law_built_c83e_5, e__law_built_c83e_6, e__law_built_c83e_7, e__law_built_c83e_8, e__law_built_c83e_9]
  | some t =>
    have e1 := Ladders_exc H ok h12 (.inl rfl) hl hok q
    have e2 : f__law_exact_1b7e [.tup [.int t.1, .int t.2.1, .int t.2.2], .tup [.int t.1, .int t.2.1, .int t.2.2]] h = _ := ex_tri (n := 10)
    simpa! only [e1, triD, notLine, e2, f__law_built_c83e, c__law_built_c83e, e__law_built_c83e_0, e__law_built_c83e_1, e__law_built_c83e_2, e__law_built_c83e_3, e__law_built_c83e_4, e__law_built_c83e_5, e__law_built_c83e_6, e__law_built_c83e_7, e__law_built_c83e_8, e__law_built_c83e_9]
end
end LawP
set_option Elab.async false
set_option linter.all false
set_option maxRecDepth 100000
set_option maxHeartbeats 0
namespace LawP
open PySem MP
local macro_rules
  | `(tactic| simpa! only [$ls,*]) => `(tactic| simp -implicitDefEqProofs only [$ls,*, ↓wp_ok, ↓wp_bad, ↓wp_exc, ↓wp_opt, ↓ow_bind, ↓ow_map, ↓ow_some, ↓ow_none, ↓fow_ok, ↓fow_exc, ↓bK_t, ↓bK_f, ↓bK_not, ↓lk0, ↓lkS, ↓stK0, ↓stKS, ↓see_int, ↓see_bl, ↓see_str, ↓see_non, ↓see_tup, ↓see_lst, ↓see_ext, ↓see_rng, ↓see_ins, ↓see_cell, ↓cellD_lst, ↓cellD_ins, ↓hpK_0, ↓hpK_end, ↓get_dat, ↓get_sl, ↓slotP_val, ↓slotP_own, ↓varK_val, ↓varK_own, ↓varRK_val, ↓varRK_own, ↓varPK_val, ↓varPK_own, ↓x_var_v, ↓x_var_p, ↓x_var_t, ↓x_ret_var, ↓x_int_v, ↓x_int_p, ↓x_int_t, ↓x_bl_v, ↓x_bl_p, ↓x_bl_t, ↓x_non_v, ↓x_non_p, ↓x_non_t, ↓x_str_v, ↓x_str_p, ↓x_str_t, ↓x_bin_v, ↓x_bin_p, ↓x_bin_t, ↓x_neg_v, ↓x_neg_p, ↓x_neg_t, ↓x_cmp_v, ↓x_cmp_p, ↓x_cmp_t, ↓x_chain_v, ↓x_chain_p, ↓x_chain_t, ↓x_tup_v, ↓x_tup_p, ↓x_tup_t, ↓x_lst_v, ↓x_lst_p, ↓x_lst_t, ↓x_ix_v, ↓x_ix_p, ↓x_ix_t, ↓x_slc_v, ↓x_slc_p, ↓x_slc_t, ↓x_rev_v, ↓x_rev_p, ↓x_rev_t, ↓fldK_ins, ↓x_fld_v, ↓x_fld_p, ↓x_fld_t, ↓x_call_v, ↓x_call_p, ↓x_call_t, ↓x_mk_v, ↓x_mk_p, ↓x_mk_t, ↓x_bi_v, ↓x_bi_p, ↓x_bi_t, ↓x_isi_v, ↓x_isi_p, ↓x_isi_t, ↓x_lend_p, ↓x_im_v, ↓x_im_p, ↓x_im_t, ↓x_lm_v, ↓x_lm_p, ↓x_lm_t, ↓x_xf_v, ↓x_xf_p, ↓x_xf_t, ↓blK_bl, ↓x_eqI_v, ↓x_eqI_p, ↓x_eqI_t, ↓x_lenSet_v, ↓x_lenSet_p, ↓x_lenSet_t, ↓x_rng1_v, ↓x_rng1_p, ↓x_rng1_t, ↓x_rng2_v, ↓x_rng2_p, ↓x_rng2_t, ↓x_lc_v, ↓x_lc_p, ↓x_lc_t, ↓x_not_v, ↓x_not_t, ↓x_not_p, ↓x_and_v, ↓x_and_t, ↓x_and_p, ↓x_or_v, ↓x_or_t, ↓x_or_p, ↓x_ite_v, ↓x_ite_t, ↓x_ite_p, ↓x_vnil, ↓x_vcons, ↓x_pnil, ↓x_pcons, ↓gets_nil, ↓gets_cons, ↓x_inil, ↓x_icons, ↓x_ono, ↓x_oso, ↓walk_dat, ↓walkS_val, ↓walkS_own, ↓walk_sl, ↓x_seq, ↓x_r1, ↓x_r2, ↓seq_dat, ↓seqS_val, ↓seqS_own, ↓seq_sl, ↓x_enum, ↓x_zip, ↓fl_next, ↓fl_brk, ↓fl_cont, ↓fl_ret, ↓x_nil, ↓x_cons, ↓x_asg, ↓asg_val, ↓asg_own_val, ↓asg_own_own, ↓asg_own_cell, ↓tg_name, ↓tg_tup, ↓puts_nil, ↓puts_cons, ↓x_asgT, ↓x_setIx, ↓x_setF, ↓x_ex, ↓x_ret, ↓x_retN, ↓x_if, ↓x_for, ↓x_whl, ↓x_brk, ↓x_cont, ↓x_pass, ↓x_raise, ↓x_try, ↓x_hnil, ↓x_hconsN, ↓x_hconsS, ↓fret_next, ↓fret_ret, ↓ent_nil, ↓ent_cons, ↓nos0, ↓nosS, hp_mk, sl_mk, d_val, d_own, ↓negK_int, ↓intK_int, ↓lstK_lst, ↓insK_ins, ↓excK_exc, ↓bigK_nil, ↓bigK_1, ↓bigK_2, ↓bigK_3, ↓bigK_4, ↓bigK_5, ↓fnK0, ↓fnK1, ↓fnK12, ↓fnK2, ↓mkK_some, ↓xcK_1, ↓xcK_2, ↓xcK_3, ↓xcK_4, ↓xcK_5, ↓xkK_t, ↓xkK_f, ↓clK_nil, ↓clK_val, ↓clK_own, ↓clK_no, ↓smK_t, ↓r_int, ↓r_bl, ↓r_non, ↓r_str, ↓r_bin, ↓r_neg, ↓r_not, ↓r_cmp, ↓r_chain, ↓r_and, ↓r_or, ↓r_ite, ↓r_tup, ↓r_lst, ↓r_ix, ↓r_slc, ↓r_rev, ↓r_fld, ↓r_call, ↓r_mk, ↓r_bi, ↓r_isi, ↓r_im, ↓r_lm, ↓r_lc, ↓r_eqI, ↓r_lenSet, ↓r_xf, b_add, b_sub, c_lt, c_le, c_gt, c_ge, c_eq, c_ne, c_isN_non, c_isN_int, c_isN_str, c_isN_tup, c_isN_lst, c_notN_non, c_notN_int, c_notN_str, c_notN_tup, c_notN_lst, tr_bl, tr_non, tr_int, tr_tup, tr_lst, u_lenL, u_lenT, u_lenE, u_abs, u_int, u_tupL, u_tupT, u_lstL, u_lstT, u_max2, u_min2, q_lst, q_tup, q_ext, w_lst, w_tup, w_ext, s_lst, s_tup, cut_take, cut_drop, ix_lst, ix_tup, ix_lst0, ix_tup0, ix_lst1, ix_tup1, ix_tup2, ix_lst2, ix_lst3, ↓lm_append, ↓set_ix, ↓ixK_own, ↓ixK_cell, ↓flK_next, ↓flK_cont, ↓flK_brk, ↓flK_ret, range0, Int.toNat_natCast, ixN_0, ixN_1, ixN_2, ixN_3, apK_own, and_self, setF_end, x_fn, bigK_m, b_mod, b_div, b_mul, b_pow, smK_nat, in_lst, in_tup, nin_lst, nin_tup, putF, List.lookup, List.length_cons, List.length_nil, Nat.reduceAdd, decide_true, decide_false, Bool.not_true, Bool.not_false, if_true, Nat.reduceLT, Nat.reduceLeDiff, Nat.reduceEqDiff, Nat.reduceBEq, beq_self_eq_true, Int.reduceLT, Int.reduceLE, Int.reduceEq, Int.reduceAdd, Int.reduceSub, Int.reduceNeg, Int.reduceToNat, Bool.false_eq_true, List.set_cons_succ, List.set_cons_zero, List.getElem?_cons_succ, List.getElem?_cons_zero, Int.cast_ofNat_Int, eq_self, if_false, List.cons_append, List.nil_append, Option.isNone_none])
/-! ### hues are right exactly if depths are unlike -/
theorem nd_le {α : Type} [BEq α] [LawfulBEq α] : ∀ {l m : List α}, l.Nodup → (∀ z, z ∈ l → z ∈ m) → l.length ≤ m.length
  | [], _, _, _ => Nat.zero_le _
  | x :: l, m, a, h => by
    obtain ⟨a1, a2⟩ := List.nodup_cons.mp a
    have hx := h x List.mem_cons_self
    have q := nd_le a2 (m := m.erase x) fun z hz => (List.mem_erase_of_ne (by intro e; rw [e] at hz; exact a1 hz)).mpr (h z (List.mem_cons_of_mem _ hz))
    rw [List.length_erase_of_mem hx] at q
    have := List.length_pos_of_mem hx
    rw [List.length_cons]
    omega
theorem pigeon {l : List Nat} {q p : Nat} (h : l.Nodup) (hl : l.length = q + 1) (hb : ∀ x ∈ l, x ≤ q) (hp : p ≤ q) : p ∈ l := by
  refine Decidable.byContradiction fun hn => ?_
  have h2 : (p :: l).Nodup := List.nodup_cons.mpr ⟨hn, h⟩
  have h3 := nodup_len (n := q + 1) h2 fun x hx => by
    rcases List.mem_cons.mp hx with rfl | hx
    · omega
    · have := hb x hx; omega
  rw [List.length_cons] at h3
  omega
theorem asc_pair {P : Nat → Nat → Prop} : ∀ {l : List Nat}, Asc l → (l.Pairwise P ↔ ∀ a ∈ l, ∀ b ∈ l, a < b → P a b)
  | [], _ => by simp
  | x :: l, h => by
    obtain ⟨h1, h2⟩ := List.pairwise_cons.mp h
    rw [List.pairwise_cons, asc_pair h2]
    refine ⟨fun ⟨g1, g2⟩ a ha b hb hab => ?_, fun g => ⟨fun b hb => g x List.mem_cons_self b (List.mem_cons_of_mem _ hb) (h1 b hb), fun a ha b hb => g a (List.mem_cons_of_mem _ ha) b (List.mem_cons_of_mem _ hb)⟩⟩
    rcases List.mem_cons.mp ha with ea | ha
    · rcases List.mem_cons.mp hb with eb | hb
      · omega
      · rw [ea]; exact g1 b hb
    · rcases List.mem_cons.mp hb with eb | hb
      · have := h1 a ha; omega
      · exact g2 a ha b hb hab
section
variable {rows : List Row} {hs : List (Option Nat)}
theorem kin_self {c : Nat} : c ∈ kin rows c := by simp [kin]
theorem kin_asc (ok : RowsOk rows) (c : Nat) : Asc (kin rows c) := el_end ok c
theorem kin_trans (ok : RowsOk rows) {x y c : Nat} (hc : c < rows.length) (hx : x ∈ kin rows c) (hy : y ∈ kin rows x) : y ∈ kin rows c := by
  unfold kin at hx hy ⊢
  rw [List.mem_append, List.mem_singleton] at hx hy ⊢
  rcases hx with hx | rfl
  · rcases hy with hy | rfl
    · exact .inl (el_trans ok hc hx hy)
    · exact .inl hx
  · exact hy
/-- those of one hue among a class and its elders -/
def same (rows : List Row) (hs : List (Option Nat)) (c : Nat) : List Nat := (kin rows c).filter fun one => decide (hu hs one = hu hs c)
theorem same_mem {c x : Nat} : x ∈ same rows hs c ↔ x ∈ kin rows c ∧ hu hs x = hu hs c := by unfold same; rw [List.mem_filter, decide_eq_true_eq]
theorem same_asc (ok : RowsOk rows) (c : Nat) : Asc (same rows hs c) := List.Pairwise.filter _ (kin_asc ok c)
theorem same_dep (c : Nat) : (same rows hs c).length = dep rows hs c + 1 := by
  have : 0 < (same rows hs c).length := List.length_pos_of_mem (a := c) (same_mem.mpr ⟨kin_self, rfl⟩)
  unfold dep
  show _ = (same rows hs c).length - 1 + 1
  omega
theorem dep_le (ok : RowsOk rows) {x c : Nat} (hc : c < rows.length) (hx : x ∈ same rows hs c) : dep rows hs x ≤ dep rows hs c := by
  obtain ⟨h1, h2⟩ := same_mem.mp hx
  have := nd_le (asc_nodup (same_asc (hs := hs) ok x)) (m := same rows hs c) fun z hz => by
    obtain ⟨g1, g2⟩ := same_mem.mp hz
    exact same_mem.mpr ⟨kin_trans ok hc h1 g1, g2.trans h2⟩
  rw [same_dep, same_dep] at this
  omega
theorem dep_lt (ok : RowsOk rows) {x c : Nat} (hc : c < rows.length) (hx : x ∈ el rows c) (hh : hu hs x = hu hs c) : dep rows hs x < dep rows hs c := by
  have lx := (el_ok ok c).2 x hx
  have nd : (c :: same rows hs x).Nodup := List.nodup_cons.mpr ⟨fun z => by have := kin_lt ok c (same_mem.mp z).1; omega, asc_nodup (same_asc ok x)⟩
  have := nd_le nd (m := same rows hs c) fun z hz => by
    rcases List.mem_cons.mp hz with rfl | hz
    · exact same_mem.mpr ⟨kin_self, rfl⟩
    · obtain ⟨g1, g2⟩ := same_mem.mp hz
      exact same_mem.mpr ⟨kin_trans ok hc (by unfold kin; simp [hx]) g1, g2.trans hh⟩
  rw [List.length_cons, same_dep, same_dep] at this
  omega
/-- no two of one hue stand off one another -/
def Right (rows : List Row) (hs : List (Option Nat)) : Prop := ∀ c < rows.length, ∀ a ∈ kin rows c, ∀ b ∈ kin rows c, a < b → (hu hs a).isSome = true → hu hs a = hu hs b → a ∈ el rows b
def Unlike (rows : List Row) (hs : List (Option Nat)) : Prop := ∀ c < rows.length, ∀ a ∈ kin rows c, ∀ b ∈ kin rows c, a < b → (hu hs a).isSome = true → hu hs a = hu hs b → dep rows hs a ≠ dep rows hs b
theorem clashN_none : clashN rows hs = none ↔ Right rows hs := by
  unfold clashN Right pairN
  rw [List.findSome?_eq_none_iff]
  refine ⟨fun h c hc a ha b hb h1 h2 h3 => ?_, fun h c hc => ?_⟩
  · have q := h c (List.mem_range.mpr hc)
    rw [Option.map_eq_none_iff, List.findSome?_eq_none_iff] at q
    have q2 := List.findSome?_eq_none_iff.mp (q a ha) b hb
    unfold clB at q2
    by_cases m : a ∈ el rows b
    · exact m
    · rw [if_pos ⟨h1, h2, h3, m⟩] at q2
      cases q2
  · have hc := List.mem_range.mp hc
    rw [Option.map_eq_none_iff, List.findSome?_eq_none_iff]
    intro a ha
    rw [List.findSome?_eq_none_iff]
    intro b hb
    unfold clB
    rw [if_neg]
    rintro ⟨h1, h2, h3, h4⟩
    exact h4 (h c hc a ha b hb h1 h2 h3)
theorem unB_iff (ok : RowsOk rows) : unB rows hs = true ↔ Unlike rows hs := by
  unfold unB Unlike kins
  rw [List.all_eq_true]
  have one : ∀ c, (mtN rows hs (kin rows c)).Nodup ↔ ∀ a ∈ kin rows c, ∀ b ∈ kin rows c, a < b → (hu hs a).isSome = true → hu hs a = hu hs b → dep rows hs a ≠ dep rows hs b := fun c => by
    unfold mtN
    show List.Pairwise _ _ ↔ _
    rw [List.pairwise_map, asc_pair (List.Pairwise.filter _ (kin_asc ok c))]
    refine ⟨fun h a ha b hb h1 h2 h3 h4 => ?_, fun h a ha b hb h1 h2 => ?_⟩
    · refine h a (List.mem_filter.mpr ⟨ha, h2⟩) b (List.mem_filter.mpr ⟨hb, by rw [← h3]; exact h2⟩) h1 ?_
      rw [h3, h4]
    · obtain ⟨ha, sa⟩ := List.mem_filter.mp ha
      obtain ⟨hb, sb⟩ := List.mem_filter.mp hb
      obtain ⟨x, hx⟩ := Option.isSome_iff_exists.mp sa
      obtain ⟨y, hy⟩ := Option.isSome_iff_exists.mp sb
      rw [hx, hy] at h2
      simp only [Option.getD_some, Prod.mk.injEq] at h2
      exact h a ha b hb h1 sa (by rw [hx, hy, h2.1]) h2.2
  refine ⟨fun h c hc => (one c).mp (of_decide_eq_true (h _ (List.mem_map.mpr ⟨c, List.mem_range.mpr hc, rfl⟩))), fun h l hl => ?_⟩
  obtain ⟨c, hc, rfl⟩ := List.mem_map.mp hl
  exact decide_eq_true ((one c).mpr (h c (List.mem_range.mp hc)))
theorem off_hit (ok : RowsOk rows) (u : Unlike rows hs) {a b c : Nat} (hc : c < rows.length) (ha : a ∈ kin rows c) (hb : b ∈ kin rows c) (sa : (hu hs a).isSome = true) (hh : hu hs a = hu hs b) (n1 : a ∉ kin rows b) (hd : dep rows hs a ≤ dep rows hs b) : False := by
  have lb : b < rows.length := kin_in ok hc b hb
  have lt2 : ∀ x ∈ same rows hs b, ∀ y ∈ same rows hs b, x < y → dep rows hs x ≠ dep rows hs y := fun x hx y hy hxy => by
    obtain ⟨x1, x2⟩ := same_mem.mp hx
    obtain ⟨y1, y2⟩ := same_mem.mp hy
    exact u b lb x x1 y y1 hxy (by rw [x2, ← hh]; exact sa) (x2.trans y2.symm)
  have nd : ((same rows hs b).map (dep rows hs)).Nodup := by
    show List.Pairwise _ _
    rw [List.pairwise_map, asc_pair (same_asc ok b)]
    exact lt2
  have := pigeon nd (q := dep rows hs b) (by rw [List.length_map, same_dep]) (fun x hx => by
    obtain ⟨y, hy, rfl⟩ := List.mem_map.mp hx
    exact dep_le ok lb hy) hd
  obtain ⟨x, hx, ex⟩ := List.mem_map.mp this
  obtain ⟨x1, x2⟩ := same_mem.mp hx
  have xc := kin_trans ok hc hb x1
  have ne : x ≠ a := fun e => n1 (e ▸ x1)
  have sx : (hu hs x).isSome = true := by rw [x2, ← hh]; exact sa
  rcases Nat.lt_or_gt_of_ne ne with l | l
  · exact u c hc x xc a ha l sx (x2.trans hh.symm) ex
  · exact u c hc a ha x xc l sa (hh.trans x2.symm) ex.symm
theorem right_unlike (ok : RowsOk rows) : Right rows hs ↔ Unlike rows hs := by
  refine ⟨fun r c hc a ha b hb h1 h2 h3 => ?_, fun u c hc a ha b hb h1 h2 h3 => ?_⟩
  · have := dep_lt ok (kin_in ok hc b hb) (r c hc a ha b hb h1 h2 h3) h3
    omega
  · refine Decidable.byContradiction fun m => ?_
    have n1 : a ∉ kin rows b := fun z => m ((mem_kin h1).mp z)
    have n2 : b ∉ kin rows a := fun z => by have := kin_lt ok b z; omega
    rcases Nat.le_total (dep rows hs a) (dep rows hs b) with l | l
    · exact off_hit ok u hc ha hb h2 h3 n1 l
    · exact off_hit ok u hc hb ha (h3 ▸ h2) h3.symm n2 l
theorem none_unB (ok : RowsOk rows) : (clashN rows hs).isNone = unB rows hs := by
  rw [Bool.eq_iff_iff, Option.isNone_iff_eq_none, clashN_none, unB_iff ok, right_unlike ok]
end
end LawP
set_option Elab.async false
set_option linter.all false
set_option maxRecDepth 100000
set_option maxHeartbeats 0
namespace LawP
open PySem MP
local macro_rules
  | `(tactic| simpa! only [$ls,*]) => `(tactic| simp -implicitDefEqProofs only [$ls,*, ↓wp_ok, ↓wp_bad, ↓wp_exc, ↓wp_opt, ↓ow_bind, ↓ow_map, ↓ow_some, ↓ow_none, ↓fow_ok, ↓fow_exc, ↓bK_t, ↓bK_f, ↓bK_not, ↓lk0, ↓lkS, ↓stK0, ↓stKS, ↓see_int, ↓see_bl, ↓see_str, ↓see_non, ↓see_tup, ↓see_lst, ↓see_ext, ↓see_rng, ↓see_ins, ↓see_cell, ↓cellD_lst, ↓cellD_ins, ↓hpK_0, ↓hpK_end, ↓get_dat, ↓get_sl, ↓slotP_val, ↓slotP_own, ↓varK_val, ↓varK_own, ↓varRK_val, ↓varRK_own, ↓varPK_val, ↓varPK_own, ↓x_var_v, ↓x_var_p, ↓x_var_t, ↓x_ret_var, ↓x_int_v, ↓x_int_p, ↓x_int_t, ↓x_bl_v, ↓x_bl_p, ↓x_bl_t, ↓x_non_v, ↓x_non_p, ↓x_non_t, ↓x_str_v, ↓x_str_p, ↓x_str_t, ↓x_bin_v, ↓x_bin_p, ↓x_bin_t, ↓x_neg_v, ↓x_neg_p, ↓x_neg_t, ↓x_cmp_v, ↓x_cmp_p, ↓x_cmp_t, ↓x_chain_v, ↓x_chain_p, ↓x_chain_t, ↓x_tup_v, ↓x_tup_p, ↓x_tup_t, ↓x_lst_v, ↓x_lst_p, ↓x_lst_t, ↓x_ix_v, ↓x_ix_p, ↓x_ix_t, ↓x_slc_v, ↓x_slc_p, ↓x_slc_t, ↓x_rev_v, ↓x_rev_p, ↓x_rev_t, ↓fldK_ins, ↓x_fld_v, ↓x_fld_p, ↓x_fld_t, ↓x_call_v, ↓x_call_p, ↓x_call_t, ↓x_mk_v, ↓x_mk_p, ↓x_mk_t, ↓x_bi_v, ↓x_bi_p, ↓x_bi_t, ↓x_isi_v, ↓x_isi_p, ↓x_isi_t, ↓x_lend_p, ↓x_im_v, ↓x_im_p, ↓x_im_t, ↓x_lm_v, ↓x_lm_p, ↓x_lm_t, ↓x_xf_v, ↓x_xf_p, ↓x_xf_t, ↓blK_bl, ↓x_eqI_v, ↓x_eqI_p, ↓x_eqI_t, ↓x_lenSet_v, ↓x_lenSet_p, ↓x_lenSet_t, ↓x_rng1_v, ↓x_rng1_p, ↓x_rng1_t, ↓x_rng2_v, ↓x_rng2_p, ↓x_rng2_t, ↓x_lc_v, ↓x_lc_p, ↓x_lc_t, ↓x_not_v, ↓x_not_t, ↓x_not_p, ↓x_and_v, ↓x_and_t, ↓x_and_p, ↓x_or_v, ↓x_or_t, ↓x_or_p, ↓x_ite_v, ↓x_ite_t, ↓x_ite_p, ↓x_vnil, ↓x_vcons, ↓x_pnil, ↓x_pcons, ↓gets_nil, ↓gets_cons, ↓x_inil, ↓x_icons, ↓x_ono, ↓x_oso, ↓walk_dat, ↓walkS_val, ↓walkS_own, ↓walk_sl, ↓x_seq, ↓x_r1, ↓x_r2, ↓seq_dat, ↓seqS_val, ↓seqS_own, ↓seq_sl, ↓x_enum, ↓x_zip, ↓fl_next, ↓fl_brk, ↓fl_cont, ↓fl_ret, ↓x_nil, ↓x_cons, ↓x_asg, ↓asg_val, ↓asg_own_val, ↓asg_own_own, ↓asg_own_cell, ↓tg_name, ↓tg_tup, ↓puts_nil, ↓puts_cons, ↓x_asgT, ↓x_setIx, ↓x_setF, ↓x_ex, ↓x_ret, ↓x_retN, ↓x_if, ↓x_for, ↓x_whl, ↓x_brk, ↓x_cont, ↓x_pass, ↓x_raise, ↓x_try, ↓x_hnil, ↓x_hconsN, ↓x_hconsS, ↓fret_next, ↓fret_ret, ↓ent_nil, ↓ent_cons, ↓nos0, ↓nosS, hp_mk, sl_mk, d_val, d_own, ↓negK_int, ↓intK_int, ↓lstK_lst, ↓insK_ins, ↓excK_exc, ↓bigK_nil, ↓bigK_1, ↓bigK_2, ↓bigK_3, ↓bigK_4, ↓bigK_5, ↓fnK0, ↓fnK1, ↓fnK12, ↓fnK2, ↓mkK_some, ↓xcK_1, ↓xcK_2, ↓xcK_3, ↓xcK_4, ↓xcK_5, ↓xkK_t, ↓xkK_f, ↓clK_nil, ↓clK_val, ↓clK_own, ↓clK_no, ↓smK_t, ↓r_int, ↓r_bl, ↓r_non, ↓r_str, ↓r_bin, ↓r_neg, ↓r_not, ↓r_cmp, ↓r_chain, ↓r_and, ↓r_or, ↓r_ite, ↓r_tup, ↓r_lst, ↓r_ix, ↓r_slc, ↓r_rev, ↓r_fld, ↓r_call, ↓r_mk, ↓r_bi, ↓r_isi, ↓r_im, ↓r_lm, ↓r_lc, ↓r_eqI, ↓r_lenSet, ↓r_xf, b_add, b_sub, c_lt, c_le, c_gt, c_ge, c_eq, c_ne, c_isN_non, c_isN_int, c_isN_str, c_isN_tup, c_isN_lst, c_notN_non, c_notN_int, c_notN_str, c_notN_tup, c_notN_lst, tr_bl, tr_non, tr_int, tr_tup, tr_lst, u_lenL, u_lenT, u_lenE, u_abs, u_int, u_tupL, u_tupT, u_lstL, u_lstT, u_max2, u_min2, q_lst, q_tup, q_ext, w_lst, w_tup, w_ext, s_lst, s_tup, cut_take, cut_drop, ix_lst, ix_tup, ix_lst0, ix_tup0, ix_lst1, ix_tup1, ix_tup2, ix_lst2, ix_lst3, ↓lm_append, ↓set_ix, ↓ixK_own, ↓ixK_cell, ↓flK_next, ↓flK_cont, ↓flK_brk, ↓flK_ret, range0, Int.toNat_natCast, ixN_0, ixN_1, ixN_2, ixN_3, apK_own, and_self, setF_end, x_fn, bigK_m, b_mod, b_div, b_mul, b_pow, smK_nat, in_lst, in_tup, nin_lst, nin_tup, putF, List.lookup, List.length_cons, List.length_nil, Nat.reduceAdd, decide_true, decide_false, Bool.not_true, Bool.not_false, if_true, Nat.reduceLT, Nat.reduceLeDiff, Nat.reduceEqDiff, Nat.reduceBEq, beq_self_eq_true, Int.reduceLT, Int.reduceLE, Int.reduceEq, Int.reduceAdd, Int.reduceSub, Int.reduceNeg, Int.reduceToNat, Bool.false_eq_true, List.set_cons_succ, List.set_cons_zero, List.getElem?_cons_succ, List.getElem?_cons_zero, Int.cast_ofNat_Int, eq_self, if_false, List.cons_append, List.nil_append, Option.isNone_none])
/-! ### k14: the law -/
theorem classesH_ok {h : List Cell} (H : HandOk h) (low high most : Int) (w : Bool) (h0 : 1 ≤ low) (h1 : low ≤ high) (h12 : high ≤ 12) (hm : 0 ≤ most) (hm2 : most < 1000) :
    ∃ (rows : List LRow) (h' : List Cell), f__law_classes_f9b7 [.cell 0, .int low, .int high, .int most, .bl w] h = .ok (.own (lrsD rows)) h' ∧ HandOk h' ∧ low ≤ rows.length ∧ rows.length ≤ high ∧ LsOk rows ∧ (rows.map fun r => r.2.1).sum ≤ most := by
  rw [al__law_classes_f9b7]
  exact classes_ok H low high most w h0 h1 h12 hm hm2
theorem see_tri {h : List Cell} {o : Option Tri} {k : D → Prop} : seeK h (triD o) k = k (triD o) := by cases o <;> rfl
theorem tri_isN {o : Option Tri} : cmpSem .isN (triD o) .non = some o.isNone := by cases o <;> rfl
theorem lrs_bel {rows : List LRow} {n : Nat} : D.bels n (lrsD rows) = true := bels_map fun r _ => by
  unfold lrD
  simp only [D.bel, D.bels, bels_ns, Bool.and_self, Bool.and_true]
theorem lls_bel {l : List (List Nat)} {n : Nat} : D.bels n (lls l) = true := bels_map fun r _ => by
  unfold D.bel; exact bels_ns
theorem tts_eq {l : List (List Nat)} : cmpSem .eq (.tup (tts l)) (.tup (tts l)) = some true := by
  have f : ∀ l : List Nat, D.fits 59 (ns l) = true := fun l => by
    induction l with
    | nil => rfl
    | cons a l ih => rw [ns_cons]; unfold D.fits; rw [ih]; rfl
  have f2 : D.fits 60 (tts l) = true := by
    induction l with
    | nil => rfl
    | cons r l ih =>
      unfold tts at ih ⊢
      rw [List.map_cons]
      unfold D.fits
      rw [ih, Bool.and_true]
      unfold D.fit
      exact f r
  have f3 : D.fit depthMax (.tup (tts l)) = true := by unfold D.fit; exact f2
  have f4 : D.eqvs (tts l) (tts l) = true := by
    clear f2 f3
    induction l with
    | nil => rfl
    | cons r l ih =>
      unfold tts at ih ⊢
      rw [List.map_cons]
      unfold D.eqvs
      rw [ih, Bool.and_true]
      unfold D.eqv
      exact eqvs_ns r
  show (if D.fit depthMax (.tup (tts l)) && D.fit depthMax (.tup (tts l)) then some (D.eqv (.tup (tts l)) (.tup (tts l))) else none) = _
  rw [f3]
  have : D.eqv (.tup (tts l)) (.tup (tts l)) = true := by unfold D.eqv; exact f4
  rw [this]
  rfl
theorem sl_val {n : Nat} {d : D} : Slot.bel n (.val d) = D.bel n d := rfl
theorem sl_no {n : Nat} : Slot.bel n .no = true := rfl
theorem sl_int {n : Nat} {i : Int} : Slot.bel n (.val (.int i)) = true := rfl
theorem plain : ∀ l : List Int, l.length ≤ 63 → ∃ h', f_law_17f4 [.ext (l.map .int)] [] = .ok (.val (.bl true)) h' := fun l hl => by
  suffices q : fow (f_law_17f4 [.ext (l.map .int)] []) (fun r' h' => r' = .val (.bl true)) fun _ _ => False by
    obtain ⟨_, h', e, rfl⟩ := fow_ex q
    exact ⟨h', e⟩
  obtain ⟨t, e1⟩ := hand_ok l [] hl
  have H0 : HandOk [.lst [.lst ((l.map absI).map .int), .int 0, .int 0, .int t]] := ⟨l.map absI, 0, 0, t, rfl, fun c hc => by
    obtain ⟨i, _, rfl⟩ := List.mem_map.mp hc
    exact absI_nonneg i, by decide, by decide⟩
  obtain ⟨v0, h1, e2, H1, m0⟩ := take_ok H0 4
  obtain ⟨k, hk, km⟩ := pick (l := [4, 4, 4, 5]) (v := v0) (by show v0 < 4; omega)
  have k5 : 1 ≤ k ∧ k ≤ 5 := (by decide : ∀ k ∈ [4, 4, 4, 5], 1 ≤ k ∧ k ≤ 5) k km
  obtain ⟨rows, h2, e3, H2, n1, n2, ok, _⟩ := classesH_ok H1 1 k 8 false (by decide) (by omega) (by omega) (by decide) (by decide)
  obtain ⟨lo, h3, e4, H3, m1⟩ := take_ok H2 8
  obtain ⟨u, h4, e5, H4, m2⟩ := take_ok H3 7
  obtain ⟨st, h5, e6, H5, m3⟩ := take_ok H4 5
  have n4 : 1 ≤ rows.length := by omega
  have n5 : rows.length ≤ 5 := by omega
  have n6 : rows.length < 1000000 := by omega
  have h12 : rows.length ≤ 12 := by omega
  have okr := ok.row
  have e7 := World_ok (hand_hp H5) (lrs_ens (rows := rows)) okr n4 h12
  rw [ok.norm] at e7
  have e8 := law_kin_ok (h := h5) ok h12
  have p8 : (0 : Int) < 8 := by decide
  have p3 : (0 : Int) < 3 := by decide
  have p5 : (0 : Int) < 5 := by decide
  have hiE : ((lo : Int) + 1 + u) % 8 = (((lo + 1 + u) % 8 : Nat) : Int) := by omega
  generalize hhi : (lo + 1 + u) % 8 = hi at hiE
  have hi7 : hi ≤ 7 := by omega
  have q3 : (0 : Int) < 3 ∧ (3 : Int) < 2 ^ 30 := by decide
  have mul3 : ∀ j : Int, binSem .mul (.int j) (.int 3) = some (.val (.int (j * 3))) := fun j => b_mul (.inr (by decide))
  simpa! only [e1, e2, f_law_17f4, c_law_17f4, e_law_17f4_0, e_law_17f4_1, e_law_17f4_2, e_law_17f4_3, e_law_17f4_4, e_law_17f4_5, e_law_17f4_6, e_law_17f4_7, e_law_17f4_8, e_law_17f4_9, e_law_17f4_10]
  refine ow_of hk ?_
  simpa! only [e3, e4, e5, e6, b_mod p8, hiE, e7, e8, n6, lrs_len, c_law_17f4, e_law_17f4_0, e_law_17f4_1, e_law_17f4_2, e_law_17f4_3, e_law_17f4_4, e_law_17f4_5, e_law_17f4_6, e_law_17f4_7, e_law_17f4_8, e_law_17f4_9, e_law_17f4_10]
  refine wp_forN (fun pre s => ∃ y, Slot.bel 1 y = true ∧ s = ⟨[.val (.ext (l.map .int)), .val (.cell 0), .val (.lst (lrsD rows)), .val (.int lo), .val (.int hi), .val (.int st), .val (worldD rows), .val (.lst (lls (kins rows))), .val (.int ((3 ^ pre.length : Nat) : Int)), y, .no, .no, .no, .no, .no, .no, .no], h5⟩) ⟨_, rfl, rfl⟩ ?_ ?_
  · rintro _ ⟨y, hy, rfl⟩
    rw [List.length_range]
    have t6 : 3 ^ rows.length < 1000000 := Nat.lt_of_le_of_lt (Nat.pow_le_pow_right (by decide) n5) (by decide)
    generalize 3 ^ rows.length = T at t6
    simpa! only [t6, c_law_17f4, e_law_17f4_0, e_law_17f4_1, e_law_17f4_2, e_law_17f4_3, e_law_17f4_4, e_law_17f4_5, e_law_17f4_6, e_law_17f4_7, e_law_17f4_8, e_law_17f4_9, e_law_17f4_10]
    refine wp_forN (fun pre s => ∃ x9 x10 x11 x12 x13, Slot.bel 1 x9 = true ∧ Slot.bel 1 x13 = true ∧ s = ⟨[.val (.ext (l.map .int)), .val (.cell 0), .val (.lst (lrsD rows)), .val (.int lo), .val (.int hi), .val (.int st), .val (worldD rows), .val (.lst (lls (kins rows))), .val (.int (T : Int)), x9, x10, x11, x12, x13, .no, .no, .no], h5⟩) ⟨_, _, _, _, _, hy, rfl, rfl⟩ ?_ ?_
    · rintro _ ⟨x9, x10, x11, x12, x13, hx9, hx13, rfl⟩
      simpa! only [see_world, fldW_3, c_law_17f4, e_law_17f4_0, e_law_17f4_1, e_law_17f4_2, e_law_17f4_3, e_law_17f4_4, e_law_17f4_5, e_law_17f4_6, e_law_17f4_7, e_law_17f4_8, e_law_17f4_9, e_law_17f4_10]
      refine lc_T (en := lrD) (en2 := fun r => D.tup (ns r)) (fun r => [.val (.ext (l.map .int)), .val (.cell 0), .val (.lst (lrsD rows)), .val (.int lo), .val (.int hi), .val (.int st), .val (worldD rows), .val (.lst (lls (kins rows))), .val (.int (T : Int)), x9, x10, x11, x12, x13, .val (.lst (ns r.1)), .val (.int r.2.1), .val (.lst (ns r.2.2))]) (fun _ => true) (fun r : LRow => r.1) rfl rfl (fun r _ => rfl) (fun r _ => rfl) (fun r _ => rfl) (by unfold big; omega) ?_ ?_ ?_
      · intro r hr
        simpa! only [c_law_17f4, e_law_17f4_0, e_law_17f4_1, e_law_17f4_2, e_law_17f4_3, e_law_17f4_4, e_law_17f4_5, e_law_17f4_6, e_law_17f4_7, e_law_17f4_8, e_law_17f4_9, e_law_17f4_10]
      · intro r hr _
        simpa! only [c_law_17f4, e_law_17f4_0, e_law_17f4_1, e_law_17f4_2, e_law_17f4_3, e_law_17f4_4, e_law_17f4_5, e_law_17f4_6, e_law_17f4_7, e_law_17f4_8, e_law_17f4_9, e_law_17f4_10]
      · have e : (((rows.filter fun _ => true).map fun r : LRow => r.1).map fun r => D.tup (ns r)) = tts (basesR rows) := by
          unfold tts basesR
          rw [List.filter_eq_self.mpr fun _ _ => rfl]
        rw [e]
        simpa! only [tts_eq, c_law_17f4, e_law_17f4_0, e_law_17f4_1, e_law_17f4_2, e_law_17f4_3, e_law_17f4_4, e_law_17f4_5, e_law_17f4_6, e_law_17f4_7, e_law_17f4_8, e_law_17f4_9, e_law_17f4_10]
    · rintro pre c suf _ _ ⟨x9, x10, x11, x12, x13, hx9, hx13, rfl⟩
      simpa! only [lrs_len, n6, c_law_17f4, e_law_17f4_0, e_law_17f4_1, e_law_17f4_2, e_law_17f4_3, e_law_17f4_4, e_law_17f4_5, e_law_17f4_6, e_law_17f4_7, e_law_17f4_8, e_law_17f4_9, e_law_17f4_10, c_law_17f4_3]
      refine wp_forN (fun pre s => ∃ (y : MP.Slot) (rest : Nat) (hs : List (Option Nat)), Slot.bel 1 y = true ∧ s = ⟨[.val (.ext (l.map .int)), .val (.cell 0), .val (.lst (lrsD rows)), .val (.int lo), .val (.int hi), .val (.int st), .val (worldD rows), .val (.lst (lls (kins rows))), .val (.int (T : Int)), y, .val (.int c), .val (.int rest), .own (hsD hs), x13, .no, .no, .no], h5⟩ ∧ hs.length = pre.length ∧ HuOk hs) ⟨_, c, [], hx9, rfl, rfl, fun o ho => by cases ho⟩ ?_ ?_
      · rintro _ ⟨y, rest, hs, hy2, rfl, s1, s2⟩
        rw [List.length_range] at s1
        obtain ⟨cs, p, r, t, rfl, hh⟩ := H5
        have HH : HandOk (hand cs p r t []) := ⟨cs, p, r, t, rfl, hh⟩
        have hl1 : (hand cs p r t []).length = 1 := rfl
        have sd : D.see (hand cs p r t [] ++ [.lst (hsD hs)]) (.cell 1) = some (.lst (hsD hs)) := rfl
        have a1 := law_clash_ok (rows := rows) okr h12 sd s1
        have a2 := depths_unlike_ok (rows := rows) okr h12 sd s1
        have a3 := hue_fault_ok (h := hand cs p r t []) (rows := rows) (hs := hs) (hand_hp HH) okr h12 (.inr rfl) s1 s2
        have a4 := three_right_ok (h := hand cs p r t []) (o := clashN rows hs)
        have a5 := built_ok (h := hand cs p r t []) (rows := rows) (hs := hs) (hand_hp HH) okr h12 s1 s2
        have bw : ∀ n, D.bel n (worldD rows) = true := fun n => worldF_bel
        have bt : ∀ n, D.bel n (triD (clashN rows hs)) = true := fun n => by cases clashN rows hs <;> rfl
        have bi : ∀ n (l : List Int), D.bels n (l.map D.int) = true := fun n l => bels_map fun x _ => by unfold D.bel; rfl
        have bh : (hand cs p r t []).all (Cell.below 1) = true := by
          unfold hand
          simp [Cell.below, D.bels, D.bel, bi]
        have sb : ∀ x, Slot.bel 1 x = true → ([.val (.ext (l.map .int)), .val (.cell 0), .val (.lst (lrsD rows)), .val (.int lo), .val (.int hi), .val (.int st), .val (worldD rows), .val (.lst (lls (kins rows))), .val (.int (T : Int)), y, .val (.int c), .val (.int rest), .no, x, .no, .no, .no] : List MP.Slot).all (Slot.bel 1) = true := fun x hx => by
          simp only [List.all_cons, List.all_nil, hx, hy2, sl_val, sl_no, bw, D.bel, bi, lrs_bel, lls_bel, Bool.and_self, Bool.and_true, decide_true, Nat.lt_add_one, Nat.zero_lt_one]
        simpa! only [c_law_17f4, e_law_17f4_0, e_law_17f4_1, e_law_17f4_2, e_law_17f4_3, e_law_17f4_4, e_law_17f4_5, e_law_17f4_6, e_law_17f4_7, e_law_17f4_8, e_law_17f4_9, e_law_17f4_10]
        refine wp_lendP rfl hs_bels bh (sb x13 hx13) ?_
        rw [hl1]
        simpa! only [a1, c_law_17f4, e_law_17f4_0, e_law_17f4_1, e_law_17f4_2, e_law_17f4_3, e_law_17f4_4, e_law_17f4_5, e_law_17f4_6, e_law_17f4_7, e_law_17f4_8, e_law_17f4_9, e_law_17f4_10]
        refine ⟨trivial, bt 1, ?_⟩
        simpa! only [see_tri, tri_isN, c_law_17f4, e_law_17f4_0, e_law_17f4_1, e_law_17f4_2, e_law_17f4_3, e_law_17f4_4, e_law_17f4_5, e_law_17f4_6, e_law_17f4_7, e_law_17f4_8, e_law_17f4_9, e_law_17f4_10]
        refine wp_lendP rfl hs_bels bh (sb (.val (triD (clashN rows hs))) (bt 1)) ?_
        rw [hl1]
        simpa! only [a2, c_law_17f4, e_law_17f4_0, e_law_17f4_1, e_law_17f4_2, e_law_17f4_3, e_law_17f4_4, e_law_17f4_5, e_law_17f4_6, e_law_17f4_7, e_law_17f4_8, e_law_17f4_9, e_law_17f4_10]
        refine ⟨trivial, rfl, ?_⟩
        have tn : (clashN rows hs).isNone = unB rows hs := none_unB okr
        rw [tn]
        simpa! only [bl_ne, a3, a4, b_mod p5, c_law_17f4, e_law_17f4_0, e_law_17f4_1, e_law_17f4_2, e_law_17f4_3, e_law_17f4_4, e_law_17f4_5, e_law_17f4_6, e_law_17f4_7, e_law_17f4_8, e_law_17f4_9, e_law_17f4_10]
        by_cases hq : (c : Int) % 5 = st
        · simpa! only [hq, a5, c_law_17f4, e_law_17f4_0, e_law_17f4_1, e_law_17f4_2, e_law_17f4_3, e_law_17f4_4, e_law_17f4_5, e_law_17f4_6, e_law_17f4_7, e_law_17f4_8, e_law_17f4_9, e_law_17f4_10]
          exact ⟨_, _, _, _, _, hy2, show Slot.bel 1 (.val (triD (clashN rows hs))) = true from bt 1, rfl⟩
        · simpa! only [hq, c_law_17f4, e_law_17f4_0, e_law_17f4_1, e_law_17f4_2, e_law_17f4_3, e_law_17f4_4, e_law_17f4_5, e_law_17f4_6, e_law_17f4_7, e_law_17f4_8, e_law_17f4_9, e_law_17f4_10]
          exact ⟨_, _, _, _, _, hy2, show Slot.bel 1 (.val (triD (clashN rows hs))) = true from bt 1, rfl⟩
      · rintro pre z suf _ el ⟨y, rest, hs, hy2, rfl, s1, s2⟩
        have lp : pre.length < rows.length := by
          have := congrArg List.length el
          simp at this
          omega
        have hb : (hsD hs).length < big := by rw [hs_len]; unfold big; omega
        have d1 : (rest : Int) % 3 = ((rest % 3 : Nat) : Int) := by omega
        have d2 : (rest : Int) / 3 = ((rest / 3 : Nat) : Int) := by omega
        obtain ⟨o, g, go⟩ : ∃ o : Option Nat, ([D.int lo, D.int hi, D.non] : List D)[rest % 3]? = some (hD o) ∧ ∀ n, o = some n → n ≤ 7 := by
          have : rest % 3 = 0 ∨ rest % 3 = 1 ∨ rest % 3 = 2 := by omega
          rcases this with e | e | e
          · exact ⟨some lo, by rw [e]; rfl, fun n h => by cases h; omega⟩
          · exact ⟨some hi, by rw [e]; rfl, fun n h => by cases h; omega⟩
          · exact ⟨none, by rw [e]; rfl, fun n h => by cases h⟩
        simpa! only [b_mod p3, b_div q3, d1, d2, hb, c_law_17f4, e_law_17f4_0, e_law_17f4_1, e_law_17f4_2, e_law_17f4_3, e_law_17f4_4, e_law_17f4_5, e_law_17f4_6, e_law_17f4_7, e_law_17f4_8, e_law_17f4_9, e_law_17f4_10, c_law_17f4_2]
        refine ow_of (z := hD o) g ?_
        simpa! only [hb, b_div q3, d2, c_law_17f4, e_law_17f4_0, e_law_17f4_1, e_law_17f4_2, e_law_17f4_3, e_law_17f4_4, e_law_17f4_5, e_law_17f4_6, e_law_17f4_7, e_law_17f4_8, e_law_17f4_9, e_law_17f4_10]
        refine ⟨.val (.int z), rest / 3, hs ++ [o], sl_int, ?_, by simp; omega, fun x hx => ?_⟩
        · unfold hsD
          rw [List.map_append]; rfl
        · rcases List.mem_append.mp hx with z | z
          · exact s2 x z
          · rw [List.mem_singleton.mp z]; exact go
  · rintro pre z suf _ el ⟨y, hy, rfl⟩
    simpa! only [mul3, c_law_17f4, e_law_17f4_0, e_law_17f4_1, e_law_17f4_2, e_law_17f4_3, e_law_17f4_4, e_law_17f4_5, e_law_17f4_6, e_law_17f4_7, e_law_17f4_8, e_law_17f4_9, e_law_17f4_10, c_law_17f4_1]
    refine ⟨.val (.int z), sl_int, ?_⟩
    have : ((3 ^ pre.length : Nat) : Int) * 3 = ((3 ^ (pre ++ [z]).length : Nat) : Int) := by
      rw [List.length_append, List.length_singleton, Nat.pow_succ, Int.natCast_mul]; rfl
    rw [this]
end LawP
set_option Elab.async false
set_option linter.all false
set_option maxRecDepth 100000
set_option maxHeartbeats 0
/-! the law's own part: printed by gen2.py -/
namespace LawP
open PySem PySem.Spec PyProof.Rows L2 MP
def top (i : Nat) : Stmt := PySem.Challenge.pw_headamid_k14_whole_hues_right_by_depth.main.body.getD i (.Pass ⟨0, 0, 0, 0⟩)
def clsL0 : List Str := ["KinError", "BadWorld", "World", "BadOrder", "TooMany", "NoClass", "NoField", "BadText", "Tie", "BadLaying", "Laying", "Shared", "Hole", "BadSides", "BrokenTie", "OddRing", "BadKinds", "NoKind", "BadGiven", "Kinds"]
def clsL1 : List Str := ["BadKindSides", "Sides", "KindRing", "Breach", "NotKept", "Unsafe", "SideClash", "Declaring", "BadHues", "NotLine", "Clash", "Ladders", "NoHue", "NoLadder", "Look", "BadLot", "Gap", "Bars", "BadWeights", "BadFields"]
def clsL2 : List Str := ["NotApart", "Least", "Holed", "Floor", "BadAddress", "BadValue", "Heap", "BadLink", "NoLink", "BadWay", "Links", "BadStart", "Part", "NoPart", "BadName", "NoMethod", "TwoAnswers", "BadEdit", "BadEdits", "NotClose"]
def clsL3 : List Str := ["BadGoals", "NothingMade", "Trial", "Bench", "BadProgram", "Program", "Run", "BadSetup", "Setup", "ClassRow", "Machine", "BadJoins", "BadRing", "NotStretch", "NoGap", "StretchRow", "NotJoined", "BadRow", "Moving", "Unclear"]
def clsL4 : List Str := ["NoWay", "NotView", "NoEntry", "BadPool", "SetupFault", "Code", "CellRun", "NotLasting", "BadLets", "NotUnder", "Fleeting", "Several", "Moved", "NotLet", "TwoKinds"]
def clsL : List Str := clsL0 ++ clsL1 ++ clsL2 ++ clsL3 ++ clsL4
def fldL0 : List Str := ["index", "what", "classes", "bases", "owns", "methods", "elders", "heirs", "count", "cls", "field", "first", "second", "sense", "a", "b", "heir", "fields", "places", "cell"]
def fldL1 : List Str := ["tie", "ties", "kind", "many", "joined", "bare", "sides", "ring", "kinds", "kept_world", "kept_laying", "kept_given", "world", "hues", "hue", "place", "found", "answer", "between", "number"]
def fldL2 : List Str := ["laying", "lots", "address", "reaches", "kept", "base", "shared", "at", "way", "name", "bench", "states", "step", "steps", "views", "results", "objects", "table", "ladders", "rows"]
def fldL3 : List Str := ["gap", "row", "spans", "one", "other", "links", "view", "entry", "looks", "all_fields", "with_class", "without_last", "renamed", "beside", "place_of", "side_words", "in_ring", "are_joined", "is_bare", "world_now"]
def fldL4 : List Str := ["laying_now", "given_now", "places_now", "declare", "begin_with", "ladder_of", "depth_of", "one_look", "clash_of", "cells", "addresses", "counts", "is_live", "check_address", "make_object", "class_at", "place_in", "put_value", "value_at", "drop_object"]
def fldL5 : List Str := ["next_from", "reached_from", "sweep_rest", "relaid_by", "compact_cells", "all_links", "is_shared", "with_shared", "edits_made", "shifts", "make_edit", "take_back", "tried_edits", "span_test", "free_gaps", "put_class", "__eq__"]
def fldL : List Str := fldL0 ++ fldL1 ++ fldL2 ++ fldL3 ++ fldL4 ++ fldL5
def fnL0 : List (Nat × Str) := [(279, "_law_hand"), (280, "_law_mixed"), (281, "_law_take"), (282, "_law_bases"), (284, "_law_shape"), (283, "_law_methods"), (285, "_law_classes"), (1, "is_sequence"), (2, "is_whole"), (3, "unlike_wholes"), (4, "entry_fault"), (5, "elder_rows"), (6, "heir_rows"), (286, "_law_elders"), (419, "_law_kin"), (420, "_law_pair_among"), (395, "_law_clash"), (421, "_law_depths"), (422, "_law_depths_unlike"), (291, "_law_int")]
def fnL1 : List (Nat × Str) := [(334, "_law_exact"), (423, "_law_three_right"), (71, "is_hue"), (72, "check_hues"), (73, "stand_off"), (74, "first_clash"), (75, "hue_fault"), (384, "_law_built"), (278, "law")]
def fnL : List (Nat × Str) := fnL0 ++ fnL1
def pd : Pd where
  fnm := fnL
  cnm := clsL
  fld := fldL
  fal := [(2, 2), (2, 3), (2, 4), (2, 5), (2, 6), (2, 7), (30, 9), (30, 11), (30, 12), (31, 32), (31, 33)]
  icl := [2]
  xcl := [(1, [0, 1]), (28, [0]), (29, [9, 11, 12])]
  xal := [(29, 9), (29, 11), (29, 12)]
  xnl := [29]
  xkl := [((28, 29), false), ((29, 29), true)]
def dX_BadWorld : He.DefD := ⟨("BadWorld", some "__init__"), "__init__", "BadWorld.__init__", defArgs (inClass (top 3) 0), defBody (inClass (top 3) 0), defScope (inClass (top 3) 0), [], []⟩
def dX_BadHues : He.DefD := ⟨("BadHues", some "__init__"), "__init__", "BadHues.__init__", defArgs (inClass (top 4) 0), defBody (inClass (top 4) 0), defScope (inClass (top 4) 0), [], []⟩
def dX_NotLine : He.DefD := ⟨("NotLine", some "__init__"), "__init__", "NotLine.__init__", defArgs (inClass (top 5) 0), defBody (inClass (top 5) 0), defScope (inClass (top 5) 0), [], []⟩
def d__law_hand_bbe7 : He.DefD := ⟨("_law_hand", none), "_law_hand", "_law_hand", defArgs (top 24), defBody (top 24), defScope (top 24), [], []⟩
def d__law_mixed_559e : He.DefD := ⟨("_law_mixed", none), "_law_mixed", "_law_mixed", defArgs (top 25), defBody (top 25), defScope (top 25), [], []⟩
def d__law_take_1561 : He.DefD := ⟨("_law_take", none), "_law_take", "_law_take", defArgs (top 26), defBody (top 26), defScope (top 26), [], []⟩
def d__law_bases_c4c7 : He.DefD := ⟨("_law_bases", none), "_law_bases", "_law_bases", defArgs (top 27), defBody (top 27), defScope (top 27), [], []⟩
def d__law_shape_ca58 : He.DefD := ⟨("_law_shape", none), "_law_shape", "_law_shape", defArgs (top 29), defBody (top 29), defScope (top 29), [], []⟩
def d__law_methods_2714 : He.DefD := ⟨("_law_methods", none), "_law_methods", "_law_methods", defArgs (top 28), defBody (top 28), defScope (top 28), [], []⟩
def d__law_classes_f9b7 : He.DefD := ⟨("_law_classes", none), "_law_classes", "_law_classes", defArgs (top 30), defBody (top 30), defScope (top 30), [], []⟩
def d_is_sequence : He.DefD := ⟨("is_sequence", none), "is_sequence", "is_sequence", defArgs (top 7), defBody (top 7), defScope (top 7), [], []⟩
def d_is_whole : He.DefD := ⟨("is_whole", none), "is_whole", "is_whole", defArgs (top 8), defBody (top 8), defScope (top 8), [.non, .non], []⟩
def d_unlike_wholes : He.DefD := ⟨("unlike_wholes", none), "unlike_wholes", "unlike_wholes", defArgs (top 18), defBody (top 18), defScope (top 18), [], []⟩
def d_entry_fault : He.DefD := ⟨("entry_fault", none), "entry_fault", "entry_fault", defArgs (top 19), defBody (top 19), defScope (top 19), [], []⟩
def d_elder_rows : He.DefD := ⟨("elder_rows", none), "elder_rows", "elder_rows", defArgs (top 20), defBody (top 20), defScope (top 20), [], []⟩
def d_heir_rows : He.DefD := ⟨("heir_rows", none), "heir_rows", "heir_rows", defArgs (top 21), defBody (top 21), defScope (top 21), [], []⟩
def d_World_init : He.DefD := ⟨("World", some "__init__"), "__init__", "World.__init__", defArgs (inClass (top 22) 0), defBody (inClass (top 22) 0), defScope (inClass (top 22) 0), [], []⟩
def d__law_elders_2534 : He.DefD := ⟨("_law_elders", none), "_law_elders", "_law_elders", defArgs (top 31), defBody (top 31), defScope (top 31), [], []⟩
def d__law_kin_51e8 : He.DefD := ⟨("_law_kin", none), "_law_kin", "_law_kin", defArgs (top 34), defBody (top 34), defScope (top 34), [], []⟩
def d__law_pair_among : He.DefD := ⟨("_law_pair_among", none), "_law_pair_among", "_law_pair_among", defArgs (top 35), defBody (top 35), defScope (top 35), [], []⟩
def d__law_clash_4ff3 : He.DefD := ⟨("_law_clash", none), "_law_clash", "_law_clash", defArgs (top 36), defBody (top 36), defScope (top 36), [], []⟩
def d__law_depths : He.DefD := ⟨("_law_depths", none), "_law_depths", "_law_depths", defArgs (top 37), defBody (top 37), defScope (top 37), [], []⟩
def d__law_depths_unlike : He.DefD := ⟨("_law_depths_unlike", none), "_law_depths_unlike", "_law_depths_unlike", defArgs (top 38), defBody (top 38), defScope (top 38), [], []⟩
def d__law_int : He.DefD := ⟨("_law_int", none), "_law_int", "_law_int", defArgs (top 32), defBody (top 32), defScope (top 32), [], []⟩
def d__law_exact_1b7e : He.DefD := ⟨("_law_exact", none), "_law_exact", "_law_exact", defArgs (top 33), defBody (top 33), defScope (top 33), [], []⟩
def d__law_three_right : He.DefD := ⟨("_law_three_right", none), "_law_three_right", "_law_three_right", defArgs (top 39), defBody (top 39), defScope (top 39), [], []⟩
def d_is_hue : He.DefD := ⟨("is_hue", none), "is_hue", "is_hue", defArgs (top 10), defBody (top 10), defScope (top 10), [], []⟩
def d_check_hues : He.DefD := ⟨("check_hues", none), "check_hues", "check_hues", defArgs (top 11), defBody (top 11), defScope (top 11), [], []⟩
def d_stand_off : He.DefD := ⟨("stand_off", none), "stand_off", "stand_off", defArgs (top 12), defBody (top 12), defScope (top 12), [], []⟩
def d_first_clash : He.DefD := ⟨("first_clash", none), "first_clash", "first_clash", defArgs (top 13), defBody (top 13), defScope (top 13), [], []⟩
def d_Clash_init : He.DefD := ⟨("Clash", some "__init__"), "__init__", "Clash.__init__", defArgs (inClass (top 15) 0), defBody (inClass (top 15) 0), defScope (inClass (top 15) 0), [], []⟩
def d_hue_fault : He.DefD := ⟨("hue_fault", none), "hue_fault", "hue_fault", defArgs (top 14), defBody (top 14), defScope (top 14), [], []⟩
def d_Ladders_init : He.DefD := ⟨("Ladders", some "__init__"), "__init__", "Ladders.__init__", defArgs (inClass (top 16) 0), defBody (inClass (top 16) 0), defScope (inClass (top 16) 0), [], []⟩
def d_World_eq : He.DefD := ⟨("World", some "__eq__"), "__eq__", "World.__eq__", defArgs (inClass (top 22) 3), defBody (inClass (top 22) 3), defScope (inClass (top 22) 3), [], []⟩
def d__law_built_c83e : He.DefD := ⟨("_law_built", none), "_law_built", "_law_built", defArgs (top 40), defBody (top 40), defScope (top 40), [], []⟩
def d_law_17f4 : He.DefD := ⟨("law", none), "law", "law", defArgs (top 41), defBody (top 41), defScope (top 41), [], []⟩
def hkL0 : List He.DefD := [dX_BadWorld, dX_BadHues, dX_NotLine, d__law_hand_bbe7, d__law_mixed_559e, d__law_take_1561, d__law_bases_c4c7, d__law_shape_ca58, d__law_methods_2714, d__law_classes_f9b7, d_is_sequence, d_is_whole, d_unlike_wholes, d_entry_fault, d_elder_rows, d_heir_rows, d_World_init, d__law_elders_2534, d__law_kin_51e8, d__law_pair_among]
def hkL1 : List He.DefD := [d__law_clash_4ff3, d__law_depths, d__law_depths_unlike, d__law_int, d__law_exact_1b7e, d__law_three_right, d_is_hue, d_check_hues, d_stand_off, d_first_clash, d_Clash_init, d_hue_fault, d_Ladders_init, d_World_eq, d__law_built_c83e, d_law_17f4]
def hkL : List He.DefD := hkL0 ++ hkL1
def faL0 : List He.Fa := [.glo "_law_hand", .glo "_law_mixed", .glo "_law_take", .glo "_law_bases", .glo "_law_shape", .glo "_law_methods", .glo "_law_classes", .glo "is_sequence", .glo "is_whole", .glo "unlike_wholes", .glo "entry_fault", .glo "elder_rows", .glo "heir_rows", .glo "_law_elders", .glo "_law_kin", .glo "_law_pair_among", .glo "_law_clash", .glo "_law_depths", .glo "_law_depths_unlike", .glo "_law_int"]
def faL1 : List He.Fa := [.glo "_law_exact", .glo "_law_three_right", .glo "is_hue", .glo "check_hues", .glo "stand_off", .glo "first_clash", .glo "hue_fault", .glo "_law_built", .glo "law", .glo "World", .mkr "World", .glo "Clash", .mkr "Clash", .glo "Ladders", .mkr "Ladders", .cls "World", .meth "World" "__eq__"]
def faL : List He.Fa := faL0 ++ faL1
theorem sc__law_hand_bbe7 : FnScope N__law_hand_bbe7 ["_law_script"] (defScope (top 24)) := ⟨rfl, rfl, rfl, by decide +kernel, rfl, by decide +kernel, by decide +kernel⟩
theorem ck__law_hand_bbe7 : ckSs (pd.T.at N__law_hand_bbe7) E__law_hand_bbe7.env c__law_hand_bbe7 (defScope (top 24)) true (defBody (top 24)) = true := by kernel_rfl
theorem su__law_hand_bbe7 : E__law_hand_bbe7.sub pd = true := by kernel_rfl
theorem sc__law_mixed_559e : FnScope N__law_mixed_559e ["_law_number", "_law_turn"] (defScope (top 25)) := ⟨rfl, rfl, rfl, by decide +kernel, rfl, by decide +kernel, by decide +kernel⟩
theorem ck__law_mixed_559e : ckSs (pd.T.at N__law_mixed_559e) E__law_mixed_559e.env c__law_mixed_559e (defScope (top 25)) true (defBody (top 25)) = true := by kernel_rfl
theorem su__law_mixed_559e : E__law_mixed_559e.sub pd = true := by kernel_rfl
theorem sc__law_take_1561 : FnScope N__law_take_1561 ["_law_hand_here", "_law_many"] (defScope (top 26)) := ⟨rfl, rfl, rfl, by decide +kernel, rfl, by decide +kernel, by decide +kernel⟩
theorem ck__law_take_1561 : ckSs (pd.T.at N__law_take_1561) E__law_take_1561.env c__law_take_1561 (defScope (top 26)) true (defBody (top 26)) = true := by kernel_rfl
theorem su__law_take_1561 : E__law_take_1561.sub pd = true := by kernel_rfl
theorem sc__law_bases_c4c7 : FnScope N__law_bases_c4c7 ["_law_hand_here", "_law_c"] (defScope (top 27)) := ⟨rfl, rfl, rfl, by decide +kernel, rfl, by decide +kernel, by decide +kernel⟩
theorem ck__law_bases_c4c7 : ckSs (pd.T.at N__law_bases_c4c7) E__law_bases_c4c7.env c__law_bases_c4c7 (defScope (top 27)) true (defBody (top 27)) = true := by kernel_rfl
theorem su__law_bases_c4c7 : E__law_bases_c4c7.sub pd = true := by kernel_rfl
theorem sc__law_shape_ca58 : FnScope N__law_shape_ca58 ["_law_hand_here", "_law_many"] (defScope (top 29)) := ⟨rfl, rfl, rfl, by decide +kernel, rfl, by decide +kernel, by decide +kernel⟩
theorem ck__law_shape_ca58 : ckSs (pd.T.at N__law_shape_ca58) E__law_shape_ca58.env c__law_shape_ca58 (defScope (top 29)) true (defBody (top 29)) = true := by kernel_rfl
theorem su__law_shape_ca58 : E__law_shape_ca58.sub pd = true := by kernel_rfl
theorem sc__law_methods_2714 : FnScope N__law_methods_2714 ["_law_hand_here"] (defScope (top 28)) := ⟨rfl, rfl, rfl, by decide +kernel, rfl, by decide +kernel, by decide +kernel⟩
theorem ck__law_methods_2714 : ckSs (pd.T.at N__law_methods_2714) E__law_methods_2714.env c__law_methods_2714 (defScope (top 28)) true (defBody (top 28)) = true := by kernel_rfl
theorem su__law_methods_2714 : E__law_methods_2714.sub pd = true := by kernel_rfl
theorem sc__law_classes_f9b7 : FnScope N__law_classes_f9b7 ["_law_hand_here", "_law_low", "_law_high", "_law_most", "_law_wanted"] (defScope (top 30)) := ⟨rfl, rfl, rfl, by decide +kernel, rfl, by decide +kernel, by decide +kernel⟩
theorem ck__law_classes_f9b7 : ckSs (pd.T.at N__law_classes_f9b7) E__law_classes_f9b7.env c__law_classes_f9b7 (defScope (top 30)) true (defBody (top 30)) = true := by kernel_rfl
theorem su__law_classes_f9b7 : E__law_classes_f9b7.sub pd = true := by kernel_rfl
theorem sc_is_sequence : FnScope N_is_sequence ["thing"] (defScope (top 7)) := ⟨rfl, rfl, rfl, by decide +kernel, rfl, by decide +kernel, by decide +kernel⟩
theorem ck_is_sequence : ckSs (pd.T.at N_is_sequence) E_is_sequence.env c_is_sequence (defScope (top 7)) true (defBody (top 7)) = true := by kernel_rfl
theorem su_is_sequence : E_is_sequence.sub pd = true := by kernel_rfl
theorem sc_is_whole : FnScope N_is_whole ["thing", "low", "high"] (defScope (top 8)) := ⟨rfl, rfl, rfl, by decide +kernel, rfl, by decide +kernel, by decide +kernel⟩
theorem ck_is_whole : ckSs (pd.T.at N_is_whole) E_is_whole.env c_is_whole (defScope (top 8)) true (defBody (top 8)) = true := by kernel_rfl
theorem su_is_whole : E_is_whole.sub pd = true := by kernel_rfl
theorem sc_unlike_wholes : FnScope N_unlike_wholes ["things", "high"] (defScope (top 18)) := ⟨rfl, rfl, rfl, by decide +kernel, rfl, by decide +kernel, by decide +kernel⟩
theorem ck_unlike_wholes : ckSs (pd.T.at N_unlike_wholes) E_unlike_wholes.env c_unlike_wholes (defScope (top 18)) true (defBody (top 18)) = true := by kernel_rfl
theorem su_unlike_wholes : E_unlike_wholes.sub pd = true := by kernel_rfl
theorem sc_entry_fault : FnScope N_entry_fault ["entry", "at"] (defScope (top 19)) := ⟨rfl, rfl, rfl, by decide +kernel, rfl, by decide +kernel, by decide +kernel⟩
theorem ck_entry_fault : ckSs (pd.T.at N_entry_fault) E_entry_fault.env c_entry_fault (defScope (top 19)) true (defBody (top 19)) = true := by kernel_rfl
theorem su_entry_fault : E_entry_fault.sub pd = true := by kernel_rfl
theorem sc_elder_rows : FnScope N_elder_rows ["bases"] (defScope (top 20)) := ⟨rfl, rfl, rfl, by decide +kernel, rfl, by decide +kernel, by decide +kernel⟩
theorem ck_elder_rows : ckSs (pd.T.at N_elder_rows) E_elder_rows.env c_elder_rows (defScope (top 20)) true (defBody (top 20)) = true := by kernel_rfl
theorem su_elder_rows : E_elder_rows.sub pd = true := by kernel_rfl
theorem sc_heir_rows : FnScope N_heir_rows ["elders"] (defScope (top 21)) := ⟨rfl, rfl, rfl, by decide +kernel, rfl, by decide +kernel, by decide +kernel⟩
theorem ck_heir_rows : ckSs (pd.T.at N_heir_rows) E_heir_rows.env c_heir_rows (defScope (top 21)) true (defBody (top 21)) = true := by kernel_rfl
theorem su_heir_rows : E_heir_rows.sub pd = true := by kernel_rfl
theorem sc_World_init : FnScope N_World_init ["self", "classes"] (defScope (inClass (top 22) 0)) := ⟨rfl, rfl, rfl, by decide +kernel, rfl, by decide +kernel, by decide +kernel⟩
theorem ck_World_init : ckSs (pd.T.at N_World_init) E_World_init.env c_World_init (defScope (inClass (top 22) 0)) true (defBody (inClass (top 22) 0)) = true := by kernel_rfl
theorem su_World_init : E_World_init.sub pd = true := by kernel_rfl
theorem sc__law_elders_2534 : FnScope N__law_elders_2534 ["_law_rows"] (defScope (top 31)) := ⟨rfl, rfl, rfl, by decide +kernel, rfl, by decide +kernel, by decide +kernel⟩
theorem ck__law_elders_2534 : ckSs (pd.T.at N__law_elders_2534) E__law_elders_2534.env c__law_elders_2534 (defScope (top 31)) true (defBody (top 31)) = true := by kernel_rfl
theorem su__law_elders_2534 : E__law_elders_2534.sub pd = true := by kernel_rfl
theorem sc__law_kin_51e8 : FnScope N__law_kin_51e8 ["_law_rows"] (defScope (top 34)) := ⟨rfl, rfl, rfl, by decide +kernel, rfl, by decide +kernel, by decide +kernel⟩
theorem ck__law_kin_51e8 : ckSs (pd.T.at N__law_kin_51e8) E__law_kin_51e8.env c__law_kin_51e8 (defScope (top 34)) true (defBody (top 34)) = true := by kernel_rfl
theorem su__law_kin_51e8 : E__law_kin_51e8.sub pd = true := by kernel_rfl
theorem sc__law_pair_among : FnScope N__law_pair_among ["_law_kin_here", "_law_hues", "_law_among"] (defScope (top 35)) := ⟨rfl, rfl, rfl, by decide +kernel, rfl, by decide +kernel, by decide +kernel⟩
theorem ck__law_pair_among : ckSs (pd.T.at N__law_pair_among) E__law_pair_among.env c__law_pair_among (defScope (top 35)) true (defBody (top 35)) = true := by kernel_rfl
theorem su__law_pair_among : E__law_pair_among.sub pd = true := by kernel_rfl
theorem sc__law_clash_4ff3 : FnScope N__law_clash_4ff3 ["_law_kin_here", "_law_hues"] (defScope (top 36)) := ⟨rfl, rfl, rfl, by decide +kernel, rfl, by decide +kernel, by decide +kernel⟩
theorem ck__law_clash_4ff3 : ckSs (pd.T.at N__law_clash_4ff3) E__law_clash_4ff3.env c__law_clash_4ff3 (defScope (top 36)) true (defBody (top 36)) = true := by kernel_rfl
theorem su__law_clash_4ff3 : E__law_clash_4ff3.sub pd = true := by kernel_rfl
theorem sc__law_depths : FnScope N__law_depths ["_law_kin_here", "_law_hues"] (defScope (top 37)) := ⟨rfl, rfl, rfl, by decide +kernel, rfl, by decide +kernel, by decide +kernel⟩
theorem ck__law_depths : ckSs (pd.T.at N__law_depths) E__law_depths.env c__law_depths (defScope (top 37)) true (defBody (top 37)) = true := by kernel_rfl
theorem su__law_depths : E__law_depths.sub pd = true := by kernel_rfl
theorem sc__law_depths_unlike : FnScope N__law_depths_unlike ["_law_kin_here", "_law_hues"] (defScope (top 38)) := ⟨rfl, rfl, rfl, by decide +kernel, rfl, by decide +kernel, by decide +kernel⟩
theorem ck__law_depths_unlike : ckSs (pd.T.at N__law_depths_unlike) E__law_depths_unlike.env c__law_depths_unlike (defScope (top 38)) true (defBody (top 38)) = true := by kernel_rfl
theorem su__law_depths_unlike : E__law_depths_unlike.sub pd = true := by kernel_rfl
theorem sc__law_int : FnScope N__law_int ["_law_thing"] (defScope (top 32)) := ⟨rfl, rfl, rfl, by decide +kernel, rfl, by decide +kernel, by decide +kernel⟩
theorem ck__law_int : ckSs (pd.T.at N__law_int) E__law_int.env c__law_int (defScope (top 32)) true (defBody (top 32)) = true := by kernel_rfl
theorem su__law_int : E__law_int.sub pd = true := by kernel_rfl
theorem sc__law_exact_1b7e : FnScope N__law_exact_1b7e ["_law_thing", "_law_due"] (defScope (top 33)) := ⟨rfl, rfl, rfl, by decide +kernel, rfl, by decide +kernel, by decide +kernel⟩
theorem ck__law_exact_1b7e {g : FnSem} : ckSs (pd.T.at N__law_exact_1b7e) (E__law_exact_1b7e g).env c__law_exact_1b7e (defScope (top 33)) true (defBody (top 33)) = true := by kernel_rfl
theorem su__law_exact_1b7e {g : FnSem} : (E__law_exact_1b7e g).sub pd = true := by kernel_rfl
theorem sc__law_three_right : FnScope N__law_three_right ["_law_told", "_law_due"] (defScope (top 39)) := ⟨rfl, rfl, rfl, by decide +kernel, rfl, by decide +kernel, by decide +kernel⟩
theorem ck__law_three_right : ckSs (pd.T.at N__law_three_right) E__law_three_right.env c__law_three_right (defScope (top 39)) true (defBody (top 39)) = true := by kernel_rfl
theorem su__law_three_right : E__law_three_right.sub pd = true := by kernel_rfl
theorem sc_is_hue : FnScope N_is_hue ["thing"] (defScope (top 10)) := ⟨rfl, rfl, rfl, by decide +kernel, rfl, by decide +kernel, by decide +kernel⟩
theorem ck_is_hue : ckSs (pd.T.at N_is_hue) E_is_hue.env c_is_hue (defScope (top 10)) true (defBody (top 10)) = true := by kernel_rfl
theorem su_is_hue : E_is_hue.sub pd = true := by kernel_rfl
theorem sc_check_hues : FnScope N_check_hues ["world", "hues"] (defScope (top 11)) := ⟨rfl, rfl, rfl, by decide +kernel, rfl, by decide +kernel, by decide +kernel⟩
theorem ck_check_hues : ckSs (pd.T.at N_check_hues) E_check_hues.env c_check_hues (defScope (top 11)) true (defBody (top 11)) = true := by kernel_rfl
theorem su_check_hues : E_check_hues.sub pd = true := by kernel_rfl
theorem sc_stand_off : FnScope N_stand_off ["world", "a", "b"] (defScope (top 12)) := ⟨rfl, rfl, rfl, by decide +kernel, rfl, by decide +kernel, by decide +kernel⟩
theorem ck_stand_off : ckSs (pd.T.at N_stand_off) E_stand_off.env c_stand_off (defScope (top 12)) true (defBody (top 12)) = true := by kernel_rfl
theorem su_stand_off : E_stand_off.sub pd = true := by kernel_rfl
theorem sc_first_clash : FnScope N_first_clash ["world", "hues", "among"] (defScope (top 13)) := ⟨rfl, rfl, rfl, by decide +kernel, rfl, by decide +kernel, by decide +kernel⟩
theorem ck_first_clash : ckSs (pd.T.at N_first_clash) E_first_clash.env c_first_clash (defScope (top 13)) true (defBody (top 13)) = true := by kernel_rfl
theorem su_first_clash : E_first_clash.sub pd = true := by kernel_rfl
theorem sc_Clash_init : FnScope N_Clash_init ["self", "cls", "first", "second"] (defScope (inClass (top 15) 0)) := ⟨rfl, rfl, rfl, by decide +kernel, rfl, by decide +kernel, by decide +kernel⟩
theorem ck_Clash_init : ckSs (pd.T.at N_Clash_init) E_Clash_init.env c_Clash_init (defScope (inClass (top 15) 0)) true (defBody (inClass (top 15) 0)) = true := by kernel_rfl
theorem su_Clash_init : E_Clash_init.sub pd = true := by kernel_rfl
theorem sc_hue_fault : FnScope N_hue_fault ["world", "hues"] (defScope (top 14)) := ⟨rfl, rfl, rfl, by decide +kernel, rfl, by decide +kernel, by decide +kernel⟩
theorem ck_hue_fault : ckSs (pd.T.at N_hue_fault) E_hue_fault.env c_hue_fault (defScope (top 14)) true (defBody (top 14)) = true := by kernel_rfl
theorem su_hue_fault : E_hue_fault.sub pd = true := by kernel_rfl
theorem sc_Ladders_init : FnScope N_Ladders_init ["self", "world", "hues"] (defScope (inClass (top 16) 0)) := ⟨rfl, rfl, rfl, by decide +kernel, rfl, by decide +kernel, by decide +kernel⟩
theorem ck_Ladders_init : ckSs (pd.T.at N_Ladders_init) E_Ladders_init.env c_Ladders_init (defScope (inClass (top 16) 0)) true (defBody (inClass (top 16) 0)) = true := by kernel_rfl
theorem su_Ladders_init : E_Ladders_init.sub pd = true := by kernel_rfl
theorem sc_World_eq : FnScope N_World_eq ["self", "other"] (defScope (inClass (top 22) 3)) := ⟨rfl, rfl, rfl, by decide +kernel, rfl, by decide +kernel, by decide +kernel⟩
theorem ck_World_eq : ckSs (pd.T.at N_World_eq) E_World_eq.env c_World_eq (defScope (inClass (top 22) 3)) true (defBody (inClass (top 22) 3)) = true := by kernel_rfl
theorem su_World_eq : E_World_eq.sub pd = true := by kernel_rfl
theorem sc__law_built_c83e : FnScope N__law_built_c83e ["_law_world", "_law_row", "_law_due"] (defScope (top 40)) := ⟨rfl, rfl, rfl, by decide +kernel, rfl, by decide +kernel, by decide +kernel⟩
theorem ck__law_built_c83e : ckSs (pd.T.at N__law_built_c83e) E__law_built_c83e.env c__law_built_c83e (defScope (top 40)) true (defBody (top 40)) = true := by kernel_rfl
theorem su__law_built_c83e : E__law_built_c83e.sub pd = true := by kernel_rfl
theorem sc_law_17f4 : FnScope N_law_17f4 ["_law_script"] (defScope (top 41)) := ⟨rfl, rfl, rfl, by decide +kernel, rfl, by decide +kernel, by decide +kernel⟩
theorem ck_law_17f4 : ckSs (pd.T.at N_law_17f4) E_law_17f4.env c_law_17f4 (defScope (top 41)) true (defBody (top 41)) = true := by kernel_rfl
theorem su_law_17f4 : E_law_17f4.sub pd = true := by kernel_rfl
theorem scX_BadWorld : FnScope ["self", "index", "what"] ["self", "index", "what"] (defScope (inClass (top 3) 0)) := ⟨rfl, rfl, rfl, by decide +kernel, rfl, by decide +kernel, by decide +kernel⟩
theorem ibX_BadWorld : initB ["self", "index", "what"] (defScope (inClass (top 3) 0)) ([0, 1].map (nth pd.fld)) 1 (defBody (inClass (top 3) 0)) = true := by kernel_rfl
theorem scX_BadHues : FnScope ["self", "index"] ["self", "index"] (defScope (inClass (top 4) 0)) := ⟨rfl, rfl, rfl, by decide +kernel, rfl, by decide +kernel, by decide +kernel⟩
theorem ibX_BadHues : initB ["self", "index"] (defScope (inClass (top 4) 0)) ([0].map (nth pd.fld)) 1 (defBody (inClass (top 4) 0)) = true := by kernel_rfl
theorem scX_NotLine : FnScope ["self", "cls", "first", "second"] ["self", "cls", "first", "second"] (defScope (inClass (top 5) 0)) := ⟨rfl, rfl, rfl, by decide +kernel, rfl, by decide +kernel, by decide +kernel⟩
theorem ibX_NotLine : initB ["self", "cls", "first", "second"] (defScope (inClass (top 5) 0)) ([9, 11, 12].map (nth pd.fld)) 1 (defBody (inClass (top 5) 0)) = true := by kernel_rfl
theorem hn : pd.fld.Nodup := by decide +kernel
abbrev R : PySem.W.OpenRow := PySem.W.OpenLaw.row PySem.Challenge.rw_headamid_k14_whole_hues_right_by_depth
abbrev hk : PySem.W.Hook := He.hookX 5 faL hkL [] [] pd.ex
def ob (s : PySem.W.SharedT) : He.AlX := He.obsX 5 faL hkL [] [] pd.ex (HandSHeadRun.getT s)
theorem ob_eq (s : PySem.W.SharedT) : ob s = hk.obs s.abs := He.obsX_eq (HandSHeadRun.getT_eq s)
def loose0 : List Str := ["_wall", "KinError", "BadWorld", "BadHues", "NotLine", "is_sequence", "is_whole", "is_hue", "check_hues", "stand_off", "first_clash", "hue_fault", "Clash", "Ladders", "unlike_wholes", "entry_fault", "elder_rows", "heir_rows", "World", "_law_hand"]
def loose1 : List Str := ["_law_mixed", "_law_take", "_law_bases", "_law_methods", "_law_shape", "_law_classes", "_law_elders", "_law_int", "_law_exact", "_law_kin", "_law_pair_among", "_law_clash", "_law_depths", "_law_depths_unlike", "_law_three_right", "_law_built"]
def loose : List Str := loose0 ++ loose1
theorem run (w : World) : HandSHeadRun.RunEq R (PySem.W.view R.prog [41]) hk ob 6000 loose w := by
  intro os
  kernel_rfl
theorem facts {P : Program} {w : World} {K : PySem.W.Frag} {h : Heap} {mg : Str → Option Value} {f : Addr} (X : K.In h) (G : h.Ns mainGlobals mg) (hfa : mg ("law" : Str) = some (.ref f)) (c : He.SaysX faL hkL [] [] pd.ex w h K) :
    ∃ fd : FuncData, (∀ (s : Shared) (v : Value), BindsTo s fd ⟨[v], []⟩ [("_law_script", v)]) ∧ ∀ base : Heap, K.In base → base.Ns mainGlobals mg → FnG P w K mg base 32 f fd ["_law_script"] (spOf (pd.W K hn) f_law_17f4) := by
  have cd : He.SaysD faL hkL K := c.t.d
  obtain ⟨F_dX_BadWorld, D_dX_BadWorld⟩ := cd.def_ 0 (d := dX_BadWorld) rfl
  obtain ⟨F_dX_BadHues, D_dX_BadHues⟩ := cd.def_ 1 (d := dX_BadHues) rfl
  obtain ⟨F_dX_NotLine, D_dX_NotLine⟩ := cd.def_ 2 (d := dX_NotLine) rfl
  obtain ⟨F_d__law_hand_bbe7, D_d__law_hand_bbe7⟩ := cd.def_ 3 (d := d__law_hand_bbe7) rfl
  obtain ⟨F_d__law_mixed_559e, D_d__law_mixed_559e⟩ := cd.def_ 4 (d := d__law_mixed_559e) rfl
  obtain ⟨F_d__law_take_1561, D_d__law_take_1561⟩ := cd.def_ 5 (d := d__law_take_1561) rfl
  obtain ⟨F_d__law_bases_c4c7, D_d__law_bases_c4c7⟩ := cd.def_ 6 (d := d__law_bases_c4c7) rfl
  obtain ⟨F_d__law_shape_ca58, D_d__law_shape_ca58⟩ := cd.def_ 7 (d := d__law_shape_ca58) rfl
  obtain ⟨F_d__law_methods_2714, D_d__law_methods_2714⟩ := cd.def_ 8 (d := d__law_methods_2714) rfl
  obtain ⟨F_d__law_classes_f9b7, D_d__law_classes_f9b7⟩ := cd.def_ 9 (d := d__law_classes_f9b7) rfl
  obtain ⟨F_d_is_sequence, D_d_is_sequence⟩ := cd.def_ 10 (d := d_is_sequence) rfl
  obtain ⟨F_d_is_whole, D_d_is_whole⟩ := cd.def_ 11 (d := d_is_whole) rfl
  obtain ⟨F_d_unlike_wholes, D_d_unlike_wholes⟩ := cd.def_ 12 (d := d_unlike_wholes) rfl
  obtain ⟨F_d_entry_fault, D_d_entry_fault⟩ := cd.def_ 13 (d := d_entry_fault) rfl
  obtain ⟨F_d_elder_rows, D_d_elder_rows⟩ := cd.def_ 14 (d := d_elder_rows) rfl
  obtain ⟨F_d_heir_rows, D_d_heir_rows⟩ := cd.def_ 15 (d := d_heir_rows) rfl
  obtain ⟨F_d_World_init, D_d_World_init⟩ := cd.def_ 16 (d := d_World_init) rfl
  obtain ⟨F_d__law_elders_2534, D_d__law_elders_2534⟩ := cd.def_ 17 (d := d__law_elders_2534) rfl
  obtain ⟨F_d__law_kin_51e8, D_d__law_kin_51e8⟩ := cd.def_ 18 (d := d__law_kin_51e8) rfl
  obtain ⟨F_d__law_pair_among, D_d__law_pair_among⟩ := cd.def_ 19 (d := d__law_pair_among) rfl
  obtain ⟨F_d__law_clash_4ff3, D_d__law_clash_4ff3⟩ := cd.def_ 20 (d := d__law_clash_4ff3) rfl
  obtain ⟨F_d__law_depths, D_d__law_depths⟩ := cd.def_ 21 (d := d__law_depths) rfl
  obtain ⟨F_d__law_depths_unlike, D_d__law_depths_unlike⟩ := cd.def_ 22 (d := d__law_depths_unlike) rfl
  obtain ⟨F_d__law_int, D_d__law_int⟩ := cd.def_ 23 (d := d__law_int) rfl
  obtain ⟨F_d__law_exact_1b7e, D_d__law_exact_1b7e⟩ := cd.def_ 24 (d := d__law_exact_1b7e) rfl
  obtain ⟨F_d__law_three_right, D_d__law_three_right⟩ := cd.def_ 25 (d := d__law_three_right) rfl
  obtain ⟨F_d_is_hue, D_d_is_hue⟩ := cd.def_ 26 (d := d_is_hue) rfl
  obtain ⟨F_d_check_hues, D_d_check_hues⟩ := cd.def_ 27 (d := d_check_hues) rfl
  obtain ⟨F_d_stand_off, D_d_stand_off⟩ := cd.def_ 28 (d := d_stand_off) rfl
  obtain ⟨F_d_first_clash, D_d_first_clash⟩ := cd.def_ 29 (d := d_first_clash) rfl
  obtain ⟨F_d_Clash_init, D_d_Clash_init⟩ := cd.def_ 30 (d := d_Clash_init) rfl
  obtain ⟨F_d_hue_fault, D_d_hue_fault⟩ := cd.def_ 31 (d := d_hue_fault) rfl
  obtain ⟨F_d_Ladders_init, D_d_Ladders_init⟩ := cd.def_ 32 (d := d_Ladders_init) rfl
  obtain ⟨F_d_World_eq, D_d_World_eq⟩ := cd.def_ 33 (d := d_World_eq) rfl
  obtain ⟨F_d__law_built_c83e, D_d__law_built_c83e⟩ := cd.def_ 34 (d := d__law_built_c83e) rfl
  obtain ⟨F_d_law_17f4, D_d_law_17f4⟩ := cd.def_ 35 (d := d_law_17f4) rfl
  have g__law_hand_bbe7 : mg "_law_hand" = some (.ref (He.ga K "_law_hand")) := He.glo_ok X G (cd.fact 0 (f := .glo "_law_hand") rfl)
  have g__law_mixed_559e : mg "_law_mixed" = some (.ref (He.ga K "_law_mixed")) := He.glo_ok X G (cd.fact 1 (f := .glo "_law_mixed") rfl)
  have g__law_take_1561 : mg "_law_take" = some (.ref (He.ga K "_law_take")) := He.glo_ok X G (cd.fact 2 (f := .glo "_law_take") rfl)
  have g__law_bases_c4c7 : mg "_law_bases" = some (.ref (He.ga K "_law_bases")) := He.glo_ok X G (cd.fact 3 (f := .glo "_law_bases") rfl)
  have g__law_shape_ca58 : mg "_law_shape" = some (.ref (He.ga K "_law_shape")) := He.glo_ok X G (cd.fact 4 (f := .glo "_law_shape") rfl)
  have g__law_methods_2714 : mg "_law_methods" = some (.ref (He.ga K "_law_methods")) := He.glo_ok X G (cd.fact 5 (f := .glo "_law_methods") rfl)
  have g__law_classes_f9b7 : mg "_law_classes" = some (.ref (He.ga K "_law_classes")) := He.glo_ok X G (cd.fact 6 (f := .glo "_law_classes") rfl)
  have g_is_sequence : mg "is_sequence" = some (.ref (He.ga K "is_sequence")) := He.glo_ok X G (cd.fact 7 (f := .glo "is_sequence") rfl)
  have g_is_whole : mg "is_whole" = some (.ref (He.ga K "is_whole")) := He.glo_ok X G (cd.fact 8 (f := .glo "is_whole") rfl)
  have g_unlike_wholes : mg "unlike_wholes" = some (.ref (He.ga K "unlike_wholes")) := He.glo_ok X G (cd.fact 9 (f := .glo "unlike_wholes") rfl)
  have g_entry_fault : mg "entry_fault" = some (.ref (He.ga K "entry_fault")) := He.glo_ok X G (cd.fact 10 (f := .glo "entry_fault") rfl)
  have g_elder_rows : mg "elder_rows" = some (.ref (He.ga K "elder_rows")) := He.glo_ok X G (cd.fact 11 (f := .glo "elder_rows") rfl)
  have g_heir_rows : mg "heir_rows" = some (.ref (He.ga K "heir_rows")) := He.glo_ok X G (cd.fact 12 (f := .glo "heir_rows") rfl)
  have g__law_elders_2534 : mg "_law_elders" = some (.ref (He.ga K "_law_elders")) := He.glo_ok X G (cd.fact 13 (f := .glo "_law_elders") rfl)
  have g__law_kin_51e8 : mg "_law_kin" = some (.ref (He.ga K "_law_kin")) := He.glo_ok X G (cd.fact 14 (f := .glo "_law_kin") rfl)
  have g__law_pair_among : mg "_law_pair_among" = some (.ref (He.ga K "_law_pair_among")) := He.glo_ok X G (cd.fact 15 (f := .glo "_law_pair_among") rfl)
  have g__law_clash_4ff3 : mg "_law_clash" = some (.ref (He.ga K "_law_clash")) := He.glo_ok X G (cd.fact 16 (f := .glo "_law_clash") rfl)
  have g__law_depths : mg "_law_depths" = some (.ref (He.ga K "_law_depths")) := He.glo_ok X G (cd.fact 17 (f := .glo "_law_depths") rfl)
  have g__law_depths_unlike : mg "_law_depths_unlike" = some (.ref (He.ga K "_law_depths_unlike")) := He.glo_ok X G (cd.fact 18 (f := .glo "_law_depths_unlike") rfl)
  have g__law_int : mg "_law_int" = some (.ref (He.ga K "_law_int")) := He.glo_ok X G (cd.fact 19 (f := .glo "_law_int") rfl)
  have g__law_exact_1b7e : mg "_law_exact" = some (.ref (He.ga K "_law_exact")) := He.glo_ok X G (cd.fact 20 (f := .glo "_law_exact") rfl)
  have g__law_three_right : mg "_law_three_right" = some (.ref (He.ga K "_law_three_right")) := He.glo_ok X G (cd.fact 21 (f := .glo "_law_three_right") rfl)
  have g_is_hue : mg "is_hue" = some (.ref (He.ga K "is_hue")) := He.glo_ok X G (cd.fact 22 (f := .glo "is_hue") rfl)
  have g_check_hues : mg "check_hues" = some (.ref (He.ga K "check_hues")) := He.glo_ok X G (cd.fact 23 (f := .glo "check_hues") rfl)
  have g_stand_off : mg "stand_off" = some (.ref (He.ga K "stand_off")) := He.glo_ok X G (cd.fact 24 (f := .glo "stand_off") rfl)
  have g_first_clash : mg "first_clash" = some (.ref (He.ga K "first_clash")) := He.glo_ok X G (cd.fact 25 (f := .glo "first_clash") rfl)
  have g_hue_fault : mg "hue_fault" = some (.ref (He.ga K "hue_fault")) := He.glo_ok X G (cd.fact 26 (f := .glo "hue_fault") rfl)
  have g__law_built_c83e : mg "_law_built" = some (.ref (He.ga K "_law_built")) := He.glo_ok X G (cd.fact 27 (f := .glo "_law_built") rfl)
  have g_law_17f4 : mg "law" = some (.ref (He.ga K "law")) := He.glo_ok X G (cd.fact 28 (f := .glo "law") rfl)
  have e := hfa.symm.trans g_law_17f4
  cases e
  have bl := FunD.bindsA (ps := ["_law_script"]) D_d_law_17f4 fun _ _ _ _ _ _ us hl => match us, hl with | [_], _ => rfl
  refine ⟨F_d_law_17f4, fun s v => bl s [v] rfl, fun base Xb Gb => ?_⟩
  have B0 : Cf (pd.W K hn) (x0 P w K mg base) pd.T pd.env 1 false := by
    refine base_cf (k := 1) X G c.more fun q hq h1 h2 => ?_
    have h2 := fun f hf => (Bool.and_eq_true_iff.mp (List.all_eq_true.mp h2 f hf)).1
    have hq : q ∈ [((1, [0, 1]) : Nat × List Nat), ((28, [0]) : Nat × List Nat), ((29, [9, 11, 12]) : Nat × List Nat)] := hq
    rcases List.mem_cons.mp hq with rfl | hq
    · exact ⟨F_dX_BadWorld, ["self", "index", "what"], fnX_of (k := 0) (N := ["self", "index", "what"]) D_dX_BadWorld scX_BadWorld rfl (by decide) (oexB_ok h1) (fun g hg => by
        obtain ⟨i, hi, rfl⟩ := List.mem_map.mp (show g ∈ [0, 1].map (nth pd.fld) from hg)
        exact of_decide_eq_true (h2 i hi)) ibX_BadWorld, FunD.bindsN D_dX_BadWorld fun _ _ _ _ _ _ us hl => match us, hl with | [_, _, _], _ => rfl⟩
    rcases List.mem_cons.mp hq with rfl | hq
    · exact ⟨F_dX_BadHues, ["self", "index"], fnX_of (k := 0) (N := ["self", "index"]) D_dX_BadHues scX_BadHues rfl (by decide) (oexB_ok h1) (fun g hg => by
        obtain ⟨i, hi, rfl⟩ := List.mem_map.mp (show g ∈ [0].map (nth pd.fld) from hg)
        exact of_decide_eq_true (h2 i hi)) ibX_BadHues, FunD.bindsN D_dX_BadHues fun _ _ _ _ _ _ us hl => match us, hl with | [_, _], _ => rfl⟩
    rcases List.mem_cons.mp hq with rfl | hq
    · exact ⟨F_dX_NotLine, ["self", "cls", "first", "second"], fnX_of (k := 0) (N := ["self", "cls", "first", "second"]) D_dX_NotLine scX_NotLine rfl (by decide) (oexB_ok h1) (fun g hg => by
        obtain ⟨i, hi, rfl⟩ := List.mem_map.mp (show g ∈ [9, 11, 12].map (nth pd.fld) from hg)
        exact of_decide_eq_true (h2 i hi)) ibX_NotLine, FunD.bindsN D_dX_NotLine fun _ _ _ _ _ _ us hl => match us, hl with | [_, _, _, _], _ => rfl⟩
    cases hq
  have B__law_hand_bbe7 : Cf (pd.W K hn) (x0 P w K mg base) pd.T E__law_hand_bbe7.env 1 false := cf_of (B0.mono (by omega)) su__law_hand_bbe7 trivial trivial trivial
  have b__law_hand_bbe7 : FnF (pd.W K hn) (x0 P w K mg base) 3 (pd.T.fnm 279) f__law_hand_bbe7 [] := ⟨⟨_, _, ["_law_script"], def_ok (x0 P w K mg base) rfl rfl rfl rfl rfl rfl rfl rfl B__law_hand_bbe7 D_d__law_hand_bbe7 sc__law_hand_bbe7 (by decide) ck__law_hand_bbe7, g__law_hand_bbe7, D_d__law_hand_bbe7.kp, fun n hn => by
      have hz : n = 0 := Nat.le_zero.mp hn
      subst hz
      exact ⟨[], [], FunD.bindsN D_d__law_hand_bbe7 fun _ _ _ _ _ _ us hl => match us, hl with | [_], _ => rfl, .nil, fun F m => Reps.nil⟩⟩⟩
  have B__law_mixed_559e : Cf (pd.W K hn) (x0 P w K mg base) pd.T E__law_mixed_559e.env 1 false := cf_of (B0.mono (by omega)) su__law_mixed_559e trivial trivial trivial
  have b__law_mixed_559e : FnF (pd.W K hn) (x0 P w K mg base) 3 (pd.T.fnm 280) f__law_mixed_559e [] := ⟨⟨_, _, ["_law_number", "_law_turn"], def_ok (x0 P w K mg base) rfl rfl rfl rfl rfl rfl rfl rfl B__law_mixed_559e D_d__law_mixed_559e sc__law_mixed_559e (by decide) ck__law_mixed_559e, g__law_mixed_559e, D_d__law_mixed_559e.kp, fun n hn => by
      have hz : n = 0 := Nat.le_zero.mp hn
      subst hz
      exact ⟨[], [], FunD.bindsN D_d__law_mixed_559e fun _ _ _ _ _ _ us hl => match us, hl with | [_, _], _ => rfl, .nil, fun F m => Reps.nil⟩⟩⟩
  have B__law_take_1561 : Cf (pd.W K hn) (x0 P w K mg base) pd.T E__law_take_1561.env 3 false := cf_of (B0.mono (by omega)) su__law_take_1561 ⟨⟨b__law_mixed_559e.mono (by omega), by decide +kernel⟩, trivial⟩ trivial trivial
  have b__law_take_1561 : FnF (pd.W K hn) (x0 P w K mg base) 5 (pd.T.fnm 281) f__law_take_1561 [] := ⟨⟨_, _, ["_law_hand_here", "_law_many"], def_ok (x0 P w K mg base) rfl rfl rfl rfl rfl rfl rfl rfl B__law_take_1561 D_d__law_take_1561 sc__law_take_1561 (by decide) ck__law_take_1561, g__law_take_1561, D_d__law_take_1561.kp, fun n hn => by
      have hz : n = 0 := Nat.le_zero.mp hn
      subst hz
      exact ⟨[], [], FunD.bindsN D_d__law_take_1561 fun _ _ _ _ _ _ us hl => match us, hl with | [_, _], _ => rfl, .nil, fun F m => Reps.nil⟩⟩⟩
  have B__law_bases_c4c7 : Cf (pd.W K hn) (x0 P w K mg base) pd.T E__law_bases_c4c7.env 5 false := cf_of (B0.mono (by omega)) su__law_bases_c4c7 ⟨⟨b__law_take_1561.mono (by omega), by decide +kernel⟩, trivial⟩ trivial trivial
  have b__law_bases_c4c7 : FnF (pd.W K hn) (x0 P w K mg base) 7 (pd.T.fnm 282) f__law_bases_c4c7 [] := ⟨⟨_, _, ["_law_hand_here", "_law_c"], def_ok (x0 P w K mg base) rfl rfl rfl rfl rfl rfl rfl rfl B__law_bases_c4c7 D_d__law_bases_c4c7 sc__law_bases_c4c7 (by decide) ck__law_bases_c4c7, g__law_bases_c4c7, D_d__law_bases_c4c7.kp, fun n hn => by
      have hz : n = 0 := Nat.le_zero.mp hn
      subst hz
      exact ⟨[], [], FunD.bindsN D_d__law_bases_c4c7 fun _ _ _ _ _ _ us hl => match us, hl with | [_, _], _ => rfl, .nil, fun F m => Reps.nil⟩⟩⟩
  have B__law_shape_ca58 : Cf (pd.W K hn) (x0 P w K mg base) pd.T E__law_shape_ca58.env 7 false := cf_of (B0.mono (by omega)) su__law_shape_ca58 ⟨⟨b__law_take_1561.mono (by omega), by decide +kernel⟩, ⟨⟨b__law_bases_c4c7.mono (by omega), by decide +kernel⟩, trivial⟩⟩ trivial trivial
  have b__law_shape_ca58 : FnF (pd.W K hn) (x0 P w K mg base) 9 (pd.T.fnm 284) f__law_shape_ca58 [] := ⟨⟨_, _, ["_law_hand_here", "_law_many"], def_ok (x0 P w K mg base) rfl rfl rfl rfl rfl rfl rfl rfl B__law_shape_ca58 D_d__law_shape_ca58 sc__law_shape_ca58 (by decide) ck__law_shape_ca58, g__law_shape_ca58, D_d__law_shape_ca58.kp, fun n hn => by
      have hz : n = 0 := Nat.le_zero.mp hn
      subst hz
      exact ⟨[], [], FunD.bindsN D_d__law_shape_ca58 fun _ _ _ _ _ _ us hl => match us, hl with | [_, _], _ => rfl, .nil, fun F m => Reps.nil⟩⟩⟩
  have B__law_methods_2714 : Cf (pd.W K hn) (x0 P w K mg base) pd.T E__law_methods_2714.env 5 false := cf_of (B0.mono (by omega)) su__law_methods_2714 ⟨⟨b__law_take_1561.mono (by omega), by decide +kernel⟩, trivial⟩ trivial trivial
  have b__law_methods_2714 : FnF (pd.W K hn) (x0 P w K mg base) 7 (pd.T.fnm 283) f__law_methods_2714 [] := ⟨⟨_, _, ["_law_hand_here"], def_ok (x0 P w K mg base) rfl rfl rfl rfl rfl rfl rfl rfl B__law_methods_2714 D_d__law_methods_2714 sc__law_methods_2714 (by decide) ck__law_methods_2714, g__law_methods_2714, D_d__law_methods_2714.kp, fun n hn => by
      have hz : n = 0 := Nat.le_zero.mp hn
      subst hz
      exact ⟨[], [], FunD.bindsN D_d__law_methods_2714 fun _ _ _ _ _ _ us hl => match us, hl with | [_], _ => rfl, .nil, fun F m => Reps.nil⟩⟩⟩
  have B__law_classes_f9b7 : Cf (pd.W K hn) (x0 P w K mg base) pd.T E__law_classes_f9b7.env 9 false := cf_of (B0.mono (by omega)) su__law_classes_f9b7 ⟨⟨b__law_take_1561.mono (by omega), by decide +kernel⟩, ⟨⟨b__law_shape_ca58.mono (by omega), by decide +kernel⟩, ⟨⟨b__law_methods_2714.mono (by omega), by decide +kernel⟩, trivial⟩⟩⟩ trivial trivial
  have b__law_classes_f9b7 : FnF (pd.W K hn) (x0 P w K mg base) 11 (pd.T.fnm 285) f__law_classes_f9b7 [] := ⟨⟨_, _, ["_law_hand_here", "_law_low", "_law_high", "_law_most", "_law_wanted"], def_ok (x0 P w K mg base) rfl rfl rfl rfl rfl rfl rfl rfl B__law_classes_f9b7 D_d__law_classes_f9b7 sc__law_classes_f9b7 (by decide) ck__law_classes_f9b7, g__law_classes_f9b7, D_d__law_classes_f9b7.kp, fun n hn => by
      have hz : n = 0 := Nat.le_zero.mp hn
      subst hz
      exact ⟨[], [], FunD.bindsN D_d__law_classes_f9b7 fun _ _ _ _ _ _ us hl => match us, hl with | [_, _, _, _, _], _ => rfl, .nil, fun F m => Reps.nil⟩⟩⟩
  have B_is_sequence : Cf (pd.W K hn) (x0 P w K mg base) pd.T E_is_sequence.env 1 false := cf_of (B0.mono (by omega)) su_is_sequence trivial trivial trivial
  have b_is_sequence : FnF (pd.W K hn) (x0 P w K mg base) 3 (pd.T.fnm 1) f_is_sequence [] := ⟨⟨_, _, ["thing"], def_ok (x0 P w K mg base) rfl rfl rfl rfl rfl rfl rfl rfl B_is_sequence D_d_is_sequence sc_is_sequence (by decide) ck_is_sequence, g_is_sequence, D_d_is_sequence.kp, fun n hn => by
      have hz : n = 0 := Nat.le_zero.mp hn
      subst hz
      exact ⟨[], [], FunD.bindsN D_d_is_sequence fun _ _ _ _ _ _ us hl => match us, hl with | [_], _ => rfl, .nil, fun F m => Reps.nil⟩⟩⟩
  have B_is_whole : Cf (pd.W K hn) (x0 P w K mg base) pd.T E_is_whole.env 1 false := cf_of (B0.mono (by omega)) su_is_whole trivial trivial trivial
  have b_is_whole : FnF (pd.W K hn) (x0 P w K mg base) 3 (pd.T.fnm 2) f_is_whole [.non, .non] := ⟨⟨_, _, ["thing", "low", "high"], def_ok (x0 P w K mg base) rfl rfl rfl rfl rfl rfl rfl rfl B_is_whole D_d_is_whole sc_is_whole (by decide) ck_is_whole, g_is_whole, D_d_is_whole.kp, fun n hn => by
      have hz : n = 0 ∨ n = 1 ∨ n = 2 := by have hn : n ≤ 2 := hn; omega
      rcases hz with rfl | rfl | rfl
      · obtain ⟨ds, v1, v2⟩ := FunD.binds1 D_d_is_whole 3 2 (ps := ["thing", "low", "high"]) (by intro z; cases z) rfl fun _ _ _ _ _ _ _ us its h1 h2 => match us, h1, its, h2 with | [_, _, _], _, [_, _], _ => ⟨_, rfl, rfl⟩
        exact ⟨ds, _, v2, v1, fun F m => by
          show Reps _ F m [] []
          exact Reps.nil⟩
      · obtain ⟨ds, v1, v2⟩ := FunD.binds1 D_d_is_whole 2 1 (ps := ["thing", "low", "high"]) (by intro z; cases z) rfl fun _ _ _ _ _ _ _ us its h1 h2 => match us, h1, its, h2 with | [_, _], _, [_, _], _ => ⟨_, rfl, rfl⟩
        exact ⟨ds, _, v2, v1, fun F m => by
          show Reps _ F m [.non] [V.non]
          exact (Reps.cons rep_non Reps.nil)⟩
      · obtain ⟨ds, v1, v2⟩ := FunD.binds1 D_d_is_whole 1 0 (ps := ["thing", "low", "high"]) (by intro z; cases z) rfl fun _ _ _ _ _ _ _ us its h1 h2 => match us, h1, its, h2 with | [_], _, [_, _], _ => ⟨_, rfl, rfl⟩
        exact ⟨ds, _, v2, v1, fun F m => by
          show Reps _ F m [.non, .non] [V.non, V.non]
          exact (Reps.cons rep_non (Reps.cons rep_non Reps.nil))⟩
⟩⟩
  have B_unlike_wholes : Cf (pd.W K hn) (x0 P w K mg base) pd.T E_unlike_wholes.env 3 false := cf_of (B0.mono (by omega)) su_unlike_wholes ⟨⟨b_is_sequence.mono (by omega), by decide +kernel⟩, ⟨⟨b_is_whole.mono (by omega), by decide +kernel⟩, trivial⟩⟩ trivial trivial
  have b_unlike_wholes : FnF (pd.W K hn) (x0 P w K mg base) 5 (pd.T.fnm 3) f_unlike_wholes [] := ⟨⟨_, _, ["things", "high"], def_ok (x0 P w K mg base) rfl rfl rfl rfl rfl rfl rfl rfl B_unlike_wholes D_d_unlike_wholes sc_unlike_wholes (by decide) ck_unlike_wholes, g_unlike_wholes, D_d_unlike_wholes.kp, fun n hn => by
      have hz : n = 0 := Nat.le_zero.mp hn
      subst hz
      exact ⟨[], [], FunD.bindsN D_d_unlike_wholes fun _ _ _ _ _ _ us hl => match us, hl with | [_, _], _ => rfl, .nil, fun F m => Reps.nil⟩⟩⟩
  have B_entry_fault : Cf (pd.W K hn) (x0 P w K mg base) pd.T E_entry_fault.env 5 false := cf_of (B0.mono (by omega)) su_entry_fault ⟨⟨b_is_sequence.mono (by omega), by decide +kernel⟩, ⟨⟨b_unlike_wholes.mono (by omega), by decide +kernel⟩, ⟨⟨b_is_whole.mono (by omega), by decide +kernel⟩, trivial⟩⟩⟩ trivial trivial
  have b_entry_fault : FnF (pd.W K hn) (x0 P w K mg base) 7 (pd.T.fnm 4) f_entry_fault [] := ⟨⟨_, _, ["entry", "at"], def_ok (x0 P w K mg base) rfl rfl rfl rfl rfl rfl rfl rfl B_entry_fault D_d_entry_fault sc_entry_fault (by decide) ck_entry_fault, g_entry_fault, D_d_entry_fault.kp, fun n hn => by
      have hz : n = 0 := Nat.le_zero.mp hn
      subst hz
      exact ⟨[], [], FunD.bindsN D_d_entry_fault fun _ _ _ _ _ _ us hl => match us, hl with | [_, _], _ => rfl, .nil, fun F m => Reps.nil⟩⟩⟩
  have B_elder_rows : Cf (pd.W K hn) (x0 P w K mg base) pd.T E_elder_rows.env 1 false := cf_of (B0.mono (by omega)) su_elder_rows trivial trivial trivial
  have b_elder_rows : FnF (pd.W K hn) (x0 P w K mg base) 3 (pd.T.fnm 5) f_elder_rows [] := ⟨⟨_, _, ["bases"], def_ok (x0 P w K mg base) rfl rfl rfl rfl rfl rfl rfl rfl B_elder_rows D_d_elder_rows sc_elder_rows (by decide) ck_elder_rows, g_elder_rows, D_d_elder_rows.kp, fun n hn => by
      have hz : n = 0 := Nat.le_zero.mp hn
      subst hz
      exact ⟨[], [], FunD.bindsN D_d_elder_rows fun _ _ _ _ _ _ us hl => match us, hl with | [_], _ => rfl, .nil, fun F m => Reps.nil⟩⟩⟩
  have B_heir_rows : Cf (pd.W K hn) (x0 P w K mg base) pd.T E_heir_rows.env 1 false := cf_of (B0.mono (by omega)) su_heir_rows trivial trivial trivial
  have b_heir_rows : FnF (pd.W K hn) (x0 P w K mg base) 3 (pd.T.fnm 6) f_heir_rows [] := ⟨⟨_, _, ["elders"], def_ok (x0 P w K mg base) rfl rfl rfl rfl rfl rfl rfl rfl B_heir_rows D_d_heir_rows sc_heir_rows (by decide) ck_heir_rows, g_heir_rows, D_d_heir_rows.kp, fun n hn => by
      have hz : n = 0 := Nat.le_zero.mp hn
      subst hz
      exact ⟨[], [], FunD.bindsN D_d_heir_rows fun _ _ _ _ _ _ us hl => match us, hl with | [_], _ => rfl, .nil, fun F m => Reps.nil⟩⟩⟩
  have B_World_init : Cf (pd.W K hn) (x0 P w K mg base) pd.T E_World_init.env 7 false := cf_of (B0.mono (by omega)) su_World_init ⟨⟨b_is_sequence.mono (by omega), by decide +kernel⟩, ⟨⟨b_entry_fault.mono (by omega), by decide +kernel⟩, ⟨⟨b_elder_rows.mono (by omega), by decide +kernel⟩, ⟨⟨b_heir_rows.mono (by omega), by decide +kernel⟩, trivial⟩⟩⟩⟩ trivial trivial
  have b_World_init : MkF (pd.W K hn) (x0 P w K mg base) 9 2 (pd.T.cnm 2) k_World := ⟨⟨_, _, ["self", "classes"], spOf (pd.W K hn) f_World_init, def_ok (x0 P w K mg base) rfl rfl rfl rfl rfl rfl rfl rfl B_World_init D_d_World_init sc_World_init (by decide) ck_World_init, He.mkr_ok (cd.fact 30 (f := .mkr "World") rfl), He.glo_ok X G (cd.fact 29 (f := .glo "World") rfl), FunD.bindsN D_d_World_init fun _ _ _ _ _ _ us hl => match us, hl with | [_, _], _ => rfl, fun vs H Q E z x dx hx hdx ne => MP.make_ok z hx hdx ne⟩⟩
  have B__law_elders_2534 : Cf (pd.W K hn) (x0 P w K mg base) pd.T E__law_elders_2534.env 1 false := cf_of (B0.mono (by omega)) su__law_elders_2534 trivial trivial trivial
  have b__law_elders_2534 : FnF (pd.W K hn) (x0 P w K mg base) 3 (pd.T.fnm 286) f__law_elders_2534 [] := ⟨⟨_, _, ["_law_rows"], def_ok (x0 P w K mg base) rfl rfl rfl rfl rfl rfl rfl rfl B__law_elders_2534 D_d__law_elders_2534 sc__law_elders_2534 (by decide) ck__law_elders_2534, g__law_elders_2534, D_d__law_elders_2534.kp, fun n hn => by
      have hz : n = 0 := Nat.le_zero.mp hn
      subst hz
      exact ⟨[], [], FunD.bindsN D_d__law_elders_2534 fun _ _ _ _ _ _ us hl => match us, hl with | [_], _ => rfl, .nil, fun F m => Reps.nil⟩⟩⟩
  have B__law_kin_51e8 : Cf (pd.W K hn) (x0 P w K mg base) pd.T E__law_kin_51e8.env 3 false := cf_of (B0.mono (by omega)) su__law_kin_51e8 ⟨⟨b__law_elders_2534.mono (by omega), by decide +kernel⟩, trivial⟩ trivial trivial
  have b__law_kin_51e8 : FnF (pd.W K hn) (x0 P w K mg base) 5 (pd.T.fnm 419) f__law_kin_51e8 [] := ⟨⟨_, _, ["_law_rows"], def_ok (x0 P w K mg base) rfl rfl rfl rfl rfl rfl rfl rfl B__law_kin_51e8 D_d__law_kin_51e8 sc__law_kin_51e8 (by decide) ck__law_kin_51e8, g__law_kin_51e8, D_d__law_kin_51e8.kp, fun n hn => by
      have hz : n = 0 := Nat.le_zero.mp hn
      subst hz
      exact ⟨[], [], FunD.bindsN D_d__law_kin_51e8 fun _ _ _ _ _ _ us hl => match us, hl with | [_], _ => rfl, .nil, fun F m => Reps.nil⟩⟩⟩
  have B__law_pair_among : Cf (pd.W K hn) (x0 P w K mg base) pd.T E__law_pair_among.env 1 false := cf_of (B0.mono (by omega)) su__law_pair_among trivial trivial trivial
  have b__law_pair_among : FnF (pd.W K hn) (x0 P w K mg base) 3 (pd.T.fnm 420) f__law_pair_among [] := ⟨⟨_, _, ["_law_kin_here", "_law_hues", "_law_among"], def_ok (x0 P w K mg base) rfl rfl rfl rfl rfl rfl rfl rfl B__law_pair_among D_d__law_pair_among sc__law_pair_among (by decide) ck__law_pair_among, g__law_pair_among, D_d__law_pair_among.kp, fun n hn => by
      have hz : n = 0 := Nat.le_zero.mp hn
      subst hz
      exact ⟨[], [], FunD.bindsN D_d__law_pair_among fun _ _ _ _ _ _ us hl => match us, hl with | [_, _, _], _ => rfl, .nil, fun F m => Reps.nil⟩⟩⟩
  have B__law_clash_4ff3 : Cf (pd.W K hn) (x0 P w K mg base) pd.T E__law_clash_4ff3.env 3 false := cf_of (B0.mono (by omega)) su__law_clash_4ff3 ⟨⟨b__law_pair_among.mono (by omega), by decide +kernel⟩, trivial⟩ trivial trivial
  have b__law_clash_4ff3 : FnF (pd.W K hn) (x0 P w K mg base) 5 (pd.T.fnm 395) f__law_clash_4ff3 [] := ⟨⟨_, _, ["_law_kin_here", "_law_hues"], def_ok (x0 P w K mg base) rfl rfl rfl rfl rfl rfl rfl rfl B__law_clash_4ff3 D_d__law_clash_4ff3 sc__law_clash_4ff3 (by decide) ck__law_clash_4ff3, g__law_clash_4ff3, D_d__law_clash_4ff3.kp, fun n hn => by
      have hz : n = 0 := Nat.le_zero.mp hn
      subst hz
      exact ⟨[], [], FunD.bindsN D_d__law_clash_4ff3 fun _ _ _ _ _ _ us hl => match us, hl with | [_, _], _ => rfl, .nil, fun F m => Reps.nil⟩⟩⟩
  have B__law_depths : Cf (pd.W K hn) (x0 P w K mg base) pd.T E__law_depths.env 1 false := cf_of (B0.mono (by omega)) su__law_depths trivial trivial trivial
  have b__law_depths : FnF (pd.W K hn) (x0 P w K mg base) 3 (pd.T.fnm 421) f__law_depths [] := ⟨⟨_, _, ["_law_kin_here", "_law_hues"], def_ok (x0 P w K mg base) rfl rfl rfl rfl rfl rfl rfl rfl B__law_depths D_d__law_depths sc__law_depths (by decide) ck__law_depths, g__law_depths, D_d__law_depths.kp, fun n hn => by
      have hz : n = 0 := Nat.le_zero.mp hn
      subst hz
      exact ⟨[], [], FunD.bindsN D_d__law_depths fun _ _ _ _ _ _ us hl => match us, hl with | [_, _], _ => rfl, .nil, fun F m => Reps.nil⟩⟩⟩
  have B__law_depths_unlike : Cf (pd.W K hn) (x0 P w K mg base) pd.T E__law_depths_unlike.env 3 false := cf_of (B0.mono (by omega)) su__law_depths_unlike ⟨⟨b__law_depths.mono (by omega), by decide +kernel⟩, trivial⟩ trivial trivial
  have b__law_depths_unlike : FnF (pd.W K hn) (x0 P w K mg base) 5 (pd.T.fnm 422) f__law_depths_unlike [] := ⟨⟨_, _, ["_law_kin_here", "_law_hues"], def_ok (x0 P w K mg base) rfl rfl rfl rfl rfl rfl rfl rfl B__law_depths_unlike D_d__law_depths_unlike sc__law_depths_unlike (by decide) ck__law_depths_unlike, g__law_depths_unlike, D_d__law_depths_unlike.kp, fun n hn => by
      have hz : n = 0 := Nat.le_zero.mp hn
      subst hz
      exact ⟨[], [], FunD.bindsN D_d__law_depths_unlike fun _ _ _ _ _ _ us hl => match us, hl with | [_, _], _ => rfl, .nil, fun F m => Reps.nil⟩⟩⟩
  have B__law_int : Cf (pd.W K hn) (x0 P w K mg base) pd.T E__law_int.env 1 false := cf_of (B0.mono (by omega)) su__law_int trivial trivial trivial
  have b__law_int : FnF (pd.W K hn) (x0 P w K mg base) 3 (pd.T.fnm 291) f__law_int [] := ⟨⟨_, _, ["_law_thing"], def_ok (x0 P w K mg base) rfl rfl rfl rfl rfl rfl rfl rfl B__law_int D_d__law_int sc__law_int (by decide) ck__law_int, g__law_int, D_d__law_int.kp, fun n hn => by
      have hz : n = 0 := Nat.le_zero.mp hn
      subst hz
      exact ⟨[], [], FunD.bindsN D_d__law_int fun _ _ _ _ _ _ us hl => match us, hl with | [_], _ => rfl, .nil, fun F m => Reps.nil⟩⟩⟩
  have r__law_exact_1b7e : ∀ n : Nat, FnF (pd.W K hn) (x0 P w K mg base) (3 + 1 + 2 * n) (pd.T.fnm 334) (f__law_exact_1b7e_n n) [] := fun n => by
    induction n with
    | zero => exact ⟨⟨_, _, ["_law_thing", "_law_due"], def_bad D_d__law_exact_1b7e sc__law_exact_1b7e, g__law_exact_1b7e, D_d__law_exact_1b7e.kp, fun n hn => by
      have hz : n = 0 := Nat.le_zero.mp hn
      subst hz
      exact ⟨[], [], FunD.bindsN D_d__law_exact_1b7e fun _ _ _ _ _ _ us hl => match us, hl with | [_, _], _ => rfl, .nil, fun F m => Reps.nil⟩⟩⟩
    | succ n ih =>
      have B__law_exact_1b7e : Cf (pd.W K hn) (x0 P w K mg base) pd.T (E__law_exact_1b7e (f__law_exact_1b7e_n n)).env (3 + 1 + 2 * n) false := cf_of (B0.mono (by omega)) su__law_exact_1b7e ⟨⟨ih, (by decide +kernel : (pd.T.fnm 334 == Str.ofString "__debug__") = false)⟩, ⟨⟨b__law_int.mono (by omega), by decide +kernel⟩, trivial⟩⟩ trivial trivial
      exact ⟨⟨_, _, ["_law_thing", "_law_due"], def_ok (x0 P w K mg base) rfl rfl rfl rfl rfl rfl rfl rfl B__law_exact_1b7e D_d__law_exact_1b7e sc__law_exact_1b7e (by decide) ck__law_exact_1b7e, g__law_exact_1b7e, D_d__law_exact_1b7e.kp, fun n hn => by
      have hz : n = 0 := Nat.le_zero.mp hn
      subst hz
      exact ⟨[], [], FunD.bindsN D_d__law_exact_1b7e fun _ _ _ _ _ _ us hl => match us, hl with | [_, _], _ => rfl, .nil, fun F m => Reps.nil⟩⟩⟩
  have b__law_exact_1b7e : FnF (pd.W K hn) (x0 P w K mg base) 28 (pd.T.fnm 334) f__law_exact_1b7e [] := r__law_exact_1b7e 12
  have B__law_three_right : Cf (pd.W K hn) (x0 P w K mg base) pd.T E__law_three_right.env 28 false := cf_of (B0.mono (by omega)) su__law_three_right ⟨⟨b__law_exact_1b7e.mono (by omega), by decide +kernel⟩, trivial⟩ trivial trivial
  have b__law_three_right : FnF (pd.W K hn) (x0 P w K mg base) 30 (pd.T.fnm 423) f__law_three_right [] := ⟨⟨_, _, ["_law_told", "_law_due"], def_ok (x0 P w K mg base) rfl rfl rfl rfl rfl rfl rfl rfl B__law_three_right D_d__law_three_right sc__law_three_right (by decide) ck__law_three_right, g__law_three_right, D_d__law_three_right.kp, fun n hn => by
      have hz : n = 0 := Nat.le_zero.mp hn
      subst hz
      exact ⟨[], [], FunD.bindsN D_d__law_three_right fun _ _ _ _ _ _ us hl => match us, hl with | [_, _], _ => rfl, .nil, fun F m => Reps.nil⟩⟩⟩
  have B_is_hue : Cf (pd.W K hn) (x0 P w K mg base) pd.T E_is_hue.env 3 false := cf_of (B0.mono (by omega)) su_is_hue ⟨⟨b_is_whole.mono (by omega), by decide +kernel⟩, trivial⟩ trivial trivial
  have b_is_hue : FnF (pd.W K hn) (x0 P w K mg base) 5 (pd.T.fnm 71) f_is_hue [] := ⟨⟨_, _, ["thing"], def_ok (x0 P w K mg base) rfl rfl rfl rfl rfl rfl rfl rfl B_is_hue D_d_is_hue sc_is_hue (by decide) ck_is_hue, g_is_hue, D_d_is_hue.kp, fun n hn => by
      have hz : n = 0 := Nat.le_zero.mp hn
      subst hz
      exact ⟨[], [], FunD.bindsN D_d_is_hue fun _ _ _ _ _ _ us hl => match us, hl with | [_], _ => rfl, .nil, fun F m => Reps.nil⟩⟩⟩
  have B_check_hues : Cf (pd.W K hn) (x0 P w K mg base) pd.T E_check_hues.env 5 false := cf_of (B0.mono (by omega)) su_check_hues ⟨⟨b_is_sequence.mono (by omega), by decide +kernel⟩, ⟨⟨b_is_hue.mono (by omega), by decide +kernel⟩, trivial⟩⟩ trivial trivial
  have b_check_hues : FnF (pd.W K hn) (x0 P w K mg base) 7 (pd.T.fnm 72) f_check_hues [] := ⟨⟨_, _, ["world", "hues"], def_ok (x0 P w K mg base) rfl rfl rfl rfl rfl rfl rfl rfl B_check_hues D_d_check_hues sc_check_hues (by decide) ck_check_hues, g_check_hues, D_d_check_hues.kp, fun n hn => by
      have hz : n = 0 := Nat.le_zero.mp hn
      subst hz
      exact ⟨[], [], FunD.bindsN D_d_check_hues fun _ _ _ _ _ _ us hl => match us, hl with | [_, _], _ => rfl, .nil, fun F m => Reps.nil⟩⟩⟩
  have B_stand_off : Cf (pd.W K hn) (x0 P w K mg base) pd.T E_stand_off.env 1 false := cf_of (B0.mono (by omega)) su_stand_off trivial trivial trivial
  have b_stand_off : FnF (pd.W K hn) (x0 P w K mg base) 3 (pd.T.fnm 73) f_stand_off [] := ⟨⟨_, _, ["world", "a", "b"], def_ok (x0 P w K mg base) rfl rfl rfl rfl rfl rfl rfl rfl B_stand_off D_d_stand_off sc_stand_off (by decide) ck_stand_off, g_stand_off, D_d_stand_off.kp, fun n hn => by
      have hz : n = 0 := Nat.le_zero.mp hn
      subst hz
      exact ⟨[], [], FunD.bindsN D_d_stand_off fun _ _ _ _ _ _ us hl => match us, hl with | [_, _, _], _ => rfl, .nil, fun F m => Reps.nil⟩⟩⟩
  have B_first_clash : Cf (pd.W K hn) (x0 P w K mg base) pd.T E_first_clash.env 3 false := cf_of (B0.mono (by omega)) su_first_clash ⟨⟨b_stand_off.mono (by omega), by decide +kernel⟩, trivial⟩ trivial trivial
  have b_first_clash : FnF (pd.W K hn) (x0 P w K mg base) 5 (pd.T.fnm 74) f_first_clash [] := ⟨⟨_, _, ["world", "hues", "among"], def_ok (x0 P w K mg base) rfl rfl rfl rfl rfl rfl rfl rfl B_first_clash D_d_first_clash sc_first_clash (by decide) ck_first_clash, g_first_clash, D_d_first_clash.kp, fun n hn => by
      have hz : n = 0 := Nat.le_zero.mp hn
      subst hz
      exact ⟨[], [], FunD.bindsN D_d_first_clash fun _ _ _ _ _ _ us hl => match us, hl with | [_, _, _], _ => rfl, .nil, fun F m => Reps.nil⟩⟩⟩
  have B_Clash_init : Cf (pd.W K hn) (x0 P w K mg base) pd.T E_Clash_init.env 1 false := cf_of (B0.mono (by omega)) su_Clash_init trivial trivial trivial
  have b_Clash_init : MkF (pd.W K hn) (x0 P w K mg base) 3 30 (pd.T.cnm 30) k_Clash := ⟨⟨_, _, ["self", "cls", "first", "second"], spOf (pd.W K hn) f_Clash_init, def_ok (x0 P w K mg base) rfl rfl rfl rfl rfl rfl rfl rfl B_Clash_init D_d_Clash_init sc_Clash_init (by decide) ck_Clash_init, He.mkr_ok (cd.fact 32 (f := .mkr "Clash") rfl), He.glo_ok X G (cd.fact 31 (f := .glo "Clash") rfl), FunD.bindsN D_d_Clash_init fun _ _ _ _ _ _ us hl => match us, hl with | [_, _, _, _], _ => rfl, fun vs H Q E z x dx hx hdx ne => MP.make_ok z hx hdx ne⟩⟩
  have B_hue_fault : Cf (pd.W K hn) (x0 P w K mg base) pd.T E_hue_fault.env 7 false := cf_of (B0.mono (by omega)) su_hue_fault ⟨⟨b_check_hues.mono (by omega), by decide +kernel⟩, ⟨⟨b_first_clash.mono (by omega), by decide +kernel⟩, trivial⟩⟩ ⟨⟨b_Clash_init.mono (by omega), by decide +kernel⟩, trivial⟩ trivial
  have b_hue_fault : FnF (pd.W K hn) (x0 P w K mg base) 9 (pd.T.fnm 75) f_hue_fault [] := ⟨⟨_, _, ["world", "hues"], def_ok (x0 P w K mg base) rfl rfl rfl rfl rfl rfl rfl rfl B_hue_fault D_d_hue_fault sc_hue_fault (by decide) ck_hue_fault, g_hue_fault, D_d_hue_fault.kp, fun n hn => by
      have hz : n = 0 := Nat.le_zero.mp hn
      subst hz
      exact ⟨[], [], FunD.bindsN D_d_hue_fault fun _ _ _ _ _ _ us hl => match us, hl with | [_, _], _ => rfl, .nil, fun F m => Reps.nil⟩⟩⟩
  have B_Ladders_init : Cf (pd.W K hn) (x0 P w K mg base) pd.T E_Ladders_init.env 9 false := cf_of (B0.mono (by omega)) su_Ladders_init ⟨⟨b_hue_fault.mono (by omega), by decide +kernel⟩, trivial⟩ trivial trivial
  have b_Ladders_init : MkF (pd.W K hn) (x0 P w K mg base) 11 31 (pd.T.cnm 31) k_Ladders := ⟨⟨_, _, ["self", "world", "hues"], spOf (pd.W K hn) f_Ladders_init, def_ok (x0 P w K mg base) rfl rfl rfl rfl rfl rfl rfl rfl B_Ladders_init D_d_Ladders_init sc_Ladders_init (by decide) ck_Ladders_init, He.mkr_ok (cd.fact 34 (f := .mkr "Ladders") rfl), He.glo_ok X G (cd.fact 33 (f := .glo "Ladders") rfl), FunD.bindsN D_d_Ladders_init fun _ _ _ _ _ _ us hl => match us, hl with | [_, _, _], _ => rfl, fun vs H Q E z x dx hx hdx ne => MP.make_ok z hx hdx ne⟩⟩
  have B_World_eq : Cf (pd.W K hn) (x0 P w K mg base) pd.T E_World_eq.env 1 false := cf_of (B0.mono (by omega)) su_World_eq trivial trivial trivial
  have b_World_eq : MtF (pd.W K hn) (x0 P w K mg base) 3 2 (pd.T.fld 116) f_World_eq := ⟨⟨_, _, ["self", "other"], def_ok (x0 P w K mg base) rfl rfl rfl rfl rfl rfl rfl rfl B_World_eq D_d_World_eq sc_World_eq (by decide) ck_World_eq, He.cls_ok (cd.fact 35 (f := .cls "World") rfl), He.meth_ok (cd.fact 36 (f := .meth "World" "__eq__") rfl), FunD.bindsN D_d_World_eq fun _ _ _ _ _ _ us hl => match us, hl with | [_, _], _ => rfl⟩⟩
  have B__law_built_c83e : Cf (pd.W K hn) (x0 P w K mg base) pd.T E__law_built_c83e.env 28 false := cf_of (B0.mono (by omega)) su__law_built_c83e ⟨⟨b__law_exact_1b7e.mono (by omega), by decide +kernel⟩, trivial⟩ ⟨⟨b_Ladders_init.mono (by omega), by decide +kernel⟩, trivial⟩ ⟨b_World_eq.mono (by omega), trivial⟩
  have b__law_built_c83e : FnF (pd.W K hn) (x0 P w K mg base) 30 (pd.T.fnm 384) f__law_built_c83e [] := ⟨⟨_, _, ["_law_world", "_law_row", "_law_due"], def_ok (x0 P w K mg base) rfl rfl rfl rfl rfl rfl rfl rfl B__law_built_c83e D_d__law_built_c83e sc__law_built_c83e (by decide) ck__law_built_c83e, g__law_built_c83e, D_d__law_built_c83e.kp, fun n hn => by
      have hz : n = 0 := Nat.le_zero.mp hn
      subst hz
      exact ⟨[], [], FunD.bindsN D_d__law_built_c83e fun _ _ _ _ _ _ us hl => match us, hl with | [_, _, _], _ => rfl, .nil, fun F m => Reps.nil⟩⟩⟩
  have B_law_17f4 : Cf (pd.W K hn) (x0 P w K mg base) pd.T E_law_17f4.env 30 false := cf_of (B0.mono (by omega)) su_law_17f4 ⟨⟨b__law_hand_bbe7.mono (by omega), by decide +kernel⟩, ⟨⟨b__law_classes_f9b7.mono (by omega), by decide +kernel⟩, ⟨⟨b__law_take_1561.mono (by omega), by decide +kernel⟩, ⟨⟨b__law_kin_51e8.mono (by omega), by decide +kernel⟩, ⟨⟨b__law_clash_4ff3.mono (by omega), by decide +kernel⟩, ⟨⟨b__law_depths_unlike.mono (by omega), by decide +kernel⟩, ⟨⟨b__law_three_right.mono (by omega), by decide +kernel⟩, ⟨⟨b_hue_fault.mono (by omega), by decide +kernel⟩, ⟨⟨b__law_built_c83e.mono (by omega), by decide +kernel⟩, trivial⟩⟩⟩⟩⟩⟩⟩⟩⟩ ⟨⟨b_World_init.mono (by omega), by decide +kernel⟩, trivial⟩ trivial
  exact def_ok (x0 P w K mg base) rfl rfl rfl rfl rfl rfl rfl rfl B_law_17f4 D_d_law_17f4 sc_law_17f4 (by decide) ck_law_17f4
theorem end_ {XP : (Str → Option Value) → Heap → Prop} (plain : ∀ ns : List Int, ns.length ≤ 63 → ∃ h', f_law_17f4 [.ext (ns.map .int)] [] = .ok (.val (.bl true)) h') : PySem.W.WalkO (PySem.W.view R.prog [41]) loose XP hk.says (PySem.Challenge.rw_headamid_k14_whole_hues_right_by_depth).row.toRowW (HandSHeadRun.topDef R.prog 41) [] (fun f vs => PySem.call f vs) := by
  refine walkG (l := PySem.Challenge.rw_headamid_k14_whole_hues_right_by_depth) (n := 63) (k := 32) (x := "_law_script") rfl (by decide) (by kernel_rfl) ⟨rfl, by decide, by decide⟩ ?F
  intro w mg fa h Y G hmg0
  obtain ⟨K, KX, c⟩ := Y
  have hmg : mg ("law" : PySem.Str) = some (.ref fa) := by
    have e : (HandSHeadRun.topDef (PySem.W.OpenLaw.row PySem.Challenge.rw_headamid_k14_whole_hues_right_by_depth).prog 41).name = ("law" : PySem.Str) := by kernel_rfl
    rw [← e]
    exact hmg0
  obtain ⟨fd, hb, hF⟩ := facts (P := (PySem.Challenge.rw_headamid_k14_whole_hues_right_by_depth).prog) (w := w) KX G hmg c
  refine ⟨K, fd, spOf (pd.W K hn) f_law_17f4, KX, hb, fun H a ns hl _ hS => ?_, hF⟩
  obtain ⟨h', e⟩ := plain ns hl
  exact ext_sp e hS
end LawP
open PySem PySem.W PySem.Calls PyProof.Rows
theorem PySem.Challenge.cw_headamid_k14_whole_hues_right_by_depth_holds : PySem.Challenge.rw_headamid_k14_whole_hues_right_by_depth.Holds := by
  w_on; o_law
  refine HandSHeadRun.head_any (r := OpenLaw.row PySem.Challenge.rw_headamid_k14_whole_hues_right_by_depth) (q := view (OpenLaw.row PySem.Challenge.rw_headamid_k14_whole_hues_right_by_depth).prog [41]) (H := LawP.hk) (ob := LawP.ob) (M := 6000) (loose := LawP.loose) (d := HandSHeadRun.topDef (OpenLaw.row PySem.Challenge.rw_headamid_k14_whole_hues_right_by_depth).prog 41) (kwd := []) LawP.ob_eq
    (by kernel_rfl) (fun s => by kernel_rfl) LawP.run (by kernel_rfl) (by kernel_rfl) (by kernel_rfl) (by rfl) (by first | assumption | decide +kernel) (by decide +kernel) ⟨rfl, rfl, rfl, rfl, rfl, by decide +kernel⟩ ?hw ?hc
  case hw => w_witness2
  case hc => exact LawP.end_ LawP.plain
