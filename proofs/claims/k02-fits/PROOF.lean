import PyProof.Rows.All
import Wide.All
import OpenK.AllK
import Wide.FinOn
import PySem.Challenge.RW_starsets_k02_fits
import HandS.Base
import HandS.Comp
import HandS.ForMost
import HandS.ForExc
import HandS.TryMany
import HandS.IsInst
import HandS.Flow
import KE.KDictKeyed
import HandS.ExcOwn
import HandS.TupAny
import HandS.TupMul
import HandS.Deep
import HandS.Style
import HandS.Small
import HandS.StrMore
import KE.DataCmp
import KE.SortData
import HandS.SetKeys
import KE.KDictDisplayH
import HandS.TupLen
import HandS.Iter
import HandS.Replace
import HandS.SetFor
import HandS.TupSets
import HandS.Conv
import KE.DataMinMax
import KE.GoesEnum
import KE.GoesZip
import HandS.Ends
import Open.SpecLaws
import KE.OsGo
import HandS.ForSpec
section
set_option autoImplicit false
set_option linter.all false
/-! A small language of pure data, and what its programs compute (no heap in sight). -/
namespace Q7

/-- data: what tuples, lists and slots hold -/
inductive D where
  | non
  | bl (b : Bool)
  | int (i : Int)
  | str (s : List Nat)
  | tup (xs : List D)
  | lst (xs : List D)
  deriving Inhabited

/-- what a slot holds: data, or a dict -/
inductive Xv where
  | d (d : D)
  | m (ks vs : List D)
  deriving Inhabited

mutual
def eqv : D → D → Bool
  | .non, .non => true
  | .bl a, .bl b => a == b
  | .bl a, .int j => (if a then 1 else 0) == j
  | .int i, .bl b => i == (if b then 1 else 0)
  | .int i, .int j => i == j
  | .str x, .str y => x == y
  | .lst xs, .lst ys => eqvs xs ys
  | .tup xs, .tup ys => eqvs xs ys
  | _, _ => false
def eqvs : List D → List D → Bool
  | [], [] => true
  | x :: xs, y :: ys => eqv x y && eqvs xs ys
  | _, _ => false
end
mutual
def depth : D → Nat
  | .tup xs => depths xs + 1
  | .lst xs => depths xs + 1
  | _ => 0
def depths : List D → Nat
  | [] => 0
  | x :: xs => max (depth x) (depths xs)
end

/-- how an evaluation ends -/
inductive R (α : Type) where
  | ok (a : α)
  | exc (c : Nat)
  | stuck

@[inline] def R.bind {α β : Type} (x : R α) (f : α → R β) : R β :=
  match x with
  | .ok a => f a
  | .exc c => .exc c
  | .stuck => .stuck
instance : Monad R where
  pure := R.ok
  bind := R.bind
@[simp] theorem R.pure_eq {α : Type} (a : α) : (pure a : R α) = R.ok a := rfl
@[simp] theorem R.ok_bind {α β : Type} (a : α) (f : α → R β) : (R.ok a >>= f) = f a := rfl
@[simp] theorem R.exc_bind {α β : Type} (c : Nat) (f : α → R β) : ((R.exc c : R α) >>= f) = R.exc c := rfl
@[simp] theorem R.stuck_bind {α β : Type} (f : α → R β) : ((R.stuck : R α) >>= f) = R.stuck := rfl
theorem R.bind_eq_ok {α β : Type} {x : R α} {f : α → R β} {b : β} (h : (x >>= f) = R.ok b) : ∃ a, x = R.ok a ∧ f a = R.ok b := by
  cases x with
  | ok a => exact ⟨a, rfl, h⟩
  | exc c => exact absurd (show R.exc c = R.ok b from h) (by simp)
  | stuck => exact absurd (show R.stuck = R.ok b from h) (by simp)

def R.of {α : Type} : Option α → R α
  | some a => .ok a
  | none => .stuck
@[simp] theorem R.of_some {α : Type} (a : α) : R.of (some a) = R.ok a := rfl
@[simp] theorem R.of_none {α : Type} : R.of (none : Option α) = R.stuck := rfl

/-- kinds of values: shared, fresh (nobody else holds it), borrowed from a slot that owns it -/
inductive Kd where
  | sh | fr | bo
  deriving DecidableEq, Inhabited

structure W where
  k : Kd
  x : Xv
  deriving Inhabited

/-- slots: whether the slot owns what it holds -/
abbrev Env := List (Option (Bool × Xv))

abbrev big : Nat := 1000000

inductive Bop where
  | add | sub | mul | fdiv | mod | pow
  deriving DecidableEq
inductive Cop where
  | eq | ne | lt | le | gt | ge | isin | notin | is | isnot
  deriving DecidableEq
inductive Ty where
  | int | str | bool | tuple | list
  deriving DecidableEq
inductive B1 where
  | len | int | bool | tuple | list | sum | min | max | sorted | sortedset | lenset
  deriving DecidableEq
inductive M2 where
  | split | join | index | get
  deriving DecidableEq

inductive Tg where
  | nm (i : Nat)
  | tp (ts : List Tg)

mutual
inductive CE where
  | omit
  | var (i : Nat)
  | con (d : D)
  | bop (o : Bop) (a b : CE)
  | neg (a : CE)
  | cmp (o : Cop) (a b : CE)
  | chain (o o' : Cop) (a b c : CE)
  | and (a b : CE)
  | or (a b : CE)
  | not (a : CE)
  | ite (c a b : CE)
  | tup (es : CEs)
  | lst (es : CEs)
  | dnew
  | dict (kvs : CEs)
  | idx (a i : CE)
  | slice (a lo hi : CE)
  | rev (a : CE)
  | call (f : Nat) (es : CEs)
  | b1 (b : B1) (a : CE)
  | isi (a : CE) (t : Ty)
  | min2 (a b : CE)
  | max2 (a b : CE)
  | split (a b : CE)
  | join (a b : CE)
  | index (a b : CE)
  | get (a k x : CE)
  | dictof (a : CE)
  | listzip (a b : CE)
  | replace (a b c : CE)
  | startswith (a b : CE)
  | strip (a b : CE)
  | comp (tg : Tg) (it : CI) (c e : CE)
inductive CEs where
  | nil
  | cons (e : CE) (es : CEs)
inductive CI where
  | val (a : CE)
  | rng1 (a : CE)
  | rng2 (a b : CE)
  | enum (a : CE)
  | zip (a b : CE)
end

mutual
inductive CS where
  | ex (e : CE)
  | asg (tg : Tg) (e : CE)
  | aug (i : Nat) (o : Bop) (e : CE)
  | append (i : Nat) (e : CE)
  | extend (i : Nat) (e : CE)
  | appendSD (i d : Nat) (k v : CE)
  | dput (i : Nat) (k v : CE)
  | freeze (i : Nat)
  | ifs (c : CE) (a b : CSs)
  | whl (c : CE) (b : CSs)
  | for_ (tg : Tg) (it : CI) (b : CSs)
  | ret (e : CE)
  | raise (c : Nat)
  | tr (b : CSs) (hs : List (Nat × CS))
  | brk
inductive CSs where
  | nil
  | cons (s : CS) (r : CSs)
end

/-! ### operations on data -/
def isize (n : Nat) (d : D) : Option D := if n ≤ big then some d else none

def i64 (i : Int) : Bool := decide (-(2 ^ 64) < i) && decide (i < 2 ^ 64)

def binop : Bop → D → D → Option D
  | .add, .int i, .int j => some (.int (i + j))
  | .add, .str x, .str y => isize (x.length + y.length) (.str (x ++ y))
  | .add, .lst x, .lst y => isize (x.length + y.length) (.lst (x ++ y))
  | .add, .tup x, .tup y => isize (x.length + y.length) (.tup (x ++ y))
  | .sub, .int i, .int j => some (.int (i - j))
  | .mul, .int i, .int j => if i64 i || i64 j then some (.int (i * j)) else none
  | .mul, .tup x, .int j => if x ≠ [] ∧ 2 ≤ j ∧ j ≤ 1000 ∧ x.length ≤ 1000 then isize (x.length * j.toNat) (.tup (List.replicate j.toNat x).flatten) else none
  | .mul, .str x, .int j => if -1000000 ≤ j ∧ j ≤ 1000000 then isize (x.length * j.toNat) (.str (List.replicate j.toNat x).flatten) else none
  | .fdiv, .int i, .int j => if decide (0 < j) && decide (j < 1073741824) then some (.int (i / j)) else none
  | .mod, .int i, .int j => if 0 < j then some (.int (i % j)) else none
  | .pow, .int i, .int j => if decide (0 ≤ j) && decide (j ≤ 1000000) && i64 i then some (.int (i ^ j.toNat)) else none
  | _, _, _ => none

def augop : Bop → D → D → Option D
  | .add, .int i, .int j => some (.int (i + j))
  | .add, .str x, .str y => isize (x.length + y.length) (.str (x ++ y))
  | .sub, .int i, .int j => some (.int (i - j))
  | _, _, _ => none
def neg : D → Option D
  | .int i => some (.int (-i))
  | _ => none

/-- one text within another -/
def isInfix (x : List Nat) : List Nat → Bool
  | [] => x.isPrefixOf []
  | c :: r => x.isPrefixOf (c :: r) || isInfix x r

mutual
/-- data that < may compare at every place -/
def alike : D → D → Bool
  | .int _, .int _ => true
  | .str _, .str _ => true
  | .tup xs, .tup ys => alikes xs ys
  | _, _ => false
def alikes : List D → List D → Bool
  | x :: xs, y :: ys => alike x y && alikes xs ys
  | _, _ => true
end

def ltn : List Nat → List Nat → Bool
  | [], [] => false
  | [], _ :: _ => true
  | _ :: _, [] => false
  | x :: xs, y :: ys => if x = y then ltn xs ys else decide (x < y)
mutual
/-- < of alike data -/
def dlt : D → D → Bool
  | .int i, .int j => decide (i < j)
  | .str x, .str y => ltn x y
  | .tup xs, .tup ys => dlts xs ys
  | _, _ => false
def dlts : List D → List D → Bool
  | [], [] => false
  | [], _ :: _ => true
  | _ :: _, [] => false
  | x :: xs, y :: ys => if eqv x y then dlts xs ys else dlt x y
end

def bounded (d e : D) : Bool := decide (min (depth d) (depth e) ≤ 64)

def lessThan (d e : D) : Option Bool := if alike d e && bounded d e then some (dlt d e) else none

def isIn (d : D) : D → Option Bool
  | .str y => match d with
    | .str x => some (isInfix x y)
    | _ => none
  | .lst ys => if decide (min (depths ys) (depth d) ≤ 64) then some (ys.any fun y => eqv y d) else none
  | .tup ys => if decide (min (depths ys) (depth d) ≤ 64) then some (ys.any fun y => eqv y d) else none
  | _ => none

def cmpop : Cop → D → D → Option Bool
  | .eq, a, b => if bounded a b then some (eqv a b) else none
  | .ne, a, b => if bounded a b then some (!eqv a b) else none
  | .lt, a, b => lessThan a b
  | .gt, a, b => lessThan b a
  | .le, a, b => do let r ← lessThan b a; some (!r)
  | .ge, a, b => do let r ← lessThan a b; some (!r)
  | .isin, a, b => isIn a b
  | .notin, a, b => do let r ← isIn a b; some (!r)
  | .is, a, .non => some (match a with | .non => true | _ => false)
  | .is, a, .bl b => some (match a with | .bl c => c == b | _ => false)
  | .is, _, _ => none
  | .isnot, a, .non => some (match a with | .non => false | _ => true)
  | .isnot, a, .bl b => some (match a with | .bl c => !(c == b) | _ => true)
  | .isnot, _, _ => none

/-- whether a thing counts as true -/
def tru : D → Bool
  | .non => false
  | .bl b => b
  | .int i => i != 0
  | .str s => !s.isEmpty
  | .tup xs => !xs.isEmpty
  | .lst xs => !xs.isEmpty
def W.tru : W → Option Bool
  | ⟨_, .d d⟩ => some (Q7.tru d)
  | ⟨_, .m _ _⟩ => none

/-! dicts -/
mutual
def key0 : D → Bool
  | .int _ => true
  | .str _ => true
  | .tup xs => keys0 xs
  | _ => false
def keys0 : List D → Bool
  | [] => true
  | x :: xs => key0 x && keys0 xs
end
/-- 1: an int or a text; 2: a tuple of such, nested -/
def cat : D → Nat
  | .int _ => 1
  | .str _ => 1
  | .tup xs => if keys0 xs && decide (depths xs ≤ 6) then 2 else 0
  | _ => 0
def fitsK (k : D) : List D → Bool
  | [] => cat k != 0
  | k0 :: _ => cat k != 0 && cat k == cat k0
def getK (k : D) : List D → List D → Option D
  | k' :: ks, v :: vs => if eqv k' k then some v else getK k ks vs
  | _, _ => none
def hasK (k : D) (ks : List D) : Bool := ks.any fun k' => eqv k' k
/-- the values behind a store -/
def setK (k v : D) : List D → List D → List D
  | k' :: ks, v' :: vs => if eqv k' k then v :: vs else v' :: setK k v ks vs
  | _, vs => vs
def putK (k v : D) (ks vs : List D) : List D × List D := if hasK k ks then (ks, setK k v ks vs) else (ks ++ [k], vs ++ [v])

/-! indices -/
def at? (xs : List D) (i : Int) : Option D := if 0 ≤ i then xs[i.toNat]? else if 0 ≤ i + xs.length then xs[(i + xs.length).toNat]? else none
def atS? (xs : List Nat) (i : Int) : Option Nat := if 0 ≤ i then xs[i.toNat]? else if 0 ≤ i + xs.length then xs[(i + xs.length).toNat]? else none
def index : D → D → Option D
  | .lst xs, .int i => match at? xs i with | some d => some d | none => none
  | .tup xs, .int i => match at? xs i with | some d => some d | none => none
  | .str s, .int i => match atS? s i with | some c => some (.str [c]) | none => none
  | _, _ => none
def indexX : Xv → D → Option D
  | .d a, i => index a i
  | .m ks vs, k => if fitsK k ks then (match getK k ks vs with | some v => some v | none => none) else none

/-- a bound of a slice as a place -/
def sIx (n d : Nat) : Option Int → Nat
  | none => d
  | some i => if i < 0 then (i + n).toNat else min i.toNat n
def cut {α : Type} (xs : List α) (lo hi : Option Int) : List α := (xs.drop (sIx xs.length 0 lo)).take (sIx xs.length xs.length hi - sIx xs.length 0 lo)
def slice : D → Option Int → Option Int → Option D
  | .lst xs, lo, hi => some (.lst (cut xs lo hi))
  | .tup xs, lo, hi => some (.tup (cut xs lo hi))
  | .str s, lo, hi => some (.str (cut s lo hi))
  | _, _, _ => none

/-! sorting -/
def allAlike (xs : List D) : Bool := xs.all fun x => xs.all fun y => alike x y
def sortable : List D → Bool
  | [] => true
  | .tup [] :: _ => false
  | .tup (_ :: _) :: r => r.all fun d => match d with | .tup (_ :: _) => true | _ => false
  | .int _ :: _ => true
  | .str _ :: _ => true
  | _ => false
def ins (x : D) : List D → List D
  | [] => [x]
  | y :: ys => if dlt y x then y :: ins x ys else x :: y :: ys
/-- sorted: by insertion -/
def isort : List D → List D
  | [] => []
  | x :: xs => ins x (isort xs)
/-- each thing once, the first of its like -/
def dedup : List D → List D
  | [] => []
  | x :: xs => x :: (dedup xs).filter fun y => !eqv x y
def setable (xs : List D) : Bool := decide (xs.length ≤ 4000) && (xs.all (fun d => match d with | .int _ => true | _ => false) || xs.all (fun d => match d with | .str _ => true | _ => false))

def intsQ : List D → Option (List Int)
  | [] => some []
  | .int i :: r => (intsQ r).map (i :: ·)
  | _ => none
def texts : List D → Option (List (List Nat))
  | [] => some []
  | .str s :: r => (texts r).map (s :: ·)
  | _ => none

def joinL (s : List Nat) : List (List Nat) → List Nat
  | [] => []
  | [x] => x
  | x :: y :: r => x ++ (s ++ joinL s (y :: r))
/-- a text parted at a sign -/
def splitC (c : Nat) : List Nat → List (List Nat)
  | [] => [[]]
  | x :: r => if x = c then [] :: splitC c r else match splitC c r with
    | [] => [[x]]
    | h :: t => (x :: h) :: t

def b1 : B1 → Xv → Option D
  | .len, .d (.str s) => some (.int s.length)
  | .len, .d (.lst s) => some (.int s.length)
  | .len, .d (.tup s) => some (.int s.length)
  | .len, .m ks _ => some (.int ks.length)
  | .int, .d (.int i) => some (.int i)
  | .int, .d (.bl b) => some (.int (if b then 1 else 0))
  | .bool, .d (.int i) => some (.bl (i != 0))
  | .bool, .d (.bl b) => some (.bl b)
  | .bool, .d (.lst xs) => some (.bl (!xs.isEmpty))
  | .tuple, .d (.lst xs) => some (.tup xs)
  | .tuple, .d (.tup xs) => some (.tup xs)
  | .list, .d (.lst xs) => some (.lst xs)
  | .list, .d (.tup xs) => some (.lst xs)
  | .list, .d (.str s) => some (.lst (s.map fun c => .str [c]))
  | .list, .m ks _ => some (.lst ks)
  | .sum, .d (.lst xs) => match intsQ xs with | some ns => some (.int ns.sum) | none => none
  | .min, .d (.lst (x :: xs)) => if allAlike (x :: xs) && decide (depths (x :: xs) ≤ 64) then some (xs.foldl (fun m y => if dlt y m then y else m) x) else none
  | .max, .d (.lst (x :: xs)) => if allAlike (x :: xs) && decide (depths (x :: xs) ≤ 64) then some (xs.foldl (fun m y => if dlt m y then y else m) x) else none
  | .sorted, .d (.lst xs) => if allAlike xs && sortable xs && decide (depths xs ≤ 64) then some (.lst (isort xs)) else none
  | .sortedset, .d (.lst xs) => if setable xs then some (.lst (isort (dedup xs))) else none
  | .sortedset, .d (.tup xs) => if setable xs then some (.lst (isort (dedup xs))) else none
  | .lenset, .d (.lst xs) => if setable xs then some (.int (dedup xs).length) else none
  | _, _ => none

def hasTy : Xv → Ty → Bool
  | .d (.int _), .int => true
  | .d (.bl _), .int => true
  | .d (.bl _), .bool => true
  | .d (.str _), .str => true
  | .d (.tup _), .tuple => true
  | .d (.lst _), .list => true
  | _, _ => false

def isiW (t : Ty) (x : W) : Option W := match x.x with
  | .d d => some ⟨.sh, .d (.bl (hasTy (.d d) t))⟩
  | .m _ _ => none

def findD (d : D) : List D → Nat → Option Nat
  | [], _ => none
  | x :: r, i => if eqv x d then some i else findD d r (i + 1)
def findC (c : Nat) : List Nat → Nat → Option Nat
  | [], _ => none
  | x :: r, i => if x = c then some i else findC c r (i + 1)
def indexOf : D → D → Option D
  | .lst xs, d => if decide (min (depths xs) (depth d) ≤ 64) then (match findD d xs 0 with | some i => some (.int i) | none => none) else none
  | _, _ => none

/-- pairs, as dict() takes them -/
def pairs : List D → Option (List (D × D))
  | [] => some []
  | .tup [k, v] :: r => (pairs r).map ((k, v) :: ·)
  | _ => none
def pairUp : List D → Option (List (D × D))
  | [] => some []
  | k :: v :: r => (pairUp r).map ((k, v) :: ·)
  | _ => none
def dictOf : List (D × D) → List D → List D → Option (List D × List D)
  | [], ks, vs => some (ks, vs)
  | (k, v) :: r, ks, vs => if fitsK k ks then dictOf r (putK k v ks vs).1 (putK k v ks vs).2 else none

def mk (d : D) : W := match d with
  | .lst xs => ⟨.fr, .d (.lst xs)⟩
  | d => ⟨.sh, .d d⟩
/-- as data -/
def W.dat : W → Option D
  | ⟨_, .d d⟩ => some d
  | ⟨_, .m _ _⟩ => none
/-- as data that may be kept -/
def W.st : W → Option D
  | ⟨.bo, _⟩ => none
  | ⟨_, .d d⟩ => some d
  | ⟨_, .m _ _⟩ => none
/-- a list that nobody else has -/
def W.frL : W → Option (List D)
  | ⟨.fr, .d (.lst ys)⟩ => some ys
  | _ => none
/-- as an argument -/
def W.arg : W → Option Xv
  | ⟨.bo, _⟩ => none
  | ⟨_, x⟩ => some x
/-- a bound of a slice; one that is left out is .omit -/
def optInt : W → Option (Option Int)
  | ⟨_, .d (.int i)⟩ => some (some i)
  | ⟨.bo, .d .non⟩ => some none
  | _ => none

def datas : List Xv → Option (List D)
  | [] => some []
  | .d x :: r => do let xs ← datas r; some (x :: xs)
  | .m _ _ :: _ => none

/-- an assignment of data to a target -/
def bindT : Tg → D → Env → Option Env
  | .nm i, d, ρ => some (ρ.set i (some (false, .d d)))
  | .tp [], .tup [], ρ => some ρ
  | .tp (t :: ts), .tup (d :: ds), ρ => (bindT t d ρ).bind (bindT (.tp ts) (.tup ds))
  | _, _, _ => none

def compL (f : D → R (Option D)) : List D → R (List D)
  | [] => .ok []
  | x :: r => match f x with
    | .ok none => compL f r
    | .ok (some y) => (match compL f r with
      | .ok ys => .ok (y :: ys)
      | _ => .stuck)
    | _ => .stuck

/-- one turn of a comprehension -/
def compF (tg : Tg) (ρ : Env) (c e : Env → R W) (x : D) : R (Option D) := match bindT tg x ρ with
  | none => .stuck
  | some ρ' => do
    let b ← c ρ'; let t ← R.of b.tru
    if t then (do let w ← e ρ'; let d ← R.of w.st; .ok (some d)) else .ok none

def enumL : Nat → List D → List D
  | _, [] => []
  | i, x :: r => .tup [.int i, x] :: enumL (i + 1) r
def zipL : List D → List D → List D
  | x :: xs, y :: ys => .tup [x, y] :: zipL xs ys
  | _, _ => []
def rngL (lo : Int) (n : Nat) : List D := (List.range n).map fun (i : Nat) => D.int (lo + i)
def items : D → Option (List D)
  | .lst xs => some xs
  | .tup xs => some xs
  | .str s => some (s.map fun c => .str [c])
  | _ => none
def i62 (i : Int) : Bool := decide (-(2 ^ 62) ≤ i) && decide (i < 2 ^ 62)

/-! operations on values -/
def bopW (o : Bop) (x y : W) : Option W := do
  let x ← x.dat; let y ← y.dat; let z ← binop o x y; some (mk z)
def negW (x : W) : Option W := do let x ← x.dat; let z ← neg x; some (mk z)
def cmpW (o : Cop) (x y : W) : Option W := do
  let x ← x.dat
  match y.x with
  | .d y => do let z ← cmpop o x y; some ⟨.sh, .d (.bl z)⟩
  | .m ks _ => match o with
    | .isin => if fitsK x ks then some ⟨.sh, .d (.bl (hasK x ks))⟩ else none
    | .notin => if fitsK x ks then some ⟨.sh, .d (.bl (!hasK x ks))⟩ else none
    | _ => none
def idxW (x y : W) : Option W := do let y ← y.dat; let z ← indexX x.x y; some ⟨.sh, .d z⟩
def sliceW (x : W) (l h : Option Int) : Option W := do
  let x ← x.dat; let z ← slice x l h; some (mk z)
def revW (x : W) : Option W := do
  let x ← x.dat
  match x with
  | .tup xs => some ⟨.sh, .d (.tup xs.reverse)⟩
  | .lst xs => some ⟨.fr, .d (.lst xs.reverse)⟩
  | _ => none
def b1W (b : B1) (x : W) : Option W := do let z ← b1 b x.x; some (mk z)
def min2W (x y : W) : Option W := do
  let x ← x.dat; let y ← y.dat
  match x, y with
  | .int i, .int j => some ⟨.sh, .d (.int (if j < i then j else i))⟩
  | _, _ => none
def max2W (x y : W) : Option W := do
  let x ← x.dat; let y ← y.dat
  match x, y with
  | .int i, .int j => some ⟨.sh, .d (.int (if j > i then j else i))⟩
  | _, _ => none
/-- what has the method -/
def W.strO : W → Option Unit
  | ⟨_, .d (.str _)⟩ => some ()
  | _ => none
def W.seqO : W → Option Unit
  | ⟨_, .d (.str _)⟩ => some ()
  | ⟨_, .d (.lst _)⟩ => some ()
  | _ => none
def W.dicO : W → Option Unit
  | ⟨_, .m _ _⟩ => some ()
  | _ => none
def splitW (x y : W) : Option W := do
  let x ← x.dat; let y ← y.dat
  match x, y with
  | .str s, .str [c] => some ⟨.fr, .d (.lst ((splitC c s).map .str))⟩
  | _, _ => none
def joinW (x y : W) : Option W := do
  let x ← x.dat; let y ← y.dat
  match x, y with
  | .str s, .lst ds => (match texts ds with
    | some ts => do let z ← isize (joinL s ts).length (.str (joinL s ts)); some ⟨.sh, .d z⟩
    | none => none)
  | _, _ => none
def indexW (x y : W) : Option W := do let x ← x.dat; let y ← y.dat; let z ← indexOf x y; some ⟨.sh, .d z⟩
def getW (x y u : W) : Option W := do
  let y ← y.dat; let u ← u.st
  match x.x with
  | .m ks vs => if fitsK y ks then some ⟨.sh, .d ((getK y ks vs).getD u)⟩ else none
  | _ => none
def dictofW (x : W) : Option W := do
  let x ← x.st; let ds ← items x
  match pairs ds with
  | some ps => do let r ← dictOf ps [] []; some ⟨.fr, .m r.1 r.2⟩
  | none => none
def listzipW (x y : W) : Option W := do
  let x ← x.st; let xs ← items x; let y ← y.st; let ys ← items y
  some ⟨.fr, .d (.lst (zipL xs ys))⟩
def replaceW (x y z : W) : Option W := do
  let x ← x.dat; let y ← y.dat; let z ← z.dat
  match x, y, z with
  | .str s, .str [o], .str [n] => some ⟨.sh, .d (.str (s.map fun c => if c = o then n else c))⟩
  | _, _, _ => none
def startswithW (x y : W) : Option W := do
  let x ← x.dat; let y ← y.dat
  match x, y with
  | .str s, .str t => some ⟨.sh, .d (.bl (t.isPrefixOf s))⟩
  | _, _ => none
def stripW (_ _ : W) : Option W := none
def dictW (xs : List Xv) : Option W := do
  let ds ← datas xs
  match pairUp ds with
  | some ps => do let r ← dictOf ps [] []; some ⟨.fr, .m r.1 r.2⟩
  | none => none
def tupW (xs : List Xv) : Option W := do let ds ← datas xs; let z ← isize ds.length (.tup ds); some ⟨.sh, .d z⟩
def lstW (xs : List Xv) : Option W := do let ds ← datas xs; let z ← isize ds.length (.lst ds); some ⟨.fr, .d z⟩

def valI (x : W) : Option (List D) := do let x ← x.st; items x
def rng1I (x : W) : Option (List D) := do
  let x ← x.dat
  match x with
  | .int j => if i62 j then some (rngL 0 j.toNat) else none
  | _ => none
def rng2I (x y : W) : Option (List D) := do
  let x ← x.dat; let y ← y.dat
  match x, y with
  | .int i, .int j => if i62 i && i62 j then some (rngL i (j - i).toNat) else none
  | _, _ => none
def enumI (x : W) : Option (List D) := do let x ← x.st; let xs ← items x; some (enumL 0 xs)
def zipI (x y : W) : Option (List D) := do
  let x ← x.st; let xs ← items x
  let y ← y.st; let ys ← items y
  some (zipL xs ys)

section
variable (cl : Nat → List Xv → R W)
mutual
def ev : Env → CE → R W
  | _, .omit => .ok ⟨.bo, .d .non⟩
  | ρ, .var i => match ρ[i]? with
    | some (some (own, x)) => .ok ⟨if own then .bo else .sh, x⟩
    | _ => .stuck
  | _, .con d => .ok ⟨.sh, .d d⟩
  | ρ, .bop o a b => do let x ← ev ρ a; let y ← ev ρ b; R.of (bopW o x y)
  | ρ, .neg a => do let x ← ev ρ a; R.of (negW x)
  | ρ, .cmp o a b => do let x ← ev ρ a; let y ← ev ρ b; R.of (cmpW o x y)
  | ρ, .chain o o' a b c => do
    let x ← ev ρ a
    let y ← ev ρ b
    let z ← R.of (cmpW o x y); let t ← R.of z.tru
    if t then do let u ← ev ρ c; R.of (cmpW o' y u) else .ok z
  | ρ, .and a b => do let x ← ev ρ a; let t ← R.of x.tru; if t then ev ρ b else .ok x
  | ρ, .or a b => do let x ← ev ρ a; let t ← R.of x.tru; if t then .ok x else ev ρ b
  | ρ, .not a => do let x ← ev ρ a; let t ← R.of x.tru; .ok ⟨.sh, .d (.bl (!t))⟩
  | ρ, .ite c a b => do let x ← ev ρ c; let t ← R.of x.tru; if t then ev ρ a else ev ρ b
  | ρ, .tup es => do let xs ← eva ρ es; R.of (tupW xs)
  | ρ, .lst es => do let xs ← eva ρ es; R.of (lstW xs)
  | _, .dnew => .ok ⟨.fr, .m [] []⟩
  | _, .dict _ => .stuck
  | ρ, .idx a i => do let x ← ev ρ a; let y ← ev ρ i; R.of (idxW x y)
  | ρ, .slice a lo hi => do let x ← ev ρ a; let l ← ev ρ lo; let l ← R.of (optInt l); let h ← ev ρ hi; let h ← R.of (optInt h); R.of (sliceW x l h)
  | _, .rev _ => .stuck
  | ρ, .call f es => do let xs ← eva ρ es; cl f xs
  | ρ, .b1 b a => do let x ← ev ρ a; R.of (b1W b x)
  | ρ, .isi a t => do let x ← ev ρ a; R.of (isiW t x)
  | ρ, .min2 a b => do let x ← ev ρ a; let y ← ev ρ b; R.of (min2W x y)
  | ρ, .max2 a b => do let x ← ev ρ a; let y ← ev ρ b; R.of (max2W x y)
  | ρ, .split a b => do let x ← ev ρ a; let _ ← R.of x.strO; let y ← ev ρ b; R.of (splitW x y)
  | ρ, .join a b => do let x ← ev ρ a; let _ ← R.of x.strO; let y ← ev ρ b; R.of (joinW x y)
  | ρ, .index a b => do let x ← ev ρ a; let _ ← R.of x.seqO; let y ← ev ρ b; R.of (indexW x y)
  | _, .get _ _ _ => .stuck
  | _, .dictof _ => .stuck
  | _, .listzip _ _ => .stuck
  | _, .replace _ _ _ => .stuck
  | ρ, .startswith a b => do let x ← ev ρ a; let _ ← R.of x.strO; let y ← ev ρ b; R.of (startswithW x y)
  | ρ, .strip a b => do let x ← ev ρ a; let _ ← R.of x.strO; let y ← ev ρ b; R.of (stripW x y)
  | ρ, .comp tg it c e => do
    let xs ← evi ρ it
    let ys ← compL (compF tg ρ (fun ρ' => ev ρ' c) (fun ρ' => ev ρ' e)) xs
    let z ← R.of (isize ys.length (.lst ys))
    .ok (mk z)
def eva : Env → CEs → R (List Xv)
  | _, .nil => .ok []
  | ρ, .cons e es => do
    let x ← ev ρ e; let x ← R.of x.arg
    let xs ← eva ρ es
    .ok (x :: xs)
/-- what a loop walks: data that nobody changes -/
def evi : Env → CI → R (List D)
  | ρ, .val a => do let x ← ev ρ a; R.of (valI x)
  | ρ, .rng1 a => do let x ← ev ρ a; R.of (rng1I x)
  | ρ, .rng2 a b => do let x ← ev ρ a; let y ← ev ρ b; R.of (rng2I x y)
  | ρ, .enum a => do let x ← ev ρ a; R.of (enumI x)
  | ρ, .zip a b => do let x ← ev ρ a; let y ← ev ρ b; R.of (zipI x y)
end
end

inductive Out where
  | nx (ρ : Env)
  | ret (w : W)
  | brk (ρ : Env)
inductive RS where
  | ok (o : Out)
  | exc (c : Nat) (ρ : Env)
  | stuck

def RS.seq (x : RS) (f : Env → RS) : RS :=
  match x with
  | .ok (.nx ρ) => f ρ
  | x => x
/-- an expression's end, in a statement -/
def R.to {α : Type} (x : R α) (ρ : Env) (f : α → RS) : RS :=
  match x with
  | .ok a => f a
  | .exc c => .exc c ρ
  | .stuck => .stuck
@[simp] theorem R.ok_to {α : Type} (a : α) (ρ : Env) (f : α → RS) : (R.ok a).to ρ f = f a := rfl
@[simp] theorem R.exc_to {α : Type} (c : Nat) (ρ : Env) (f : α → RS) : (R.exc c : R α).to ρ f = .exc c ρ := rfl
@[simp] theorem R.stuck_to {α : Type} (ρ : Env) (f : α → RS) : (R.stuck : R α).to ρ f = .stuck := rfl

def forL (f : D → Env → RS) : List D → Env → RS
  | [], ρ => .ok (.nx ρ)
  | x :: r, ρ => match f x ρ with
    | .ok (.nx ρ') => forL f r ρ'
    | .ok (.brk ρ') => .ok (.nx ρ')
    | y => y
def whlL (c : Env → R Bool) (b : Env → RS) : Nat → Env → RS
  | 0, _ => .stuck
  | n + 1, ρ => (c ρ).to ρ fun t => if t then (match b ρ with
      | .ok (.nx ρ') => whlL c b n ρ'
      | .ok (.brk ρ') => .ok (.nx ρ')
      | y => y) else .ok (.nx ρ)
def owned (ρ : Env) (i : Nat) : Option Xv := match ρ[i]? with
  | some (some (true, x)) => some x
  | _ => none

/-- a store of a value into a slot: fresh things are owned -/
def put (ρ : Env) (i : Nat) : W → Option Env
  | ⟨.sh, x⟩ => some (ρ.set i (some (false, x)))
  | ⟨.fr, x⟩ => some (ρ.set i (some (true, x)))
  | ⟨.bo, _⟩ => none
def asg (ρ : Env) : Tg → W → Option Env
  | .nm i, w => put ρ i w
  | .tp ts, ⟨.bo, _⟩ => none
  | .tp ts, ⟨_, .d d⟩ => bindT (.tp ts) d ρ
  | .tp _, ⟨_, .m _ _⟩ => none

section
variable (cl : Nat → List Xv → R W) (sup : Nat → Nat → Option Bool) (fuel : Nat)
/-- the suite of an except clause: x = constant, x.append(constant), x += constant -/
def suite (ρ : Env) : CS → RS
  | .asg (.nm i) (.con d) => .ok (.nx (ρ.set i (some (false, .d d))))
  | .append i (.con d) => match owned ρ i with
    | some (.d (.lst xs)) => if xs.length < big then .ok (.nx (ρ.set i (some (true, .d (.lst (xs ++ [d])))))) else .stuck
    | _ => .stuck
  | .aug i .add (.con (.int j)) => match ρ[i]? with
    | some (some (false, .d (.int k))) => .ok (.nx (ρ.set i (some (false, .d (.int (k + j))))))
    | _ => .stuck
  | _ => .stuck
def handle (c : Nat) (ρ : Env) : List (Nat × CS) → RS
  | [] => .exc c ρ
  | (h, s) :: r => match sup c h with
    | some true => suite ρ s
    | some false => handle c ρ r
    | none => .stuck
mutual
def xs : Env → CS → RS
  | ρ, .ex e => (ev cl ρ e).to ρ fun _ => .ok (.nx ρ)
  | ρ, .asg tg e => (ev cl ρ e).to ρ fun w => match asg ρ tg w with
    | some ρ' => .ok (.nx ρ')
    | none => .stuck
  | ρ, .aug i o e => match ρ[i]? with
    | some (some (false, .d x)) => (ev cl ρ e).to ρ fun w => (R.of w.dat).to ρ fun y => (R.of (augop o x y)).to ρ fun z => .ok (.nx (ρ.set i (some (false, .d z))))
    | _ => .stuck
  | ρ, .append i e => match owned ρ i with
    | some (.d (.lst xs)) => (ev cl ρ e).to ρ fun w => (R.of w.st).to ρ fun d => if xs.length < big then .ok (.nx (ρ.set i (some (true, .d (.lst (xs ++ [d])))))) else .stuck
    | _ => .stuck
  | ρ, .extend i e => match owned ρ i with
    | some (.d (.lst xs)) => (ev cl ρ e).to ρ fun w => (R.of w.frL).to ρ fun ys => if xs.length + ys.length ≤ big then .ok (.nx (ρ.set i (some (true, .d (.lst (xs ++ ys)))))) else .stuck
    | _ => .stuck
  | ρ, .appendSD i j k v => match owned ρ i, owned ρ j with
    | some (.d (.lst xs)), some (.m ks vs) => (ev cl ρ k).to ρ fun w => (R.of w.st).to ρ fun kd => (ev cl ρ v).to ρ fun w => (R.of w.st).to ρ fun vd =>
      if i ≠ j ∧ xs.length < big ∧ ks.length < big ∧ fitsK kd ks = true then
        .ok (.nx ((ρ.set j (some (true, .m (if hasK kd ks then ks else ks ++ [kd]) (if hasK kd ks then vs else vs ++ [vd])))).set i (some (true, .d (.lst (xs ++ [(getK kd ks vs).getD vd]))))))
      else .stuck
    | _, _ => .stuck
  | ρ, .dput i k v => match owned ρ i with
    | some (.m ks vs) => (ev cl ρ v).to ρ fun w => (R.of w.st).to ρ fun vd => (ev cl ρ k).to ρ fun w => (R.of w.st).to ρ fun kd =>
      if ks.length < big ∧ fitsK kd ks = true then .ok (.nx (ρ.set i (some (true, .m (putK kd vd ks vs).1 (putK kd vd ks vs).2)))) else .stuck
    | _ => .stuck
  | ρ, .freeze i => match owned ρ i with
    | some x => .ok (.nx (ρ.set i (some (false, x))))
    | none => .ok (.nx ρ)
  | ρ, .ifs c a b => (ev cl ρ c).to ρ fun w => (R.of w.tru).to ρ fun t => if t then xss ρ a else xss ρ b
  | ρ, .whl c b => whlL (fun ρ => do let w ← ev cl ρ c; R.of w.tru) (fun ρ => xss ρ b) fuel ρ
  | ρ, .for_ tg it b => (evi cl ρ it).to ρ fun ds => forL (fun d ρ => match bindT tg d ρ with
    | some ρ' => xss ρ' b
    | none => .stuck) ds ρ
  | ρ, .ret e => (ev cl ρ e).to ρ fun w => .ok (.ret (match w with | ⟨.bo, x⟩ => ⟨.fr, x⟩ | w => w))
  | ρ, .raise c => .exc c ρ
  | ρ, .tr b hs => match xss ρ b with
    | .exc c ρ' => handle sup c ρ' hs
    | r => r
  | ρ, .brk => .ok (.brk ρ)
def xss : Env → CSs → RS
  | ρ, .nil => .ok (.nx ρ)
  | ρ, .cons s r => (xs ρ s).seq fun ρ' => xss ρ' r
end
end

structure Fn where
  np : Nat
  ns : Nat
  body : CSs

def start (n : Nat) (as : List Xv) : Env := as.map (fun x => some (false, x)) ++ List.replicate (n - as.length) none
def fin : RS → R W
  | .ok (.nx _) => .ok ⟨.sh, .d .non⟩
  | .ok (.ret w) => .ok w
  | .ok (.brk _) => .stuck
  | .exc c _ => .exc c
  | .stuck => .stuck
def run (T : Nat → Option Fn) (sup : Nat → Nat → Option Bool) (fuel : Nat) : Nat → Nat → List Xv → R W
  | 0, _, _ => .stuck
  | k + 1, f, as => match T f with
    | some F => if as.length = F.np ∧ F.np ≤ F.ns then fin (xss (run T sup fuel k) sup fuel (start F.ns as) F.body) else .stuck
    | none => .stuck
end Q7
end

section
set_option autoImplicit false
set_option Elab.async false
set_option linter.all false
set_option maxRecDepth 100000
/-! From the model's syntax to the core language. -/
namespace Q7
open PySem PySem.Spec PyProof.Rows L2

/-- what the text's top has: functions by number, classes by number, constants -/
structure PC where
  fns : List (Str × Nat)
  cls : List (Str × Nat)
  cons : List (Str × D)
/-- where one stands: slots, scope, names whose cells were made here -/
structure SC where
  N : List Str
  sc : Scope
  fn : Str → Bool

def ixOf (x : Str) : List Str → Option Nat
  | [] => none
  | y :: r => if y = x then some 0 else (ixOf x r).map (· + 1)
def plainName (x : Str) : Bool := !(x == ("__debug__" : Str)) && !(x == ("__classdict__" : Str))
def visK : Option NameKind → Bool
  | some .local => true
  | some .cell => true
  | some .free => true
  | _ => false
def glbK : Option NameKind → Bool
  | some .globalImplicit => true
  | _ => false
def locK : Option NameKind → Bool
  | some .local => true
  | some .cell => true
  | _ => false
def isLocal : Option NameKind → Bool
  | some .local => true
  | _ => false
def slotOf (S : SC) (x : Str) : Option Nat := if visK (S.sc.names.lookup x) && plainName x then ixOf x S.N else none
def glb (S : SC) (x : Str) : Bool := glbK (S.sc.names.lookup x) && plainName x
/-- a slot that may be stored to -/
def storeOf (S : SC) (x : Str) : Option Nat := if locK (S.sc.names.lookup x) && (S.fn x || isLocal (S.sc.names.lookup x)) then ixOf x S.N else none
/-- the context of a comprehension's block -/
def SC.blk (S : SC) (scope : Scope) : SC := ⟨S.N, relS scope S.sc, fun x => scope.names.lookup x == some .cell⟩

def trConst : Const → Option D
  | .int i => some (.int i)
  | .bool b => some (.bl b)
  | .none => some .non
  | .str x => if x.cps.toList.all (· < 128) && decide (x.cps.toList.length ≤ big) then some (.str x.cps.toList) else none
  | _ => none
def trBop : Operator → Option Bop
  | .Add => some .add
  | .Sub => some .sub
  | .Mult => some .mul
  | .FloorDiv => some .fdiv
  | .Mod => some .mod
  | .Pow => some .pow
  | _ => none
def trCop : CmpOp → Option Cop
  | .Eq => some .eq
  | .NotEq => some .ne
  | .Lt => some .lt
  | .LtE => some .le
  | .Gt => some .gt
  | .GtE => some .ge
  | .In => some .isin
  | .NotIn => some .notin
  | .Is => some .is
  | .IsNot => some .isnot
def isStar : Expr → Bool
  | .Starred _ _ => true
  | _ => false
def isSet : Expr → Bool
  | .Set _ _ _ => true
  | _ => false
def isSlice : Expr → Bool
  | .Slice _ _ _ _ => true
  | _ => false
def trTy (x : Str) : Option Ty :=
  if x = "int" then some .int else if x = "str" then some .str else if x = "bool" then some .bool else if x = "tuple" then some .tuple else if x = "list" then some .list else none
def trB1 (x : Str) : Option B1 :=
  if x = "len" then some .len else if x = "int" then some .int else if x = "bool" then some .bool else if x = "tuple" then some .tuple else if x = "list" then some .list
  else if x = "sum" then some .sum else if x = "min" then some .min else if x = "max" then some .max else if x = "sorted" then some .sorted else none

mutual
/-- a target of names -/
def trTg (S : SC) : Expr → Option Tg
  | .Name x _ => (storeOf S x).map .nm
  | .Tuple es _ _ => (trTgs S es).map .tp
  | _ => none
def trTgs (S : SC) : List Expr → Option (List Tg)
  | [] => some []
  | e :: es => do let t ← trTg S e; let ts ← trTgs S es; some (t :: ts)
end
mutual
/-- the names of a target with their slots -/
def ownOf (S : SC) : Expr → List (Str × Nat)
  | .Name x _ => match ixOf x S.N with
    | some i => [(x, i)]
    | none => []
  | .Tuple es _ _ => ownsOf S es
  | _ => []
def ownsOf (S : SC) : List Expr → List (Str × Nat)
  | [] => []
  | e :: es => ownOf S e ++ ownsOf S es
end
def isTupE : Expr → Bool
  | .Tuple _ _ _ => true
  | _ => false

def setArg : Expr → Option Expr
  | .Call (.Name g _) [a] [] _ => if g = "set" then some a else none
  | _ => none
def zipArg : Expr → Option (Expr × Expr)
  | .Call (.Name g _) [a, b] [] _ => if g = "zip" then some (a, b) else none
  | _ => none
variable (C : PC)
mutual
def trE : Nat → SC → Expr → Option CE
  | 0, _, _ => none
  | n + 1, S, .Constant c _ _ => (trConst c).map .con
  | n + 1, S, .Name x _ => match slotOf S x with
    | some i => some (.var i)
    | none => if glb S x then (C.cons.lookup x).map .con else none
  | n + 1, S, .BinOp a op b _ => do let o ← trBop op; let a ← trE n S a; let b ← trE n S b; some (.bop o a b)
  | n + 1, S, .UnaryOp .Not a _ => do let a ← trE n S a; some (.not a)
  | n + 1, S, .UnaryOp .USub a _ => do let a ← trE n S a; some (.neg a)
  | n + 1, S, .Compare a [op] [b] _ => if isSet b then none else do let o ← trCop op; let a ← trE n S a; let b ← trE n S b; some (.cmp o a b)
  | n + 1, S, .Compare a [op, op'] [b, c] _ => if isSet b || isSet c then none else do
    let o ← trCop op; let o' ← trCop op'; let a ← trE n S a; let b ← trE n S b; let c ← trE n S c
    some (.chain o o' a b c)
  | n + 1, S, .BoolOp .And (a :: b :: r) pos => do let x ← trE n S a; let y ← trE n S (.BoolOp .And (b :: r) pos); some (.and x y)
  | n + 1, S, .BoolOp .Or (a :: b :: r) pos => do let x ← trE n S a; let y ← trE n S (.BoolOp .Or (b :: r) pos); some (.or x y)
  | n + 1, S, .BoolOp _ [a] _ => trE n S a
  | n + 1, S, .IfExp c a b _ => do let c ← trE n S c; let a ← trE n S a; let b ← trE n S b; some (.ite c a b)
  | n + 1, S, .Tuple es _ _ => (trEs n S es).map .tup
  | n + 1, S, .List es _ => (trEs n S es).map .lst
  | n + 1, S, .Dict [] [] _ => some .dnew
  | n + 1, S, .Dict ks vs _ => (trKV n S ks vs).map .dict
  | n + 1, S, .Subscript a (.Slice none none (some (.UnaryOp .USub (.Constant (.int 1) _ _) _)) _) _ => (trE n S a).map .rev
  | n + 1, S, .Subscript a (.Slice lo hi none _) _ => do let a ← trE n S a; let l ← trO n S lo; let h ← trO n S hi; some (.slice a l h)
  | n + 1, S, .Subscript a i _ => if isSlice i then none else do let a ← trE n S a; let i ← trE n S i; some (.idx a i)
  | n + 1, S, .Call (.Name f _) args [] _ => if glb S f then (match C.fns.lookup f with
      | some i => if args.isEmpty then none else (trEs n S args).map (.call i)
      | none => trB n S f args) else none
  | n + 1, S, .Call (.Attribute o m ap) args [] p => if ap.endLine == p.line then trM n S o m args else none
  | n + 1, S, .ListComp e [⟨tg, iter, ifs, 0⟩] scope _ => if blkC S.N S.sc scope (ownOf S tg) then do
      let it ← trI n S (isTupE tg) iter
      let t ← trTg (S.blk scope) tg
      let c ← (match ifs with | [] => some (.con (.bl true)) | [c] => trE n (S.blk scope) c | _ => none)
      let e ← trE n (S.blk scope) e
      some (.comp t it c e) else none
  | _, _, _ => none
def trEs : Nat → SC → List Expr → Option CEs
  | _, _, [] => some .nil
  | 0, _, _ => none
  | n + 1, S, e :: es => if isStar e then none else do let x ← trE n S e; let xs ← trEs n S es; some (.cons x xs)
def trKV : Nat → SC → List (Option Expr) → List Expr → Option CEs
  | _, _, [], [] => some .nil
  | n + 1, S, some k :: ks, v :: vs => do let x ← trE n S k; let y ← trE n S v; let r ← trKV n S ks vs; some (.cons x (.cons y r))
  | _, _, _, _ => none
def trO : Nat → SC → Option Expr → Option CE
  | _, _, none => some .omit
  | 0, _, _ => none
  | n + 1, S, some e => trE n S e
/-- a built-in's call -/
def trB : Nat → SC → Str → List Expr → Option CE
  | 0, _, _, _ => none
  | n + 1, S, f, [e] => if isStar e then none else match setArg e with
    | some a => if glb S "set" && (C.fns.lookup ("set" : Str)).isNone && !isStar a then
        (if f = "sorted" then (trE n S a).map (.b1 .sortedset) else if f = "len" then (trE n S a).map (.b1 .lenset) else none) else none
    | none => match zipArg e with
      | some (a, b) => if f = "list" && glb S "zip" && (C.fns.lookup ("zip" : Str)).isNone && !isStar a && !isStar b then do
          let a ← trE n S a; let b ← trE n S b; some (.listzip a b) else none
      | none => if f = "dict" then (trE n S e).map .dictof else do let b ← trB1 f; let a ← trE n S e; some (.b1 b a)
  | n + 1, S, f, [a, b] => if isStar a || isStar b then none else if f = "isinstance" then (match b with
      | .Name t _ => if glb S t then (do let a ← trE n S a; let ty ← trTy t; some (.isi a ty)) else none
      | _ => none)
    else if f = "min" then do let a ← trE n S a; let b ← trE n S b; some (.min2 a b)
    else if f = "max" then do let a ← trE n S a; let b ← trE n S b; some (.max2 a b)
    else none
  | _, _, _, _ => none
/-- a method's call -/
def trM : Nat → SC → Expr → Str → List Expr → Option CE
  | 0, _, _, _, _ => none
  | n + 1, S, o, m, [a] => if isStar a then none else do
    let x ← trE n S o; let y ← trE n S a
    if m = "split" then some (.split x y) else if m = "join" then some (.join x y) else if m = "index" then some (.index x y)
    else if m = "startswith" then some (.startswith x y) else if m = "strip" then some (.strip x y) else none
  | n + 1, S, o, m, [a, b] => if isStar a || isStar b then none else do
    let x ← trE n S o; let y ← trE n S a; let z ← trE n S b
    if m = "get" then some (.get x y z) else if m = "replace" then some (.replace x y z) else none
  | _, _, _, _, _ => none
/-- what a loop walks; tup: whether the target is a tuple -/
def trI : Nat → SC → Bool → Expr → Option CI
  | 0, _, _, _ => none
  | n + 1, S, tup, .Call (.Name f p) [a] [] pos =>
    if f = "range" then (if glb S f && (C.fns.lookup f).isNone && !isStar a then (trE n S a).map .rng1 else none)
    else if f = "enumerate" then (if tup && glb S f && (C.fns.lookup f).isNone && !isStar a then (trE n S a).map .enum else none)
    else (trE n S (.Call (.Name f p) [a] [] pos)).map .val
  | n + 1, S, tup, .Call (.Name f p) [a, b] [] pos =>
    if f = "range" then (if glb S f && (C.fns.lookup f).isNone && !isStar a && !isStar b then do let a ← trE n S a; let b ← trE n S b; some (.rng2 a b) else none)
    else if f = "zip" then (if tup && glb S f && (C.fns.lookup f).isNone && !isStar a && !isStar b then do let a ← trE n S a; let b ← trE n S b; some (.zip a b) else none)
    else (trE n S (.Call (.Name f p) [a, b] [] pos)).map .val
  | n + 1, S, tup, e => if isSet e then none else (trE n S e).map .val
end

/-! ### what is kept -/
mutual
def tgSlots : Tg → List Nat
  | .nm i => [i]
  | .tp ts => tgsSlots ts
def tgsSlots : List Tg → List Nat
  | [] => []
  | t :: ts => tgSlots t ++ tgsSlots ts
end
mutual
/-- the slots that an expression keeps, of those in fz; keep: its own value is kept -/
def escE (fz : List Nat) : Bool → List Nat → CE → List Nat
  | keep, bd, .var i => if keep && fz.contains i && !bd.contains i then [i] else []
  | _, bd, .bop _ a b => escE fz false bd a ++ escE fz false bd b
  | _, bd, .neg a => escE fz false bd a
  | _, bd, .cmp _ a b => escE fz false bd a ++ escE fz false bd b
  | _, bd, .chain _ _ a b c => escE fz false bd a ++ (escE fz false bd b ++ escE fz false bd c)
  | keep, bd, .and a b => escE fz keep bd a ++ escE fz keep bd b
  | keep, bd, .or a b => escE fz keep bd a ++ escE fz keep bd b
  | _, bd, .not a => escE fz false bd a
  | keep, bd, .ite c a b => escE fz false bd c ++ (escE fz keep bd a ++ escE fz keep bd b)
  | _, bd, .tup es => escEs fz bd es
  | _, bd, .lst es => escEs fz bd es
  | _, bd, .dict es => escEs fz bd es
  | _, bd, .idx a i => escE fz false bd a ++ escE fz false bd i
  | _, bd, .slice a l h => escE fz false bd a ++ (escE fz false bd l ++ escE fz false bd h)
  | _, bd, .rev a => escE fz false bd a
  | _, bd, .call _ es => escEs fz bd es
  | _, bd, .b1 _ a => escE fz false bd a
  | _, bd, .isi a _ => escE fz false bd a
  | _, bd, .min2 a b => escE fz false bd a ++ escE fz false bd b
  | _, bd, .max2 a b => escE fz false bd a ++ escE fz false bd b
  | _, bd, .split a b => escE fz false bd a ++ escE fz false bd b
  | _, bd, .join a b => escE fz false bd a ++ escE fz false bd b
  | _, bd, .index a b => escE fz false bd a ++ escE fz false bd b
  | _, bd, .get a k x => escE fz false bd a ++ (escE fz true bd k ++ escE fz true bd x)
  | _, bd, .dictof a => escE fz true bd a
  | _, bd, .listzip a b => escE fz true bd a ++ escE fz true bd b
  | _, bd, .replace a b c => escE fz false bd a ++ (escE fz false bd b ++ escE fz false bd c)
  | _, bd, .startswith a b => escE fz false bd a ++ escE fz false bd b
  | _, bd, .strip a b => escE fz false bd a ++ escE fz false bd b
  | _, bd, .comp tg it c e => escI fz bd it ++ (escE fz false (tgSlots tg ++ bd) c ++ escE fz true (tgSlots tg ++ bd) e)
  | _, _, _ => []
def escEs (fz : List Nat) : List Nat → CEs → List Nat
  | _, .nil => []
  | bd, .cons e es => escE fz true bd e ++ escEs fz bd es
def escI (fz : List Nat) : List Nat → CI → List Nat
  | bd, .val a => escE fz true bd a
  | bd, .rng1 a => escE fz false bd a
  | bd, .rng2 a b => escE fz false bd a ++ escE fz false bd b
  | bd, .enum a => escE fz true bd a
  | bd, .zip a b => escE fz true bd a ++ escE fz true bd b
end
def once : List Nat → List Nat → List Nat
  | _, [] => []
  | seen, x :: r => if seen.contains x then once seen r else x :: once (x :: seen) r
def frz (l : List Nat) (r : CSs) : CSs := (once [] l).foldr (fun i r => .cons (.freeze i) r) r

def isComp : Expr → Bool
  | .ListComp _ _ _ _ => true
  | .SetComp _ _ _ _ => true
  | .DictComp _ _ _ _ _ => true
  | _ => false
def raised : Expr → Option Str
  | .Call (.Name c _) [.Constant (.str _) _ _] [] _ => some c
  | _ => none

/-- the suite of an except clause -/
def trSuite (S : SC) : List Stmt → Option CS
  | [.Assign [.Name x _] (.Constant c _ _) _] => do let i ← storeOf S x; let d ← trConst c; some (.asg (.nm i) (.con d))
  | [.Expr (.Call (.Attribute (.Name x _) m ap) [.Constant c _ _] [] p) _] => if m = "append" && ap.endLine == p.line then do
      let i ← slotOf S x; let d ← trConst c; some (.append i (.con d)) else none
  | [.AugAssign (.Name x _) .Add (.Constant (.int j) _ _) _] => do let i ← storeOf S x; some (.aug i .add (.con (.int j)))
  | _ => none
def trHs (S : SC) : List ExceptHandler → Option (List (Nat × CS))
  | [] => some []
  | .ExceptHandler (some (.Name c _)) none b _ :: r => if glb S c then do
      let h ← C.cls.lookup c; let s ← trSuite S b; let r ← trHs S r; some ((h, s) :: r) else none
  | _ => none

variable (fz : List Nat)
mutual
/-- one statement, with the rest behind it -/
def trS : Nat → SC → Stmt → CSs → Option CSs
  | 0, _, _, _ => none
  | n + 1, S, .Expr (.Call (.Attribute (.Name x _) m ap) [.Call (.Attribute (.Name y _) m' ap') [k, v] [] p'] [] p) _, r =>
    if m = "append" && m' = "setdefault" && ap.endLine == p.line && ap'.endLine == p'.line && !isStar k && !isStar v then do
      let i ← slotOf S x; let j ← slotOf S y; let k ← trE C n S k; let v ← trE C n S v
      some (frz (escE fz true [] k ++ escE fz true [] v) (.cons (.appendSD i j k v) r))
    else none
  | n + 1, S, .Expr (.Call (.Attribute (.Name x _) m ap) [a] [] p) _, r => if ap.endLine == p.line && !isStar a then do
      let i ← slotOf S x; let a ← trE C n S a
      if m = "append" then some (frz (escE fz true [] a) (.cons (.append i a) r))
      else if m = "extend" then some (frz (escE fz true [] a) (.cons (.extend i a) r)) else none
    else none
  | n + 1, S, .Expr e _, r => if isComp e then none else do let e ← trE C n S e; some (frz (escE fz true [] e) (.cons (.ex e) r))
  | n + 1, S, .Assign [.Name x _] e _, r => do let i ← storeOf S x; let e ← trE C n S e; some (frz (escE fz true [] e) (.cons (.asg (.nm i) e) r))
  | n + 1, S, .Assign [.Tuple ts k p] e _, r => if isTupE e then none else do
      let t ← trTg S (.Tuple ts k p); let e ← trE C n S e; some (frz (escE fz true [] e) (.cons (.asg t e) r))
  | n + 1, S, .Assign [.Subscript (.Name x _) k _] e _, r => if isSlice k || isComp e then none else do
      let i ← slotOf S x; let k ← trE C n S k; let e ← trE C n S e
      some (frz (escE fz true [] e ++ escE fz true [] k) (.cons (.dput i k e) r))
  | n + 1, S, .AugAssign (.Name x _) op e _, r => do
      let o ← trBop op; let i ← storeOf S x; let e ← trE C n S e; some (frz (escE fz false [] e) (.cons (.aug i o e) r))
  | n + 1, S, .If c a b _, r => do
      let c ← trE C n S c; let a ← trSs n S a; let b ← trSs n S b; some (frz (escE fz false [] c) (.cons (.ifs c a b) r))
  | n + 1, S, .While c b [] _, r => do let c ← trE C n S c; let b ← trSs n S b; some (frz (escE fz false [] c) (.cons (.whl c b) r))
  | n + 1, S, .For tg it b [] _, r => do
      let i ← trI C n S (isTupE tg) it; let t ← trTg S tg; let b ← trSs n S b; some (frz (escI fz [] i) (.cons (.for_ t i b) r))
  | n + 1, S, .Return (some e) _, r => do let e ← trE C n S e; some (frz (escE fz false [] e) (.cons (.ret e) r))
  | n + 1, S, .Raise (some e) none _, r => do
      let c ← raised e; if glb S c then (do let c ← C.cls.lookup c; some (.cons (.raise c) r)) else none
  | n + 1, S, .Try b (h :: hs) [] [] _, r => do let b ← trSs n S b; let hs ← trHs C S (h :: hs); some (.cons (.tr b hs) r)
  | n + 1, S, .Break _, r => some (.cons .brk r)
  | _, _, _, _ => none
def trSs : Nat → SC → List Stmt → Option CSs
  | _, _, [] => some .nil
  | 0, _, _ => none
  | n + 1, S, s :: r => do let r ← trSs n S r; trS n S s r
end
/-- a function of the text -/
def trFn (N : List Str) (np : Nat) (st : Stmt) : Option Fn :=
  match st with
  | .FunctionDef _ _ body _ _ _ scope _ _ _ => (trSs C fz 300 ⟨N, scope, fun _ => true⟩ body).map fun b => ⟨np, N.length, b⟩
  | _ => none
end Q7
end

section
set_option autoImplicit false
set_option Elab.async false
set_option linter.all false
set_option maxRecDepth 100000
/-! How pure data lie in the abstract heap. -/
namespace Q7
open PySem PySem.Spec PyProof.Rows L2

def toS (s : List Nat) : Str := ⟨s.toArray⟩
structure OkS (s : List Nat) : Prop where
  len : s.length ≤ big
  asc : ∀ c ∈ s, c < 128

mutual
inductive Rp (K : PySem.W.Frag) (H : Hp) : V → D → Prop
  | non : Rp K H .non .non
  | bl (b : Bool) : Rp K H (.bl b) (.bl b)
  | int (i : Int) : Rp K H (.int i) (.int i)
  | str {s : List Nat} : OkS s → Rp K H (.str (toS s)) (.str s)
  | lst {a : Addr} {xs : List V} {ds : List D} : SqL K H a xs → Rps K H xs ds → Rp K H (.ref a) (.lst ds)
  | tup {a : Addr} {xs : List V} {ds : List D} : SqT K H a xs → Rps K H xs ds → Rp K H (.ref a) (.tup ds)
inductive Rps (K : PySem.W.Frag) (H : Hp) : List V → List D → Prop
  | nil : Rps K H [] []
  | cons {v : V} {vs : List V} {d : D} {ds : List D} : Rp K H v d → Rps K H vs ds → Rps K H (v :: vs) (d :: ds)
end

def Sub (F H : Hp) : Prop := ∀ b o, F b = some o → H b = some o
theorem Sub.refl {H : Hp} : Sub H H := fun _ _ e => e
theorem Sub.trans {F G H : Hp} (a : Sub F G) (b : Sub G H) : Sub F H := fun c o e => b c o (a c o e)
theorem Sub.sqL {K : PySem.W.Frag} {F H : Hp} (s : Sub F H) {a : Addr} {xs : List V} (h : SqL K F a xs) : SqL K H a xs := by
  rcases h with h | h
  · rcases h with h | ⟨o, h⟩
    · exact .inl (.inl (s _ _ h))
    · exact .inl (.inr ⟨o, s _ _ h⟩)
  · exact .inr h
theorem Sub.sqT {K : PySem.W.Frag} {F H : Hp} (s : Sub F H) {a : Addr} {xs : List V} (h : SqT K F a xs) : SqT K H a xs := by
  rcases h with h | h
  · rcases h with h | ⟨o, h⟩
    · exact .inl (.inl (s _ _ h))
    · exact .inl (.inr ⟨o, s _ _ h⟩)
  · exact .inr h
mutual
theorem Rp.mono {K : PySem.W.Frag} {F H : Hp} (s : Sub F H) : ∀ {v : V} {d : D}, Rp K F v d → Rp K H v d
  | _, _, .non => .non
  | _, _, .bl b => .bl b
  | _, _, .int i => .int i
  | _, _, .str h => .str h
  | _, _, .lst h r => .lst (s.sqL h) (Rps.mono s r)
  | _, _, .tup h r => .tup (s.sqT h) (Rps.mono s r)
theorem Rps.mono {K : PySem.W.Frag} {F H : Hp} (s : Sub F H) : ∀ {vs : List V} {ds : List D}, Rps K F vs ds → Rps K H vs ds
  | _, _, .nil => .nil
  | _, _, .cons a b => .cons (Rp.mono s a) (Rps.mono s b)
end
section
variable {K : PySem.W.Frag} {H : Hp}
theorem Rps.length : ∀ {vs : List V} {ds : List D}, Rps K H vs ds → vs.length = ds.length
  | _, _, .nil => rfl
  | _, _, .cons _ b => by rw [List.length_cons, List.length_cons, b.length]
theorem Rps.get : ∀ {vs : List V} {ds : List D} {i : Nat} {d : D}, Rps K H vs ds → ds[i]? = some d → ∃ v, vs[i]? = some v ∧ Rp K H v d
  | _, _, _, _, .nil, e => by simp at e
  | _, _, 0, _, .cons a _, e => by
    simp at e; subst e
    exact ⟨_, rfl, a⟩
  | _, _, i + 1, d, .cons _ b, e => by
    obtain ⟨v, h1, h2⟩ := Rps.get (i := i) (d := d) b (by simpa using e)
    exact ⟨v, by simpa using h1, h2⟩
theorem Rps.getV : ∀ {vs : List V} {ds : List D} {i : Nat} {v : V}, Rps K H vs ds → vs[i]? = some v → ∃ d, ds[i]? = some d ∧ Rp K H v d
  | _, _, _, _, .nil, e => by simp at e
  | _, _, 0, _, .cons a _, e => by
    simp at e; subst e
    exact ⟨_, rfl, a⟩
  | _, _, i + 1, d, .cons _ b, e => by
    obtain ⟨v, h1, h2⟩ := Rps.getV (i := i) (v := d) b (by simpa using e)
    exact ⟨v, by simpa using h1, h2⟩
theorem Rps.append : ∀ {vs us : List V} {ds es : List D}, Rps K H vs ds → Rps K H us es → Rps K H (vs ++ us) (ds ++ es)
  | _, _, _, _, .nil, r => r
  | _, _, _, _, .cons a b, r => .cons a (Rps.append b r)
theorem Rps.take : ∀ {vs : List V} {ds : List D} (n : Nat), Rps K H vs ds → Rps K H (vs.take n) (ds.take n)
  | _, _, 0, _ => by simpa using Rps.nil
  | _, _, _ + 1, .nil => by simpa using Rps.nil
  | _, _, n + 1, .cons a b => by simpa using Rps.cons a (Rps.take n b)
theorem Rps.drop : ∀ {vs : List V} {ds : List D} (n : Nat), Rps K H vs ds → Rps K H (vs.drop n) (ds.drop n)
  | _, _, 0, r => by simpa using r
  | _, _, _ + 1, .nil => by simpa using Rps.nil
  | _, _, n + 1, .cons a b => by simpa using Rps.drop n b
theorem Rps.reverse : ∀ {vs : List V} {ds : List D}, Rps K H vs ds → Rps K H vs.reverse ds.reverse
  | _, _, .nil => .nil
  | _, _, .cons a b => by
    rw [List.reverse_cons, List.reverse_cons]
    exact (Rps.reverse b).append (.cons a .nil)
theorem Rps.one {v : V} {d : D} (h : Rp K H v d) : Rps K H [v] [d] := .cons h .nil
theorem Rps.rep {vs : List V} {ds : List D} (h : Rps K H vs ds) : ∀ n : Nat, Rps K H (List.replicate n vs).flatten (List.replicate n ds).flatten
  | 0 => .nil
  | n + 1 => by
    rw [List.replicate_succ, List.replicate_succ, List.flatten_cons, List.flatten_cons]
    exact h.append (Rps.rep h n)
end

/-! ### dicts -/
section
variable (P : Program) (w : World) (K : PySem.W.Frag)
mutual
/-- a key as the library's nested key -/
def nk : D → NestedKey
  | .int i => .num i
  | .str s => .text (toS s)
  | .tup xs => .tup (nks xs)
  | _ => .none
def nks : List D → List NestedKey
  | [] => []
  | x :: xs => nk x :: nks xs
end
/-- an int or a text as a dict's key -/
def sk : D → Option Key
  | .int i => some (.inl i)
  | .str s => some (.inr (toS s))
  | _ => none
/-- the entries of a dict whose keys are tuples -/
structure Ent (F : Hp) (x : NestedKey × Addr × Value) (k v : D) : Prop where
  key : x.1 = nk k
  cat : cat k = 2
  rep : Rp K F (.ref x.2.1) k
  val : ∃ u, RelV u x.2.2 ∧ Rp K F u v
inductive Ents (F : Hp) : List (NestedKey × Addr × Value) → List D → List D → Prop
  | nil : Ents F [] [] []
  | cons {x xs k ks v vs} : Ent K F x k v → Ents F xs ks vs → Ents F (x :: xs) (k :: ks) (v :: vs)
inductive Kvs (F : Hp) : List (Key × V) → List D → List D → Prop
  | nil : Kvs F [] [] []
  | cons {q u kvs k ks v vs} : sk k = some q → Rp K F (kV q) k → Rp K F u v → Kvs F kvs ks vs → Kvs F ((q, u) :: kvs) (k :: ks) (v :: vs)
/-- a dict object of H, its keys and values told in F -/
inductive Mp (H F : Hp) (a : Addr) (ks vs : List D) : Prop
  | sc (kvs : List (Key × V)) : H a = some (.dK kvs) → (kvs.map (·.1)).Nodup → Kvs K F kvs ks vs → Mp H F a ks vs
  | ne (o : Obj) (es : Array DictEntry) (ep : Nat) (xs : List (NestedKey × Addr × Value)) : H a = some (.ext fun h => h.get? a = some o) → (a == sysModules) = false → o.ExactDict → o.data = .dict es ep →
      es.toList = xs.map (entryOfKey (nestedKind P w)) → (xs.map (·.1)).Nodup → xs.length ≤ sizeLine → xs ≠ [] → Ents K F xs ks vs → Mp H F a ks vs

/-- a thing that nobody changes -/
def RpX (F : Hp) (v : V) : Xv → Prop
  | .d d => Rp K F v d
  | .m ks vs => ∃ a, v = .ref a ∧ Mp P w K F F a ks vs
/-- an object that is owned -/
def Own (H F : Hp) (a : Addr) : Xv → Prop
  | .d (.lst ds) => ∃ vs, H a = some (.lst vs) ∧ Rps K F vs ds
  | .m ks vs => Mp P w K H F a ks vs
  | _ => False
end
section
variable {P : Program} {w : World} {K : PySem.W.Frag} {H H' F F' : Hp} {a : Addr} {ks vs : List D}
theorem Ent.mono (s : Sub F F') {x k v} (h : Ent K F x k v) : Ent K F' x k v :=
  ⟨h.key, h.cat, h.rep.mono s, let ⟨u, r, q⟩ := h.val; ⟨u, r, q.mono s⟩⟩
theorem Ents.mono (s : Sub F F') : ∀ {xs ks vs}, Ents K F xs ks vs → Ents K F' xs ks vs
  | _, _, _, .nil => .nil
  | _, _, _, .cons a b => .cons (a.mono s) (Ents.mono s b)
theorem Kvs.mono (s : Sub F F') : ∀ {xs ks vs}, Kvs K F xs ks vs → Kvs K F' xs ks vs
  | _, _, _, .nil => .nil
  | _, _, _, .cons a b c d => .cons a (b.mono s) (c.mono s) (Kvs.mono s d)
theorem Mp.mono (h : Mp P w K H F a ks vs) (sH : ∀ o, H a = some o → H' a = some o) (s : Sub F F') : Mp P w K H' F' a ks vs := by
  cases h with
  | sc kvs h1 h2 h3 => exact .sc kvs (sH _ h1) h2 (h3.mono s)
  | ne o es ep xs h1 h2 h3 h4 h5 h6 h7 h8 h9 => exact .ne o es ep xs (sH _ h1) h2 h3 h4 h5 h6 h7 h8 (h9.mono s)
theorem RpX.mono (s : Sub F F') {v : V} : ∀ {x : Xv}, RpX P w K F v x → RpX P w K F' v x
  | .d _, h => Rp.mono s h
  | .m _ _, ⟨a, e, h⟩ => ⟨a, e, h.mono (fun _ q => s _ _ q) s⟩
theorem Own.mono {x : Xv} (h : Own P w K H F a x) (sH : ∀ o, H a = some o → H' a = some o) (s : Sub F F') : Own P w K H' F' a x := by
  cases x with
  | d d =>
    cases d with
    | lst ds => obtain ⟨vs, h1, h2⟩ := h; exact ⟨vs, sH _ h1, h2.mono s⟩
    | _ => exact h
  | m ks vs => exact Mp.mono h sH s
theorem Own.there {x : Xv} (h : Own P w K H F a x) : ∃ o, H a = some o := by
  cases x with
  | d d =>
    cases d with
    | lst ds => obtain ⟨vs, h1, h2⟩ := h; exact ⟨_, h1⟩
    | _ => exact h.elim
  | m ks vs =>
    have h : Mp P w K H F a ks vs := h
    cases h with
    | sc kvs h1 => exact ⟨_, h1⟩
    | ne o es ep xs h1 => exact ⟨_, h1⟩
/-- an owned object read in the heap as it stands -/
theorem Own.rd {x : Xv} (h : Own P w K H F a x) (s : Sub F H) : RpX P w K H (.ref a) x := by
  cases x with
  | d d =>
    cases d with
    | lst ds => obtain ⟨vs, h1, h2⟩ := h; exact .lst (SqL.of h1) (h2.mono s)
    | _ => exact h.elim
  | m ks vs => exact ⟨a, rfl, Mp.mono h (fun _ e => e) s⟩
/-- frozen: any heap that has the object -/
theorem Own.froze {x : Xv} (h : Own P w K H F a x) (s : Sub F F') (e : F' a = H a) : RpX P w K F' (.ref a) x := by
  cases x with
  | d d =>
    cases d with
    | lst ds => obtain ⟨vs, h1, h2⟩ := h; exact .lst (SqL.of (e.trans h1)) (h2.mono s)
    | _ => exact h.elim
  | m ks vs => exact ⟨a, rfl, Mp.mono h (fun _ q => e.trans q) s⟩
end

/-! ### a step of the heap: what was stays; the shared part grows by new things alone -/
structure Nx (H F H' F' : Hp) : Prop where
  hh : Sub H H'
  ff : Sub F F'
  fh : Sub F' H'
  nw : ∀ a, H a ≠ none → F a = none → F' a = none
section
variable {H F H1 F1 H2 F2 : Hp}
theorem Nx.refl (s : Sub F H) : Nx H F H F := ⟨.refl, .refl, s, fun _ _ e => e⟩
theorem Nx.trans (a : Nx H F H1 F1) (b : Nx H1 F1 H2 F2) : Nx H F H2 F2 :=
  ⟨a.hh.trans b.hh, a.ff.trans b.ff, b.fh, fun c h1 h2 => b.nw c (fun e => by
    cases q : H c with
    | none => exact h1 q
    | some o => rw [a.hh c o q] at e; cases e) (a.nw c h1 h2)⟩
theorem Sub.upd {p : Addr} {o : HO} (h : H p = none) : Sub H (upd H p o) := fun b x e => by
  rw [upd_ne (ne_of_none e h)]; exact e
/-- a new object that is not shared -/
theorem Nx.new (s : Sub F H) {p : Addr} {o : HO} (h : H p = none) : Nx H F (upd H p o) F := ⟨Sub.upd h, .refl, s.trans (Sub.upd h), fun _ _ e => e⟩
/-- a new object that is shared -/
theorem Nx.newS (s : Sub F H) {p : Addr} {o : HO} (h : H p = none) : Nx H F (upd H p o) (upd F p o) := by
  have fp : F p = none := by
    cases q : F p with
    | none => rfl
    | some u => rw [s p u q] at h; cases h
  refine ⟨Sub.upd h, Sub.upd fp, fun b x e => ?_, fun a h1 h2 => ?_⟩
  · by_cases hb : b = p
    · subst hb; rw [upd_same] at e ⊢; exact e
    · rw [upd_ne hb] at e ⊢; exact s _ _ e
  · by_cases hb : a = p
    · subst hb; exact absurd h h1
    · rw [upd_ne hb]; exact h2
/-- an object that was new is shared from now on -/
theorem Nx.share (n : Nx H F H1 F1) {p : Addr} {o : HO} (h : H p = none) (h1 : H1 p = some o) (h2 : F1 p = none) : Nx H F H1 (upd F1 p o) := by
  refine ⟨n.hh, n.ff.trans (Sub.upd h2), fun b x e => ?_, fun a q1 q2 => ?_⟩
  · by_cases hb : b = p
    · subst hb; rw [upd_same] at e; rw [h1]; exact e
    · rw [upd_ne hb] at e; exact n.fh _ _ e
  · by_cases hb : a = p
    · subst hb; exact absurd h q1
    · rw [upd_ne hb]; exact n.nw a q1 q2
end

/-! ### the slots -/
structure SR (P : Program) (w : World) (K : PySem.W.Frag) (σ : L2.St) (H F : Hp) (ρ : Q7.Env) : Prop where
  sub : Sub F H
  len : σ.length = ρ.length
  sh : ∀ (i : Nat) (x : Xv), ρ[i]? = some (some (false, x)) → ∃ v, σ[i]? = some (some v) ∧ RpX P w K F v x
  own : ∀ (i : Nat) (x : Xv), ρ[i]? = some (some (true, x)) → ∃ a, σ[i]? = some (some (.ref a)) ∧ F a = none ∧ Own P w K H F a x
  inj : ∀ (i j : Nat) (x y : Xv) (a : Addr), ρ[i]? = some (some (true, x)) → ρ[j]? = some (some (true, y)) → σ[i]? = some (some (.ref a)) → σ[j]? = some (some (.ref a)) → i = j
/-- a value and what it is -/
inductive Val (P : Program) (w : World) (K : PySem.W.Frag) (H H' F' : Hp) (σ : L2.St) (ρ : Q7.Env) (v : V) : W → Prop
  | sh {x : Xv} : RpX P w K F' v x → Val P w K H H' F' σ ρ v ⟨.sh, x⟩
  | fr {x : Xv} {a : Addr} : v = .ref a → H a = none → F' a = none → Own P w K H' F' a x → Val P w K H H' F' σ ρ v ⟨.fr, x⟩
  | bo {x : Xv} {i : Nat} {a : Addr} : v = .ref a → ρ[i]? = some (some (true, x)) → σ[i]? = some (some (.ref a)) → Val P w K H H' F' σ ρ v ⟨.bo, x⟩
section
variable {P : Program} {w : World} {K : PySem.W.Frag} {σ : L2.St} {H F H' F' : Hp} {ρ : Q7.Env} {v : V} {wv : W}
theorem SR.step (r : SR P w K σ H F ρ) (n : Nx H F H' F') : SR P w K σ H' F' ρ := by
  refine ⟨n.fh, r.len, fun i x e => ?_, fun i x e => ?_, r.inj⟩
  · obtain ⟨v, h1, h2⟩ := r.sh i x e
    exact ⟨v, h1, h2.mono n.ff⟩
  · obtain ⟨a, h1, h2, h3⟩ := r.own i x e
    obtain ⟨o, ho⟩ := h3.there
    exact ⟨a, h1, n.nw a (by rw [ho]; simp) h2, h3.mono (fun _ q => n.hh _ _ q) n.ff⟩
/-- whatever its kind, it reads in the heap as it stands -/
theorem Val.rd (r : SR P w K σ H F ρ) (n : Nx H F H' F') (h : Val P w K H H' F' σ ρ v wv) : RpX P w K H' v wv.x := by
  cases h with
  | sh h => exact h.mono n.fh
  | fr e _ _ o => subst e; exact o.rd n.fh
  | bo e h1 h2 =>
    subst e
    obtain ⟨a, q1, q2, q3⟩ := (r.step n).own _ _ h1
    rw [h2] at q1; cases q1
    exact q3.rd n.fh
/-- a value that is kept: it is shared from now on -/
theorem Val.keep (n : Nx H F H' F') (h : Val P w K H H' F' σ ρ v wv) (hk : wv.k ≠ .bo) : ∃ F'', Nx H F H' F'' ∧ RpX P w K F'' v wv.x := by
  cases h with
  | sh h => exact ⟨F', n, h⟩
  | fr e h1 h2 o =>
    subst e
    obtain ⟨ob, ho⟩ := o.there
    exact ⟨upd F' _ ob, n.share h1 ho h2, o.froze (Sub.upd h2) (by rw [upd_same, ho])⟩
  | bo => exact absurd rfl hk
end
end Q7
end

section
set_option autoImplicit false
set_option Elab.async false
set_option linter.all false
set_option maxRecDepth 100000
/-! Readings of the core language, and how operations are joined. -/
namespace Q7
open PySem PySem.Spec PyProof.Rows L2

section
variable (P : Program) (w : World) (K : PySem.W.Frag)
/-- it can be read: shared, or an object of its own whose parts are shared -/
def Rdx (H F : Hp) (v : V) (x : Xv) : Prop := RpX P w K F v x ∨ ∃ a, v = .ref a ∧ Own P w K H F a x
/-- what an operation makes -/
inductive New (H H' F' : Hp) (v : V) : W → Prop
  | sh {x : Xv} : RpX P w K F' v x → New H H' F' v ⟨.sh, x⟩
  | fr {x : Xv} {a : Addr} : v = .ref a → H a = none → F' a = none → Own P w K H' F' a x → New H H' F' v ⟨.fr, x⟩
def Ok1 (r : Option W) (H F : Hp) (Q : VK) : Prop := match r with
  | some wv => ∀ v H' F', Nx H F H' F' → New P w K H H' F' v wv → Q v H'
  | none => False
def r1 (f : W → Option W) : V → Hp → VK → Prop := fun x H Q => ∃ F w1, Sub F H ∧ Rdx P w K H F x w1.x ∧ Ok1 P w K (f w1) H F Q
def r2 (f : W → W → Option W) : R2 := fun x y H Q => ∃ F w1 w2, Sub F H ∧ Rdx P w K H F x w1.x ∧ Rdx P w K H F y w2.x ∧ Ok1 P w K (f w1 w2) H F Q
/-- .. of values that are kept -/
def k1 (f : W → Option W) : V → Hp → VK → Prop := fun x H Q => ∃ F x1, Sub F H ∧ RpX P w K F x x1 ∧ Ok1 P w K (f ⟨.sh, x1⟩) H F Q
def k2 (f : W → W → Option W) : R2 := fun x y H Q => ∃ F x1 x2, Sub F H ∧ RpX P w K F x x1 ∧ RpX P w K F y x2 ∧ Ok1 P w K (f ⟨.sh, x1⟩ ⟨.sh, x2⟩) H F Q
end
inductive RpXs (P : Program) (w : World) (K : PySem.W.Frag) (F : Hp) : List V → List Xv → Prop
  | nil : RpXs P w K F [] []
  | cons {v : V} {vs : List V} {x : Xv} {xs : List Xv} : RpX P w K F v x → RpXs P w K F vs xs → RpXs P w K F (v :: vs) (x :: xs)
theorem RpXs.mono {P : Program} {w : World} {K : PySem.W.Frag} {F F' : Hp} (s : Sub F F') : ∀ {vs xs}, RpXs P w K F vs xs → RpXs P w K F' vs xs
  | _, _, .nil => .nil
  | _, _, .cons a b => .cons (a.mono s) (RpXs.mono s b)
theorem RpXs.length {P : Program} {w : World} {K : PySem.W.Frag} {F : Hp} : ∀ {vs xs}, RpXs P w K F vs xs → vs.length = xs.length
  | _, _, .nil => rfl
  | _, _, .cons a b => by rw [List.length_cons, List.length_cons, b.length]
theorem RpXs.datas {P : Program} {w : World} {K : PySem.W.Frag} {F : Hp} : ∀ {vs xs ds}, RpXs P w K F vs xs → datas xs = some ds → Rps K F vs ds
  | _, _, _, .nil, e => by cases e; exact .nil
  | _, .d x :: xs, ds, .cons a b, e => by
    cases h : Q7.datas xs with
    | none => simp [Q7.datas, h] at e
    | some es =>
      simp [Q7.datas, h] at e
      subst e
      exact .cons a (RpXs.datas b h)
  | _, .m _ _ :: _, _, .cons _ _, e => by simp [Q7.datas] at e

section
variable {P : Program} {w : World} {K : PySem.W.Frag} {σ : L2.St} {H F H' F' H1 F1 : Hp} {ρ : Q7.Env} {v : V} {wv : W} {x : Xv}
theorem Rdx.step (h : Rdx P w K H F v x) (n : Nx H F H' F') : Rdx P w K H' F' v x := by
  rcases h with h | ⟨a, e, h⟩
  · exact .inl (h.mono n.ff)
  · exact .inr ⟨a, e, h.mono (fun _ q => n.hh _ _ q) n.ff⟩
theorem Rdx.rp (h : Rdx P w K H F v x) (s : Sub F H) : RpX P w K H v x := by
  rcases h with h | ⟨a, e, h⟩
  · exact h.mono s
  · subst e; exact h.rd s
theorem Val.rdx (r : SR P w K σ H F ρ) (n : Nx H F H' F') (h : Val P w K H H' F' σ ρ v wv) : Rdx P w K H' F' v wv.x := by
  cases h with
  | sh h => exact .inl h
  | fr e _ _ o => exact .inr ⟨_, e, o⟩
  | bo e h1 h2 =>
    obtain ⟨a, q1, q2, q3⟩ := (r.step n).own _ _ h1
    rw [h2] at q1; cases q1
    exact .inr ⟨_, e, q3⟩
theorem New.val (h : New P w K H1 H' F' v wv) (s : Sub H H1) : Val P w K H H' F' σ ρ v wv := by
  cases h with
  | sh h => exact .sh h
  | fr e h1 h2 o => exact .fr e (by
      cases q : H _ with
      | none => rfl
      | some u => rw [s _ _ q] at h1; cases h1) h2 o
theorem Val.back (h : Val P w K H1 H' F' σ ρ v wv) (s : Sub H H1) : Val P w K H H' F' σ ρ v wv := by
  cases h with
  | sh h => exact .sh h
  | fr e h1 h2 o => exact .fr e (by
      cases q : H _ with
      | none => rfl
      | some u => rw [s _ _ q] at h1; cases h1) h2 o
  | bo e h1 h2 => exact .bo e h1 h2
end

/-! ### readings -/
/-- the things that stay the same through a proof: the model, the written part, the classes' places, what a call yields, what is wished of an exception -/
structure Fix where
  P : Program
  w : World
  K : PySem.W.Frag
  ca : Nat → Addr
  cl : Nat → List Xv → R W
abbrev WX' := WX
section
variable (G : Fix) (Wx : WX)
/-- what an end asks -/
def tR {α : Type} (σ : L2.St) (H F : Hp) (r : R α) (Q : α → Hp → Hp → Prop) : Prop := match r with
  | .ok a => ∀ H' F', Nx H F H' F' → Q a H' F'
  | .exc e => ∀ H' F', Nx H F H' F' → Wx (.ref (G.ca e)) none σ H'
  | .stuck => False
/-- .. of a value -/
def tV (σ : L2.St) (H F : Hp) (ρ : Q7.Env) (r : R W) (Q : VK) : Prop := tR G Wx σ H F r fun wv H' F' => ∀ v, Val G.P G.w G.K H H' F' σ ρ v wv → Q v H'
def tE (c : CE) : TE := fun σ H Q => ∃ ρ F, SR G.P G.w G.K σ H F ρ ∧ tV G Wx σ H F ρ (ev G.cl ρ c) Q
def tT (c : CE) : TT := fun σ H Q => ∃ ρ F, SR G.P G.w G.K σ H F ρ ∧ tR G Wx σ H F (ev G.cl ρ c >>= fun wv => R.of wv.tru) fun b H' _ => Q b H'
def tA' (c : CEs) : TA := fun σ H Q => ∃ ρ F, SR G.P G.w G.K σ H F ρ ∧ tR G Wx σ H F (eva G.cl ρ c) fun xs H' F' => ∀ vs, RpXs G.P G.w G.K F' vs xs → Q vs H'
/-- what a loop's walk yields: the data ds -/
def Gives (K : PySem.W.Frag) (F : Hp) (J : It) (ds : List D) : Prop := ∀ i H M, Sub F M → Sub M H →
  (∀ d, ds[i]? = some d → J.go i H ∧ ∀ x H', J.yld i H x H' → ∃ M', Nx H M H' M' ∧ Rp K M' x d) ∧ (i = ds.length → J.stop i H)
def tI (c : CI) : TI := fun σ H Q => ∃ ρ F, SR G.P G.w G.K σ H F ρ ∧ tR G Wx σ H F (evi G.cl ρ c) fun ds H' F' => ∀ J, Gives G.K F' J ds → Q J H'
end
section
variable {G : Fix} {Wx : WX} {σ : L2.St} {H F H1 F1 : Hp} {ρ : Q7.Env} {Q : VK}
theorem tR.step {α : Type} {r : R α} {Q : α → Hp → Hp → Prop} (h : tR G Wx σ H F r Q) (n : Nx H F H1 F1) : tR G Wx σ H1 F1 r Q := by
  cases r with
  | ok a => exact fun H' F' m => h H' F' (n.trans m)
  | exc e => exact fun H' F' m => h H' F' (n.trans m)
  | stuck => exact h
theorem tR.imp {α : Type} {r : R α} {Q Q' : α → Hp → Hp → Prop} (h : tR G Wx σ H F r Q) (i : ∀ a H' F', r = .ok a → Nx H F H' F' → Q a H' F' → Q' a H' F') : tR G Wx σ H F r Q' := by
  cases r with
  | ok a => exact fun H' F' m => i a H' F' rfl m (h H' F' m)
  | exc e => exact h
  | stuck => exact h
theorem tV.step {r : R W} (h : tV G Wx σ H F ρ r Q) (n : Nx H F H1 F1) : tV G Wx σ H1 F1 ρ r Q :=
  (tR.step h n).imp fun a H' F' _ m q v hv => q v (hv.back n.hh)
/-- a part first, then the rest -/
theorem tR.bind {α β : Type} {x : R α} {f : α → R β} {Q : β → Hp → Hp → Prop} {R' : α → Hp → Hp → Prop} (h : tR G Wx σ H F (x >>= f) Q) (i : ∀ a H1 F1, x = .ok a → Nx H F H1 F1 → tR G Wx σ H1 F1 (f a) Q → R' a H1 F1) :
    tR G Wx σ H F x R' := by
  cases x with
  | ok a => exact fun H' F' m => i a H' F' rfl m (tR.step (r := f a) h m)
  | exc e => exact h
  | stuck => exact h
theorem tE.bind {a : CE} {g : W → R W} {R' : VK} (sr : SR G.P G.w G.K σ H F ρ) (h : tV G Wx σ H F ρ (ev G.cl ρ a >>= g) Q)
    (i : ∀ wv v H1 F1, Nx H F H1 F1 → Val G.P G.w G.K H H1 F1 σ ρ v wv → SR G.P G.w G.K σ H1 F1 ρ → tV G Wx σ H1 F1 ρ (g wv) Q → R' v H1) : tE G Wx a σ H R' := by
  refine ⟨ρ, F, sr, ?_⟩
  have h' : tR G Wx σ H F (ev G.cl ρ a >>= g) fun wv H' F' => ∀ v, Val G.P G.w G.K H H' F' σ ρ v wv → Q v H' := h
  exact h'.bind fun wv H1 F1 e m q v hv => i wv v H1 F1 m hv (sr.step m) (q.imp fun a H' F' _ m2 z v hv => z v (hv.back m.hh))
theorem tV.of {o : Option W} (h : tV G Wx σ H F ρ (R.of o) Q) : Ok1 G.P G.w G.K o H F Q := by
  cases o with
  | some wv => exact fun v H' F' n hv => h H' F' n v (hv.val Sub.refl)
  | none => exact h
theorem tV.ok {wv : W} (h : tV G Wx σ H F ρ (.ok wv) Q) (s : Sub F H) {v : V} (hv : Val G.P G.w G.K H H F σ ρ v wv) : Q v H := h H F (Nx.refl s) v hv
end

/-! ### joining -/
section
variable {X : Cx} {G : Fix} {Wx : WX} {e : Expr} {c a b d : CE}
theorem pe_imp {t t' : TE} (h : PE X e t) (i : ∀ σ H Q, t' σ H Q → t σ H Q) : PE X e t' := ⟨fun pins s σ H Q I q => h.run pins s σ H Q I (i σ H Q q)⟩
theorem pt_imp {t t' : TT} (h : PT X e t) (i : ∀ σ H Q, t' σ H Q → t σ H Q) : PT X e t' := ⟨fun pins s σ H Q I q => h.run pins s σ H Q I (i σ H Q q)⟩
theorem pw_imp {t t' : TT} (h : PW X e t) (i : ∀ σ H Q, t' σ H Q → t σ H Q) : PW X e t' := ⟨fun wh pins s σ H Q I q => h.run wh pins s σ H Q I (i σ H Q q)⟩
theorem pe_r1 {f : W → Option W} (h : PE X e (tUn (r1 G.P G.w G.K f) (tE G Wx a))) (hc : ∀ ρ, ev G.cl ρ c = ev G.cl ρ a >>= fun x => R.of (f x)) : PE X e (tE G Wx c) :=
  pe_imp h fun σ H Q ⟨ρ, F, sr, q⟩ => by
    rw [hc] at q
    exact tE.bind sr q fun wv v H1 F1 n hv sr1 q1 => ⟨F1, wv, n.fh, hv.rdx sr n, q1.of⟩
theorem pe_r2 {f : W → W → Option W} (h : PE X e (tOp (r2 G.P G.w G.K f) (tE G Wx a) (tE G Wx b))) (hc : ∀ ρ, ev G.cl ρ c = ev G.cl ρ a >>= fun x => ev G.cl ρ b >>= fun y => R.of (f x y)) : PE X e (tE G Wx c) :=
  pe_imp h fun σ H Q ⟨ρ, F, sr, q⟩ => by
    rw [hc] at q
    exact tE.bind sr q fun w1 v1 H1 F1 n1 hv1 sr1 q1 => tE.bind sr1 q1 fun w2 v2 H2 F2 n2 hv2 sr2 q2 => ⟨F2, w1, w2, n2.fh, (hv1.rdx sr n1).step n2, hv2.rdx sr1 n2, q2.of⟩
/-- .. as a test: the operation yields a bool -/
theorem pt_r2 {f : W → W → Option W} (h : PT X e (tTest (tOp (r2 G.P G.w G.K f) (tE G Wx a) (tE G Wx b)))) (hc : ∀ ρ, ev G.cl ρ c = ev G.cl ρ a >>= fun x => ev G.cl ρ b >>= fun y => R.of (f x y))
    (hb : ∀ x y z, f x y = some z → ∃ t, z = ⟨.sh, .d (.bl t)⟩) : PT X e (tT G Wx c) :=
  pt_imp h fun σ H Q ⟨ρ, F, sr, q⟩ => by
    rw [hc] at q
    have q' : tR G Wx σ H F (ev G.cl ρ a >>= fun x => ev G.cl ρ b >>= fun y => R.of (f x y) >>= fun wv => R.of wv.tru) fun b H' _ => Q b H' := by
      have e1 : ((ev G.cl ρ a >>= fun x => ev G.cl ρ b >>= fun y => R.of (f x y)) >>= fun wv => R.of wv.tru) = (ev G.cl ρ a >>= fun x => ev G.cl ρ b >>= fun y => R.of (f x y) >>= fun wv => R.of wv.tru) := by
        cases ev G.cl ρ a with
        | ok x =>
          show ((ev G.cl ρ b >>= fun y => R.of (f x y)) >>= fun wv => R.of wv.tru) = _
          cases ev G.cl ρ b <;> rfl
        | exc e => rfl
        | stuck => rfl
      rw [← e1]; exact q
    refine ⟨ρ, F, sr, q'.bind fun w1 H1 F1 e1 n1 q1 v1 hv1 => ⟨ρ, F1, sr.step n1, tR.bind (f := fun y => R.of (f w1 y) >>= fun wv => R.of wv.tru) q1 fun w2 H2 F2 e2 n2 q2 v2 hv2 => ⟨F2, w1, w2, n2.fh, (hv1.rdx sr n1).step n2, hv2.rdx (sr.step n1) n2, ?_⟩⟩⟩
    cases hf : f w1 w2 with
    | none => rw [hf] at q2; exact q2
    | some z =>
      obtain ⟨t, rfl⟩ := hb _ _ _ hf
      rw [hf] at q2
      intro v H' F' n hv
      cases hv with
      | sh hv =>
        have hv : Rp G.K F' v (.bl t) := hv
        cases hv
        exact ⟨t, rfl, q2 H' F' n⟩
/-- a value that is kept -/
theorem pe_k1 {f : W → Option W} (h : PE X e (tUn (k1 G.P G.w G.K f) (tE G Wx a))) (hc : ∀ ρ, ev G.cl ρ c = ev G.cl ρ a >>= fun x => R.of (f x)) (h1 : ∀ x, f ⟨.fr, x⟩ = f ⟨.sh, x⟩) (h2 : ∀ x, f ⟨.bo, x⟩ = none) : PE X e (tE G Wx c) :=
  pe_imp h fun σ H Q ⟨ρ, F, sr, q⟩ => by
    rw [hc] at q
    have q0 : tR G Wx σ H F (ev G.cl ρ a >>= fun x => R.of (f x)) fun wv H' F' => ∀ v, Val G.P G.w G.K H H' F' σ ρ v wv → Q v H' := q
    refine ⟨ρ, F, sr, q0.bind fun wv H1 F1 e1 n1 q1 v hv => ?_⟩
    obtain ⟨k, x⟩ := wv
    have q2 : tR G Wx σ H F (R.of (f ⟨k, x⟩)) fun wv H' F' => ∀ v, Val G.P G.w G.K H H' F' σ ρ v wv → Q v H' := by
      rw [e1] at q0; exact q0
    have hk : k ≠ .bo := fun z => by
      subst z
      rw [h2] at q2; exact q2
    obtain ⟨F2, n2, r⟩ := hv.keep n1 hk
    have e2 : f ⟨k, x⟩ = f ⟨.sh, x⟩ := by
      cases k with
      | sh => rfl
      | fr => exact h1 x
      | bo => exact absurd rfl hk
    rw [e2] at q2
    exact ⟨F2, x, n2.fh, r, tV.of (G := G) (Wx := Wx) (σ := σ) (ρ := ρ) ((tR.step q2 n2).imp fun _ _ _ _ _ z v hv => z v (hv.back n2.hh))⟩
end
end Q7
end

section
set_option autoImplicit false
set_option Elab.async false
set_option linter.all false
set_option maxRecDepth 100000
/-! The operations on data, by values. -/
namespace Q7
open PySem PySem.Spec PyProof.Rows L2

/-! ### as the library's data -/
mutual
def toPy : D → PyData
  | .non => .none
  | .bl b => .bool b
  | .int i => .int i
  | .str s => .str (toS s)
  | .tup xs => .tuple (toPys xs)
  | .lst xs => .list (toPys xs)
def toPys : List D → List PyData
  | [] => []
  | x :: xs => toPy x :: toPys xs
end
theorem toPys_map : ∀ xs : List D, toPys xs = xs.map toPy
  | [] => rfl
  | x :: xs => by rw [toPys, toPys_map xs, List.map_cons]
theorem toS_inj {s t : List Nat} (h : toS s = toS t) : s = t := by
  have h' : s.toArray = t.toArray := congrArg Str.cps h
  exact congrArg Array.toList h'
theorem toS_beq (s t : List Nat) : (toS s == toS t) = (s == t) := by
  by_cases h : s = t
  · subst h; simp
  · have h2 : ¬ toS s = toS t := fun e => h (toS_inj e)
    rw [beq_eq_false_iff_ne.mpr h, beq_eq_false_iff_ne.mpr h2]
mutual
theorem eqv_py : ∀ a b : D, PyData.eqv (toPy a) (toPy b) = eqv a b
  | .non, b => by cases b <;> simp [toPy, PyData.eqv, eqv]
  | .bl x, b => by cases b <;> simp [toPy, PyData.eqv, eqv]
  | .int x, b => by cases b <;> simp [toPy, PyData.eqv, eqv]
  | .str x, b => by
    cases b with
    | str y => simp only [toPy, PyData.eqv, eqv]; exact toS_beq x y
    | _ => simp [toPy, PyData.eqv, eqv]
  | .tup xs, b => by
    cases b with
    | tup ys => simp only [toPy, PyData.eqv, eqv]; exact eqvs_py xs ys
    | _ => simp [toPy, PyData.eqv, eqv]
  | .lst xs, b => by
    cases b with
    | lst ys => simp only [toPy, PyData.eqv, eqv]; exact eqvs_py xs ys
    | _ => simp [toPy, PyData.eqv, eqv]
theorem eqvs_py : ∀ a b : List D, PyData.eqvAll (toPys a) (toPys b) = eqvs a b
  | [], [] => by simp [toPys, PyData.eqvAll, eqvs]
  | [], _ :: _ => by simp [toPys, PyData.eqvAll, eqvs]
  | _ :: _, [] => by simp [toPys, PyData.eqvAll, eqvs]
  | x :: xs, y :: ys => by
    simp only [toPys, PyData.eqvAll, eqvs]
    rw [eqv_py x y, eqvs_py xs ys]
end
mutual
theorem depth_py : ∀ a : D, (toPy a).depth = depth a
  | .non => by simp [toPy, PyData.depth, depth]
  | .bl x => by simp [toPy, PyData.depth, depth]
  | .int x => by simp [toPy, PyData.depth, depth]
  | .str x => by simp [toPy, PyData.depth, depth]
  | .tup xs => by simp only [toPy, PyData.depth, depth]; rw [depths_py xs]
  | .lst xs => by simp only [toPy, PyData.depth, depth]; rw [depths_py xs]
theorem depths_py : ∀ a : List D, PyData.depthAll (toPys a) = depths a
  | [] => by simp [toPys, PyData.depthAll, depths]
  | x :: xs => by simp only [toPys, PyData.depthAll, depths]; rw [depth_py x, depths_py xs]
end
theorem OkS.lay {s : List Nat} (h : OkS s) : PyData.canLay0 (.str (toS s)) = true := by
  simp only [PyData.canLay0, PyData.strOk, toS]
  rw [List.all_toArray]
  exact List.all_eq_true.mpr fun c hc => decide_eq_true (Nat.lt_trans (h.asc c hc) (by decide))
section
variable {K : PySem.W.Frag} {H : Hp}
mutual
theorem Rp.lay : ∀ {v : V} {d : D}, Rp K H v d → (toPy d).canLay0 = true
  | _, _, .non => by simp [toPy, PyData.canLay0]
  | _, _, .bl _ => by simp [toPy, PyData.canLay0]
  | _, _, .int _ => by simp [toPy, PyData.canLay0]
  | _, _, .str h => by rw [toPy]; exact h.lay
  | _, _, .lst _ r => by rw [toPy, PyData.canLay0]; exact Rps.lay r
  | _, _, .tup _ r => by rw [toPy, PyData.canLay0]; exact Rps.lay r
theorem Rps.lay : ∀ {vs : List V} {ds : List D}, Rps K H vs ds → PyData.canLayAll0 (toPys ds) = true
  | _, _, .nil => by simp [toPys, PyData.canLayAll0]
  | _, _, .cons a b => by rw [toPys, PyData.canLayAll0, Rp.lay a, Rps.lay b]; rfl
end
mutual
theorem Rp.dp : ∀ {v : V} {d : D}, Rp K H v d → Dp K H v (toPy d)
  | _, _, .non => by rw [toPy]; exact .non
  | _, _, .bl _ => by rw [toPy]; exact .bl _
  | _, _, .int _ => by rw [toPy]; exact .int _
  | _, _, .str h => by rw [toPy]; exact .str _
  | _, _, .lst q r => by rw [toPy]; exact .lst q (Rps.dp r)
  | _, _, .tup q r => by rw [toPy]; exact .tup q (Rps.dp r)
theorem Rps.dp : ∀ {vs : List V} {ds : List D}, Rps K H vs ds → DpAll K H vs (toPys ds)
  | _, _, .nil => by rw [toPys]; exact .nil
  | _, _, .cons a b => by rw [toPys]; exact .cons (Rp.dp a) (Rps.dp b)
end
end

/-! ### what can be read, by its form -/
section
variable {P : Program} {w : World} {K : PySem.W.Frag} {H F : Hp} {v : V}
theorem Rdx.isNon (h : Rdx P w K H F v (.d .non)) : v = .non := by
  rcases h with h | ⟨a, e, h⟩
  · have h : Rp K F v .non := h
    cases h; rfl
  · exact (show False from h).elim
theorem Rdx.isBl {b : Bool} (h : Rdx P w K H F v (.d (.bl b))) : v = .bl b := by
  rcases h with h | ⟨a, e, h⟩
  · have h : Rp K F v (.bl b) := h
    cases h; rfl
  · exact (show False from h).elim
theorem Rdx.isInt {i : Int} (h : Rdx P w K H F v (.d (.int i))) : v = .int i := by
  rcases h with h | ⟨a, e, h⟩
  · have h : Rp K F v (.int i) := h
    cases h; rfl
  · exact (show False from h).elim
theorem Rdx.isStr {s : List Nat} (h : Rdx P w K H F v (.d (.str s))) : v = .str (toS s) ∧ OkS s := by
  rcases h with h | ⟨a, e, h⟩
  · have h : Rp K F v (.str s) := h
    cases h with
    | str o => exact ⟨rfl, o⟩
  · exact (show False from h).elim
theorem Rdx.isTup {ds : List D} (h : Rdx P w K H F v (.d (.tup ds))) (s : Sub F H) : ∃ a vs, v = .ref a ∧ SqT K H a vs ∧ SqT K F a vs ∧ Rps K F vs ds := by
  rcases h with h | ⟨a, e, h⟩
  · have h : Rp K F v (.tup ds) := h
    cases h with
    | tup q r => exact ⟨_, _, rfl, s.sqT q, q, r⟩
  · exact (show False from h).elim
theorem Rdx.isLst {ds : List D} (h : Rdx P w K H F v (.d (.lst ds))) (s : Sub F H) : ∃ a vs, v = .ref a ∧ SqL K H a vs ∧ Rps K F vs ds := by
  rcases h with h | ⟨a, e, h⟩
  · have h : Rp K F v (.lst ds) := h
    cases h with
    | lst q r => exact ⟨_, _, rfl, s.sqL q, r⟩
  · obtain ⟨vs, h1, h2⟩ := (show ∃ vs, H a = some (.lst vs) ∧ Rps K F vs ds from h)
    exact ⟨a, vs, e, SqL.of h1, h2⟩
theorem Rdx.isMp {ks vs : List D} (h : Rdx P w K H F v (.m ks vs)) (s : Sub F H) : ∃ a, v = .ref a ∧ Mp P w K H F a ks vs := by
  rcases h with h | ⟨a, e, h⟩
  · obtain ⟨a, e, h⟩ := (show ∃ a, v = .ref a ∧ Mp P w K F F a ks vs from h)
    exact ⟨a, e, h.mono (fun _ q => s _ _ q) .refl⟩
  · exact ⟨a, e, h⟩
/-! what an operation's end asks -/
variable {Q : VK}
theorem Ok1.get {r : Option W} (h : Ok1 P w K r H F Q) : ∃ wv, r = some wv ∧ ∀ v H' F', Nx H F H' F' → New P w K H H' F' v wv → Q v H' := by
  cases r with
  | some wv => exact ⟨wv, rfl, h⟩
  | none => exact h.elim
theorem fin_sh {d : D} (q : ∀ v H' F', Nx H F H' F' → New P w K H H' F' v ⟨.sh, .d d⟩ → Q v H') (s : Sub F H) (h : Rp K F v d) : Q v H := q v H F (Nx.refl s) (.sh h)
theorem fin_lst {ds : List D} {vs : List V} {p : Addr} (q : ∀ v H' F', Nx H F H' F' → New P w K H H' F' v ⟨.fr, .d (.lst ds)⟩ → Q v H') (s : Sub F H) (hp : H p = none) (h : Rps K F vs ds) : Q (.ref p) (upd H p (.lst vs)) := by
  refine q _ _ F (Nx.new s hp) (.fr rfl hp ?_ ⟨vs, upd_same, h⟩)
  cases e : F p with
  | none => rfl
  | some u => rw [s p u e] at hp; cases hp
theorem fin_tup {ds : List D} {vs : List V} {p : Addr} (q : ∀ v H' F', Nx H F H' F' → New P w K H H' F' v ⟨.sh, .d (.tup ds)⟩ → Q v H') (s : Sub F H) (hp : H p = none) (h : Rps K F vs ds) : Q (.ref p) (upd H p (.tup vs)) := by
  have n := Nx.newS (o := .tup vs) s hp
  exact q _ _ _ n (.sh (.tup (SqT.of upd_same) (h.mono n.ff)))
end
end Q7
end

section
set_option autoImplicit false
set_option Elab.async false
set_option linter.all false
set_option maxRecDepth 100000
/-! + - * // % ** -/
namespace Q7
open PySem PySem.Spec PyProof.Rows L2

theorem dat_get {wv : W} {d : D} (h : wv.dat = some d) : wv.x = .d d := by
  obtain ⟨k, x⟩ := wv
  cases x with
  | d e => simp [W.dat] at h; rw [h]
  | m a b => simp [W.dat] at h
theorem st_get {wv : W} {d : D} (h : wv.st = some d) : wv.x = .d d ∧ wv.k ≠ .bo := by
  obtain ⟨k, x⟩ := wv
  cases k <;> cases x <;> simp [W.st] at h
  · exact ⟨by rw [h], by simp⟩
  · exact ⟨by rw [h], by simp⟩
theorem bopW_get {o : Bop} {a b c : W} (h : bopW o a b = some c) : ∃ d e z, a.x = .d d ∧ b.x = .d e ∧ binop o d e = some z ∧ c = mk z := by
  simp only [bopW, Option.bind_eq_bind, Option.bind_eq_some_iff, Option.some.injEq] at h
  obtain ⟨d, h1, e, h2, z, h3, h4⟩ := h
  exact ⟨d, e, z, dat_get h1, dat_get h2, h3, h4.symm⟩
theorem isize_get {n : Nat} {d e : D} (h : isize n d = some e) : n ≤ big ∧ e = d := by
  unfold isize at h
  split at h
  · exact ⟨by assumption, (Option.some.inj h).symm⟩
  · cases h
theorem big_line {n : Nat} (h : n ≤ big) : n ≤ sizeLine := by
  rw [sizeLine_eq]; unfold big at h; omega
theorem toS_append (s t : List Nat) : toS s ++ toS t = toS (s ++ t) := by
  show Str.mk (s.toArray ++ t.toArray) = Str.mk (s ++ t).toArray
  simp
theorem toS_length (s : List Nat) : (toS s).length = s.length := by
  show s.toArray.size = s.length
  simp
theorem OkS.append {s t : List Nat} (a : OkS s) (b : OkS t) (h : s.length + t.length ≤ big) : OkS (s ++ t) :=
  ⟨by rw [List.length_append]; exact h, fun c hc => (List.mem_append.mp hc).elim (a.asc c) (b.asc c)⟩
theorem OkS.rep {s : List Nat} (a : OkS s) {n : Nat} (h : s.length * n ≤ big) : OkS (List.replicate n s).flatten :=
  ⟨by rw [PyProof.Rows.lm_len_rep_flat, Nat.mul_comm]; exact h, fun c hc => by
    obtain ⟨l, hl, hc⟩ := List.mem_flatten.mp hc
    rw [(List.mem_replicate.mp hl).2] at hc
    exact a.asc c hc⟩
theorem OkS.sub {s t : List Nat} (a : OkS s) (h : t.Sublist s) : OkS t := ⟨Nat.le_trans h.length_le a.len, fun c hc => a.asc c (h.subset hc)⟩

theorem add_lists (l b : Addr) (xs ys : Array Value) (n m : Nat) (s1 s2 : Array (Option Value)) (hz : xs.size + ys.size ≤ sizeLine) : Meets (Builtin.«list.__add__» ⟨[.ref l, .ref b], []⟩)
    (fun _ R s => s.heap.get? l = some ⟨.type "list", none, .seq xs n, s1⟩ ∧ s.heap.get? b = some ⟨.type "list", none, .seq ys m, s2⟩ ∧
      R (.ok (.ret (.ref s.heap.objs.size))) { s with heap := s.heap.push { cls := .type "list", data := .seq (xs ++ ys) } }) :=
  .of_wp fun prog w A R s h => by
    obtain ⟨hp, g, d, tk, os⟩ := s
    obtain ⟨ha, hb, h⟩ := h
    have t1 := AutoSeq1.sub_list_list
    wp_walk using AutoSeq1.wpAny_loadPart' ha, AutoSeq1.wpAny_loadPart' hb
    exact ⟨_, rfl, h⟩

section
variable {X : Cx}
/-- list + list, of any lists that are read -/
theorem op_catS : OpR X (binaryOp .Add) (fun x y H Q => ∃ l b xs zs, x = .ref l ∧ y = .ref b ∧ SqL X.K H l xs ∧ SqL X.K H b zs ∧ xs.length + zs.length ≤ sizeLine ∧ ∀ p, H p = none → Q (.ref p) (upd H p (.lst (xs ++ zs)))) := by
  intro pins s σ H x y v u Q I rx ry h
  obtain ⟨l, b, xs, zs, rfl, rfl, hH, hB, hz, q⟩ := h
  cases rx
  cases ry
  obtain ⟨i1, r1, ⟨o1, n1, e1, c1, d1, t1⟩, z1⟩ := I.list hH
  obtain ⟨i2, r2, ⟨o2, n2, e2, c2, d2, t2⟩, z2⟩ := I.list hB
  have l1 := r1.length
  have l2 := r2.length
  obtain ⟨oc1, od1, ot1, os1⟩ := o1
  obtain ⟨oc2, od2, ot2, os2⟩ := o2
  simp only at c1 d1 t1 c2 d2 t2
  subst c1 d1 t1 c2 d2 t2
  refine concat_meets ⟨_, e1, rfl⟩ ⟨_, e2, rfl⟩ noFill_list_add seq_list_add F.slot_list_add F.entry_list_add (F.args_list_add_2 _ _)
    (add_lists l b i1.toArray i2.toArray n1 n2 os1 os2 (by simp only [List.size_toArray]; omega)) ⟨e1, e2, ?_⟩
  rw [show i1.toArray ++ i2.toArray = (i1 ++ i2).toArray by simp]
  exact ⟨.ref _, _, I.lnew (t' := s.toks) (r1.append r2) (by rw [List.length_append]; omega), rfl, q _ I.fresh⟩
/-- text * int -/
theorem op_repS : OpR X (binaryOp .Mult) (fun x y H Q => ∃ s n, x = .str (toS s) ∧ y = .int n ∧ s.length * n.toNat ≤ big ∧ -1000000 ≤ n ∧ n ≤ 1000000 ∧ Q (.str (toS (List.replicate n.toNat s).flatten)) H) := by
  intro pins st σ H x y v u Q I rx ry h
  obtain ⟨s, n, rfl, rfl, hz, hn1, hn2, q⟩ := h
  obtain ⟨t, rfl⟩ := rx
  obtain ⟨t', rfl⟩ := ry
  have hb : big = 1000000 := rfl
  have hs := sizeLine_eq
  refine PySem.P.mul_str (by rw [decide_eq_false (by omega), decide_eq_false (by omega)]; rfl) (fun h1 _ => ?_) (fun h1 _ => ?_) ?_
  · rw [toS_length]
    have h3 : (s.length : Int) ≤ 1000000 := by
      have a1 : 1 ≤ n.toNat := by omega
      have a2 : s.length * 1 ≤ s.length * n.toNat := Nat.mul_le_mul_left _ a1
      omega
    have h4 : (1000000 : Int) ≤ (2 ^ 63 - 1) / n := by
      rw [Int.le_ediv_iff_mul_le (by omega)]
      have a3 : (1000000 : Int) * n ≤ 1000000 * 1000000 := Int.mul_le_mul_of_nonneg_left hn2 (by omega)
      omega
    omega
  · show decide (_ > sizeLine) = false
    rw [toS_length]
    exact decide_eq_false (by omega)
  · by_cases h1 : n < 1
    · rw [if_pos h1]
      have e0 : n.toNat = 0 := by omega
      rw [e0] at q
      exact ⟨by decide, ⟨.str _, H, I.tok _, ⟨_, rfl⟩, q⟩⟩
    · rw [if_neg h1]
      by_cases h2 : (n == 1 || (toS s).length == 0) = true
      · rw [if_pos h2]
        have e1 : (List.replicate n.toNat s).flatten = s := by
          rw [Bool.or_eq_true] at h2
          rcases h2 with h2 | h2
          · have : n = 1 := by simpa using h2
            subst this
            simp
          · rw [toS_length] at h2
            have : s = [] := by
              have h3 : s.length = 0 := by simpa using h2
              exact List.eq_nil_of_length_eq_zero h3
            subst this
            simp
        rw [e1] at q
        exact ⟨.str _, H, I, ⟨t, rfl⟩, q⟩
      · rw [if_neg h2]
        have e1 : (List.replicate n.toNat (toS s).cps).foldl (· ++ ·) #[] = (List.replicate n.toNat s).flatten.toArray := by
          have f0 : ∀ (m : Nat) (acc : List Nat), (List.replicate m s.toArray).foldl (· ++ ·) acc.toArray = (acc ++ (List.replicate m s).flatten).toArray := by
            intro m
            induction m with
            | zero => intro acc; simp
            | succ m ih =>
              intro acc
              rw [List.replicate_succ, List.foldl_cons, List.replicate_succ, List.flatten_cons, ← List.append_assoc]
              rw [show acc.toArray ++ s.toArray = (acc ++ s).toArray by simp]
              exact ih _
          have := f0 n.toNat []
          rw [List.nil_append] at this
          exact this
        rw [e1]
        refine ⟨?_, ⟨.str _, H, I.tok _, ⟨_, rfl⟩, q⟩⟩
        show _ ≤ sizeLine
        rw [show (Str.mk (List.replicate n.toNat s).flatten.toArray).length = (List.replicate n.toNat s).flatten.length from toS_length _]
        rw [PyProof.Rows.lm_len_rep_flat, Nat.mul_comm]
        omega

abbrev rBop (X : Cx) (o : Bop) : R2 := r2 X.prog X.w X.K (bopW o)
theorem i64_get {i : Int} (h : i64 i = true) : -(2 ^ 64) < i ∧ i < 2 ^ 64 := by
  unfold i64 at h
  simpa using h
theorem ob_add : OpR X (binaryOp .Add) (rBop X .add) := by
  intro pins s σ H x y v u Q I rx ry h
  obtain ⟨F, w1, w2, sF, h1, h2, ok⟩ := h
  obtain ⟨wv, e, q⟩ := ok.get
  obtain ⟨d, e2, z, hd, he, hz, rfl⟩ := bopW_get e
  rw [hd] at h1
  rw [he] at h2
  cases d <;> cases e2 <;> simp only [binop, reduceCtorEq] at hz
  case int.int i j =>
    cases hz
    cases h1.isInt
    cases h2.isInt
    exact op_add pins s σ H _ _ v u Q I rx ry ⟨i, j, rfl, rfl, fin_sh q sF (.int _)⟩
  case str.str a b =>
    obtain ⟨hn, rfl⟩ := isize_get hz
    obtain ⟨rfl, o1⟩ := h1.isStr
    obtain ⟨rfl, o2⟩ := h2.isStr
    refine op_add_str pins s σ H _ _ v u Q I rx ry ⟨_, _, rfl, rfl, by rw [toS_length, toS_length]; exact big_line hn, ?_⟩
    rw [toS_append]
    exact fin_sh q sF (.str (o1.append o2 hn))
  case tup.tup a b =>
    obtain ⟨hn, rfl⟩ := isize_get hz
    obtain ⟨a1, v1, rfl, q1, f1, p1⟩ := h1.isTup sF
    obtain ⟨a2, v2, rfl, q2, f2, p2⟩ := h2.isTup sF
    have l1 := p1.length
    have l2 := p2.length
    refine op_catA pins s σ H _ _ v u Q I rx ry ⟨a1, a2, v1, v2, rfl, rfl, q1, q2, by rw [l1, l2]; exact big_line hn, fun z => ?_, fun _ z => ?_, fun _ _ p hp => fin_tup q sF hp (p1.append p2)⟩
    · subst z
      cases p1
      exact fin_sh q sF (.tup f2 p2)
    · subst z
      cases p2
      rw [List.append_nil] at q
      exact fin_sh q sF (.tup f1 p1)
  case lst.lst a b =>
    obtain ⟨hn, rfl⟩ := isize_get hz
    obtain ⟨a1, v1, rfl, q1, p1⟩ := h1.isLst sF
    obtain ⟨a2, v2, rfl, q2, p2⟩ := h2.isLst sF
    have l1 := p1.length
    have l2 := p2.length
    exact op_catS pins s σ H _ _ v u Q I rx ry ⟨a1, a2, v1, v2, rfl, rfl, q1, q2, by rw [l1, l2]; exact big_line hn, fun p hp => fin_lst q sF hp (p1.append p2)⟩
theorem ob_sub : OpR X (binaryOp .Sub) (rBop X .sub) := by
  intro pins s σ H x y v u Q I rx ry h
  obtain ⟨F, w1, w2, sF, h1, h2, ok⟩ := h
  obtain ⟨wv, e, q⟩ := ok.get
  obtain ⟨d, e2, z, hd, he, hz, rfl⟩ := bopW_get e
  rw [hd] at h1
  rw [he] at h2
  cases d <;> cases e2 <;> simp only [binop, reduceCtorEq] at hz
  case int.int i j =>
    cases hz
    cases h1.isInt
    cases h2.isInt
    exact op_sub pins s σ H _ _ v u Q I rx ry ⟨i, j, rfl, rfl, fin_sh q sF (.int _)⟩
theorem ob_fdiv : OpR X (binaryOp .FloorDiv) (rBop X .fdiv) := by
  intro pins s σ H x y v u Q I rx ry h
  obtain ⟨F, w1, w2, sF, h1, h2, ok⟩ := h
  obtain ⟨wv, e, q⟩ := ok.get
  obtain ⟨d, e2, z, hd, he, hz, rfl⟩ := bopW_get e
  rw [hd] at h1
  rw [he] at h2
  cases d <;> cases e2 <;> simp only [binop, reduceCtorEq] at hz
  case int.int i j =>
    split at hz
    · rename_i hc
      rw [Bool.and_eq_true, decide_eq_true_eq, decide_eq_true_eq] at hc
      cases hz
      cases h1.isInt
      cases h2.isInt
      exact op_fdiv pins s σ H _ _ v u Q I rx ry ⟨i, j, rfl, rfl, ⟨hc.1, hc.2⟩, fin_sh q sF (.int _)⟩
    · cases hz
theorem ob_mod : OpR X (binaryOp .Mod) (rBop X .mod) := by
  intro pins s σ H x y v u Q I rx ry h
  obtain ⟨F, w1, w2, sF, h1, h2, ok⟩ := h
  obtain ⟨wv, e, q⟩ := ok.get
  obtain ⟨d, e2, z, hd, he, hz, rfl⟩ := bopW_get e
  rw [hd] at h1
  rw [he] at h2
  cases d <;> cases e2 <;> simp only [binop, reduceCtorEq] at hz
  case int.int i j =>
    split at hz
    · rename_i hc
      cases hz
      cases h1.isInt
      cases h2.isInt
      exact op_mod pins s σ H _ _ v u Q I rx ry ⟨i, j, rfl, rfl, hc, fin_sh q sF (.int _)⟩
    · cases hz
theorem ob_pow : OpR X (binaryOp .Pow) (rBop X .pow) := by
  intro pins s σ H x y v u Q I rx ry h
  obtain ⟨F, w1, w2, sF, h1, h2, ok⟩ := h
  obtain ⟨wv, e, q⟩ := ok.get
  obtain ⟨d, e2, z, hd, he, hz, rfl⟩ := bopW_get e
  rw [hd] at h1
  rw [he] at h2
  cases d <;> cases e2 <;> simp only [binop, reduceCtorEq] at hz
  case int.int i j =>
    split at hz
    · rename_i hc
      rw [Bool.and_eq_true, Bool.and_eq_true, decide_eq_true_eq, decide_eq_true_eq] at hc
      have h3 := i64_get hc.2
      cases hz
      cases h1.isInt
      cases h2.isInt
      exact op_pow pins s σ H _ _ v u Q I rx ry ⟨i, j, rfl, rfl, ⟨hc.1.1, hc.1.2, by omega⟩, fin_sh q sF (.int _)⟩
    · cases hz
theorem ob_mul : OpR X (binaryOp .Mult) (rBop X .mul) := by
  intro pins s σ H x y v u Q I rx ry h
  obtain ⟨F, w1, w2, sF, h1, h2, ok⟩ := h
  obtain ⟨wv, e, q⟩ := ok.get
  obtain ⟨d, e2, z, hd, he, hz, rfl⟩ := bopW_get e
  rw [hd] at h1
  rw [he] at h2
  cases d <;> cases e2 <;> simp only [binop, reduceCtorEq] at hz
  case int.int i j =>
    split at hz
    · rename_i hc
      rw [Bool.or_eq_true] at hc
      cases hz
      cases h1.isInt
      cases h2.isInt
      exact op_mul pins s σ H _ _ v u Q I rx ry ⟨i, j, rfl, rfl, hc.imp i64_get i64_get, fin_sh q sF (.int _)⟩
    · cases hz
  case str.int a j =>
    split at hz
    · rename_i hc
      obtain ⟨hn, rfl⟩ := isize_get hz
      obtain ⟨rfl, o1⟩ := h1.isStr
      cases h2.isInt
      exact op_repS pins s σ H _ _ v u Q I rx ry ⟨a, j, rfl, rfl, hn, hc.1, hc.2, fin_sh q sF (.str (o1.rep hn))⟩
    · cases hz
  case tup.int a j =>
    split at hz
    · rename_i hc
      obtain ⟨hn, rfl⟩ := isize_get hz
      obtain ⟨a1, v1, rfl, q1, f1, p1⟩ := h1.isTup sF
      cases h2.isInt
      have l1 := p1.length
      exact op_repT pins s σ H _ _ v u Q I rx ry ⟨a1, j, v1, rfl, rfl, q1, fun z => hc.1 (by
        subst z
        cases p1
        rfl), hc.2.1, hc.2.2.1, by rw [l1]; exact hc.2.2.2, fun p hp => fin_tup q sF hp (p1.rep _)⟩
    · cases hz
end
end Q7
end

section
set_option autoImplicit false
set_option Elab.async false
set_option linter.all false
set_option maxRecDepth 100000
/-! == != < <= > >= in, not in, is, is not -/
namespace Q7
open PySem PySem.Spec PyProof.Rows L2

/-! ### order -/
mutual
theorem alike_py : ∀ a b : D, alike a b = true → PySem.W.alike (toPy a) (toPy b) = true ∧ toPy a ≠ .none
  | .non, b, h => by cases b <;> simp [alike] at h
  | .bl x, b, h => by cases b <;> simp [alike] at h
  | .int x, b, h => by cases b <;> simp [alike, toPy, PySem.W.alike] at h ⊢
  | .str x, b, h => by cases b <;> simp [alike, toPy, PySem.W.alike] at h ⊢
  | .tup xs, b, h => by
    cases b with
    | tup ys =>
      refine ⟨?_, by simp [toPy]⟩
      simp only [toPy, PySem.W.alike]
      exact alikes_py xs ys (by simpa [alike] using h)
    | _ => simp [alike] at h
  | .lst x, b, h => by cases b <;> simp [alike] at h
theorem alikes_py : ∀ a b : List D, alikes a b = true → PySem.W.alikeAll (toPys a) (toPys b) = true
  | [], b, _ => by simp [toPys, PySem.W.alikeAll]
  | x :: xs, [], _ => by simp [toPys, PySem.W.alikeAll]
  | x :: xs, y :: ys, h => by
    have h' : alike x y = true ∧ alikes xs ys = true := by simpa [alikes] using h
    simp only [toPys, PySem.W.alikeAll]
    rw [(alike_py x y h'.1).1, alikes_py xs ys h'.2]
    rfl
end
theorem ltn_eq : ∀ s t : List Nat, ltn s t = decide (s < t)
  | [], [] => by simp [ltn]
  | [], y :: ys => by simp [ltn]
  | x :: xs, [] => by simp [ltn]
  | x :: xs, y :: ys => by
    unfold ltn
    rw [ltn_eq xs ys]
    by_cases h : x = y
    · subst h
      simp [List.cons_lt_cons_iff]
    · rw [if_neg h]
      simp [List.cons_lt_cons_iff, h]
mutual
theorem dlt_py : ∀ a b : D, alike a b = true → PySem.W.dataLt (toPy a) (toPy b) = dlt a b
  | .non, b, h => by cases b <;> simp [alike] at h
  | .bl x, b, h => by cases b <;> simp [alike] at h
  | .int x, b, h => by
    cases b with
    | int y => simp only [toPy, dlt]; exact PySem.W.dataLt_int x y
    | _ => simp [alike] at h
  | .str x, b, h => by
    cases b with
    | str y =>
      simp only [toPy, dlt]
      rw [PySem.W.dataLt_str, ltn_eq]
      rfl
    | _ => simp [alike] at h
  | .tup xs, b, h => by
    cases b with
    | tup ys =>
      simp only [toPy, dlt]
      rw [PySem.W.dataLt_tuple]
      exact dlts_py xs ys (by simpa [alike] using h)
    | _ => simp [alike] at h
  | .lst x, b, h => by cases b <;> simp [alike] at h
theorem dlts_py : ∀ a b : List D, alikes a b = true → PyProof.Rows.lexLt itemOrd (PySem.W.keyToksAll (toPys a)) (PySem.W.keyToksAll (toPys b)) = dlts a b
  | [], [], _ => by simp [toPys, PySem.W.keyToksAll, dlts]; exact lex_irrefl _
  | [], y :: ys, _ => by
    simp only [toPys, PySem.W.keyToksAll, dlts]
    exact (lex_diff (O := itemOrd) (by simp)).trans (by rfl)
  | x :: xs, [], _ => by
    simp only [toPys, PySem.W.keyToksAll, dlts]
    exact (lex_diff (O := itemOrd) (by simp)).trans (by rfl)
  | x :: xs, y :: ys, h => by
    have h' : alike x y = true ∧ alikes xs ys = true := by simpa [alikes] using h
    have ha := (alike_py x y h'.1).1
    simp only [toPys, dlts]
    cases e : eqv x y with
    | true =>
      rw [PySem.W.dataLt_all_yes ha (by rw [eqv_py]; exact e), dlts_py xs ys h'.2]
      rfl
    | false =>
      rw [PySem.W.dataLt_all_no ha (by rw [eqv_py]; exact e), dlt_py x y h'.1]
      rfl
end

/-! ### a text within a text -/
theorem pre_take (x : List Nat) : ∀ y : List Nat, x.isPrefixOf y = (y.take x.length == x) := by
  induction x with
  | nil => intro y; simp
  | cons a r ih =>
    intro y
    cases y with
    | nil => simp
    | cons b t =>
      have e := ih t
      by_cases h : a = b
      · subst h
        simp [List.isPrefixOf, e]
      · have h2 : ¬ b = a := fun z => h z.symm
        rw [List.length_cons, List.take_succ_cons]
        simp only [List.isPrefixOf, List.cons_beq_cons, beq_eq_false_iff_ne.mpr h, beq_eq_false_iff_ne.mpr h2, Bool.false_and]
theorem isInfix_iff (x : List Nat) : ∀ y : List Nat, isInfix x y = true ↔ ∃ i, i + x.length ≤ y.length ∧ ((y.drop i).take x.length == x) = true
  | [] => by
    unfold isInfix
    rw [pre_take]
    constructor
    · intro h
      have h' : x = [] := by simpa using h
      subst h'
      exact ⟨0, by simp, by simp⟩
    · rintro ⟨i, h1, h2⟩
      have : x = [] := List.eq_nil_of_length_eq_zero (by rw [List.length_nil] at h1; omega)
      subst this
      simp
  | c :: r => by
    unfold isInfix
    rw [Bool.or_eq_true, isInfix_iff x r, pre_take]
    constructor
    · rintro (h | ⟨i, h1, h2⟩)
      · refine ⟨0, ?_, by simpa using h⟩
        have h' : List.take x.length (c :: r) = x := by simpa using h
        have := congrArg List.length h'
        rw [List.length_take] at this
        omega
      · exact ⟨i + 1, by simp; omega, by simpa using h2⟩
    · rintro ⟨i, h1, h2⟩
      cases i with
      | zero => exact .inl (by simpa using h2)
      | succ i => exact .inr ⟨i, by rw [List.length_cons] at h1; omega, by simpa using h2⟩
theorem infix_occ (x y : List Nat) : (!(Builtin.Str.occurrences (toS y) (toS x) 0 (toS y).length 1).isEmpty) = isInfix x y := by
  rw [Bool.eq_iff_iff, StrLaws.found_iff, isInfix_iff]
  simp only [StrLaws.subAt_eq, toS_length]
  exact Iff.rfl

/-! ### by values -/
theorem cmpW_d {o : Cop} {a b c : W} {e : D} (h : cmpW o a b = some c) (hb : b.x = .d e) : ∃ d z, a.x = .d d ∧ cmpop o d e = some z ∧ c = ⟨.sh, .d (.bl z)⟩ := by
  simp only [cmpW, Option.bind_eq_bind, Option.bind_eq_some_iff] at h
  obtain ⟨d, h1, h2⟩ := h
  rw [hb] at h2
  simp only [Option.bind_eq_some_iff, Option.some.injEq] at h2
  obtain ⟨z, h3, h4⟩ := h2
  exact ⟨d, z, dat_get h1, h3, h4.symm⟩
theorem cmpW_bl {o : Cop} {a b c : W} (h : cmpW o a b = some c) : ∃ t, c = ⟨.sh, .d (.bl t)⟩ := by
  cases hb : b.x with
  | d e =>
    obtain ⟨d, z, _, _, e2⟩ := cmpW_d h hb
    exact ⟨z, e2⟩
  | m ks vs =>
    simp only [cmpW, Option.bind_eq_bind, Option.bind_eq_some_iff] at h
    obtain ⟨d, h1, h2⟩ := h
    rw [hb] at h2
    cases o <;> simp only [reduceCtorEq] at h2
    · split at h2
      · exact ⟨_, (Option.some.inj h2).symm⟩
      · cases h2
    · split at h2
      · exact ⟨_, (Option.some.inj h2).symm⟩
      · cases h2
theorem bounded_get {d e : D} (h : bounded d e = true) : min (depth d) (depth e) ≤ 64 := by simpa [bounded] using h

section
variable {X : Cx}
abbrev rCop (X : Cx) (o : Cop) : R2 := r2 X.prog X.w X.K (cmpW o)
theorem oc_eq (hu : X.A.units + 66 < cLine) : OpR X (compareOp .Eq) (rCop X .eq) := by
  intro pins s σ H x y v u Q I rx ry h
  obtain ⟨F, w1, w2, sF, h1, h2, ok⟩ := h
  obtain ⟨wv, e, q⟩ := ok.get
  cases hb : w2.x with
  | m ks vs =>
    simp only [cmpW, Option.bind_eq_bind, Option.bind_eq_some_iff, hb, reduceCtorEq, and_false, exists_false] at e
  | d e2 =>
    obtain ⟨d, z, hd, hz, rfl⟩ := cmpW_d e hb
    rw [hd] at h1
    rw [hb] at h2
    simp only [cmpop] at hz
    split at hz
    · rename_i hbd
      cases hz
      have p1 : Rp X.K H x d := h1.rp sF
      have p2 : Rp X.K H y e2 := h2.rp sF
      obtain ⟨as, r1⟩ := Dp.reads I _ x v p1.dp rx
      obtain ⟨bs, r2⟩ := Dp.reads I _ y u p2.dp ry
      have hm := bounded_get hbd
      refine SeqAt.compareEq_reads r1 r2 p1.lay p2.lay (by rw [depth_py, depth_py]; omega) ?_
      rw [eqv_py]
      exact ⟨.bl _, H, I, rfl, fin_sh q sF (.bl _)⟩
    · cases hz
theorem oc_ne (hu : X.A.units + 66 < cLine) : OpR X (compareOp .NotEq) (rCop X .ne) := by
  intro pins s σ H x y v u Q I rx ry h
  obtain ⟨F, w1, w2, sF, h1, h2, ok⟩ := h
  obtain ⟨wv, e, q⟩ := ok.get
  cases hb : w2.x with
  | m ks vs =>
    simp only [cmpW, Option.bind_eq_bind, Option.bind_eq_some_iff, hb, reduceCtorEq, and_false, exists_false] at e
  | d e2 =>
    obtain ⟨d, z, hd, hz, rfl⟩ := cmpW_d e hb
    rw [hd] at h1
    rw [hb] at h2
    simp only [cmpop] at hz
    split at hz
    · rename_i hbd
      cases hz
      have p1 : Rp X.K H x d := h1.rp sF
      have p2 : Rp X.K H y e2 := h2.rp sF
      obtain ⟨as, r1⟩ := Dp.reads I _ x v p1.dp rx
      obtain ⟨bs, r2⟩ := Dp.reads I _ y u p2.dp ry
      have hm := bounded_get hbd
      refine SeqAt.compareNe_reads r1 r2 p1.lay p2.lay (by rw [depth_py, depth_py]; omega) ?_
      rw [eqv_py]
      exact ⟨.bl _, H, I, rfl, fin_sh q sF (.bl _)⟩
    · cases hz
theorem lessThan_get {d e : D} {z : Bool} (h : lessThan d e = some z) : alike d e = true ∧ min (depth d) (depth e) ≤ 64 ∧ z = dlt d e := by
  unfold lessThan at h
  split at h
  · rename_i hc
    rw [Bool.and_eq_true] at hc
    cases h
    exact ⟨hc.1, bounded_get hc.2, rfl⟩
  · cases h
mutual
theorem alike_sym : ∀ a b : D, alike a b = true → alike b a = true
  | .non, b, h => by cases b <;> simp [alike] at h
  | .bl x, b, h => by cases b <;> simp [alike] at h
  | .int x, b, h => by cases b <;> simp [alike] at h ⊢
  | .str x, b, h => by cases b <;> simp [alike] at h ⊢
  | .tup xs, b, h => by
    cases b with
    | tup ys => simp only [alike] at h ⊢; exact alikes_sym xs ys h
    | _ => simp [alike] at h
  | .lst x, b, h => by cases b <;> simp [alike] at h
theorem alikes_sym : ∀ a b : List D, alikes a b = true → alikes b a = true
  | [], [], _ => rfl
  | [], _ :: _, _ => rfl
  | _ :: _, [], _ => rfl
  | x :: xs, y :: ys, h => by
    have h' : alike x y = true ∧ alikes xs ys = true := by simpa [alikes] using h
    simp only [alikes]
    rw [alike_sym x y h'.1, alikes_sym xs ys h'.2]
    rfl
end
theorem oc_lt (hu : X.A.units + 66 < cLine) : OpR X (compareOp .Lt) (rCop X .lt) := by
  intro pins s σ H x y v u Q I rx ry h
  obtain ⟨F, w1, w2, sF, h1, h2, ok⟩ := h
  obtain ⟨wv, e, q⟩ := ok.get
  cases hb : w2.x with
  | m ks vs => simp only [cmpW, Option.bind_eq_bind, Option.bind_eq_some_iff, hb, reduceCtorEq, and_false, exists_false] at e
  | d e2 =>
    obtain ⟨d, z, hd, hz, rfl⟩ := cmpW_d e hb
    rw [hd] at h1
    rw [hb] at h2
    obtain ⟨ha, hm, rfl⟩ := lessThan_get hz
    have p1 : Rp X.K H x d := h1.rp sF
    have p2 : Rp X.K H y e2 := h2.rp sF
    obtain ⟨as, r1⟩ := Dp.reads I _ x v p1.dp rx
    obtain ⟨bs, r2⟩ := Dp.reads I _ y u p2.dp ry
    refine PySem.W.lt_data r1 r2 (alike_py _ _ ha).1 (alike_py _ _ ha).2 (by rw [depth_py, depth_py]; omega) ?_
    rw [dlt_py _ _ ha]
    exact ⟨.bl _, H, I, rfl, fin_sh q sF (.bl _)⟩
theorem oc_gt (hu : X.A.units + 66 < cLine) : OpR X (compareOp .Gt) (rCop X .gt) := by
  intro pins s σ H x y v u Q I rx ry h
  obtain ⟨F, w1, w2, sF, h1, h2, ok⟩ := h
  obtain ⟨wv, e, q⟩ := ok.get
  cases hb : w2.x with
  | m ks vs => simp only [cmpW, Option.bind_eq_bind, Option.bind_eq_some_iff, hb, reduceCtorEq, and_false, exists_false] at e
  | d e2 =>
    obtain ⟨d, z, hd, hz, rfl⟩ := cmpW_d e hb
    rw [hd] at h1
    rw [hb] at h2
    obtain ⟨ha, hm, rfl⟩ := lessThan_get hz
    have p1 : Rp X.K H x d := h1.rp sF
    have p2 : Rp X.K H y e2 := h2.rp sF
    obtain ⟨as, r1⟩ := Dp.reads I _ x v p1.dp rx
    obtain ⟨bs, r2⟩ := Dp.reads I _ y u p2.dp ry
    have ha' := alike_sym _ _ ha
    refine PySem.W.gt_data r1 r2 (alike_py _ _ ha').1 (alike_py _ _ ha').2 (by rw [depth_py, depth_py]; omega) ?_
    rw [dlt_py _ _ ha]
    exact ⟨.bl _, H, I, rfl, fin_sh q sF (.bl _)⟩
theorem oc_le (hu : X.A.units + 66 < cLine) : OpR X (compareOp .LtE) (rCop X .le) := by
  intro pins s σ H x y v u Q I rx ry h
  obtain ⟨F, w1, w2, sF, h1, h2, ok⟩ := h
  obtain ⟨wv, e, q⟩ := ok.get
  cases hb : w2.x with
  | m ks vs => simp only [cmpW, Option.bind_eq_bind, Option.bind_eq_some_iff, hb, reduceCtorEq, and_false, exists_false] at e
  | d e2 =>
    obtain ⟨d, z, hd, hz, rfl⟩ := cmpW_d e hb
    rw [hd] at h1
    rw [hb] at h2
    simp only [cmpop, Option.bind_eq_bind, Option.bind_eq_some_iff, Option.some.injEq] at hz
    obtain ⟨z', hz, rfl⟩ := hz
    obtain ⟨ha, hm, rfl⟩ := lessThan_get hz
    have p1 : Rp X.K H x d := h1.rp sF
    have p2 : Rp X.K H y e2 := h2.rp sF
    obtain ⟨as, r1⟩ := Dp.reads I _ x v p1.dp rx
    obtain ⟨bs, r2⟩ := Dp.reads I _ y u p2.dp ry
    have ha' := alike_sym _ _ ha
    refine PySem.W.le_data r1 r2 (alike_py _ _ ha').1 (alike_py _ _ ha').2 (by rw [depth_py, depth_py]; omega) ?_
    rw [dlt_py _ _ ha]
    exact ⟨.bl _, H, I, rfl, fin_sh q sF (.bl _)⟩
theorem oc_ge (hu : X.A.units + 66 < cLine) : OpR X (compareOp .GtE) (rCop X .ge) := by
  intro pins s σ H x y v u Q I rx ry h
  obtain ⟨F, w1, w2, sF, h1, h2, ok⟩ := h
  obtain ⟨wv, e, q⟩ := ok.get
  cases hb : w2.x with
  | m ks vs => simp only [cmpW, Option.bind_eq_bind, Option.bind_eq_some_iff, hb, reduceCtorEq, and_false, exists_false] at e
  | d e2 =>
    obtain ⟨d, z, hd, hz, rfl⟩ := cmpW_d e hb
    rw [hd] at h1
    rw [hb] at h2
    simp only [cmpop, Option.bind_eq_bind, Option.bind_eq_some_iff, Option.some.injEq] at hz
    obtain ⟨z', hz, rfl⟩ := hz
    obtain ⟨ha, hm, rfl⟩ := lessThan_get hz
    have p1 : Rp X.K H x d := h1.rp sF
    have p2 : Rp X.K H y e2 := h2.rp sF
    obtain ⟨as, r1⟩ := Dp.reads I _ x v p1.dp rx
    obtain ⟨bs, r2⟩ := Dp.reads I _ y u p2.dp ry
    refine PySem.W.ge_data r1 r2 (alike_py _ _ ha).1 (alike_py _ _ ha).2 (by rw [depth_py, depth_py]; omega) ?_
    rw [dlt_py _ _ ha]
    exact ⟨.bl _, H, I, rfl, fin_sh q sF (.bl _)⟩
end
end Q7
end

section
set_option autoImplicit false
set_option Elab.async false
set_option linter.all false
set_option maxRecDepth 100000
/-! Dicts: keys and entries. -/
namespace Q7
open PySem PySem.Spec PyProof.Rows L2

mutual
theorem eqv_nk : ∀ a b : D, key0 a = true → key0 b = true → eqv a b = NestedKey.beq (nk a) (nk b)
  | .non, _, h, _ => by simp [key0] at h
  | .bl _, _, h, _ => by simp [key0] at h
  | .lst _, _, h, _ => by simp [key0] at h
  | .int i, b, _, h => by
    cases b with
    | int j => simp only [eqv, nk, NestedKey.beq]; exact (Bool.beq_eq_decide_eq i j)
    | str _ => simp [eqv, nk, NestedKey.beq]
    | tup _ => simp [eqv, nk, NestedKey.beq]
    | _ => simp [key0] at h
  | .str s, b, _, h => by
    cases b with
    | int j => simp [eqv, nk, NestedKey.beq]
    | str t =>
      simp only [eqv, nk, NestedKey.beq]
      rw [← toS_beq]
      exact (Bool.beq_eq_decide_eq _ _)
    | tup _ => simp [eqv, nk, NestedKey.beq]
    | _ => simp [key0] at h
  | .tup xs, b, h0, h => by
    cases b with
    | int j => simp [eqv, nk, NestedKey.beq]
    | str t => simp [eqv, nk, NestedKey.beq]
    | tup ys => simp only [eqv, nk, NestedKey.beq]; exact eqvs_nk xs ys (by simpa [key0] using h0) (by simpa [key0] using h)
    | _ => simp [key0] at h
theorem eqvs_nk : ∀ a b : List D, keys0 a = true → keys0 b = true → eqvs a b = NestedKey.beqAll (nks a) (nks b)
  | [], [], _, _ => by simp [eqvs, nks, NestedKey.beqAll]
  | [], _ :: _, _, _ => by simp [eqvs, nks, NestedKey.beqAll]
  | _ :: _, [], _, _ => by simp [eqvs, nks, NestedKey.beqAll]
  | x :: xs, y :: ys, h, h' => by
    simp only [keys0, Bool.and_eq_true] at h h'
    simp only [eqvs, nks, NestedKey.beqAll]
    rw [eqv_nk x y h.1 h'.1, eqvs_nk xs ys h.2 h'.2]
end
mutual
theorem nk_depth : ∀ d : D, key0 d = true → (nk d).depth = depth d
  | .non, h => by simp [key0] at h
  | .bl _, h => by simp [key0] at h
  | .lst _, h => by simp [key0] at h
  | .int i, _ => by simp [nk, NestedKey.depth, depth]
  | .str i, _ => by simp [nk, NestedKey.depth, depth]
  | .tup xs, h => by simp only [nk, NestedKey.depth, depth]; rw [nks_depth xs (by simpa [key0] using h)]
theorem nks_depth : ∀ d : List D, keys0 d = true → NestedKey.depthAll (nks d) = depths d
  | [], _ => by simp [nks, NestedKey.depthAll, depths]
  | x :: xs, h => by
    simp only [keys0, Bool.and_eq_true] at h
    simp only [nks, NestedKey.depthAll, depths]; rw [nk_depth x h.1, nks_depth xs h.2]
end
theorem cat2 {d : D} (h : cat d = 2) : ∃ xs, d = .tup xs ∧ keys0 xs = true ∧ depths xs ≤ 6 := by
  cases d with
  | tup xs =>
    simp only [cat] at h
    split at h
    · rename_i hc
      rw [Bool.and_eq_true, decide_eq_true_eq] at hc
      exact ⟨xs, rfl, hc.1, hc.2⟩
    · cases h
  | _ => simp [cat] at h
theorem cat1 {d : D} (h : cat d = 1) : ∃ q, sk d = some q := by
  cases d with
  | int i => exact ⟨_, rfl⟩
  | str s => exact ⟨_, rfl⟩
  | tup xs =>
    simp only [cat] at h
    split at h <;> simp at h
  | _ => simp [cat] at h
theorem cat_sk {d : D} {q : Key} (h : sk d = some q) : cat d = 1 := by
  cases d <;> simp [sk] at h <;> rfl
theorem cat_le (d : D) : cat d = 0 ∨ cat d = 1 ∨ cat d = 2 := by
  cases d with
  | tup xs =>
    simp only [cat]
    split
    · exact .inr (.inr rfl)
    · exact .inl rfl
  | _ => simp [cat]
theorem eqv_sk {a b : D} {q r : Key} (h : sk a = some q) (h' : sk b = some r) : eqv a b = decide (q = r) := by
  cases a <;> simp [sk] at h <;> cases b <;> simp [sk] at h' <;> subst h <;> subst h'
  · simp only [eqv]; rw [key_ll]
  · simp only [eqv]; rw [key_lr]
  · simp only [eqv]; rw [key_rl]
  · simp only [eqv]; rw [key_rr, ← toS_beq]; exact Bool.beq_eq_decide_eq _ _
theorem sk_V {K : PySem.W.Frag} {F : Hp} {y : V} {d : D} {q : Key} (h : sk d = some q) (r : Rp K F y d) : y = kV q := by
  cases d <;> simp [sk] at h <;> subst h <;> cases r <;> rfl

section
variable {X : Cx} {pins : List (Addr × Obj)} {σ : L2.St} {H F : Hp} {s : Shared}
mutual
theorem Rp.nested (I : Inv X pins σ H s) (sF : Sub F H) : ∀ {v : V} {d : D} {u : Value}, Rp X.K F v d → key0 d = true → RelV v u → NestedIs s.heap (nk d) u
  | _, _, _, .non, h, _ => by simp [key0] at h
  | _, _, _, .bl _, h, _ => by simp [key0] at h
  | _, _, _, .lst _ _, h, _ => by simp [key0] at h
  | _, _, _, .int i, _, r => by obtain ⟨t, rfl⟩ := r; exact .int _ _
  | _, _, _, .str o, _, r => by obtain ⟨t, rfl⟩ := r; exact .text _ _
  | _, _, _, .tup q rs, h, r => by
    obtain ⟨its, rv, ⟨o, h1, h2, n, h3⟩, _⟩ := I.tuple (sF.sqT q)
    cases r
    rw [nk]
    exact .tup h1 h2 h3 (by
      have e := Rps.nested I sF rs (by simpa [key0] using h) rv
      simpa using e)
theorem Rps.nested (I : Inv X pins σ H s) (sF : Sub F H) : ∀ {vs : List V} {ds : List D} {us : List Value}, Rps X.K F vs ds → keys0 ds = true → Vals vs us → NestedAll s.heap (nks ds) us
  | _, _, _, .nil, _, r => by cases r; exact .nil
  | _, _, _, .cons a b, h, r => by
    simp only [keys0, Bool.and_eq_true] at h
    cases r with
    | cons r1 r2 => exact .cons (Rp.nested I sF a h.1 r1) (Rps.nested I sF b h.2 r2)
end
/-- a tuple as a key -/
theorem Rp.nkey (I : Inv X pins σ H s) (sF : Sub F H) {y : V} {d : D} (r : Rp X.K F y d) (hc : cat d = 2) : ∃ b, y = .ref b ∧ (nestedKind X.prog X.w).is s.heap (nk d) b := by
  obtain ⟨xs, rfl, h1, h2⟩ := cat2 hc
  cases r with
  | tup q rs =>
    rename_i a vs
    refine ⟨a, rfl, Rp.nested I sF (.tup q rs) (by simpa [key0] using h1) rfl, ?_⟩
    rw [nk_depth _ (by simpa [key0] using h1), depth]
    omega
theorem Ents.len {xs ks vs} (h : Ents X.K F xs ks vs) : xs.length = ks.length := by
  induction h with
  | nil => rfl
  | cons _ _ ih => rw [List.length_cons, List.length_cons, ih]
theorem Kvs.len {xs ks vs} (h : Kvs X.K F xs ks vs) : xs.length = ks.length := by
  induction h with
  | nil => rfl
  | cons _ _ _ _ ih => rw [List.length_cons, List.length_cons, ih]

/-- the dict's object, where its keys are tuples -/
theorem Mp.heapN (I : Inv X pins σ H s) (sF : Sub F H) {a : Addr} {o : Obj} {es : Array DictEntry} {ep : Nat} {xs : List (NestedKey × Addr × Value)} {ks vs : List D} (h1 : H a = some (.ext fun h => h.get? a = some o)) (h3 : o.ExactDict) (h4 : o.data = .dict es ep)
    (h5 : es.toList = xs.map (entryOfKey (nestedKind X.prog X.w))) (h6 : (xs.map (·.1)).Nodup) (h9 : Ents X.K F xs ks vs) : s.heap.DictOfH (nestedKind X.prog X.w) a xs := by
  have g : s.heap.get? a = some o := (I.hok a _ h1).1
  refine ⟨o, es, ep, g, h3, h4, h5, ?_, h6⟩
  clear h5 h6
  induction h9 with
  | nil => intro x hx; exact nomatch hx
  | cons e r ih =>
    intro x hx
    rcases List.mem_cons.mp hx with rfl | hx
    · obtain ⟨b, hb, hk⟩ := e.rep.nkey I sF e.cat
      cases hb
      rw [e.key]; exact hk
    · exact ih x hx
/-- an empty dict is one of any kind -/
theorem dict_nil (I : Inv X pins σ H s) {a : Addr} (h : H a = some (.dK [])) : (a == sysModules) = false ∧ s.heap.DictOfH (nestedKind X.prog X.w) a [] := by
  obtain ⟨z, hd, vs, rel, o, es, ep, h1, h2, h3, _, h4, h5⟩ := dk_of I.hok h
  cases rel
  exact ⟨hd, o, es, ep, h1, h2, h3, by
    have e : es.toList = [] := List.eq_nil_of_length_eq_zero (h4.length.trans rfl)
    rw [e]; rfl, fun _ q => (nomatch q), List.nodup_nil⟩

/-- what the dict has at a key -/
theorem Mp.at (I : Inv X pins σ H s) (sF : Sub F H) {a : Addr} {ks vs : List D} {kd : D} {y : V} (m : Mp X.prog X.w X.K H F a ks vs) (hf : fitsK kd ks = true) (r : Rp X.K F y kd) :
    (∃ kvs q, H a = some (.dK kvs) ∧ (kvs.map (·.1)).Nodup ∧ sk kd = some q ∧ y = kV q ∧ Kvs X.K F kvs ks vs) ∨
    ∃ b xs, y = .ref b ∧ cat kd = 2 ∧ (nestedKind X.prog X.w).is s.heap (nk kd) b ∧ (a == sysModules) = false ∧ s.heap.DictOfH (nestedKind X.prog X.w) a xs ∧ Ents X.K F xs ks vs ∧ xs.length ≤ sizeLine ∧ Mut (H a) := by
  cases m with
  | sc kvs h1 h2 h3 =>
    cases h3 with
    | nil =>
      have hc : cat kd ≠ 0 := by simpa [fitsK] using hf
      rcases cat_le kd with h | h | h
      · exact absurd h hc
      · obtain ⟨q, hq⟩ := cat1 h
        exact .inl ⟨[], q, h1, h2, hq, sk_V hq r, .nil⟩
      · obtain ⟨b, hb, hk⟩ := r.nkey I sF h
        obtain ⟨hd, dd⟩ := dict_nil I h1
        exact .inr ⟨b, [], hb, h, hk, hd, dd, .nil, Nat.zero_le _, by rw [h1]; exact True.intro⟩
    | cons e1 e2 e3 e4 =>
      rename_i k0 _ _ _
      have hc : cat kd ≠ 0 ∧ cat kd = cat k0 := by simpa [fitsK] using hf
      obtain ⟨q, hq⟩ := cat1 (hc.2.trans (cat_sk e1))
      exact .inl ⟨_, q, h1, h2, hq, sk_V hq r, .cons e1 e2 e3 e4⟩
  | ne o es ep xs h1 h2 h3 h4 h5 h6 h7 h8 h9 =>
    cases h9 with
    | nil => exact absurd rfl h8
    | cons e er =>
      rename_i k0 _ _ _
      have hc : cat kd ≠ 0 ∧ cat kd = cat k0 := by simpa [fitsK] using hf
      have h : cat kd = 2 := hc.2.trans e.cat
      obtain ⟨b, hb, hk⟩ := r.nkey I sF h
      exact .inr ⟨b, _, hb, h, hk, h2, Mp.heapN I sF h1 h3 h4 h5 h6 (.cons e er), .cons e er, h7, by rw [h1]; exact True.intro⟩
end
section
variable {K : PySem.W.Frag} {F : Hp}
theorem Kvs.find {kvs : List (Key × V)} {ks vs : List D} {kd : D} {q : Key} (h : Kvs K F kvs ks vs) (hq : sk kd = some q) :
    (∃ u v, valV kvs q = some u ∧ getK kd ks vs = some v ∧ Rp K F u v ∧ hasK kd ks = true) ∨ (valV kvs q = none ∧ getK kd ks vs = none ∧ hasK kd ks = false) := by
  induction h with
  | nil => exact .inr ⟨rfl, by simp [getK], by simp [hasK]⟩
  | @cons q' u kvs k ks v vs e1 e2 e3 e4 ih =>
    have ee : eqv k kd = decide (q' = q) := eqv_sk e1 hq
    by_cases hc : q' = q
    · rw [decide_eq_true hc] at ee
      exact .inl ⟨u, v, valV_pos hc, by simp [getK, ee], e3, by simp [hasK, ee]⟩
    · rw [decide_eq_false hc] at ee
      rw [valV_neg hc]
      simp only [getK, ee, hasK, List.any_cons, Bool.false_or, Bool.false_eq_true, if_false] at ih ⊢
      exact ih
theorem atKey_pos {x : NestedKey × Addr × Value} {xs : List (NestedKey × Addr × Value)} {k : NestedKey} (h : x.1 = k) : atKey (x :: xs) k = some x.2 := by simp [atKey, List.find?_cons, h]
theorem atKey_neg {x : NestedKey × Addr × Value} {xs : List (NestedKey × Addr × Value)} {k : NestedKey} (h : ¬ x.1 = k) : atKey (x :: xs) k = atKey xs k := by simp [atKey, List.find?_cons, h]
theorem eqv_cat2 {a b : D} (h : cat a = 2) (h' : cat b = 2) : eqv a b = decide (nk a = nk b) := by
  obtain ⟨xs, rfl, h1, _⟩ := cat2 h
  obtain ⟨ys, rfl, h2, _⟩ := cat2 h'
  rw [NestedKey.decide_eq]
  exact eqv_nk _ _ (by simpa [key0] using h1) (by simpa [key0] using h2)
theorem Ents.find {xs : List (NestedKey × Addr × Value)} {ks vs : List D} {kd : D} (h : Ents K F xs ks vs) (hq : cat kd = 2) :
    (∃ p u v, atKey xs (nk kd) = some p ∧ RelV u p.2 ∧ getK kd ks vs = some v ∧ Rp K F u v ∧ hasK kd ks = true) ∨ (atKey xs (nk kd) = none ∧ getK kd ks vs = none ∧ hasK kd ks = false) := by
  induction h with
  | nil => exact .inr ⟨rfl, by simp [getK], by simp [hasK]⟩
  | @cons x xs k ks v vs e er ih =>
    have ee : eqv k kd = decide (nk k = nk kd) := eqv_cat2 e.cat hq
    by_cases hc : nk k = nk kd
    · rw [decide_eq_true hc] at ee
      obtain ⟨u, r, p⟩ := e.val
      exact .inl ⟨x.2, u, v, atKey_pos (e.key.trans hc), r, by simp [getK, ee], p, by simp [hasK, ee]⟩
    · rw [decide_eq_false hc] at ee
      rw [atKey_neg (fun z => hc (e.key.symm.trans z))]
      simp only [getK, ee, hasK, List.any_cons, Bool.false_or, Bool.false_eq_true, if_false] at ih ⊢
      exact ih
/-! stores -/
theorem Kvs.snoc {kvs : List (Key × V)} {ks vs : List D} {k v : D} {q : Key} {u : V} (h : Kvs K F kvs ks vs) (h1 : sk k = some q) (h2 : Rp K F (kV q) k) (h3 : Rp K F u v) : Kvs K F (kvs ++ [(q, u)]) (ks ++ [k]) (vs ++ [v]) := by
  induction h with
  | nil => exact .cons h1 h2 h3 .nil
  | cons e1 e2 e3 e4 ih => exact .cons e1 e2 e3 ih
theorem Kvs.none {kvs : List (Key × V)} {ks vs : List D} {kd : D} {q : Key} {u : V} (h : Kvs K F kvs ks vs) (hq : sk kd = some q) (hn : q ∉ kvs.map (·.1)) : kvs.map (fun kv => if kv.1 = q then (kv.1, u) else kv) = kvs := by
  conv => rhs; rw [← List.map_id kvs]
  refine List.map_congr_left fun kv hk => ?_
  rw [if_neg (fun z => hn (List.mem_map.mpr ⟨kv, hk, z⟩))]; rfl
theorem Kvs.set {kvs : List (Key × V)} {ks vs : List D} {kd vd : D} {q : Key} {u : V} (h : Kvs K F kvs ks vs) (hq : sk kd = some q) (hn : (kvs.map (·.1)).Nodup) (r : Rp K F u vd) :
    Kvs K F (kvs.map fun kv => if kv.1 = q then (kv.1, u) else kv) ks (setK kd vd ks vs) := by
  induction h with
  | nil => simp only [setK]; exact .nil
  | @cons q' u' kvs k ks v vs e1 e2 e3 e4 ih =>
    have ee : eqv k kd = decide (q' = q) := eqv_sk e1 hq
    rw [List.map_cons, List.nodup_cons] at hn
    rw [List.map_cons]
    by_cases hc : q' = q
    · subst hc
      rw [decide_eq_true rfl] at ee
      simp only [if_true, setK, ee]
      rw [Kvs.none e4 hq hn.1]
      exact .cons e1 e2 r e4
    · rw [decide_eq_false hc] at ee
      simp only [if_neg hc, setK, ee, Bool.false_eq_true, if_false]
      exact .cons e1 e2 e3 (ih hn.2)
theorem Kvs.put {kvs : List (Key × V)} {ks vs : List D} {kd vd : D} {q : Key} {u : V} (h : Kvs K F kvs ks vs) (hq : sk kd = some q) (hk : Rp K F (kV q) kd) (hn : (kvs.map (·.1)).Nodup) (r : Rp K F u vd) :
    Kvs K F (L2.putK kvs q u) (Q7.putK kd vd ks vs).1 (Q7.putK kd vd ks vs).2 ∧ ((L2.putK kvs q u).map (·.1)).Nodup := by
  rcases h.find hq with ⟨u', v', h1, h2, h3, h4⟩ | ⟨h1, h2, h4⟩
  · have ha : (kvs.any fun kv => decide (kv.1 = q)) = true := by rw [valV_any, h1]; rfl
    unfold L2.putK Q7.putK
    rw [if_pos ha, if_pos h4]
    refine ⟨h.set hq hn r, ?_⟩
    rw [List.map_map]
    have e : (kvs.map ((fun x => x.1) ∘ fun kv => if kv.1 = q then (kv.1, u) else kv)) = kvs.map (·.1) := List.map_congr_left fun kv _ => by
      by_cases hc : kv.1 = q <;> simp [hc]
    rw [e]; exact hn
  · rw [putK_new u h1]
    unfold Q7.putK
    rw [if_neg (by rw [h4]; simp)]
    refine ⟨h.snoc hq hk r, ?_⟩
    rw [List.map_append, List.nodup_append]
    refine ⟨hn, by simp, fun x hx y hy => ?_⟩
    have hy' : y = q := by simpa using hy
    subst hy'
    intro z
    subst z
    obtain ⟨kv, hkv, e⟩ := List.mem_map.mp hx
    have ha : (kvs.any fun kv => decide (kv.1 = x)) = true := List.any_eq_true.mpr ⟨kv, hkv, by simp [e]⟩
    rw [valV_any, h1] at ha
    cases ha
theorem Ents.snoc {xs : List (NestedKey × Addr × Value)} {ks vs : List D} {x : NestedKey × Addr × Value} {k v : D} (h : Ents K F xs ks vs) (e : Ent K F x k v) : Ents K F (xs ++ [x]) (ks ++ [k]) (vs ++ [v]) := by
  induction h with
  | nil => exact .cons e .nil
  | cons e1 er ih => exact .cons e1 ih
theorem Ents.set {xs : List (NestedKey × Addr × Value)} {ks vs : List D} {kd vd : D} {u : V} {r : Value} (h : Ents K F xs ks vs) (hq : cat kd = 2) (hn : (xs.map (·.1)).Nodup) (ru : RelV u r) (rp : Rp K F u vd) :
    Ents K F (xs.map (putAt (nk kd) r)) ks (setK kd vd ks vs) := by
  induction h with
  | nil => simp only [setK]; exact .nil
  | @cons x xs k ks v vs e er ih =>
    have ee : eqv k kd = decide (nk k = nk kd) := eqv_cat2 e.cat hq
    rw [List.map_cons, List.nodup_cons] at hn
    rw [List.map_cons]
    by_cases hc : nk k = nk kd
    · rw [decide_eq_true hc] at ee
      simp only [setK, ee, if_true]
      have hx : x.1 = nk kd := e.key.trans hc
      have e0 : xs.map (putAt (nk kd) r) = xs := by
        conv => rhs; rw [← List.map_id xs]
        refine List.map_congr_left fun kv hk => ?_
        unfold putAt
        rw [if_neg (fun z => hn.1 (List.mem_map.mpr ⟨kv, hk, z.trans hx.symm⟩))]; rfl
      rw [e0]
      refine .cons ?_ er
      unfold putAt
      rw [if_pos hx]
      exact ⟨e.key, e.cat, e.rep, u, ru, rp⟩
    · rw [decide_eq_false hc] at ee
      simp only [setK, ee, Bool.false_eq_true, if_false]
      refine .cons ?_ (ih hn.2)
      unfold putAt
      rw [if_neg (fun z => hc (e.key.symm.trans z))]
      exact e
theorem Ents.put {xs : List (NestedKey × Addr × Value)} {ks vs : List D} {kd vd : D} {u : V} {r : Value} {b : Addr} (h : Ents K F xs ks vs) (hq : cat kd = 2) (hk : Rp K F (.ref b) kd) (hn : (xs.map (·.1)).Nodup) (ru : RelV u r) (rp : Rp K F u vd) :
    Ents K F (storedH xs (nk kd) b r) (Q7.putK kd vd ks vs).1 (Q7.putK kd vd ks vs).2 := by
  unfold storedH Q7.putK
  rcases h.find hq with ⟨p, u', v', h1, h2, h3, h4, h5⟩ | ⟨h1, h2, h5⟩
  · simp only [h5, h1, Option.isSome_some, if_true]
    exact h.set hq hn ru rp
  · simp only [h5, h1, Option.isSome_none, Bool.false_eq_true, if_false]
    exact h.snoc ⟨rfl, hq, hk, u, ru, rp⟩
end
section
variable {X : Cx} {pins : List (Addr × Obj)} {σ : L2.St} {H F : Hp} {s : Shared}
/-- a dict of tuples laid down -/
theorem Mp.laidN (I : Inv X pins σ H s) {a : Addr} {h' : Heap} {t' : Nat} {xs : List (NestedKey × Addr × Value)} {ks vs : List D} (mu : Mut (H a)) (hs : Heap.SameBut a s.heap h') (ha : (a == sysModules) = false) (dd : h'.DictOfH (nestedKind X.prog X.w) a xs) (hl : xs.length ≤ sizeLine) (h0 : xs ≠ []) (e : Ents X.K F xs ks vs) :
    ∃ o, Inv X pins σ (upd H a (.ext fun h => h.get? a = some o)) { s with heap := h', toks := t' } ∧ ∀ H', H' a = some (.ext fun h => h.get? a = some o) → Mp X.prog X.w X.K H' F a ks vs := by
  obtain ⟨o, es, ep, h1, h2, h3, h4, h5, h6⟩ := dd
  exact ⟨o, d_write I mu hs ⟨o, h1⟩ ⟨h1, ⟨o, h1⟩, fun _ _ p k => k _ p⟩, fun H' e' => .ne o es ep xs e' ha h2 h3 h4 h6 hl h0 e⟩
end
end Q7
end

section
set_option autoImplicit false
set_option Elab.async false
set_option linter.all false
set_option maxRecDepth 100000
/-! in, not in, is, is not, -x, x[i], x[i:j], x[::-1] -/
namespace Q7
open PySem PySem.Spec PyProof.Rows L2

theorem any_py (d : D) : ∀ ys : List D, ((toPys ys).any fun y => PyData.eqv y (toPy d)) = ys.any fun y => eqv y d
  | [] => rfl
  | y :: ys => by rw [toPys, List.any_cons, List.any_cons, any_py d ys, eqv_py]

section
variable {X : Cx}
theorem cmpW_m {o : Cop} {a b c : W} {ks vs : List D} (h : cmpW o a b = some c) (hb : b.x = .m ks vs) : ∃ d, a.x = .d d ∧ fitsK d ks = true ∧ ((o = .isin ∧ c = ⟨.sh, .d (.bl (hasK d ks))⟩) ∨ (o = .notin ∧ c = ⟨.sh, .d (.bl (!hasK d ks))⟩)) := by
  simp only [cmpW, Option.bind_eq_bind, Option.bind_eq_some_iff] at h
  obtain ⟨d, h1, h2⟩ := h
  rw [hb] at h2
  cases o <;> simp only [reduceCtorEq] at h2
  · split at h2
    · exact ⟨d, dat_get h1, by assumption, .inl ⟨rfl, (Option.some.inj h2).symm⟩⟩
    · cases h2
  · split at h2
    · exact ⟨d, dat_get h1, by assumption, .inr ⟨rfl, (Option.some.inj h2).symm⟩⟩
    · cases h2
theorem room_n {A : Around} (hu : A.units + 66 < cLine) : A.in1.units + 8 < cLine := by
  show A.units + 1 + 8 < cLine
  omega
/-- data that is kept -/
theorem Rdx.key {H F : Hp} {v : V} {d : D} (h : Rdx X.prog X.w X.K H F v (.d d)) (hc : cat d ≠ 0) : Rp X.K F v d := by
  rcases h with h | ⟨a, e, h⟩
  · exact h
  · cases d <;> first
      | exact h.elim
      | (simp [cat] at hc)
theorem fits_cat {k : D} {ks : List D} (h : fitsK k ks = true) : cat k ≠ 0 := by
  cases ks with
  | nil => simpa [fitsK] using h
  | cons a b =>
    have h' : cat k ≠ 0 ∧ cat k = cat a := by simpa [fitsK] using h
    exact h'.1
theorem oc_in (hu : X.A.units + 66 < cLine) : OpR X (compareOp .In) (rCop X .isin) := by
  intro pins s σ H x y v u Q I rx ry h
  obtain ⟨F, w1, w2, sF, h1, h2, ok⟩ := h
  obtain ⟨wv, e, q⟩ := ok.get
  cases hb : w2.x with
  | m ks vs =>
    obtain ⟨d, hd, hf, ⟨_, rfl⟩ | ⟨z, _⟩⟩ := cmpW_m e hb
    · rw [hd] at h1
      rw [hb] at h2
      obtain ⟨a, rfl, m⟩ := h2.isMp sF
      cases ry
      rcases m.at I sF hf (h1.key (fits_cat hf)) with ⟨kvs, k, g1, g2, g3, rfl, g4⟩ | ⟨b, xs, rfl, g1, g2, g3, g4, g5, g6, g7⟩
      · refine d_in (by omega) I (.k g1) rx fun s' I' => ⟨.bl _, H, I', rfl, ?_⟩
        rcases g4.find g3 with ⟨u', v', f1, f2, f3, f4⟩ | ⟨f1, f2, f4⟩
        · rw [f1]; rw [f4] at q; exact fin_sh q sF (.bl _)
        · rw [f1]; rw [f4] at q; exact fin_sh q sF (.bl _)
      · cases rx
        refine wpAny_in_heap (room_n hu) g2 g3 g4 ⟨.bl _, H, I.tok _, rfl, ?_⟩
        rcases g5.find g1 with ⟨p, u', v', f1, _, f2, f3, f4⟩ | ⟨f1, f2, f4⟩
        · rw [f1]; rw [f4] at q; exact fin_sh q sF (.bl _)
        · rw [f1]; rw [f4] at q; exact fin_sh q sF (.bl _)
    · cases z
  | d e2 =>
    obtain ⟨d, z, hd, hz, rfl⟩ := cmpW_d e hb
    rw [hd] at h1
    rw [hb] at h2
    simp only [cmpop] at hz
    have p1 : Rp X.K H x d := h1.rp sF
    have p2 : Rp X.K H y e2 := h2.rp sF
    cases e2 <;> simp only [isIn, reduceCtorEq] at hz
    case str t =>
      cases d <;> simp only [reduceCtorEq, Option.some.injEq] at hz
      subst hz
      cases p1
      cases p2
      refine op_in_str pins s σ H _ _ v u Q I rx ry ⟨_, _, rfl, rfl, ?_⟩
      rw [infix_occ]
      exact fin_sh q sF (.bl _)
    case tup ys =>
      split at hz
      · rename_i hm
        rw [decide_eq_true_eq] at hm
        cases hz
        obtain ⟨as, r1⟩ := Dp.reads I _ x v p1.dp rx
        obtain ⟨bs, r2⟩ := Dp.reads I _ y u p2.dp ry
        rw [toPy] at r2
        refine SeqAt.in_tuple_reads r2 r1 (by have := p2.lay; simpa [toPy, PyData.canLay0] using this) p1.lay (by rw [depths_py, depth_py]; omega) ?_
        rw [any_py]
        exact ⟨.bl _, H, I, rfl, fin_sh q sF (.bl _)⟩
      · cases hz
    case lst ys =>
      split at hz
      · rename_i hm
        rw [decide_eq_true_eq] at hm
        cases hz
        obtain ⟨as, r1⟩ := Dp.reads I _ x v p1.dp rx
        obtain ⟨bs, r2⟩ := Dp.reads I _ y u p2.dp ry
        rw [toPy] at r2
        refine SeqAt.in_list_reads r2 r1 (by have := p2.lay; simpa [toPy, PyData.canLay0] using this) p1.lay (by rw [depths_py, depth_py]; omega) ?_
        rw [any_py]
        exact ⟨.bl _, H, I, rfl, fin_sh q sF (.bl _)⟩
      · cases hz
theorem oc_notin (hu : X.A.units + 66 < cLine) : OpR X (compareOp .NotIn) (rCop X .notin) := by
  intro pins s σ H x y v u Q I rx ry h
  obtain ⟨F, w1, w2, sF, h1, h2, ok⟩ := h
  obtain ⟨wv, e, q⟩ := ok.get
  cases hb : w2.x with
  | m ks vs =>
    obtain ⟨d, hd, hf, ⟨z, _⟩ | ⟨_, rfl⟩⟩ := cmpW_m e hb
    · cases z
    · rw [hd] at h1
      rw [hb] at h2
      obtain ⟨a, rfl, m⟩ := h2.isMp sF
      cases ry
      rcases m.at I sF hf (h1.key (fits_cat hf)) with ⟨kvs, k, g1, g2, g3, rfl, g4⟩ | ⟨b, xs, rfl, g1, g2, g3, g4, g5, g6, g7⟩
      · refine d_notIn (by omega) I (.k g1) rx fun s' I' => ⟨.bl _, H, I', rfl, ?_⟩
        rcases g4.find g3 with ⟨u', v', f1, f2, f3, f4⟩ | ⟨f1, f2, f4⟩
        · rw [f1]; rw [f4] at q; exact fin_sh q sF (.bl _)
        · rw [f1]; rw [f4] at q; exact fin_sh q sF (.bl _)
      · cases rx
        refine wpAny_notIn_heap (room_n hu) g2 g3 g4 ⟨.bl _, H, I.tok _, rfl, ?_⟩
        rcases g5.find g1 with ⟨p, u', v', f1, _, f2, f3, f4⟩ | ⟨f1, f2, f4⟩
        · rw [f1]; rw [f4] at q; exact fin_sh q sF (.bl _)
        · rw [f1]; rw [f4] at q; exact fin_sh q sF (.bl _)
  | d e2 =>
    obtain ⟨d, z, hd, hz, rfl⟩ := cmpW_d e hb
    rw [hd] at h1
    rw [hb] at h2
    simp only [cmpop, Option.bind_eq_bind, Option.bind_eq_some_iff, Option.some.injEq] at hz
    obtain ⟨z', hz, rfl⟩ := hz
    have p1 : Rp X.K H x d := h1.rp sF
    have p2 : Rp X.K H y e2 := h2.rp sF
    cases e2 <;> simp only [isIn, reduceCtorEq] at hz
    case str t =>
      cases d <;> simp only [reduceCtorEq, Option.some.injEq] at hz
      subst hz
      cases p1
      cases p2
      refine op_notin_str pins s σ H _ _ v u Q I rx ry ⟨_, _, rfl, rfl, ?_⟩
      rw [infix_occ]
      exact fin_sh q sF (.bl _)
    case tup ys =>
      split at hz
      · rename_i hm
        rw [decide_eq_true_eq] at hm
        cases hz
        obtain ⟨as, r1⟩ := Dp.reads I _ x v p1.dp rx
        obtain ⟨bs, r2⟩ := Dp.reads I _ y u p2.dp ry
        rw [toPy] at r2
        refine SeqAt.notIn_tuple_reads r2 r1 (by have := p2.lay; simpa [toPy, PyData.canLay0] using this) p1.lay (by rw [depths_py, depth_py]; omega) ?_
        rw [any_py]
        exact ⟨.bl _, H, I, rfl, fin_sh q sF (.bl _)⟩
      · cases hz
    case lst ys =>
      split at hz
      · rename_i hm
        rw [decide_eq_true_eq] at hm
        cases hz
        obtain ⟨as, r1⟩ := Dp.reads I _ x v p1.dp rx
        obtain ⟨bs, r2⟩ := Dp.reads I _ y u p2.dp ry
        rw [toPy] at r2
        refine SeqAt.notIn_list_reads r2 r1 (by have := p2.lay; simpa [toPy, PyData.canLay0] using this) p1.lay (by rw [depths_py, depth_py]; omega) ?_
        rw [any_py]
        exact ⟨.bl _, H, I, rfl, fin_sh q sF (.bl _)⟩
      · cases hz
theorem oc_is : OpR X (compareOp .Is) (rCop X .is) := by
  intro pins s σ H x y v u Q I rx ry h
  obtain ⟨F, w1, w2, sF, h1, h2, ok⟩ := h
  obtain ⟨wv, e, q⟩ := ok.get
  cases hb : w2.x with
  | m ks vs =>
    obtain ⟨d, hd, hf, ⟨z, _⟩ | ⟨z, _⟩⟩ := cmpW_m e hb <;> cases z
  | d e2 =>
    obtain ⟨d, z, hd, hz, rfl⟩ := cmpW_d e hb
    rw [hd] at h1
    rw [hb] at h2
    have p1 : Rp X.K H x d := h1.rp sF
    have p2 : Rp X.K H y e2 := h2.rp sF
    cases e2 <;> simp only [cmpop, reduceCtorEq, Option.some.injEq] at hz
    case non =>
      subst hz
      cases p2
      refine op_isN pins s σ H _ _ v u Q I rx ry ⟨rfl, ?_⟩
      cases p1 <;> exact fin_sh q sF (.bl _)
    case bl b =>
      subst hz
      cases p2
      cases ry
      cases p1 with
      | bl c => exact op_isBl pins s σ H _ (.bl b) v _ Q I rx rfl ⟨c, b, rfl, rfl, by
          have e : decide (c = b) = (c == b) := (Bool.beq_eq_decide_eq c b).symm
          rw [e]; exact fin_sh q sF (.bl _)⟩
      | non => cases rx; exact wpAny_is_other rfl (by simp) ⟨.bl _, H, I, rfl, fin_sh q sF (.bl _)⟩
      | int i => obtain ⟨t, rfl⟩ := rx; exact wpAny_is_other rfl (by simp) ⟨.bl _, H, I, rfl, fin_sh q sF (.bl _)⟩
      | str i => obtain ⟨t, rfl⟩ := rx; exact wpAny_is_other rfl (by simp) ⟨.bl _, H, I, rfl, fin_sh q sF (.bl _)⟩
      | lst _ _ => cases rx; exact wpAny_is_other rfl (by simp) ⟨.bl _, H, I, rfl, fin_sh q sF (.bl _)⟩
      | tup _ _ => cases rx; exact wpAny_is_other rfl (by simp) ⟨.bl _, H, I, rfl, fin_sh q sF (.bl _)⟩
theorem oc_isnot : OpR X (compareOp .IsNot) (rCop X .isnot) := by
  intro pins s σ H x y v u Q I rx ry h
  obtain ⟨F, w1, w2, sF, h1, h2, ok⟩ := h
  obtain ⟨wv, e, q⟩ := ok.get
  cases hb : w2.x with
  | m ks vs =>
    obtain ⟨d, hd, hf, ⟨z, _⟩ | ⟨z, _⟩⟩ := cmpW_m e hb <;> cases z
  | d e2 =>
    obtain ⟨d, z, hd, hz, rfl⟩ := cmpW_d e hb
    rw [hd] at h1
    rw [hb] at h2
    have p1 : Rp X.K H x d := h1.rp sF
    have p2 : Rp X.K H y e2 := h2.rp sF
    cases e2 <;> simp only [cmpop, reduceCtorEq, Option.some.injEq] at hz
    case non =>
      subst hz
      cases p2
      refine op_notN pins s σ H _ _ v u Q I rx ry ⟨rfl, ?_⟩
      cases p1 <;> exact fin_sh q sF (.bl _)
    case bl b =>
      subst hz
      cases p2
      cases ry
      cases p1 with
      | bl c => exact op_notBl pins s σ H _ (.bl b) v _ Q I rx rfl ⟨c, b, rfl, rfl, by
          have e : decide (c = b) = (c == b) := (Bool.beq_eq_decide_eq c b).symm
          rw [e]; exact fin_sh q sF (.bl _)⟩
      | non => cases rx; exact wpAny_isNot_other rfl (by simp) ⟨.bl _, H, I, rfl, fin_sh q sF (.bl _)⟩
      | int i => obtain ⟨t, rfl⟩ := rx; exact wpAny_isNot_other rfl (by simp) ⟨.bl _, H, I, rfl, fin_sh q sF (.bl _)⟩
      | str i => obtain ⟨t, rfl⟩ := rx; exact wpAny_isNot_other rfl (by simp) ⟨.bl _, H, I, rfl, fin_sh q sF (.bl _)⟩
      | lst _ _ => cases rx; exact wpAny_isNot_other rfl (by simp) ⟨.bl _, H, I, rfl, fin_sh q sF (.bl _)⟩
      | tup _ _ => cases rx; exact wpAny_isNot_other rfl (by simp) ⟨.bl _, H, I, rfl, fin_sh q sF (.bl _)⟩
/-- any comparison -/
theorem oc_all (hu : X.A.units + 66 < cLine) {op : CmpOp} {o : Cop} (h : trCop op = some o) : OpR X (compareOp op) (rCop X o) := by
  cases op <;> simp only [trCop, Option.some.injEq] at h <;> subst h
  · exact oc_eq hu
  · exact oc_ne hu
  · exact oc_lt hu
  · exact oc_le hu
  · exact oc_gt hu
  · exact oc_ge hu
  · exact oc_is
  · exact oc_isnot
  · exact oc_in hu
  · exact oc_notin hu
theorem ob_all {op : Operator} {o : Bop} (h : trBop op = some o) : OpR X (binaryOp op) (rBop X o) := by
  cases op <;> simp only [trBop, Option.some.injEq, reduceCtorEq] at h <;> subst h
  · exact ob_add
  · exact ob_sub
  · exact ob_mul
  · exact ob_mod
  · exact ob_pow
  · exact ob_fdiv
theorem ou_neg : UnR X (unaryOp .USub) (r1 X.prog X.w X.K negW) := by
  intro pins s σ H x v Q I rx h
  obtain ⟨F, w1, sF, h1, ok⟩ := h
  obtain ⟨wv, e, q⟩ := ok.get
  simp only [negW, Option.bind_eq_bind, Option.bind_eq_some_iff, Option.some.injEq] at e
  obtain ⟨d, e1, z, e2, rfl⟩ := e
  rw [dat_get e1] at h1
  cases d <;> simp only [neg, reduceCtorEq, Option.some.injEq] at e2
  subst e2
  cases h1.isInt
  exact un_neg pins s σ H _ v Q I rx ⟨_, rfl, fin_sh q sF (.int _)⟩

/-! ### x[i] -/
theorem at_atI (xs : List D) (i : Int) (d : D) (h : at? xs i = some d) : atI xs i = some d := by
  unfold at? at h
  unfold atI ixN
  by_cases h0 : 0 ≤ i
  · rw [if_pos h0] at h ⊢
    have hl := (List.getElem?_eq_some_iff.mp h).1
    rw [if_pos (by omega)]
    exact h
  · rw [if_neg h0] at h ⊢
    split at h
    · rw [if_pos (by omega)]; exact h
    · cases h
theorem atS_atI (xs : List Nat) (i : Int) (d : Nat) (h : atS? xs i = some d) : atI xs i = some d := by
  unfold atS? at h
  unfold atI ixN
  by_cases h0 : 0 ≤ i
  · rw [if_pos h0] at h ⊢
    have hl := (List.getElem?_eq_some_iff.mp h).1
    rw [if_pos (by omega)]
    exact h
  · rw [if_neg h0] at h ⊢
    split at h
    · rw [if_pos (by omega)]; exact h
    · cases h
theorem Rps.atI {K : PySem.W.Frag} {F : Hp} {vs : List V} {ds : List D} {i : Int} {d : D} (r : Rps K F vs ds) (h : L2.atI ds i = some d) : ∃ v, L2.atI vs i = some v ∧ Rp K F v d := by
  unfold L2.atI at h ⊢
  rw [r.length]
  cases e : ixN ds.length i with
  | none => rw [e] at h; cases h
  | some j =>
    rw [e] at h
    exact r.get h
theorem dict_at_type {pins : List (Addr × Obj)} {σ : L2.St} {H F : Hp} {s : Shared} (I : Inv X pins σ H s) (sF : Sub F H) {a : Addr} {ks vs : List D} (m : Mp X.prog X.w X.K H F a ks vs) :
    s.TypeIs (.ref a) "dict" ∧ (∀ b, Value.ref a = .ref b → ∃ ob, s.heap.get? b = some ob ∧ ob.dict = none) ∧ (a == sysModules) = false := by
  cases m with
  | sc kvs h1 h2 h3 => exact isD_at I (.inl ⟨kvs, .inl h1⟩)
  | ne o es ep xs h1 h2 h3 h4 h5 h6 h7 h8 h9 =>
    have dd := Mp.heapN I sF h1 h3 h4 h5 h6 h9
    refine ⟨dd.typeIs, fun b e => ?_, h2⟩
    cases e
    exact ⟨o, (I.hok a _ h1).1, h3.2.1⟩
theorem ix_all (hu : X.A.units + 66 < cLine) : IxR X (r2 X.prog X.w X.K idxW) := by
  intro value slice pins s σ H x y v u Q I rx ry h hs
  obtain ⟨F, w1, w2, sF, h1, h2, ok⟩ := h
  obtain ⟨wv, e, q⟩ := ok.get
  simp only [idxW, Option.bind_eq_bind, Option.bind_eq_some_iff, Option.some.injEq] at e
  obtain ⟨i, e1, z, e2, rfl⟩ := e
  rw [dat_get e1] at h2
  cases hw : w1.x with
  | d d =>
    rw [hw] at h1 e2
    simp only [indexX] at e2
    cases d <;> cases i <;> simp only [index, reduceCtorEq] at e2
    case lst.int xs i =>
      split at e2
      · rename_i d' hd'
        cases e2
        obtain ⟨a, vs, rfl, g1, g2⟩ := h1.isLst sF
        cases h2.isInt
        obtain ⟨v', g3, g4⟩ := g2.atI (at_atI _ _ _ hd')
        exact ix_list value slice pins s σ H _ _ v u Q I rx ry ⟨a, vs, i, v', rfl, rfl, g1, g3, fin_sh q sF g4⟩ hs
      · cases e2
    case tup.int xs i =>
      split at e2
      · rename_i d' hd'
        cases e2
        obtain ⟨a, vs, rfl, g1, _, g2⟩ := h1.isTup sF
        cases h2.isInt
        obtain ⟨v', g3, g4⟩ := g2.atI (at_atI _ _ _ hd')
        exact ix_tup value slice pins s σ H _ _ v u Q I rx ry ⟨a, vs, i, v', rfl, rfl, g1, g3, fin_sh q sF g4⟩ hs
      · cases e2
    case str.int xs i =>
      split at e2
      · rename_i d' hd'
        cases e2
        obtain ⟨rfl, o⟩ := h1.isStr
        cases h2.isInt
        have g := atS_atI _ _ _ hd'
        have hm : d' ∈ xs := by
          unfold atI at g
          cases e : ixN xs.length i with
          | none => rw [e] at g; cases g
          | some j =>
            rw [e] at g
            exact List.mem_of_getElem? (show xs[j]? = some d' from g)
        exact ix_str value slice pins s σ H _ _ v u Q I rx ry ⟨_, i, d', rfl, rfl, by rw [toS_length]; exact big_line o.len, g, fin_sh q sF (.str (s := [d']) ⟨by unfold big; simp, fun c hc => by
          have hc' : c = d' := by simpa using hc
          rw [hc']; exact o.asc _ hm⟩)⟩ hs
      · cases e2
  | m ks vs =>
    rw [hw] at h1 e2
    simp only [indexX] at e2
    split at e2
    · rename_i hf
      split at e2
      · rename_i v' hv'
        cases e2
        obtain ⟨a, rfl, m⟩ := h1.isMp sF
        cases rx
        obtain ⟨t1, _, _⟩ := dict_at_type I sF m
        unfold subscriptTail
        refine wpAny_bind ?_
        rw [getitemInPython_of_ne t1.not_modules]
        refine wpAny_bind (wpAny_specialOf t1 PySem.F.slot_dict_getitem.lookup ?_)
        have fin : wpAny (model X.prog X.w) X.A (subscripted slice false (.ref a) u) (fun r s₃ => wpAny (model X.prog X.w) X.A (letTemporaryGo value (.ref a) r >>= fun _ => pure r) (EP X pins σ Q) X.xe s₃) X.xe s := by
          rw [hs]
          refine wpAny_operating ?_
          have g : wpAny (model X.prog X.w) X.A (getItem (.ref a) u) (EP X pins σ Q) X.xe s := by
            rcases m.at I sF hf (h2.key (fits_cat hf)) with ⟨kvs, k, g1, g2, g3, rfl, g4⟩ | ⟨b, xs, rfl, g1, g2, g3, g4, g5, g6, g7⟩
            · rcases g4.find g3 with ⟨u', v'', f1, f2, f3, f4⟩ | ⟨f1, f2, f4⟩
              · rw [f2] at hv'; cases hv'
                exact d_getItem (by omega) I (by rw [← f1]; exact .k g1) ry fun w' s' I' r' => ⟨u', H, I', r', fin_sh q sF f3⟩
              · rw [f2] at hv'; cases hv'
            · cases ry
              rcases g5.find g1 with ⟨p, u', v'', f1, fr, f2, f3, f4⟩ | ⟨f1, f2, f4⟩
              · rw [f2] at hv'; cases hv'
                exact wpAny_getItem_heap (room_n hu) g2 g4 f1 ⟨u', H, I.tok _, fr, fin_sh q sF f3⟩
              · rw [f2] at hv'; cases hv'
          exact wpAny_mono g (fun r s₃ h₃ => wpAny_bind (wpAny_letTemporaryGo (wpAny_pure h₃))) fun _ _ x => x
        first
          | exact wpAny_pure (wpAny_bind fin)
          | exact wpAny_bind (wpAny_pure (wpAny_bind fin))
          | exact wpAny_bind fin
      · cases e2
    · cases e2

/-! ### x[i:j] -/
theorem Rps.cut {K : PySem.W.Frag} {F : Hp} {vs : List V} {ds : List D} (r : Rps K F vs ds) (lo hi : Option Int) : Rps K F (cutV vs lo hi) (Q7.cut ds lo hi) := by
  unfold cutV Q7.cut
  rw [r.length]
  exact (r.drop _).take _
def rSl (X : Cx) : V → Option Int → Option Int → Hp → VK → Prop := fun x lo hi H Q => ∃ F w1 d z, Sub F H ∧ Rdx X.prog X.w X.K H F x w1 ∧ w1 = .d d ∧ slice d lo hi = some z ∧ Ok1 X.prog X.w X.K (some (mk z)) H F Q
theorem sl_all : SlR X (rSl X) := by
  intro pins s σ H x v vl vu lo hi sl Q I rx hs pl pu h
  obtain ⟨F, w1, d, z, sF, h1, rfl, e, q⟩ := h
  cases d <;> simp only [slice, reduceCtorEq, Option.some.injEq] at e <;> subst e
  case lst xs =>
    obtain ⟨a, vs, rfl, g1, g2⟩ := h1.isLst sF
    exact sl_list pins s σ H _ v vl vu lo hi sl Q I rx hs pl pu ⟨a, vs, rfl, g1, fun p hp => fin_lst q sF hp (g2.cut lo hi)⟩
  case tup xs =>
    obtain ⟨a, vs, rfl, g1, g1', g2⟩ := h1.isTup sF
    refine sl_tupA pins s σ H _ v vl vu lo hi sl Q I rx hs pl pu ⟨a, vs, rfl, g1, fun hw => fin_sh q sF ?_, fun _ p hp => fin_tup q sF hp (g2.cut lo hi)⟩
    have e : Q7.cut xs lo hi = xs := by
      unfold Q7.cut
      rw [← g2.length]
      have e1 : Q7.sIx vs.length 0 lo = 0 := hw.1
      have e2 : Q7.sIx vs.length vs.length hi = vs.length := hw.2
      rw [e1, e2, g2.length]
      simp
    rw [e]
    exact .tup g1' g2
  case str xs =>
    obtain ⟨rfl, o⟩ := h1.isStr
    refine sl_str pins s σ H _ v vl vu lo hi sl Q I rx hs pl pu ⟨_, rfl, by rw [toS_length]; exact big_line o.len, ?_⟩
    have e : cutS (toS xs) lo hi = toS (Q7.cut xs lo hi) := by
      unfold cutS Q7.cut
      rw [toS_length]
      rfl
    rw [e]
    exact fin_sh q sF (.str (o.sub ((List.take_sublist _ _).trans (List.drop_sublist _ _))))
end
end Q7
end

section
set_option autoImplicit false
set_option Elab.async false
set_option linter.all false
set_option maxRecDepth 100000
/-! Expressions of the core language over the rules: names, operators, tests, displays. -/
namespace Q7
open PySem PySem.Spec PyProof.Rows L2

abbrev Gx (X : Cx) (ca : Nat → Addr) (cl : Nat → List Xv → R W) : Fix := ⟨X.prog, X.w, X.K, ca, cl⟩

theorem star_plain {e : Expr} {es : List Expr} {env : PySem.Env} (h : isStar e = false) : starEach (e :: es) env = (false, eval e env) :: starEach es env := by
  cases e <;> first
    | rfl
    | (simp [isStar] at h)
theorem set_plain {e : Expr} {op : CmpOp} (h : isSet e = false) : behindInMarks op e = false := by
  cases e <;> first
    | rfl
    | (simp [isSet] at h)
theorem ix_plain {e : Expr} (h : isSlice e = false) : PlainIx e := by
  intro o i
  cases e <;> first
    | rfl
    | (simp [isSlice] at h)
theorem comp_plain {e : Expr} {t : Option Expr} {l : Nat} {env : PySem.Env} (h : isComp e = false) : swapsWith e t l env = pure false := by
  cases e <;> first
    | rfl
    | (simp [isComp] at h)

section
variable {G : Fix} {Wx : WX} {σ : L2.St} {H F H1 F1 : Hp} {ρ : Q7.Env} {Q : VK}
/-- a part first; what it yields may be the whole's value -/
theorem tE.bind' {a : CE} {g : W → R W} {R' : VK} (sr : SR G.P G.w G.K σ H F ρ) (h : tV G Wx σ H F ρ (ev G.cl ρ a >>= g) Q)
    (i : ∀ wv v H1 F1, Nx H F H1 F1 → Val G.P G.w G.K H H1 F1 σ ρ v wv → SR G.P G.w G.K σ H1 F1 ρ → tR G Wx σ H1 F1 (g wv) (fun wv H' F' => ∀ v, Val G.P G.w G.K H H' F' σ ρ v wv → Q v H') → R' v H1) : tE G Wx a σ H R' := by
  refine ⟨ρ, F, sr, ?_⟩
  have h' : tR G Wx σ H F (ev G.cl ρ a >>= g) fun wv H' F' => ∀ v, Val G.P G.w G.K H H' F' σ ρ v wv → Q v H' := h
  exact h'.bind fun wv H1 F1 e m q v hv => i wv v H1 F1 m hv (sr.step m) q
theorem tV.back {r : R W} (n : Sub H H1) (q : tR G Wx σ H1 F1 r (fun wv H' F' => ∀ v, Val G.P G.w G.K H H' F' σ ρ v wv → Q v H')) : tV G Wx σ H1 F1 ρ r Q :=
  q.imp fun a H' F' _ m2 z v hv => z v (hv.back n)
theorem tru_of {x : W} {b : Bool} (h : x.tru = some b) : ∃ d, x.x = .d d ∧ b = tru d := by
  obtain ⟨k, x⟩ := x
  cases x with
  | d d => exact ⟨d, rfl, (Option.some.inj h).symm⟩
  | m a b => cases h
theorem truV_of {K : PySem.W.Frag} {v : V} {d : D} (r : Rp K H v d) : TruV K v H (tru d) := by
  cases r with
  | non => exact rfl
  | bl b => exact rfl
  | int i => exact rfl
  | @str s o =>
    refine ⟨by rw [toS_length]; exact big_line o.len, ?_⟩
    rw [toS_length]
    show (!s.isEmpty) = _
    cases s with
    | nil => rfl
    | cons a b =>
      have : ((a :: b).length : Int) ≠ 0 := by simp; omega
      exact (bne_iff_ne.mpr this).symm
  | lst q r => exact .inl ⟨_, q, by cases r <;> rfl⟩
  | tup q r => exact .inr (.inl ⟨_, q, by cases r <;> rfl⟩)
theorem Val.tru {P : Program} {w : World} {K : PySem.W.Frag} {H' F' : Hp} {v : V} {wv : W} {b : Bool} (r : SR P w K σ H F ρ) (n : Nx H F H' F') (h : Val P w K H H' F' σ ρ v wv) (e : wv.tru = some b) : TruV K v H' b := by
  obtain ⟨d, h1, rfl⟩ := tru_of e
  have := h.rd r n
  rw [h1] at this
  exact truV_of this
theorem tR.tru {α : Type} {x : W} {f : Bool → R α} {Q : α → Hp → Hp → Prop} (h : tR G Wx σ H F (R.of x.tru >>= f) Q) : ∃ b, x.tru = some b ∧ tR G Wx σ H F (f b) Q := by
  cases e : x.tru with
  | none => rw [e] at h; exact h.elim
  | some b => rw [e] at h; exact ⟨b, rfl, h⟩
end

section
variable {X : Cx} {ca : Nat → Addr} {cl : Nat → List Xv → R W} {Wx : WX} {e : Expr} {c a b d : CE} {pos : Pos}
abbrev tEX (X : Cx) (ca : Nat → Addr) (cl : Nat → List Xv → R W) (Wx : WX) (c : CE) : TE := tE (Gx X ca cl) Wx c
abbrev tTX (X : Cx) (ca : Nat → Addr) (cl : Nat → List Xv → R W) (Wx : WX) (c : CE) : TT := tT (Gx X ca cl) Wx c
abbrev tAX (X : Cx) (ca : Nat → Addr) (cl : Nat → List Xv → R W) (Wx : WX) (c : CEs) : TA := tA' (Gx X ca cl) Wx c

/-- a test that is a value's truth -/
theorem pt_of (h : PE X e (tEX X ca cl Wx c)) (he : ∀ whole, isTrue e X.env whole = (do let v ← whole; standAt e.pos; holding [v] (truthy v))) : PT X e (tTX X ca cl Wx c) :=
  pt_imp (pt_truth h he) fun σ H Q ⟨ρ, F, sr, q⟩ => ⟨ρ, F, sr, q.bind fun wv H1 F1 e1 n q1 v hv => by
    cases e : wv.tru with
    | none => rw [e] at q1; exact q1.elim
    | some b => rw [e] at q1; exact ⟨b, hv.tru sr n e, q1 H1 F1 (Nx.refl n.fh)⟩⟩
/-- a test by a bool that is computed -/
theorem tT_test (hb : ∀ ρ wv, ev cl ρ c = .ok wv → ∃ t, wv = ⟨.sh, .d (.bl t)⟩) {σ : L2.St} {H : Hp} {Q : Bool → Hp → Prop} (h : tTX X ca cl Wx c σ H Q) : tEX X ca cl Wx c σ H (fun x H' => ∃ k, x = .bl k ∧ Q k H') := by
  obtain ⟨ρ, F, sr, q⟩ := h
  refine ⟨ρ, F, sr, q.bind fun wv H1 F1 e1 n q1 v hv => ?_⟩
  obtain ⟨t, rfl⟩ := hb ρ wv e1
  cases hv with
  | sh hv =>
    have hv : Rp X.K F1 v (.bl t) := hv
    cases hv
    exact ⟨t, rfl, q1 H1 F1 (Nx.refl n.fh)⟩

theorem s_var {x : Str} {i : Nat} (hN : X.N[i]? = some x) (hv : Vis X.env.scope x) (hd : (x == ("__debug__" : Str)) = false) (hcd : (x == ("__classdict__" : Str)) = false) : PE X (.Name x pos) (tEX X ca cl Wx (.var i)) :=
  pe_imp (pe_var hN hv hd hcd) fun σ H Q ⟨ρ, F, sr, q⟩ => by
    have q : tV (Gx X ca cl) Wx σ H F ρ (match ρ[i]? with | some (some (own, x)) => R.ok ⟨if own then .bo else .sh, x⟩ | _ => R.stuck) Q := by
      unfold ev at q; exact q
    cases h : ρ[i]? with
    | none => rw [h] at q; exact q.elim
    | some o =>
      cases o with
      | none => rw [h] at q; exact q.elim
      | some p =>
        obtain ⟨own, x⟩ := p
        rw [h] at q
        cases own with
        | false =>
          obtain ⟨v, h1, h2⟩ := sr.sh i x h
          exact ⟨v, h1, q.ok sr.sub (.sh h2)⟩
        | true =>
          obtain ⟨a, h1, h2, h3⟩ := sr.own i x h
          exact ⟨_, h1, q.ok sr.sub (.bo rfl h h1)⟩
theorem s_con {v : V} {d : D} (h : PE X e (tC v)) (r : ∀ F, Rp X.K F v d) : PE X e (tEX X ca cl Wx (.con d)) :=
  pe_imp h fun σ H Q ⟨ρ, F, sr, q⟩ => by
    unfold ev at q
    exact q.ok sr.sub (.sh (r F))
theorem s_bop {op : Operator} {o : Bop} {e1 e2 : Expr} (ho : trBop op = some o) (ha : PE X e1 (tEX X ca cl Wx a)) (hb : PE X e2 (tEX X ca cl Wx b)) : PE X (.BinOp e1 op e2 pos) (tEX X ca cl Wx (.bop o a b)) :=
  pe_r2 (pe_op (ob_all ho) ha hb) fun ρ => by rw [ev]
theorem s_neg {e1 : Expr} (ha : PE X e1 (tEX X ca cl Wx a)) : PE X (.UnaryOp .USub e1 pos) (tEX X ca cl Wx (.neg a)) :=
  pe_r1 (pe_un ou_neg ha) fun ρ => by rw [ev]
theorem s_cmp {op : CmpOp} {o : Cop} {e1 e2 : Expr} (hu : X.A.units + 66 < cLine) (ho : trCop op = some o) (hs : isSet e2 = false) (ha : PE X e1 (tEX X ca cl Wx a)) (hb : PE X e2 (tEX X ca cl Wx b)) :
    PE X (.Compare e1 [op] [e2] pos) (tEX X ca cl Wx (.cmp o a b)) ∧ PT X (.Compare e1 [op] [e2] pos) (tTX X ca cl Wx (.cmp o a b)) :=
  ⟨pe_r2 (pe_cmpR (oc_all hu ho) ha hb (set_plain hs)) fun ρ => by rw [ev],
   pt_r2 (pt_cmpR (oc_all hu ho) ha hb (set_plain hs)) (fun ρ => by rw [ev]) fun x y z h => cmpW_bl h⟩
theorem chain_imp {o o' : Cop} {σ : L2.St} {H : Hp} {Q : VK} (h : tEX X ca cl Wx (.chain o o' a b c) σ H Q) : tChain (rCop X o) (rCop X o') (tEX X ca cl Wx a) (tEX X ca cl Wx b) (tEX X ca cl Wx c) σ H Q := by
  obtain ⟨ρ, F, sr, q⟩ := h
  rw [ev] at q
  refine tE.bind sr q fun w1 v1 H1 F1 n1 hv1 sr1 q1 => tE.bind sr1 q1 fun w2 v2 H2 F2 n2 hv2 sr2 q2 => ⟨F2, w1, w2, n2.fh, (hv1.rdx sr n1).step n2, hv2.rdx sr1 n2, ?_⟩
  cases e : cmpW o w1 w2 with
  | none => rw [e] at q2; exact q2.elim
  | some z =>
    obtain ⟨t, rfl⟩ := cmpW_bl e
    rw [e] at q2
    intro v H3 F3 n3 hv
    cases hv with
    | sh hv =>
      have hv : Rp X.K F3 v (.bl t) := hv
      cases hv
      refine ⟨t, rfl, ?_⟩
      have q3 : tV (Gx X ca cl) Wx σ H3 F3 ρ (if t = true then (ev cl ρ c >>= fun u => R.of (cmpW o' w2 u)) else R.ok ⟨.sh, .d (.bl t)⟩) Q := tV.step q2 n3
      cases t with
      | true =>
        rw [if_pos rfl] at q3 ⊢
        exact tE.bind (sr2.step n3) q3 fun w4 v4 H4 F4 n4 hv4 sr4 q4 => ⟨F4, w2, w4, n4.fh, ((hv2.rdx sr1 n2).step n3).step n4, hv4.rdx (sr2.step n3) n4, q4.of⟩
      | false =>
        rw [if_neg (by decide)] at q3 ⊢
        exact q3.ok n3.fh (.sh (.bl false))
theorem chain_bl {o o' : Cop} (ρ : Q7.Env) (wv : W) (h : ev cl ρ (.chain o o' a b c) = .ok wv) : ∃ t, wv = ⟨.sh, .d (.bl t)⟩ := by
  rw [ev] at h
  obtain ⟨x, _, h⟩ := R.bind_eq_ok h
  obtain ⟨y, _, h⟩ := R.bind_eq_ok h
  obtain ⟨z, hz, h⟩ := R.bind_eq_ok h
  obtain ⟨t, ht, h⟩ := R.bind_eq_ok h
  split at h
  · obtain ⟨u, _, h⟩ := R.bind_eq_ok h
    cases e : cmpW o' y u with
    | none => rw [e] at h; cases h
    | some z' => rw [e] at h; cases h; exact cmpW_bl e
  · cases h
    cases e : cmpW o x y with
    | none => rw [e] at hz; cases hz
    | some z' => rw [e] at hz; cases hz; exact cmpW_bl e
theorem last_plain {op op' : CmpOp} {b c : Expr} (h : isSet c = false) : lastMarks [op, op'] [b, c] = false := by
  show behindInMarks op' c = false
  exact set_plain h
theorem s_chain {op op' : CmpOp} {o o' : Cop} {e1 e2 e3 : Expr} (hu : X.A.units + 66 < cLine) (ho : trCop op = some o) (ho' : trCop op' = some o') (hs : isSet e3 = false) (ha : PE X e1 (tEX X ca cl Wx a)) (hb : PE X e2 (tEX X ca cl Wx b)) (hc : PE X e3 (tEX X ca cl Wx c)) :
    PE X (.Compare e1 [op, op'] [e2, e3] pos) (tEX X ca cl Wx (.chain o o' a b c)) ∧ PT X (.Compare e1 [op, op'] [e2, e3] pos) (tTX X ca cl Wx (.chain o o' a b c)) :=
  ⟨pe_imp (pe_chain (oc_all hu ho) (oc_all hu ho') ha hb hc (last_plain hs)) fun σ H Q h => chain_imp h,
   pt_imp (pt_chain (oc_all hu ho) (oc_all hu ho') ha hb hc (last_plain hs)) fun σ H Q h => chain_imp (tT_test chain_bl h)⟩

theorem and_tru (ρ : Q7.Env) : (ev cl ρ (.and a b) >>= fun wv => R.of wv.tru) = (ev cl ρ a >>= fun wv => R.of wv.tru) >>= fun t => if t = true then (ev cl ρ b >>= fun wv => R.of wv.tru) else R.ok false := by
  rw [ev]
  cases ev cl ρ a with
  | ok x =>
    show ((R.of x.tru >>= fun t => if t = true then ev cl ρ b else R.ok x) >>= fun wv => R.of wv.tru) = (R.of x.tru >>= fun t => if t = true then (ev cl ρ b >>= fun wv => R.of wv.tru) else R.ok false)
    cases e : x.tru with
    | none => rfl
    | some t =>
      cases t with
      | true => rfl
      | false => show R.of x.tru = R.ok false; rw [e]; rfl
  | exc c => rfl
  | stuck => rfl
theorem or_tru (ρ : Q7.Env) : (ev cl ρ (.or a b) >>= fun wv => R.of wv.tru) = (ev cl ρ a >>= fun wv => R.of wv.tru) >>= fun t => if t = true then R.ok true else (ev cl ρ b >>= fun wv => R.of wv.tru) := by
  rw [ev]
  cases ev cl ρ a with
  | ok x =>
    show ((R.of x.tru >>= fun t => if t = true then R.ok x else ev cl ρ b) >>= fun wv => R.of wv.tru) = (R.of x.tru >>= fun t => if t = true then R.ok true else (ev cl ρ b >>= fun wv => R.of wv.tru))
    cases e : x.tru with
    | none => rfl
    | some t =>
      cases t with
      | true => show R.of x.tru = R.ok true; rw [e]; rfl
      | false => rfl
  | exc c => rfl
  | stuck => rfl
theorem and_impT {σ : L2.St} {H : Hp} {Q : Bool → Hp → Prop} (h : tTX X ca cl Wx (.and a b) σ H Q) : tAnd (tTX X ca cl Wx a) (tTX X ca cl Wx b) σ H Q := by
  obtain ⟨ρ, F, sr, q⟩ := h
  rw [and_tru] at q
  refine ⟨ρ, F, sr, q.bind fun t H1 F1 e n q1 => ?_⟩
  cases t with
  | true => exact ⟨ρ, F1, sr.step n, q1⟩
  | false => exact q1 H1 F1 (Nx.refl n.fh)
theorem or_impT {σ : L2.St} {H : Hp} {Q : Bool → Hp → Prop} (h : tTX X ca cl Wx (.or a b) σ H Q) : tOr (tTX X ca cl Wx a) (tTX X ca cl Wx b) σ H Q := by
  obtain ⟨ρ, F, sr, q⟩ := h
  rw [or_tru] at q
  refine ⟨ρ, F, sr, q.bind fun t H1 F1 e n q1 => ?_⟩
  cases t with
  | true => exact q1 H1 F1 (Nx.refl n.fh)
  | false => exact ⟨ρ, F1, sr.step n, q1⟩
theorem s_and {e1 e2 : Expr} {r : List Expr} (ha : PE X e1 (tEX X ca cl Wx a)) (hb : PE X (.BoolOp .And (e2 :: r) pos) (tEX X ca cl Wx b)) : PE X (.BoolOp .And (e1 :: e2 :: r) pos) (tEX X ca cl Wx (.and a b)) :=
  pe_imp (pe_andT ha hb) fun σ H Q ⟨ρ, F, sr, q⟩ => by
    rw [ev] at q
    refine tE.bind' sr q fun wv v H1 F1 n hv sr1 q1 => ?_
    obtain ⟨t, e, q2⟩ := q1.tru
    refine ⟨t, hv.tru sr n e, ?_⟩
    cases t with
    | true => exact ⟨ρ, F1, sr1, tV.back n.hh q2⟩
    | false => exact q2 H1 F1 (Nx.refl n.fh) v hv
theorem s_or {e1 e2 : Expr} {r : List Expr} (ha : PE X e1 (tEX X ca cl Wx a)) (hb : PE X (.BoolOp .Or (e2 :: r) pos) (tEX X ca cl Wx b)) : PE X (.BoolOp .Or (e1 :: e2 :: r) pos) (tEX X ca cl Wx (.or a b)) :=
  pe_imp (pe_orT ha hb) fun σ H Q ⟨ρ, F, sr, q⟩ => by
    rw [ev] at q
    refine tE.bind' sr q fun wv v H1 F1 n hv sr1 q1 => ?_
    obtain ⟨t, e, q2⟩ := q1.tru
    refine ⟨t, hv.tru sr n e, ?_⟩
    cases t with
    | true => exact q2 H1 F1 (Nx.refl n.fh) v hv
    | false => exact ⟨ρ, F1, sr1, tV.back n.hh q2⟩
theorem s_not {e1 : Expr} (ha : PE X e1 (tEX X ca cl Wx a)) (ht : PT X e1 (tTX X ca cl Wx a)) : PE X (.UnaryOp .Not e1 pos) (tEX X ca cl Wx (.not a)) ∧ PT X (.UnaryOp .Not e1 pos) (tTX X ca cl Wx (.not a)) :=
  ⟨pe_imp (pe_notT ha) fun σ H Q ⟨ρ, F, sr, q⟩ => by
    rw [ev] at q
    refine tE.bind' sr q fun wv v H1 F1 n hv sr1 q1 => ?_
    obtain ⟨t, e, q2⟩ := q1.tru
    exact ⟨t, hv.tru sr n e, q2 H1 F1 (Nx.refl n.fh) _ (.sh (.bl _))⟩,
   pt_imp (pt_not ht) fun σ H Q ⟨ρ, F, sr, q⟩ => by
    refine ⟨ρ, F, sr, ?_⟩
    have e : (ev cl ρ (.not a) >>= fun wv => R.of wv.tru) = (ev cl ρ a >>= fun wv => R.of wv.tru) >>= fun t => R.ok (!t) := by
      rw [ev]
      cases ev cl ρ a with
      | ok x =>
        show ((R.of x.tru >>= fun t => R.ok (W.mk .sh (.d (.bl (!t))))) >>= fun (wv : W) => R.of wv.tru) = (R.of x.tru >>= fun t => R.ok (!t))
        cases x.tru <;> rfl
      | exc c => rfl
      | stuck => rfl
    rw [e] at q
    exact q.bind fun t H1 F1 e n q1 => q1 H1 F1 (Nx.refl n.fh)⟩
theorem pt_ifExp {c a b : Expr} {tc ta tb : TT} (hc : PT X c tc) (ha : PT X a ta) (hb : PT X b tb) : PT X (.IfExp c a b pos) (fun σ H Q => tc σ H fun k H1 => if k = true then ta σ H1 Q else tb σ H1 Q) := by
  refine ⟨fun pins s σ H Q I h => ?_⟩
  show wpAny _ _ (do if ← isTrue c X.env (eval c X.env) then isTrue a X.env (eval a X.env) else isTrue b X.env (eval b X.env)) _ _ _
  refine wpAny_bind (thn (hc.run pins s σ H _ I h) fun k s1 ⟨H1, I1, q1⟩ => ?_)
  cases k with
  | true => exact ha.run pins s1 σ H1 Q I1 q1
  | false => exact hb.run pins s1 σ H1 Q I1 q1
theorem s_ite {e0 e1 e2 : Expr} (hc : PT X e0 (tTX X ca cl Wx c)) (ha : PE X e1 (tEX X ca cl Wx a)) (hb : PE X e2 (tEX X ca cl Wx b)) (ta : PT X e1 (tTX X ca cl Wx a)) (tb : PT X e2 (tTX X ca cl Wx b)) :
    PE X (.IfExp e0 e1 e2 pos) (tEX X ca cl Wx (.ite c a b)) ∧ PT X (.IfExp e0 e1 e2 pos) (tTX X ca cl Wx (.ite c a b)) := by
  have e : ∀ ρ, ev cl ρ (.ite c a b) = ((ev cl ρ c >>= fun wv => R.of wv.tru) >>= fun t => if t = true then ev cl ρ a else ev cl ρ b) := fun ρ => by
    rw [ev]
    cases ev cl ρ c with
    | ok x => rfl
    | exc c => rfl
    | stuck => rfl
  refine ⟨pe_imp (pe_ifExp hc ha hb) fun σ H Q ⟨ρ, F, sr, q⟩ => ?_, pt_imp (pt_ifExp hc ta tb) fun σ H Q ⟨ρ, F, sr, q⟩ => ?_⟩
  · rw [e] at q
    have q' : tR (Gx X ca cl) Wx σ H F ((ev cl ρ c >>= fun wv => R.of wv.tru) >>= fun t => if t = true then ev cl ρ a else ev cl ρ b) fun wv H' F' => ∀ v, Val X.prog X.w X.K H H' F' σ ρ v wv → Q v H' := q
    refine ⟨ρ, F, sr, q'.bind fun t H1 F1 e n q1 => ?_⟩
    cases t with
    | true => exact ⟨ρ, F1, sr.step n, tV.back n.hh q1⟩
    | false => exact ⟨ρ, F1, sr.step n, tV.back n.hh q1⟩
  · have e2 : (ev cl ρ (.ite c a b) >>= fun wv => R.of wv.tru) = ((ev cl ρ c >>= fun wv => R.of wv.tru) >>= fun t => if t = true then (ev cl ρ a >>= fun wv => R.of wv.tru) else (ev cl ρ b >>= fun wv => R.of wv.tru)) := by
      rw [e]
      cases (ev cl ρ c >>= fun wv => R.of wv.tru) with
      | ok x => cases x <;> rfl
      | exc c => rfl
      | stuck => rfl
    rw [e2] at q
    refine ⟨ρ, F, sr, q.bind fun t H1 F1 e n q1 => ?_⟩
    cases t with
    | true => exact ⟨ρ, F1, sr.step n, q1⟩
    | false => exact ⟨ρ, F1, sr.step n, q1⟩

/-! ### several -/
theorem s_nil : PA X [] (tAX X ca cl Wx .nil) := ⟨fun p pins s σ H Q I ⟨ρ, F, sr, q⟩ => (pa_nil (X := X)).run p pins s σ H Q I (by
  rw [eva] at q
  exact q H F (Nx.refl sr.sub) [] .nil)⟩
theorem arg_get {wv : W} {x : Xv} (h : wv.arg = some x) : wv.x = x ∧ wv.k ≠ .bo := by
  obtain ⟨k, y⟩ := wv
  cases k <;> simp [W.arg] at h <;> exact ⟨h, by simp⟩
theorem s_cons {e1 : Expr} {r : List Expr} {as : CEs} (hs : isStar e1 = false) (ha : PE X e1 (tEX X ca cl Wx a)) (hr : PA X r (tAX X ca cl Wx as)) : PA X (e1 :: r) (tAX X ca cl Wx (.cons a as)) :=
  ⟨fun p pins s σ H Q I ⟨ρ, F, sr, q⟩ => (pa_cons ha hr (star_plain hs)).run p pins s σ H Q I (by
    rw [eva] at q
    refine ⟨ρ, F, sr, q.bind fun wv H1 F1 e1 n1 q1 v hv => ?_⟩
    cases e : wv.arg with
    | none => rw [e] at q1; exact q1.elim
    | some x =>
      rw [e] at q1
      obtain ⟨hx, hk⟩ := arg_get e
      obtain ⟨F2, n2, r⟩ := hv.keep n1 hk
      rw [hx] at r
      have q2 : tR (Gx X ca cl) Wx σ H F (eva cl ρ as >>= fun xs => R.ok (x :: xs)) fun xs H' F' => ∀ vs, RpXs X.prog X.w X.K F' vs xs → Q vs H' := by
        rw [e1] at q
        have q' : tR (Gx X ca cl) Wx σ H F (R.of wv.arg >>= fun x => eva cl ρ as >>= fun xs => R.ok (x :: xs)) fun xs H' F' => ∀ vs, RpXs X.prog X.w X.K F' vs xs → Q vs H' := q
        rw [e] at q'
        exact q'
      exact ⟨ρ, F2, sr.step n2, (tR.step q2 n2).bind fun xs H3 F3 e3 n3 q3 vs hvs => q3 H3 F3 (Nx.refl n3.fh) (v :: vs) (.cons (r.mono n3.ff) hvs)⟩)⟩
theorem s_tup {es : List Expr} {k} {as : CEs} (h : PA X es (tAX X ca cl Wx as)) : PE X (.Tuple es k pos) (tEX X ca cl Wx (.tup as)) :=
  pe_imp (pe_tup h) fun σ H Q ⟨ρ, F, sr, q⟩ => by
    rw [ev] at q
    have q' : tR (Gx X ca cl) Wx σ H F (eva cl ρ as >>= fun xs => R.of (tupW xs)) fun wv H' F' => ∀ v, Val X.prog X.w X.K H H' F' σ ρ v wv → Q v H' := q
    refine ⟨ρ, F, sr, q'.bind fun xs H1 F1 e1 n1 q1 vs hvs => ?_⟩
    cases e : datas xs with
    | none => simp [tupW, e, R.of] at q1; exact q1.elim
    | some ds =>
      cases e2 : isize ds.length (.tup ds) with
      | none => simp [tupW, e, e2, R.of] at q1; exact q1.elim
      | some z =>
        obtain ⟨hl, rfl⟩ := isize_get e2
        simp only [tupW, e, e2, Option.bind_eq_bind, Option.bind_some, R.of_some] at q1
        have rs := hvs.datas e
        exact ⟨by rw [rs.length]; exact big_line hl, fun p hp => fin_tup (fun v H' F' n h => q1 H' F' n v (h.val n1.hh)) n1.fh hp rs⟩
theorem s_lst {es : List Expr} {as : CEs} (h : PA X es (tAX X ca cl Wx as)) : PE X (.List es pos) (tEX X ca cl Wx (.lst as)) :=
  pe_imp (pe_lst h) fun σ H Q ⟨ρ, F, sr, q⟩ => by
    rw [ev] at q
    have q' : tR (Gx X ca cl) Wx σ H F (eva cl ρ as >>= fun xs => R.of (lstW xs)) fun wv H' F' => ∀ v, Val X.prog X.w X.K H H' F' σ ρ v wv → Q v H' := q
    refine ⟨ρ, F, sr, q'.bind fun xs H1 F1 e1 n1 q1 vs hvs => ?_⟩
    cases e : datas xs with
    | none => simp [lstW, e, R.of] at q1; exact q1.elim
    | some ds =>
      cases e2 : isize ds.length (.lst ds) with
      | none => simp [lstW, e, e2, R.of] at q1; exact q1.elim
      | some z =>
        obtain ⟨hl, rfl⟩ := isize_get e2
        simp only [lstW, e, e2, Option.bind_eq_bind, Option.bind_some, R.of_some] at q1
        have rs := hvs.datas e
        exact ⟨by rw [rs.length]; exact big_line hl, fun p hp => fin_lst (fun v H' F' n h => q1 H' F' n v (h.val n1.hh)) n1.fh hp rs⟩

/-! ### subscripts, slices -/
theorem s_idx {e1 e2 : Expr} (hu : X.A.units + 66 < cLine) (hs : isSlice e2 = false) (ha : PE X e1 (tEX X ca cl Wx a)) (hb : PE X e2 (tEX X ca cl Wx b)) : PE X (.Subscript e1 e2 pos) (tEX X ca cl Wx (.idx a b)) :=
  pe_r2 (pe_ix (ix_all hu) ha hb (ix_plain hs)) fun ρ => by rw [ev]
/-- a bound -/
def tOX (X : Cx) (ca : Nat → Addr) (cl : Nat → List Xv → R W) (Wx : WX) (c : CE) : TO := fun σ H Q => ∃ ρ F, SR X.prog X.w X.K σ H F ρ ∧ tR (Gx X ca cl) Wx σ H F (ev cl ρ c >>= fun wv => R.of (optInt wv)) fun o H' _ => Q o H'
theorem s_onone : PO X none (tOX X ca cl Wx .omit) := ⟨fun pins s σ H Q I ⟨ρ, F, sr, q⟩ => (po_none (X := X)).run pins s σ H Q I (by
  rw [ev] at q
  exact q H F (Nx.refl sr.sub))⟩
theorem s_osome {e1 : Expr} (ha : PE X e1 (tEX X ca cl Wx a)) : PO X (some e1) (tOX X ca cl Wx a) := ⟨fun pins s σ H Q I ⟨ρ, F, sr, q⟩ => (po_some ha).run pins s σ H Q I (by
  refine ⟨ρ, F, sr, q.bind fun wv H1 F1 e1 n q1 v hv => ?_⟩
  cases e : optInt wv with
  | none => rw [e] at q1; exact q1.elim
  | some o =>
    rw [e] at q1
    obtain ⟨k, x⟩ := wv
    have hr := hv.rd sr n
    cases x with
    | m _ _ => cases k <;> simp [optInt] at e
    | d d =>
      cases d with
      | int i =>
        have e' : o = some i := by cases k <;> simp [optInt] at e <;> exact e.symm
        subst e'
        have hr : Rp X.K H1 v (.int i) := hr
        cases hr
        exact ⟨i, rfl, q1 H1 F1 (Nx.refl n.fh)⟩
      | non =>
        cases k with
        | bo =>
          cases hv with
          | bo _ h1 _ =>
            obtain ⟨a, _, _, h3⟩ := sr.own _ _ h1
            exact h3.elim
        | _ => simp [optInt] at e
      | _ => cases k <;> simp [optInt] at e)⟩
theorem s_slice {e1 : Expr} {lo hi : Option Expr} {p2 : Pos} (ha : PE X e1 (tEX X ca cl Wx a)) (hl : PO X lo (tOX X ca cl Wx b)) (hh : PO X hi (tOX X ca cl Wx c)) : PE X (.Subscript e1 (.Slice lo hi none p2) pos) (tEX X ca cl Wx (.slice a b c)) :=
  pe_imp (pe_slice sl_all ha hl hh) fun σ H Q ⟨ρ, F, sr, q⟩ => by
    rw [ev] at q
    refine tE.bind sr q fun w1 v1 H1 F1 n1 hv1 sr1 q1 => ?_
    have e : (ev cl ρ b >>= fun l => R.of (optInt l) >>= fun l => ev cl ρ c >>= fun h => R.of (optInt h) >>= fun h => R.of (sliceW w1 l h)) = ((ev cl ρ b >>= fun l => R.of (optInt l)) >>= fun l => (ev cl ρ c >>= fun h => R.of (optInt h)) >>= fun h => R.of (sliceW w1 l h)) := by
      cases ev cl ρ b with
      | ok l =>
        show (R.of (optInt l) >>= fun l => ev cl ρ c >>= fun h => R.of (optInt h) >>= fun h => R.of (sliceW w1 l h)) = (R.of (optInt l) >>= fun l => (ev cl ρ c >>= fun h => R.of (optInt h)) >>= fun h => R.of (sliceW w1 l h))
        cases optInt l with
        | none => rfl
        | some l =>
          show (ev cl ρ c >>= fun h => R.of (optInt h) >>= fun h => R.of (sliceW w1 l h)) = ((ev cl ρ c >>= fun h => R.of (optInt h)) >>= fun h => R.of (sliceW w1 l h))
          cases ev cl ρ c <;> rfl
      | exc c => rfl
      | stuck => rfl
    have q2 : tR (Gx X ca cl) Wx σ H1 F1 ((ev cl ρ b >>= fun l => R.of (optInt l)) >>= fun l => (ev cl ρ c >>= fun h => R.of (optInt h)) >>= fun h => R.of (sliceW w1 l h)) fun wv H' F' => ∀ v, Val X.prog X.w X.K H1 H' F' σ ρ v wv → Q v H' := by
      rw [← e]; exact q1
    refine ⟨ρ, F1, sr1, q2.bind fun l H2 F2 e2 n2 q2 => ⟨ρ, F2, sr1.step n2, tR.bind (f := fun h => R.of (sliceW w1 l h)) q2 fun h H3 F3 e3 n3 q3 => ?_⟩⟩
    cases e4 : w1.dat with
    | none => simp [sliceW, e4] at q3; exact q3.elim
    | some d =>
      cases e5 : slice d l h with
      | none => simp [sliceW, e4, e5] at q3; exact q3.elim
      | some z =>
        simp only [sliceW, e4, e5, Option.bind_eq_bind, Option.bind_some, R.of_some] at q3
        have hr := ((hv1.rdx sr n1).step n2).step n3
        exact ⟨F3, w1.x, d, z, n3.fh, hr, dat_get e4, e5, fun v H' F' n hv => q3 H' F' n v (hv.val (n2.hh.trans n3.hh))⟩
end
end Q7
end

section
set_option autoImplicit false
set_option Elab.async false
set_option linter.all false
set_option maxRecDepth 100000
/-! Built-in functions of one or two arguments; t[::-1]. -/
namespace Q7
open PySem PySem.Spec PyProof.Rows L2

/-- built-in names that are used -/
def bltNames : List Str := ["len", "int", "bool", "str", "tuple", "list", "dict", "set", "sum", "min", "max", "sorted", "isinstance", "range", "enumerate", "zip"]

section
variable {X : Cx} {ca : Nat → Addr} {cl : Nat → List Xv → R W} {Wx : WX} {e e1 e2 : Expr} {c a b d : CE} {p pos : Pos}
theorem back1 {e1 : Expr} {env : PySem.Env} {pos : Pos} (h : isStar e1 = false) : (backTo pos (starEach [e1] env)).any (·.1) = false := by
  rw [star_plain h]; rfl
/-- f(a) -/
theorem s_b1 {x : Str} {id : String} {f : W → Option W} (hc : CallR X (.builtin id) (fun xs H Q => ∃ x, xs = [x] ∧ r1 X.prog X.w X.K f x H Q)) (hg : Gl X x) (hm : X.mg x = none) (hv : bootBuiltins x = some (.builtin id)) (hn : x ≠ "__name__") (hdb : (x == ("__debug__" : Str)) = false)
    (hs : isStar e1 = false) (ha : PE X e1 (tEX X ca cl Wx a)) (he : ∀ ρ, ev cl ρ c = ev cl ρ a >>= fun x => R.of (f x)) : PE X (.Call (.Name x p) [e1] [] pos) (tEX X ca cl Wx c) :=
  pe_r1 (a := a) (f := f) (pe_imp (pe_callB hc hg hm hv (pa_cons ha pa_nil (star_plain hs)) hn hdb (star_plain hs) rfl) fun σ H Q h => by
    obtain ⟨ρ, F, sr, q⟩ := h
    exact ⟨ρ, F, sr, q.imp fun wv H' F' _ n z v hv => ⟨v, rfl, z v hv⟩⟩) he
theorem s_t1 {x : Str} {T : String} {f : W → Option W} (hc : CallR X (.type T) (fun xs H Q => ∃ x, xs = [x] ∧ r1 X.prog X.w X.K f x H Q)) (hg : Gl X x) (hm : X.mg x = none) (hv : bootBuiltins x = some (.type T)) (hn : x ≠ "__name__") (hdb : (x == ("__debug__" : Str)) = false)
    (hs : isStar e1 = false) (ha : PE X e1 (tEX X ca cl Wx a)) (he : ∀ ρ, ev cl ρ c = ev cl ρ a >>= fun x => R.of (f x)) : PE X (.Call (.Name x p) [e1] [] pos) (tEX X ca cl Wx c) :=
  pe_r1 (a := a) (f := f) (pe_imp (pe_callTy hc hg hm hv (pa_cons ha pa_nil (star_plain hs)) hn hdb (star_plain hs) rfl) fun σ H Q h => by
    obtain ⟨ρ, F, sr, q⟩ := h
    exact ⟨ρ, F, sr, q.imp fun wv H' F' _ n z v hv => ⟨v, rfl, z v hv⟩⟩) he
/-- f(a, b) -/
theorem s_b2 {x : Str} {id : String} {f : W → W → Option W} (hc : CallR X (.builtin id) (fun xs H Q => ∃ x y, xs = [x, y] ∧ r2 X.prog X.w X.K f x y H Q)) (hg : Gl X x) (hm : X.mg x = none) (hv : bootBuiltins x = some (.builtin id)) (hn : x ≠ "__name__") (hdb : (x == ("__debug__" : Str)) = false)
    (hs : isStar e1 = false) (hs2 : isStar e2 = false) (ha : PE X e1 (tEX X ca cl Wx a)) (hb : PE X e2 (tEX X ca cl Wx b)) (he : ∀ ρ, ev cl ρ c = ev cl ρ a >>= fun x => ev cl ρ b >>= fun y => R.of (f x y)) : PE X (.Call (.Name x p) [e1, e2] [] pos) (tEX X ca cl Wx c) :=
  pe_r2 (a := a) (b := b) (f := f) (pe_imp (pe_callB hc hg hm hv (pa_cons ha (pa_cons hb pa_nil (star_plain hs2)) (star_plain hs)) hn hdb (star_plain hs) (back1 hs2)) fun σ H Q h => by
    obtain ⟨ρ, F, sr, q⟩ := h
    refine ⟨ρ, F, sr, q.imp fun wv H' F' _ n z v hv => ?_⟩
    obtain ⟨ρ', F2, sr2, q2⟩ := z v hv
    exact ⟨ρ', F2, sr2, q2.imp fun wv H' F' _ n z u hu => ⟨v, u, rfl, z u hu⟩⟩) he

theorem b1W_get {b : B1} {x wv : W} (h : b1W b x = some wv) : ∃ z, b1 b x.x = some z ∧ wv = mk z := by
  simp only [b1W, Option.bind_eq_bind, Option.bind_eq_some_iff, Option.some.injEq] at h
  obtain ⟨z, h1, h2⟩ := h
  exact ⟨z, h1, h2.symm⟩
theorem cb_len (hu : X.A.units + 66 < cLine) : CallR X (.builtin "len") (fun xs H Q => ∃ x, xs = [x] ∧ r1 X.prog X.w X.K (b1W .len) x H Q) := by
  intro pins s σ H xs us Q I r h
  obtain ⟨x, rfl, F, w1, sF, h1, ok⟩ := h
  obtain ⟨wv, e0, q⟩ := ok.get
  obtain ⟨z, e, rfl⟩ := b1W_get e0
  cases hw : w1.x with
  | d d =>
    rw [hw] at h1 e
    cases d <;> simp only [b1, reduceCtorEq, Option.some.injEq] at e <;> subst e
    case str t =>
      obtain ⟨rfl, o⟩ := h1.isStr
      exact call_len pins s σ H _ us Q I r ⟨_, t.length, rfl, ⟨by rw [toS_length]; exact big_line o.len, (toS_length t).symm⟩, fin_sh q sF (.int _)⟩
    case tup t =>
      obtain ⟨a, vs, rfl, g1, _, g2⟩ := h1.isTup sF
      exact call_len pins s σ H _ us Q I r ⟨_, t.length, rfl, .inr ⟨vs, g1, g2.length.symm⟩, fin_sh q sF (.int _)⟩
    case lst t =>
      obtain ⟨a, vs, rfl, g1, g2⟩ := h1.isLst sF
      exact call_len pins s σ H _ us Q I r ⟨_, t.length, rfl, .inl ⟨vs, g1, g2.length.symm⟩, fin_sh q sF (.int _)⟩
  | m ks vs =>
    rw [hw] at h1 e
    simp only [b1, Option.some.injEq] at e
    subst e
    obtain ⟨a, rfl, m⟩ := h1.isMp sF
    obtain ⟨u, rfl, rx⟩ := vals1 r
    cases rx
    cases m with
    | sc kvs g1 g2 g3 =>
      refine d_len I (.inl g1) fun t s' I' => ⟨.int _, H, I', ⟨t, rfl⟩, ?_⟩
      rw [g3.len]
      exact fin_sh q sF (.int _)
    | ne o es ep xs g1 g2 g3 g4 g5 g6 g7 g8 g9 =>
      have hl := line63
      refine call_len_dictH g2 (Mp.heapN I sF g1 g3 g4 g5 g6 g9) (by omega) ⟨.int _, H, I.tok _, ⟨_, rfl⟩, ?_⟩
      rw [g9.len]
      exact fin_sh q sF (.int _)
theorem cb_int : CallR X (.type "int") (fun xs H Q => ∃ x, xs = [x] ∧ r1 X.prog X.w X.K (b1W .int) x H Q) := by
  intro pins s σ H xs us Q I r h
  obtain ⟨x, rfl, F, w1, sF, h1, ok⟩ := h
  obtain ⟨wv, e0, q⟩ := ok.get
  obtain ⟨z, e, rfl⟩ := b1W_get e0
  cases hw : w1.x with
  | d d =>
    rw [hw] at h1 e
    cases d <;> simp only [b1, reduceCtorEq, Option.some.injEq] at e <;> subst e
    case int t =>
      cases h1.isInt
      exact call_int1 pins s σ H _ us Q I r (.inl ⟨t, rfl, fin_sh q sF (.int _)⟩)
    case bl t =>
      cases h1.isBl
      exact call_int1 pins s σ H _ us Q I r (.inr ⟨t, rfl, fin_sh q sF (.int _)⟩)
  | m ks vs => rw [hw] at e; simp [b1] at e
theorem cb_bool : CallR X (.type "bool") (fun xs H Q => ∃ x, xs = [x] ∧ r1 X.prog X.w X.K (b1W .bool) x H Q) := by
  intro pins s σ H xs us Q I r h
  obtain ⟨x, rfl, F, w1, sF, h1, ok⟩ := h
  obtain ⟨wv, e0, q⟩ := ok.get
  obtain ⟨z, e, rfl⟩ := b1W_get e0
  cases hw : w1.x with
  | d d =>
    rw [hw] at h1 e
    cases d <;> simp only [b1, reduceCtorEq, Option.some.injEq] at e <;> subst e
    case int t =>
      cases h1.isInt
      exact call_bool1 pins s σ H _ us Q I r (.inl ⟨t, rfl, fin_sh q sF (.bl _)⟩)
    case bl t =>
      cases h1.isBl
      exact call_bool1 pins s σ H _ us Q I r (.inr ⟨t, rfl, fin_sh q sF (.bl _)⟩)
    case lst t =>
      obtain ⟨a, vs, rfl, g1, g2⟩ := h1.isLst sF
      refine call_boolL pins s σ H _ us Q I r ⟨a, vs, rfl, g1, ?_⟩
      have e : vs.isEmpty = t.isEmpty := by cases g2 <;> rfl
      rw [e]
      exact fin_sh q sF (.bl _)
  | m ks vs => rw [hw] at e; simp [b1] at e
theorem cb_tuple : CallR X (.type "tuple") (fun xs H Q => ∃ x, xs = [x] ∧ r1 X.prog X.w X.K (b1W .tuple) x H Q) := by
  intro pins s σ H xs us Q I r h
  obtain ⟨x, rfl, F, w1, sF, h1, ok⟩ := h
  obtain ⟨wv, e0, q⟩ := ok.get
  obtain ⟨z, e, rfl⟩ := b1W_get e0
  cases hw : w1.x with
  | d d =>
    rw [hw] at h1 e
    cases d <;> simp only [b1, reduceCtorEq, Option.some.injEq] at e <;> subst e
    case tup t =>
      obtain ⟨a, vs, rfl, g1, g1', g2⟩ := h1.isTup sF
      exact call_tuple_of pins s σ H _ us Q I r ⟨a, vs, rfl, .inr ⟨g1, fin_sh q sF (.tup g1' g2)⟩⟩
    case lst t =>
      obtain ⟨a, vs, rfl, g1, g2⟩ := h1.isLst sF
      exact call_tuple_of pins s σ H _ us Q I r ⟨a, vs, rfl, .inl ⟨g1, fun l hl => fin_tup q sF hl g2⟩⟩
  | m ks vs => rw [hw] at e; simp [b1] at e
theorem ints_get : ∀ {ds : List D} {ns : List Int}, Q7.intsQ ds = some ns → ds = ns.map .int
  | [], ns, h => by simp [Q7.intsQ] at h; subst h; rfl
  | d :: ds, ns, h => by
    cases d <;> simp [Q7.intsQ] at h
    obtain ⟨ms, h1, rfl⟩ := h
    rw [ints_get h1]; rfl
theorem Rps.intsQ {K : PySem.W.Frag} {F : Hp} : ∀ {vs : List V} {ns : List Int}, Rps K F vs (ns.map .int) → vs = ns.map V.int
  | _, [], .nil => rfl
  | _, n :: ns, .cons a b => by
    cases a
    rw [Rps.intsQ b]; rfl
theorem cb_sum (hc : X.calm = true) : CallR X (.builtin "sum") (fun xs H Q => ∃ x, xs = [x] ∧ r1 X.prog X.w X.K (b1W .sum) x H Q) := by
  intro pins s σ H xs us Q I r h
  obtain ⟨x, rfl, F, w1, sF, h1, ok⟩ := h
  obtain ⟨wv, e0, q⟩ := ok.get
  obtain ⟨z, e, rfl⟩ := b1W_get e0
  cases hw : w1.x with
  | d d =>
    rw [hw] at h1 e
    cases d <;> simp only [b1, reduceCtorEq] at e
    case lst t =>
      split at e
      · rename_i ns hns
        cases e
        rw [ints_get hns] at h1
        obtain ⟨a, vs, rfl, g1, g2⟩ := h1.isLst sF
        rw [g2.intsQ] at g1
        exact cr_sum hc pins s σ H _ us Q I r ⟨a, ns, rfl, g1, fin_sh q sF (.int _)⟩
      · cases e
  | m ks vs => rw [hw] at e; simp [b1] at e
theorem cb_min2 (hc : X.calm = true) : CallR X (.builtin "min") (fun xs H Q => ∃ x y, xs = [x, y] ∧ r2 X.prog X.w X.K min2W x y H Q) := by
  intro pins s σ H xs us Q I r h
  obtain ⟨x, y, rfl, F, w1, w2, sF, h1, h2, ok⟩ := h
  obtain ⟨wv, e, q⟩ := ok.get
  simp only [min2W, Option.bind_eq_bind, Option.bind_eq_some_iff] at e
  obtain ⟨d1, e1, d2, e2, e⟩ := e
  rw [dat_get e1] at h1
  rw [dat_get e2] at h2
  cases d1 <;> cases d2 <;> simp only [reduceCtorEq, Option.some.injEq] at e
  subst e
  cases h1.isInt
  cases h2.isInt
  exact call_min2 hc pins s σ H _ us Q I r ⟨_, _, rfl, fin_sh q sF (.int _)⟩
theorem cb_max2 (hc : X.calm = true) : CallR X (.builtin "max") (fun xs H Q => ∃ x y, xs = [x, y] ∧ r2 X.prog X.w X.K max2W x y H Q) := by
  intro pins s σ H xs us Q I r h
  obtain ⟨x, y, rfl, F, w1, w2, sF, h1, h2, ok⟩ := h
  obtain ⟨wv, e, q⟩ := ok.get
  simp only [max2W, Option.bind_eq_bind, Option.bind_eq_some_iff] at e
  obtain ⟨d1, e1, d2, e2, e⟩ := e
  rw [dat_get e1] at h1
  rw [dat_get e2] at h2
  cases d1 <;> cases d2 <;> simp only [reduceCtorEq, Option.some.injEq] at e
  subst e
  cases h1.isInt
  cases h2.isInt
  exact call_max2 hc pins s σ H _ us Q I r ⟨_, _, rfl, fin_sh q sF (.int _)⟩

/-! ### isinstance -/
def tyName : Ty → String
  | .int => "int" | .str => "str" | .bool => "bool" | .tuple => "tuple" | .list => "list"
def dName : D → String
  | .non => "NoneType" | .bl _ => "bool" | .int _ => "int" | .str _ => "str" | .tup _ => "tuple" | .lst _ => "list"
theorem kit_d (d : D) (t : Ty) : kitB (dName d) (tyName t) = some (hasTy (.d d) t) := by
  cases d <;> cases t <;> simp only [dName, tyName, hasTy] <;> decide +kernel
theorem SqL.ty {K : PySem.W.Frag} {H : Hp} {a : Addr} {xs : List V} (h : SqL K H a xs) : TyX K H (.ref a) (.type "list") := by
  rcases h with (h | ⟨o, h⟩) | ⟨o, its, n, h1, h2, _⟩
  · exact .base (.lst h)
  · exact .base (.frz h)
  · exact .kList h1 h2
theorem SqT.ty {K : PySem.W.Frag} {H : Hp} {a : Addr} {xs : List V} (h : SqT K H a xs) : TyX K H (.ref a) (.type "tuple") := by
  rcases h with (h | ⟨o, h⟩) | ⟨o, its, n, h1, h2, _⟩
  · exact .base (.tup h)
  · exact .fTuple h
  · exact .kTuple h1 h2
theorem Rp.ty {K : PySem.W.Frag} {H : Hp} {v : V} {d : D} (h : Rp K H v d) : TyX K H v (.type (dName d)) := by
  cases h with
  | non => exact .base .non
  | bl b => exact .base (.bl b)
  | int b => exact .base (.int b)
  | str b => exact .base (.str _)
  | lst q _ => exact SqL.ty q
  | tup q _ => exact SqT.ty q
theorem trTy_get {x : Str} {t : Ty} (h : trTy x = some t) : x = Str.ofString (tyName t) := by
  unfold trTy at h
  split at h
  · cases h; assumption
  · split at h
    · cases h; assumption
    · split at h
      · cases h; assumption
      · split at h
        · cases h; assumption
        · split at h
          · cases h; assumption
          · cases h
theorem s_isi {x : Str} {t : Ty} {np : Pos} (ht : trTy x = some t) (hg : Gl X "isinstance") (hm : X.mg "isinstance" = none) (hg2 : Gl X x) (hm2 : X.mg x = none) (hs : isStar e1 = false) (ha : PE X e1 (tEX X ca cl Wx a)) :
    PE X (.Call (.Name "isinstance" p) [e1, .Name x np] [] pos) (tEX X ca cl Wx (.isi a t)) := by
  have hb : PE X (.Name x np) (tC (.ty (tyName t))) := by
    have e := trTy_get ht
    subst e
    cases t
    · exact pe_bltn hg2 hm2 rfl rfl
    · exact pe_bltn hg2 hm2 rfl rfl
    · exact pe_bltn hg2 hm2 rfl rfl
    · exact pe_bltn hg2 hm2 rfl rfl
    · exact pe_bltn hg2 hm2 rfl rfl
  refine pe_imp (pe_callB call_isi hg hm rfl (pa_cons ha (pa_cons hb pa_nil rfl) (star_plain hs)) (by decide) (by decide) (star_plain hs) rfl) fun σ H Q h => ?_
  obtain ⟨ρ, F, sr, q⟩ := h
  rw [ev] at q
  refine tE.bind sr q fun wv v H1 F1 n hv sr1 q1 => ?_
  cases hw : wv.x with
  | m _ _ => simp [isiW, hw] at q1; exact q1.elim
  | d d =>
    simp only [isiW, hw, R.of_some] at q1
    have hr := hv.rd sr n
    rw [hw] at hr
    have hr : Rp X.K H1 v d := hr
    exact ⟨v, .ty (tyName t), _, _, _, rfl, .ty _, hr.ty, kit_ty (kit_d d t), q1.ok n.fh (.sh (.bl _))⟩

/-! ### calls -/
/-- what a def of the text promises -/
def spF (P : Program) (w : World) (K : PySem.W.Frag) (ca : Nat → Addr) (cl : Nat → List Xv → R W) (f : Nat) : Sp := fun vs H Q E => ∃ xs F, Sub F H ∧ RpXs P w K F vs xs ∧ match cl f xs with
  | .ok wv => ∀ v H' F', Nx H F H' F' → New P w K H H' F' v wv → Q v H'
  | .exc e => ∀ H' F', Nx H F H' F' → E (.ref (ca e)) none H'
  | .stuck => False
theorem s_call {x : Str} {i k : Nat} {f : Addr} {fd : FuncData} {ps : List Str} {es : List Expr} {as : CEs} (Fo : FnOk X.prog X.w X.K X.mg X.base (L2.CX X.prog X.w) k f fd ps (spF X.prog X.w X.K ca cl i)) (hr : Room k X.A) (hg : Gl X x) (hm : X.mg x = some (.ref f)) (hk : PySem.W.keepIn X.K (.ref f) = true) (hb : Binds X.K fd ps [])
    (tk : Takes X Wx) (hdb : (x == ("__debug__" : Str)) = false) (hs : isStar e1 = false) (hp : (backTo pos (starEach es X.env)).any (·.1) = false) (ha : PA X (e1 :: es) (tAX X ca cl Wx as)) : PE X (.Call (.Name x p) (e1 :: es) [] pos) (tEX X ca cl Wx (.call i as)) :=
  pe_imp (pe_callS Fo hr hg hm hk hb (fun σ => passAt tk σ) ha hdb (star_plain hs) hp) fun σ H Q ⟨ρ, F, sr, q⟩ => by
    rw [ev] at q
    have q' : tR (Gx X ca cl) Wx σ H F (eva cl ρ as >>= fun xs => cl i xs) fun wv H' F' => ∀ v, Val X.prog X.w X.K H H' F' σ ρ v wv → Q v H' := q
    refine ⟨ρ, F, sr, q'.bind fun xs H1 F1 e1 n1 q1 vs hvs => ⟨xs, F1, n1.fh, hvs, ?_⟩⟩
    cases e : cl i xs with
    | ok wv =>
      rw [e] at q1
      exact fun v H' F' n hv => q1 H' F' n v (hv.val n1.hh)
    | exc c =>
      rw [e] at q1
      exact fun H' F' n => q1 H' F' n
    | stuck => rw [e] at q1; exact q1.elim
theorem backs {env : PySem.Env} {pos : Pos} : ∀ {es : List Expr}, (∀ e ∈ es, isStar e = false) → (backTo pos (starEach es env)).any (·.1) = false
  | [], _ => rfl
  | e :: es, h => by
    rw [star_plain (h e (List.mem_cons_self ..))]
    have := backs (env := env) (pos := pos) (es := es) fun x hx => h x (List.mem_cons_of_mem _ hx)
    unfold backTo at this ⊢
    rw [List.map_cons, List.any_cons, this]
    rfl
end
end Q7
end

section
set_option autoImplicit false
set_option Elab.async false
set_option linter.all false
set_option maxRecDepth 100000
/-! Targets, walks, comprehensions. -/
namespace Q7
open PySem PySem.Spec PyProof.Rows L2

/-! ### slots -/
section
variable {P : Program} {w : World} {K : PySem.W.Frag} {σ : L2.St} {H F : Hp} {ρ : Q7.Env} {v : V} {x : Xv} {i : Nat}
theorem SR.set_sh (r : SR P w K σ H F ρ) (i : Nat) (h : RpX P w K F v x) : SR P w K (σ.set i (some v)) H F (ρ.set i (some (false, x))) := by
  refine ⟨r.sub, by rw [List.length_set, List.length_set]; exact r.len, fun j y e => ?_, fun j y e => ?_, fun j l y z a e1 e2 s1 s2 => ?_⟩
  · by_cases hj : i = j
    · subst hj
      by_cases hl : i < ρ.length
      · rw [List.getElem?_set_self hl] at e
        cases e
        exact ⟨v, List.getElem?_set_self (by rw [r.len]; exact hl), h⟩
      · rw [List.getElem?_eq_none (by simpa using hl)] at e; cases e
    · rw [List.getElem?_set_ne hj] at e
      rw [List.getElem?_set_ne hj]
      exact r.sh j y e
  · by_cases hj : i = j
    · subst hj
      by_cases hl : i < ρ.length
      · rw [List.getElem?_set_self hl] at e; cases e
      · rw [List.getElem?_eq_none (by simpa using hl)] at e; cases e
    · rw [List.getElem?_set_ne hj] at e
      rw [List.getElem?_set_ne hj]
      exact r.own j y e
  · have n1 : i ≠ j := fun hj => by
      subst hj
      by_cases hl : i < ρ.length
      · rw [List.getElem?_set_self hl] at e1; cases e1
      · rw [List.getElem?_eq_none (by simpa using hl)] at e1; cases e1
    have n2 : i ≠ l := fun hj => by
      subst hj
      by_cases hl : i < ρ.length
      · rw [List.getElem?_set_self hl] at e2; cases e2
      · rw [List.getElem?_eq_none (by simpa using hl)] at e2; cases e2
    rw [List.getElem?_set_ne n1] at e1 s1
    rw [List.getElem?_set_ne n2] at e2 s2
    exact r.inj j l y z a e1 e2 s1 s2
theorem SR.set_none (r : SR P w K σ H F ρ) (i : Nat) : SR P w K (σ.set i none) H F (ρ.set i none) := by
  have e0 : ∀ {j : Nat} {b : Bool} {y : Xv}, (ρ.set i none)[j]? = some (some (b, y)) → i ≠ j ∧ ρ[j]? = some (some (b, y)) := fun {j b y} e => by
    by_cases hj : i = j
    · subst hj
      by_cases hl : i < ρ.length
      · rw [List.getElem?_set_self hl] at e; cases e
      · rw [List.getElem?_eq_none (by simpa using hl)] at e; cases e
    · rw [List.getElem?_set_ne hj] at e
      exact ⟨hj, e⟩
  refine ⟨r.sub, by rw [List.length_set, List.length_set]; exact r.len, fun j y e => ?_, fun j y e => ?_, fun j l y z a e1 e2 s1 s2 => ?_⟩
  · obtain ⟨hj, e⟩ := e0 e
    rw [List.getElem?_set_ne hj]; exact r.sh j y e
  · obtain ⟨hj, e⟩ := e0 e
    rw [List.getElem?_set_ne hj]; exact r.own j y e
  · obtain ⟨h1, e1⟩ := e0 e1
    obtain ⟨h2, e2⟩ := e0 e2
    rw [List.getElem?_set_ne h1] at s1
    rw [List.getElem?_set_ne h2] at s2
    exact r.inj j l y z a e1 e2 s1 s2
/-- the slots forgotten -/
def wipeE (ρ : Q7.Env) : List Nat → Q7.Env
  | [] => ρ
  | v :: vs => (wipeE ρ vs).set v none
theorem SR.wipe (r : SR P w K σ H F ρ) : ∀ vs : List Nat, SR P w K (wipe σ vs) H F (wipeE ρ vs)
  | [] => r
  | v :: vs => (SR.wipe r vs).set_none v
end

/-! ### targets -/
section
variable {K : PySem.W.Frag} {σ : L2.St} {H F : Hp} {ρ ρ' : Q7.Env}
mutual
def gT (K : PySem.W.Frag) : Tg → TG
  | .nm i => gName i
  | .tp ts => gTup K ts.length (gTs K ts)
def gTs (K : PySem.W.Frag) : List Tg → TGs
  | [] => gNil
  | t :: ts => gCons (gT K t) (gTs K ts)
end
theorem wipe_set (i : Nat) (x : Option V) : ∀ (vs : List Nat) (σ : L2.St), i ∈ vs → wipe (σ.set i x) vs = wipe σ vs
  | [], _, h => nomatch h
  | v :: vs, σ, h => by
    show (wipe (σ.set i x) vs).set v none = (wipe σ vs).set v none
    by_cases e : i ∈ vs
    · rw [wipe_set i x vs σ e]
    · have e2 : i = v := by
        rcases List.mem_cons.mp h with q | q
        · exact q
        · exact absurd q e
      subst e2
      have e3 : ∀ (vs : List Nat) (σ : L2.St), i ∉ vs → wipe (σ.set i x) vs = (wipe σ vs).set i x := by
        intro vs
        induction vs with
        | nil => intro σ _; rfl
        | cons a r ih =>
          intro σ hn
          have h1 : i ≠ a := fun z => hn (by rw [z]; exact List.mem_cons_self ..)
          show (wipe (σ.set i x) r).set a none = ((wipe σ r).set a none).set i x
          rw [ih σ fun z => hn (List.mem_cons_of_mem _ z), List.set_comm _ _ h1]
      rw [e3 vs σ e, List.set_set]
mutual
theorem bind_ok (Pg : Program) (w : World) : ∀ (t : Tg) (d : D) (ρ ρ' : Q7.Env) (σ : L2.St) (v : V) (Q : L2.St → Hp → Prop), SR Pg w K σ H F ρ → bindT t d ρ = some ρ' → Rp K F v d →
    (∀ σ', SR Pg w K σ' H F ρ' → (∀ vs, (∀ j ∈ tgSlots t, j ∈ vs) → wipe σ' vs = wipe σ vs) → Q σ' H) → gT K t v σ H Q
  | .nm i, d, ρ, ρ', σ, v, Q, sr, e, r, q => by
    simp only [bindT, Option.some.injEq] at e
    subst e
    rw [gT]
    exact q _ (sr.set_sh i r) fun vs h => wipe_set i _ vs σ (h i (by simp [tgSlots]))
  | .tp ts, d, ρ, ρ', σ, v, Q, sr, e, r, q => by
    cases d with
    | tup ds =>
      cases r with
      | tup s1 rs =>
        rename_i a xs
        rw [gT]
        obtain ⟨hl, hq⟩ := binds_ok Pg w ts ds ρ ρ' σ xs Q sr e rs (by simpa [tgSlots] using q)
        exact ⟨a, xs, rfl, sr.sub.sqT s1, by rw [rs.length, hl], hq⟩
    | _ => cases ts <;> simp [bindT] at e
theorem binds_ok (Pg : Program) (w : World) : ∀ (ts : List Tg) (ds : List D) (ρ ρ' : Q7.Env) (σ : L2.St) (vs : List V) (Q : L2.St → Hp → Prop), SR Pg w K σ H F ρ → bindT (.tp ts) (.tup ds) ρ = some ρ' → Rps K F vs ds →
    (∀ σ', SR Pg w K σ' H F ρ' → (∀ us, (∀ j ∈ tgsSlots ts, j ∈ us) → wipe σ' us = wipe σ us) → Q σ' H) → ds.length = ts.length ∧ gTs K ts vs σ H Q
  | [], [], ρ, ρ', σ, vs, Q, sr, e, r, q => by
    simp only [bindT, Option.some.injEq] at e
    subst e
    cases r
    rw [gTs]
    exact ⟨rfl, rfl, q σ sr fun _ _ => rfl⟩
  | t :: ts, d :: ds, ρ, ρ', σ, vs, Q, sr, e, r, q => by
    simp only [bindT, Option.bind_eq_some_iff] at e
    obtain ⟨ρ1, e1, e2⟩ := e
    cases r with
    | cons r1 rs =>
      rw [gTs]
      -- the length is that of any run
      have hlen : ds.length = ts.length := bindT_len e2
      refine ⟨by rw [List.length_cons, List.length_cons, hlen], _, _, rfl, bind_ok Pg w t d ρ ρ1 σ _ _ sr e1 r1 fun σ1 sr1 w1 => ?_⟩
      exact (binds_ok Pg w ts ds ρ1 ρ' σ1 _ Q sr1 e2 rs fun σ' sr' w' => q σ' sr' fun us h => (w' us fun j hj => h j (by simp only [tgsSlots, List.mem_append]; exact .inr hj)).trans (w1 us fun j hj => h j (by simp only [tgsSlots, List.mem_append]; exact .inl hj))).2
  | [], _ :: _, _, _, _, _, _, _, e, _, _ => by simp [bindT] at e
  | _ :: _, [], _, _, _, _, _, _, e, _, _ => by simp [bindT] at e
theorem bindT_len : ∀ {ts : List Tg} {ds : List D} {ρ ρ' : Q7.Env}, bindT (.tp ts) (.tup ds) ρ = some ρ' → ds.length = ts.length
  | [], [], _, _, _ => rfl
  | t :: ts, d :: ds, ρ, ρ', e => by
    simp only [bindT, Option.bind_eq_some_iff] at e
    obtain ⟨ρ1, e1, e2⟩ := e
    rw [List.length_cons, List.length_cons, bindT_len e2]
  | [], _ :: _, _, _, e => by simp [bindT] at e
  | _ :: _, [], _, _, e => by simp [bindT] at e
end
end

/-! ### a target's slots are forgotten first -/
mutual
theorem bind_set : ∀ (t : Tg) (d : D) (ρ ρ' : Q7.Env) (j : Nat), bindT t d ρ = some ρ' → j ∉ tgSlots t → bindT t d (ρ.set j none) = some (ρ'.set j none)
  | .nm i, d, ρ, ρ', j, e, h => by
    simp only [bindT, Option.some.injEq] at e ⊢
    subst e
    rw [List.set_comm]
    intro z
    exact h (by simp [tgSlots, z])
  | .tp ts, d, ρ, ρ', j, e, h => by
    cases d with
    | tup ds => exact binds_set ts ds ρ ρ' j e (by simpa [tgSlots] using h)
    | _ => cases ts <;> simp [bindT] at e
theorem binds_set : ∀ (ts : List Tg) (ds : List D) (ρ ρ' : Q7.Env) (j : Nat), bindT (.tp ts) (.tup ds) ρ = some ρ' → j ∉ tgsSlots ts → bindT (.tp ts) (.tup ds) (ρ.set j none) = some (ρ'.set j none)
  | [], [], ρ, ρ', j, e, h => by
    simp only [bindT, Option.some.injEq] at e ⊢
    rw [e]
  | t :: ts, d :: ds, ρ, ρ', j, e, h => by
    simp only [bindT, Option.bind_eq_some_iff] at e ⊢
    obtain ⟨ρ1, e1, e2⟩ := e
    simp only [tgsSlots, List.mem_append, not_or] at h
    exact ⟨_, bind_set t d ρ ρ1 j e1 h.1, binds_set ts ds ρ1 ρ' j e2 h.2⟩
  | [], _ :: _, _, _, _, e, _ => by simp [bindT] at e
  | _ :: _, [], _, _, _, e, _ => by simp [bindT] at e
end
mutual
theorem bind_wipe1 : ∀ (t : Tg) (d : D) (ρ ρ' : Q7.Env) (j : Nat), bindT t d ρ = some ρ' → j ∈ tgSlots t → bindT t d (ρ.set j none) = some ρ'
  | .nm i, d, ρ, ρ', j, e, h => by
    have h' : j = i := by simpa [tgSlots] using h
    subst h'
    simp only [bindT, Option.some.injEq] at e ⊢
    rw [List.set_set]; exact e
  | .tp ts, d, ρ, ρ', j, e, h => by
    cases d with
    | tup ds => exact binds_wipe1 ts ds ρ ρ' j e (by simpa [tgSlots] using h)
    | _ => cases ts <;> simp [bindT] at e
theorem binds_wipe1 : ∀ (ts : List Tg) (ds : List D) (ρ ρ' : Q7.Env) (j : Nat), bindT (.tp ts) (.tup ds) ρ = some ρ' → j ∈ tgsSlots ts → bindT (.tp ts) (.tup ds) (ρ.set j none) = some ρ'
  | [], [], ρ, ρ', j, e, h => by simp [tgsSlots] at h
  | t :: ts, d :: ds, ρ, ρ', j, e, h => by
    simp only [bindT, Option.bind_eq_some_iff] at e ⊢
    obtain ⟨ρ1, e1, e2⟩ := e
    by_cases h1 : j ∈ tgSlots t
    · exact ⟨ρ1, bind_wipe1 t d ρ ρ1 j e1 h1, e2⟩
    · have h2 : j ∈ tgsSlots ts := by
        simp only [tgsSlots, List.mem_append] at h
        exact h.resolve_left h1
      exact ⟨_, bind_set t d ρ ρ1 j e1 h1, binds_wipe1 ts ds ρ1 ρ' j e2 h2⟩
  | [], _ :: _, _, _, _, e, _ => by simp [bindT] at e
  | _ :: _, [], _, _, _, e, _ => by simp [bindT] at e
end
theorem bind_wipe {t : Tg} {d : D} {ρ ρ' : Q7.Env} (e : bindT t d ρ = some ρ') : ∀ vs : List Nat, (∀ j ∈ vs, j ∈ tgSlots t) → bindT t d (wipeE ρ vs) = some ρ'
  | [], _ => e
  | v :: vs, h => bind_wipe1 t d _ ρ' v (bind_wipe e vs fun j hj => h j (List.mem_cons_of_mem _ hj)) (h v (List.mem_cons_self ..))

/-! ### targets of the text -/
section
variable {X : Cx} {S : SC}
theorem ixOf_get {x : Str} : ∀ {N : List Str} {i : Nat}, ixOf x N = some i → N[i]? = some x
  | [], _, h => by simp [ixOf] at h
  | y :: r, i, h => by
    simp only [ixOf] at h
    split at h
    · rename_i hy
      cases h
      rw [hy]; rfl
    · cases e : ixOf x r with
      | none => rw [e] at h; cases h
      | some j =>
        rw [e] at h
        have h' : j + 1 = i := Option.some.inj h
        subst h'
        rw [List.getElem?_cons_succ]
        exact ixOf_get e
theorem locK_get {o : Option NameKind} (h : locK o = true) : o = some .local ∨ o = some .cell := by
  cases o with
  | none => cases h
  | some k => cases k <;> first | exact .inl rfl | exact .inr rfl | cases h
theorem isLocal_get {o : Option NameKind} (h : isLocal o = true) : o = some .local := by
  cases o with
  | none => cases h
  | some k => cases k <;> first | rfl | cases h
theorem visK_get {o : Option NameKind} (h : visK o = true) : o = some .local ∨ o = some .cell ∨ o = some .free := by
  cases o with
  | none => cases h
  | some k => cases k <;> first | exact .inl rfl | exact .inr (.inl rfl) | exact .inr (.inr rfl) | cases h
theorem glbK_get {o : Option NameKind} (h : glbK o = true) : o = some .globalImplicit := by
  cases o with
  | none => cases h
  | some k => cases k <;> first | rfl | cases h
theorem storeOf_get {x : Str} {i : Nat} (h : storeOf S x = some i) : S.N[i]? = some x ∧ (S.sc.names.lookup x = some .local ∨ S.sc.names.lookup x = some .cell) ∧ (S.fn x = true ∨ S.sc.names.lookup x = some .local) := by
  unfold storeOf at h
  split at h
  · rename_i hc
    rw [Bool.and_eq_true, Bool.or_eq_true] at hc
    exact ⟨ixOf_get h, locK_get hc.1, hc.2.imp id isLocal_get⟩
  · cases h
mutual
theorem s_tg (hc : X.calm = true) (nd : X.N.Nodup) (hN : X.N = S.N) (hs : X.env.scope = S.sc) (hf : ∀ x, S.fn x = true → X.fn x = true) : ∀ (e : Expr) (t : Tg), trTg S e = some t → PG X e (gT X.K t) ∧ isStar e = false ∧ tgSlots t = (ownOf S e).map (·.2)
  | .Name x p, t, h => by
    simp only [trTg, Option.map_eq_some_iff] at h
    obtain ⟨i, h1, rfl⟩ := h
    have ⟨h2, h3, h4⟩ := storeOf_get h1
    rw [gT]
    refine ⟨pg_name nd (by rw [hN]; exact h2) (by rw [hs]; exact h3) (by rw [hs]; exact h4.imp (hf x) id), rfl, ?_⟩
    unfold storeOf at h1
    split at h1
    · simp [tgSlots, ownOf, h1]
    · cases h1
  | .Tuple es k p, t, h => by
    simp only [trTg, Option.map_eq_some_iff] at h
    obtain ⟨ts, h1, rfl⟩ := h
    obtain ⟨g1, g2, g3, g4, g5⟩ := s_tgs hc nd hN hs hf es ts h1
    rw [gT]
    exact ⟨pg_tup hc g1 g3 g4, rfl, by simpa [tgSlots, ownOf] using g5⟩
  | .BoolOp .., _, h => by simp [trTg] at h
  | .NamedExpr .., _, h => by simp [trTg] at h
  | .BinOp .., _, h => by simp [trTg] at h
  | .UnaryOp .., _, h => by simp [trTg] at h
  | .Lambda .., _, h => by simp [trTg] at h
  | .IfExp .., _, h => by simp [trTg] at h
  | .Dict .., _, h => by simp [trTg] at h
  | .Set .., _, h => by simp [trTg] at h
  | .ListComp .., _, h => by simp [trTg] at h
  | .SetComp .., _, h => by simp [trTg] at h
  | .DictComp .., _, h => by simp [trTg] at h
  | .GeneratorExp .., _, h => by simp [trTg] at h
  | .Await .., _, h => by simp [trTg] at h
  | .Yield .., _, h => by simp [trTg] at h
  | .YieldFrom .., _, h => by simp [trTg] at h
  | .Compare .., _, h => by simp [trTg] at h
  | .Call .., _, h => by simp [trTg] at h
  | .FormattedValue .., _, h => by simp [trTg] at h
  | .JoinedStr .., _, h => by simp [trTg] at h
  | .Constant .., _, h => by simp [trTg] at h
  | .Attribute .., _, h => by simp [trTg] at h
  | .Subscript .., _, h => by simp [trTg] at h
  | .Starred .., _, h => by simp [trTg] at h
  | .List .., _, h => by simp [trTg] at h
  | .Slice .., _, h => by simp [trTg] at h
theorem s_tgs (hc : X.calm = true) (nd : X.N.Nodup) (hN : X.N = S.N) (hs : X.env.scope = S.sc) (hf : ∀ x, S.fn x = true → X.fn x = true) : ∀ (es : List Expr) (ts : List Tg), trTgs S es = some ts →
    PGs X es (gTs X.K ts) ∧ (∀ e ∈ es, isStar e = false) ∧ (assignEach es X.env).length = ts.length ∧ (assignEach es X.env).findIdx? (·.1) = none ∧ tgsSlots ts = (ownsOf S es).map (·.2)
  | [], ts, h => by
    simp only [trTgs, Option.some.injEq] at h
    subst h
    rw [gTs]
    exact ⟨pgs_nil, by simp, rfl, rfl, rfl⟩
  | e :: es, ts, h => by
    simp only [trTgs, Option.bind_eq_bind, Option.bind_eq_some_iff, Option.some.injEq] at h
    obtain ⟨t, h1, us, h2, rfl⟩ := h
    obtain ⟨g1, g2, g3⟩ := s_tg hc nd hN hs hf e t h1
    obtain ⟨k1, k2, k3, k4, k5⟩ := s_tgs hc nd hN hs hf es us h2
    have ea : assignEach (e :: es) X.env = (false, assign e X.env) :: assignEach es X.env := by
      cases e <;> first
        | rfl
        | (simp [isStar] at g2)
    rw [gTs]
    refine ⟨pgs_cons g1 k1 (by rw [ea]; rfl), fun x hx => ?_, by rw [ea, List.length_cons, List.length_cons, k3], by rw [ea, List.findIdx?_cons]; simp [k4], ?_⟩
    · rcases List.mem_cons.mp hx with rfl | hx
      · exact g2
      · exact k2 x hx
    · simp only [tgsSlots, ownsOf, List.map_append, g3, k5]
end
end

/-! ### what is walked -/
section
variable {X : Cx} {ca : Nat → Addr} {cl : Nat → List Xv → R W} {Wx : WX} {tg e e1 e2 : Expr} {a b : CE} {p pos : Pos}
abbrev tIX (X : Cx) (ca : Nat → Addr) (cl : Nat → List Xv → R W) (Wx : WX) (c : CI) : TI := tI (Gx X ca cl) Wx c
theorem gives_list {K : PySem.W.Frag} {F : Hp} {a : Addr} {vs : List V} {ds : List D} (h : SqL K F a vs) (r : Rps K F vs ds) : Gives K F (Itl K a) ds := by
  intro i H M s1 s2
  have s12 := s1.trans s2
  refine ⟨fun d hd => ?_, fun hl => ⟨vs, s12.sqL h, by rw [r.length]; exact Nat.le_of_eq hl.symm⟩⟩
  obtain ⟨v, hv, rv⟩ := r.get hd
  refine ⟨⟨vs, v, s12.sqL h, hv⟩, fun x H' ⟨e, q⟩ => ?_⟩
  subst e
  have hx := q vs (s12.sqL h)
  rw [hv] at hx
  cases hx
  exact ⟨M, Nx.refl s2, rv.mono s1⟩
theorem gives_tup {K : PySem.W.Frag} {F : Hp} {a : Addr} {vs : List V} {ds : List D} (h : SqT K F a vs) (r : Rps K F vs ds) : Gives K F (Itt K a) ds := by
  intro i H M s1 s2
  have s12 := s1.trans s2
  refine ⟨fun d hd => ?_, fun hl => ⟨vs, s12.sqT h, by rw [r.length]; exact Nat.le_of_eq hl.symm⟩⟩
  obtain ⟨v, hv, rv⟩ := r.get hd
  refine ⟨⟨vs, v, s12.sqT h, hv⟩, fun x H' ⟨e, q⟩ => ?_⟩
  subst e
  have hx := q vs (s12.sqT h)
  rw [hv] at hx
  cases hx
  exact ⟨M, Nx.refl s2, rv.mono s1⟩
theorem gives_str {K : PySem.W.Frag} {F : Hp} {s : List Nat} (o : OkS s) : Gives K F (Its (toS s)) (s.map fun c => .str [c]) := by
  intro i H M s1 s2
  refine ⟨fun d hd => ?_, fun hl => ?_⟩
  · rw [List.getElem?_map, Option.map_eq_some_iff] at hd
    obtain ⟨c, hc, rfl⟩ := hd
    refine ⟨by
      have := (List.getElem?_eq_some_iff.mp hc).1
      show i < (toS s).cps.size
      simpa [toS] using this, fun x H' ⟨e, c', hc', ex⟩ => ?_⟩
    subst e
    subst ex
    have e : c' = c := by
      have h1 : s.toArray[i]? = some c' := hc'
      rw [List.getElem?_toArray, hc] at h1
      exact (Option.some.inj h1).symm
    subst e
    exact ⟨M, Nx.refl s2, .str (s := [c']) ⟨by unfold big; simp, fun z hz => by
      have : z = c' := by simpa using hz
      rw [this]; exact o.asc _ (List.mem_of_getElem? hc)⟩⟩
  · show (toS s).cps.size ≤ i
    rw [hl]; simp [toS]
theorem gives_rng {K : PySem.W.Frag} {F : Hp} (lo : Int) (n : Nat) : Gives K F (Itr lo n) (rngL lo n) := by
  intro i H M s1 s2
  refine ⟨fun d hd => ?_, fun hl => ?_⟩
  · unfold rngL at hd
    rw [List.getElem?_map, Option.map_eq_some_iff] at hd
    obtain ⟨c, hc, rfl⟩ := hd
    obtain ⟨h1, h2⟩ := List.getElem?_eq_some_iff.mp hc
    rw [List.length_range] at h1
    rw [List.getElem_range] at h2
    subst h2
    exact ⟨h1, fun x H' ⟨e, ex⟩ => by subst e; subst ex; exact ⟨M, Nx.refl s2, .int _⟩⟩
  · show n ≤ i
    rw [hl]; unfold rngL; simp
theorem valI_get {x : W} {ds : List D} (h : valI x = some ds) : ∃ d, x.x = .d d ∧ x.k ≠ .bo ∧ items d = some ds := by
  simp only [valI, Option.bind_eq_bind, Option.bind_eq_some_iff] at h
  obtain ⟨d, h1, h2⟩ := h
  exact ⟨d, (st_get h1).1, (st_get h1).2, h2⟩
/-- what stands is walked as it stands -/
theorem iter_val {pins : List (Addr × Obj)} {σ : L2.St} {H F : Hp} {s : Shared} {R0 : It → Hp → Prop} {v : V} {u : Value} {d : D} {ds : List D} (I : Inv X pins σ H s) (sF : Sub F H) (ru : RelV v u) (r : Rp X.K F v d) (e : items d = some ds) (q : ∀ J, Gives X.K F J ds → R0 J H) :
    wpAny (model X.prog X.w) X.A (pyIter u) (PIE X pins σ tg R0) X.xe s := by
  cases r with
  | @lst a xs ds' h1 h2 =>
    simp only [items, Option.some.injEq] at e
    subst e
    cases ru
    obtain ⟨its, rv, p, hz⟩ := I.list (sF.sqL h1)
    refine wpAny_pyIter_list p.isList ?_
    refine ⟨s.heap.objs.size, [s.heap.objs.size], _, _, H, rfl, I.kept (t' := s.toks) fun b o e => Heap.get?_push_of_some _ e, turn_list a _, ⟨_, Heap.get?_push_size _ rfl, rfl, rfl⟩, fun b hb => ?_, q _ (gives_list h1 h2)⟩
    have e : b = s.heap.objs.size := by simpa using hb
    subst e
    exact I.fpOk (Nat.le_refl _) (I.hok.fresh (Nat.le_refl _))
  | @tup a xs ds' h1 h2 =>
    simp only [items, Option.some.injEq] at e
    subst e
    cases ru
    obtain ⟨its, rv, p, hz⟩ := I.tuple (sF.sqT h1)
    refine wpAny_pyIter_tuple (show s.heap.IsTuple a its.toArray from p) ?_
    refine ⟨s.heap.objs.size, [s.heap.objs.size], _, _, H, rfl, I.kept (t' := s.toks) fun b o e => Heap.get?_push_of_some _ e, turn_tuple a _, ⟨_, Heap.get?_push_size _ rfl, rfl, rfl⟩, fun b hb => ?_, q _ (gives_tup h1 h2)⟩
    have e : b = s.heap.objs.size := by simpa using hb
    subst e
    exact I.fpOk (Nat.le_refl _) (I.hok.fresh (Nat.le_refl _))
  | @str t o =>
    simp only [items, Option.some.injEq] at e
    subst e
    obtain ⟨tk, rfl⟩ := ru
    have ha : (toS t).cps.all (· < 128) = true := by
      show t.toArray.all _ = true
      rw [List.all_toArray]
      exact List.all_eq_true.mpr fun c hc => decide_eq_true (o.asc c hc)
    exact wpAny_pyIter_ascii ha (pi_one (tk := s.toks) I _ (turn_str _ (toS t) tk "str_ascii_iterator" (.inl rfl)) ⟨_, Heap.get?_push_size _ rfl, rfl, rfl⟩ (q _ (gives_str o)))
  | non => simp [items] at e
  | bl b => simp [items] at e
  | int b => simp [items] at e
theorem s_ival (ha : PE X e (tEX X ca cl Wx a)) : PI X tg e (tIX X ca cl Wx (.val a)) := by
  refine ⟨fun pins s σ H R0 I h => ?_⟩
  obtain ⟨ρ, F, sr, q⟩ := h
  rw [evi] at q
  have h2 : tEX X ca cl Wx a σ H (fun v H1 => ∃ F1 d ds, Sub F1 H1 ∧ Rp X.K F1 v d ∧ items d = some ds ∧ ∀ J, Gives X.K F1 J ds → R0 J H1) := by
    refine ⟨ρ, F, sr, q.bind fun wv H1 F1 e1 n q1 v hv => ?_⟩
    cases e2 : valI wv with
    | none => rw [e2] at q1; exact q1.elim
    | some ds =>
      obtain ⟨d, h1, h2, h3⟩ := valI_get e2
      obtain ⟨F2, n2, r⟩ := hv.keep n h2
      rw [h1] at r
      have q2 : tR (Gx X ca cl) Wx σ H F (R.of (valI wv)) fun ds H' F' => ∀ J, Gives X.K F' J ds → R0 J H' := by rw [e1] at q; exact q
      rw [e2] at q2
      exact ⟨F2, d, ds, n2.fh, r, h3, fun J g => q2 H1 F2 n2 J g⟩
  refine thn (ha.run pins s σ H _ I h2) fun u s1 ⟨v, H1, I1, r1, F1, d, ds, sF, r, e, q⟩ => ?_
  exact iter_val I1 sF r1 r e q
theorem s_rng1 (hg : Gl X "range") (hm : X.mg "range" = none) (hs : isStar e1 = false) (ha : PE X e1 (tEX X ca cl Wx a)) : PI X tg (.Call (.Name "range" p) [e1] [] pos) (tIX X ca cl Wx (.rng1 a)) := by
  have h := pi_range1 (tg := tg) (p := p) (pos := pos) hg hm (pa_cons ha pa_nil (star_plain hs)) (star_plain hs)
  refine ⟨fun pins s σ H R0 I hw => h.run pins s σ H R0 I ?_⟩
  obtain ⟨ρ, F, sr, q⟩ := hw
  rw [evi] at q
  refine ⟨ρ, F, sr, q.bind fun wv H1 F1 e1 n q1 v hv => ?_⟩
  cases e2 : rng1I wv with
  | none => rw [e2] at q1; exact q1.elim
  | some ds =>
    rw [e2] at q1
    simp only [rng1I, Option.bind_eq_bind, Option.bind_eq_some_iff] at e2
    obtain ⟨d, h1, h2⟩ := e2
    cases d <;> simp only [reduceCtorEq] at h2
    case int j =>
      split at h2
      · rename_i hc
        cases h2
        have hr := hv.rd sr n
        rw [dat_get h1] at hr
        have hr : Rp X.K H1 v (.int j) := hr
        cases hr
        have h3 : -(2 ^ 62) ≤ j ∧ j < 2 ^ 62 := by simpa [i62] using hc
        exact ⟨j, rfl, h3.1, h3.2, q1 H1 F1 (Nx.refl n.fh) _ (gives_rng 0 _)⟩
      · cases h2
theorem s_rng2 (hg : Gl X "range") (hm : X.mg "range" = none) (hs : isStar e1 = false) (hs2 : isStar e2 = false) (ha : PE X e1 (tEX X ca cl Wx a)) (hb : PE X e2 (tEX X ca cl Wx b)) : PI X tg (.Call (.Name "range" p) [e1, e2] [] pos) (tIX X ca cl Wx (.rng2 a b)) := by
  have h := pi_range2 (tg := tg) (p := p) (pos := pos) hg hm (pa_cons ha (pa_cons hb pa_nil (star_plain hs2)) (star_plain hs)) (by rw [star_plain hs, star_plain hs2]; rfl) (by rw [star_plain hs2]; rfl)
  refine ⟨fun pins s σ H R0 I hw => h.run pins s σ H R0 I ?_⟩
  obtain ⟨ρ, F, sr, q⟩ := hw
  rw [evi] at q
  refine ⟨ρ, F, sr, q.bind fun wv H1 F1 e1 n q1 v hv => ⟨ρ, F1, sr.step n, tR.bind (f := fun y => R.of (rng2I wv y)) q1 fun w2 H2 F2 e2 n2 q2 u hu => ?_⟩⟩
  cases e3 : rng2I wv w2 with
  | none => rw [e3] at q2; exact q2.elim
  | some ds =>
    rw [e3] at q2
    simp only [rng2I, Option.bind_eq_bind, Option.bind_eq_some_iff] at e3
    obtain ⟨d1, h1, d2, h2, h3⟩ := e3
    cases d1 <;> cases d2 <;> simp only [reduceCtorEq] at h3
    case int.int i j =>
      split at h3
      · rename_i hc
        cases h3
        have hr := hv.rd sr n
        rw [dat_get h1] at hr
        have hr : Rp X.K H1 v (.int i) := hr
        cases hr
        have hr := hu.rd (sr.step n) n2
        rw [dat_get h2] at hr
        have hr : Rp X.K H2 u (.int j) := hr
        cases hr
        have h4 : (-(2 ^ 62) ≤ i ∧ i < 2 ^ 62) ∧ (-(2 ^ 62) ≤ j ∧ j < 2 ^ 62) := by simpa [i62] using hc
        exact ⟨i, j, rfl, ⟨h4.1.1, h4.1.2, h4.2.1, h4.2.2⟩, q2 H2 F2 (Nx.refl n2.fh) _ (gives_rng i _)⟩
      · cases h3
end
end Q7
end

section
set_option autoImplicit false
set_option Elab.async false
set_option linter.all false
set_option maxRecDepth 100000
/-! Comprehensions. -/
namespace Q7
open PySem PySem.Spec PyProof.Rows L2

theorem compL_noexc {f : D → R (Option D)} {c : Nat} : ∀ ds : List D, compL f ds ≠ .exc c
  | [], h => by simp [compL] at h
  | d :: ds, h => by
    simp only [compL] at h
    split at h
    · exact compL_noexc ds h
    · split at h <;> cases h
    · cases h
theorem compL_cons {f : D → R (Option D)} {d : D} {ds ys : List D} (h : compL f (d :: ds) = .ok ys) : (f d = .ok none ∧ compL f ds = .ok ys) ∨ ∃ y r, f d = .ok (some y) ∧ compL f ds = .ok r ∧ ys = y :: r := by
  simp only [compL] at h
  split at h
  · exact .inl ⟨by assumption, h⟩
  · split at h
    · cases h
      exact .inr ⟨_, _, by assumption, by assumption, rfl⟩
    · cases h
  · cases h
/-- the object at p is changed: it is new since H, and nobody shares it -/
theorem Nx.write {H F H1 F1 : Hp} (n : Nx H F H1 F1) {p : Addr} {o : HO} (h : H p = none) (h2 : F1 p = none) : Nx H F (upd H1 p o) F1 := by
  refine ⟨fun b x e => ?_, n.ff, fun b x e => ?_, n.nw⟩
  · rw [upd_ne (ne_of_none e h)]; exact n.hh b x e
  · rw [upd_ne (ne_of_none e h2)]; exact n.fh b x e
def W0 : WX := fun _ _ _ _ => False
theorem takes0 {X : Cx} : Takes X W0 := takes_none5

section
variable {X : Cx} {ca : Nat → Addr} {cl : Nat → List Xv → R W} {Wx : WX} {elt tgE iter : Expr} {ifs : List Expr} {scope : Scope} {pos : Pos} {c e : CE} {it : CI} {tg : Tg}
theorem comp_imp {own : List Nat} (hsl : tgSlots tg = own) {σ : L2.St} {H : Hp} {Q : VK} (h : tEX X ca cl Wx (.comp tg it c e) σ H Q) : tLc (tIX X ca cl Wx it) (gT X.K tg) (tT (Gx X ca cl) W0 c) (tE (Gx X ca cl) W0 e) own σ H Q := by
  obtain ⟨ρ, F, sr, q⟩ := h
  rw [ev] at q
  have q0 : tR (Gx X ca cl) Wx σ H F _ (fun wv H' F' => ∀ v, Val X.prog X.w X.K H H' F' σ ρ v wv → Q v H') := q
  refine ⟨ρ, F, sr, q0.bind fun ds H1 F1 e1 n1 q1 J gJ L0 hD => ?_⟩
  clear q0 q
  generalize hf : compF tg ρ (fun ρ' => ev cl ρ' c) (fun ρ' => ev cl ρ' e) = f at q1
  cases hys : compL f ds with
  | exc k => exact absurd hys (compL_noexc ds)
  | stuck => rw [hys] at q1; exact q1.elim
  | ok ys =>
    rw [hys] at q1
    cases hz : isize ys.length (.lst ys) with
    | none =>
      have q1 : tR (Gx X ca cl) Wx σ H1 F1 (R.of (isize ys.length (.lst ys)) >>= fun z => R.ok (mk z)) _ := q1
      rw [hz] at q1
      exact q1.elim
    | some z =>
      obtain ⟨hl, rfl⟩ := isize_get hz
      have q1 : tR (Gx X ca cl) Wx σ H1 F1 (R.of (isize ys.length (.lst ys)) >>= fun z => R.ok (mk z)) _ := q1
      rw [hz] at q1
      have q2 : ∀ H' F', Nx H1 F1 H' F' → ∀ v, Val X.prog X.w X.K H H' F' σ ρ v ⟨.fr, .d (.lst ys)⟩ → Q v H' := q1
      have sr1 := sr.step n1
      refine ⟨fun i m Hc => i + m = ds.length ∧ ∃ Fc acc dn rest, Nx H1 F1 Hc Fc ∧ Hc L0 = some (.lst acc) ∧ Fc L0 = none ∧ Rps X.K Fc acc dn ∧ compL f (ds.drop i) = .ok rest ∧ dn ++ rest = ys, ⟨ds.length, by omega, F1, [], [], ys, Nx.new n1.fh hD, upd_same, ?_, .nil, by simpa using hys, rfl⟩, fun i m Hc ⟨him, Fc, acc, dn, rest, nc, hDc, hFc, rs, hr, hy⟩ => ?_⟩
      · cases e : F1 L0 with
        | none => rfl
        | some u => rw [n1.fh L0 u e] at hD; cases hD
      · have g := gJ i Hc Fc nc.ff nc.fh
        cases hd : ds[i]? with
        | none =>
          have hge : ds.length ≤ i := List.getElem?_eq_none_iff.mp hd
          refine .inl ⟨g.2 (by omega), ?_⟩
          rw [List.drop_of_length_le hge] at hr
          have : rest = [] := by simpa [compL] using hr.symm
          subst this
          rw [List.append_nil] at hy
          subst hy
          refine q2 Hc Fc nc _ (.fr rfl ?_ hFc ⟨acc, hDc, rs⟩)
          cases e : H L0 with
          | none => rfl
          | some u => rw [n1.hh L0 u e] at hD; cases hD
        | some d =>
          obtain ⟨go, gy⟩ := g.1 d hd
          have hlt : i < ds.length := (List.getElem?_eq_some_iff.mp hd).1
          rw [List.drop_eq_getElem_cons hlt] at hr
          have hdd : ds[i] = d := by
            have := List.getElem?_eq_getElem hlt
            rw [hd] at this
            exact (Option.some.inj this).symm
          rw [hdd] at hr
          refine .inr ⟨go, _, fun H' hn => ⟨m - 1, by omega, hn⟩, fun x H' hx => ?_⟩
          obtain ⟨M, nm, rx⟩ := gy x H' hx
          have hfd : ∃ o, f d = .ok o := by
            rcases compL_cons hr with ⟨h1, _⟩ | ⟨y, r, h1, _⟩
            · exact ⟨_, h1⟩
            · exact ⟨_, h1⟩
          obtain ⟨o, ho⟩ := hfd
          have ho' := ho
          rw [← hf] at ho'
          unfold compF at ho'
          cases hb : bindT tg d ρ with
          | none => rw [hb] at ho'; cases ho'
          | some ρ' =>
            rw [hb] at ho'
            simp only at ho'
            obtain ⟨b, hb1, ho'⟩ := R.bind_eq_ok ho'
            obtain ⟨t, ht, ho'⟩ := R.bind_eq_ok ho'
            have srH := ((sr1.step nc).step nm)
            refine bind_ok (H := H') (F := M) X.prog X.w tg d (wipeE ρ own) ρ' (wipe σ own) x _ (srH.wipe own) (bind_wipe hb own fun j hj => by rw [hsl]; exact hj) rx fun σ2 sr2 hw => ⟨?_, ?_⟩
            · rw [hw own fun j hj => by rw [← hsl]; exact hj]
              have ww : ∀ (vs us : List Nat) (σ : L2.St), (∀ j ∈ vs, j ∈ us) → wipe (wipe σ vs) us = wipe σ us := by
                intro vs
                induction vs with
                | nil => intro us σ _; rfl
                | cons a r ih =>
                  intro us σ h
                  show wipe ((wipe σ r).set a none) us = _
                  rw [wipe_set a none us _ (h a (List.mem_cons_self ..))]
                  exact ih us σ fun j hj => h j (List.mem_cons_of_mem _ hj)
              exact ww own own σ fun j hj => hj
            · refine ⟨ρ', M, sr2, ?_⟩
              have et : (ev cl ρ' c >>= fun wv => R.of wv.tru) = .ok t := by rw [hb1]; exact ht
              show tR (Gx X ca cl) W0 σ2 H' M (ev cl ρ' c >>= fun wv => R.of wv.tru) _
              rw [et]
              intro H3 F3 n3
              cases t with
              | false =>
                rw [if_neg (by decide)] at ho' ⊢
                cases ho'
                rcases compL_cons hr with ⟨_, h2⟩ | ⟨y, r, h1, _⟩
                · have nAll := (nc.trans nm).trans n3
                  refine ⟨by omega, F3, acc, dn, rest, nAll, (nm.trans n3).hh _ _ hDc, (nm.trans n3).nw L0 (by rw [hDc]; simp) hFc, rs.mono (nm.trans n3).ff, h2, hy⟩
                · rw [ho] at h1; cases h1
              | true =>
                rw [if_pos rfl] at ho' ⊢
                obtain ⟨wv, hw1, ho'⟩ := R.bind_eq_ok ho'
                obtain ⟨y, hy1, ho'⟩ := R.bind_eq_ok ho'
                cases ho'
                refine ⟨ρ', F3, sr2.step n3, ?_⟩
                show tR (Gx X ca cl) W0 σ2 H3 F3 (ev cl ρ' e) _
                rw [hw1]
                intro H4 F4 n4 v hv
                have hst : wv.st = some y := by
                  cases e : wv.st with
                  | none => rw [e] at hy1; cases hy1
                  | some y' => rw [e] at hy1; cases hy1; rfl
                obtain ⟨hx1, hk⟩ := st_get hst
                obtain ⟨F5, n5, r5⟩ := hv.keep n4 hk
                rw [hx1] at r5
                have r5 : Rp X.K F5 v y := r5
                have nn := (nm.trans n3).trans n5
                have hD4 : H4 L0 = some (.lst acc) := nn.hh _ _ hDc
                have hF5 : F5 L0 = none := nn.nw L0 (by rw [hDc]; simp) hFc
                rcases compL_cons hr with ⟨h1, _⟩ | ⟨y', r, h1, h2, h3⟩
                · rw [ho] at h1; cases h1
                · rw [ho] at h1
                  cases h1
                  subst h3
                  refine ⟨acc, hD4, ?_, by omega, F5, acc ++ [v], dn ++ [y], r, (nc.trans nn).write hD hF5, upd_same, hF5, (rs.mono nn.ff).append (.one r5), h2, by rw [← hy]; simp⟩
                  have e3 : acc.length ≤ ys.length := by rw [rs.length, ← hy, List.length_append]; omega
                  have e4 := sizeLine_eq
                  unfold big at hl
                  omega
theorem s_comp {own : List (Str × Nat)} (hc : X.calm = true) (hN : X.N.Nodup) (hi : PI X tgE iter (tIX X ca cl Wx it)) (ok : BlkOk X.N X.env.scope scope own) (hsl : tgSlots tg = own.map (·.2)) (hset : isSet iter = false)
    (hg : ∀ (s : Shared) (H : Hp) (C : Addr) (cs : List (Str × Addr)) (fp : List Addr), PG (X.blk s H scope (compEnvC scope cs C X.env) fp) tgE (gT X.K tg))
    (ht : ∀ (s : Shared) (H : Hp) (C : Addr) (cs : List (Str × Addr)) (fp : List Addr), PTs (X.blk s H scope (compEnvC scope cs C X.env) fp) ifs (tT (Gx X ca cl) W0 c))
    (he : ∀ (s : Shared) (H : Hp) (C : Addr) (cs : List (Str × Addr)) (fp : List Addr), PE (X.blk s H scope (compEnvC scope cs C X.env) fp) elt (tE (Gx X ca cl) W0 e)) :
    PE X (.ListComp elt [⟨tgE, iter, ifs, 0⟩] scope pos) (tEX X ca cl Wx (.comp tg it c e)) :=
  pe_imp (pe_lc hc hN hi ok hg ht he (fun x => by cases iter <;> first | rfl | (simp [isSet] at hset))) fun σ H Q h => comp_imp hsl h
theorem s_yes : PTs X [] (tT (Gx X ca cl) W0 (.con (.bl true))) := ⟨fun pins s σ H Q I ⟨ρ, F, sr, q⟩ => (pts_nil (X := X)).run pins s σ H Q I (by
  rw [ev] at q
  exact q H F (Nx.refl sr.sub))⟩
end
end Q7
end

section
set_option autoImplicit false
set_option Elab.async false
set_option linter.all false
set_option maxRecDepth 100000
/-! Statements. -/
namespace Q7
open PySem PySem.Spec PyProof.Rows L2

structure SB (P : Program) (w : World) (K : PySem.W.Frag) (H0 F0 : Hp) (σ : L2.St) (H F : Hp) (ρ : Q7.Env) : Prop where
  sr : SR P w K σ H F ρ
  nx : Nx H0 F0 H F
  nw : ∀ (i : Nat) (x : Xv) (a : Addr), ρ[i]? = some (some (true, x)) → σ[i]? = some (some (.ref a)) → H0 a = none
/-- the base -/
structure Bs where
  H0 : Hp
  F0 : Hp
section
variable (G : Fix) (Wx : WX) (B : Bs)
def tOut (F : Hp) (D : Ends) (r : RS) : Prop := match r with
  | .ok (.nx ρ') => ∀ σ' H' F', SB G.P G.w G.K B.H0 B.F0 σ' H' F' ρ' → Sub F F' → D.nx σ' H'
  | .ok (.ret wv) => ∀ v H' F', Nx B.H0 B.F0 H' F' → New G.P G.w G.K B.H0 H' F' v wv → D.rt v H'
  | .ok (.brk ρ') => ∀ σ' H' F', SB G.P G.w G.K B.H0 B.F0 σ' H' F' ρ' → Sub F F' → D.bk σ' H'
  | .exc c ρ' => ∀ σ' H' F', SB G.P G.w G.K B.H0 B.F0 σ' H' F' ρ' → Sub F F' → Wx (.ref (G.ca c)) none σ' H'
  | .stuck => False
def tS (r : Q7.Env → RS) : TS := fun D σ H => ∃ ρ F, SB G.P G.w G.K B.H0 B.F0 σ H F ρ ∧ tOut G Wx B F D (r ρ)
end
section
variable {G : Fix} {Wx : WX} {B : Bs} {σ : L2.St} {H F H1 F1 : Hp} {ρ : Q7.Env} {D : Ends} {r : RS} {P : Program} {w : World} {K : PySem.W.Frag} {H0 F0 : Hp}
theorem SB.step (b : SB P w K H0 F0 σ H F ρ) (n : Nx H F H1 F1) : SB P w K H0 F0 σ H1 F1 ρ := ⟨b.sr.step n, b.nx.trans n, b.nw⟩
theorem tOut.mono (h : tOut G Wx B F D r) (s : Sub F F1) : tOut G Wx B F1 D r := by
  cases r with
  | ok o =>
    cases o with
    | nx ρ' => exact fun σ' H' F' b t => h σ' H' F' b (s.trans t)
    | ret wv => exact h
    | brk ρ' => exact fun σ' H' F' b t => h σ' H' F' b (s.trans t)
  | exc c ρ' => exact fun σ' H' F' b t => h σ' H' F' b (s.trans t)
  | stuck => exact h
/-- an expression ahead of the rest -/
theorem to_E {e : CE} {f : W → RS} {R' : VK} (b : SB G.P G.w G.K B.H0 B.F0 σ H F ρ) (q : tOut G Wx B F D ((ev G.cl ρ e).to ρ f))
    (i : ∀ wv v H1 F1, Nx H F H1 F1 → Val G.P G.w G.K H H1 F1 σ ρ v wv → tOut G Wx B F D (f wv) → R' v H1) : tE G Wx e σ H R' := by
  refine ⟨ρ, F, b.sr, ?_⟩
  show tR G Wx σ H F (ev G.cl ρ e) _
  cases h : ev G.cl ρ e with
  | ok wv =>
    rw [h] at q
    exact fun H' F' n v hv => i wv v H' F' n hv q
  | exc c =>
    rw [h] at q
    exact fun H' F' n => q σ H' F' (b.step n) n.ff
  | stuck => rw [h] at q; exact q.elim
theorem to_T {e : CE} {f : Bool → RS} {R' : Bool → Hp → Prop} (b : SB G.P G.w G.K B.H0 B.F0 σ H F ρ) (q : tOut G Wx B F D ((ev G.cl ρ e).to ρ fun w => (R.of w.tru).to ρ f))
    (i : ∀ t H1 F1, Nx H F H1 F1 → tOut G Wx B F D (f t) → R' t H1) : tT G Wx e σ H R' := by
  refine ⟨ρ, F, b.sr, ?_⟩
  cases h : ev G.cl ρ e with
  | ok wv =>
    rw [h] at q
    show tR G Wx σ H F (R.of wv.tru) _
    cases h2 : wv.tru with
    | none =>
      have q : tOut G Wx B F D ((R.of wv.tru).to ρ f) := q
      rw [h2] at q; exact q.elim
    | some t =>
      have q : tOut G Wx B F D ((R.of wv.tru).to ρ f) := q
      rw [h2] at q
      exact fun H' F' n => i t H' F' n q
  | exc c =>
    rw [h] at q
    exact fun H' F' n => q σ H' F' (b.step n) n.ff
  | stuck => rw [h] at q; exact q.elim
theorem to_of {α : Type} {o : Option α} {f : α → RS} (q : tOut G Wx B F D ((R.of o).to ρ f)) : ∃ a, o = some a ∧ tOut G Wx B F D (f a) := by
  cases o with
  | none => exact q.elim
  | some a => exact ⟨a, rfl, q⟩
/-! stores -/
theorem get_set {b : Bool} {y : Xv} {i j : Nat} {z : Option (Bool × Xv)} (e : (ρ.set i z)[j]? = some (some (b, y))) : (i = j ∧ i < ρ.length ∧ z = some (b, y)) ∨ (i ≠ j ∧ ρ[j]? = some (some (b, y))) := by
  by_cases hj : i = j
  · subst hj
    by_cases hl : i < ρ.length
    · rw [List.getElem?_set_self hl] at e
      exact .inl ⟨rfl, hl, Option.some.inj e⟩
    · rw [List.getElem?_eq_none (by simpa using hl)] at e; cases e
  · rw [List.getElem?_set_ne hj] at e
    exact .inr ⟨hj, e⟩
theorem SB.set_sh (b : SB P w K H0 F0 σ H F ρ) (i : Nat) {v : V} {x : Xv} (h : RpX P w K F v x) : SB P w K H0 F0 (σ.set i (some v)) H F (ρ.set i (some (false, x))) := by
  refine ⟨b.sr.set_sh i h, b.nx, fun j y a e s => ?_⟩
  rcases get_set e with ⟨_, _, z⟩ | ⟨hj, e⟩
  · cases z
  · rw [List.getElem?_set_ne hj] at s
    exact b.nw j y a e s
/-- a slot gets an object of its own -/
theorem SB.set_own (b : SB P w K H0 F0 σ H F ρ) (i : Nat) {a : Addr} {x : Xv} (h0 : H0 a = none) (hF : F a = none) (ho : Own P w K H F a x) (hn : ∀ (j : Nat) (y : Xv), j ≠ i → ρ[j]? = some (some (true, y)) → σ[j]? ≠ some (some (.ref a))) :
    SB P w K H0 F0 (σ.set i (some (.ref a))) H F (ρ.set i (some (true, x))) := by
  have r := b.sr
  refine ⟨⟨r.sub, by rw [List.length_set, List.length_set]; exact r.len, fun j y e => ?_, fun j y e => ?_, fun j l y z c e1 e2 s1 s2 => ?_⟩, b.nx, fun j y c e s => ?_⟩
  · rcases get_set e with ⟨_, _, z⟩ | ⟨hj, e⟩
    · cases z
    · rw [List.getElem?_set_ne hj]; exact r.sh j y e
  · rcases get_set e with ⟨rfl, hl, z⟩ | ⟨hj, e⟩
    · cases z
      exact ⟨a, List.getElem?_set_self (by rw [r.len]; exact hl), hF, ho⟩
    · rw [List.getElem?_set_ne hj]; exact r.own j y e
  · rcases get_set e1 with ⟨rfl, hl, _⟩ | ⟨h1, e1⟩
    · rcases get_set e2 with ⟨h2, _, _⟩ | ⟨h2, e2⟩
      · exact h2
      · rw [List.getElem?_set_self (by rw [r.len]; exact hl)] at s1
        cases s1
        rw [List.getElem?_set_ne h2] at s2
        exact absurd s2 (hn l z (Ne.symm h2) e2)
    · rcases get_set e2 with ⟨rfl, hl, _⟩ | ⟨h2, e2⟩
      · rw [List.getElem?_set_self (by rw [r.len]; exact hl)] at s2
        cases s2
        rw [List.getElem?_set_ne h1] at s1
        exact absurd s1 (hn j y (Ne.symm h1) e1)
      · rw [List.getElem?_set_ne h1] at s1
        rw [List.getElem?_set_ne h2] at s2
        exact r.inj j l y z c e1 e2 s1 s2
  · rcases get_set e with ⟨rfl, hl, _⟩ | ⟨hj, e⟩
    · rw [List.getElem?_set_self (by rw [r.len]; exact hl)] at s
      cases s
      exact h0
    · rw [List.getElem?_set_ne hj] at s
      exact b.nw j y c e s
/-- the object of slot i is changed -/
theorem SB.mut (b : SB P w K H0 F0 σ H F ρ) {i : Nat} {a : Addr} {x x' : Xv} {o : HO} (hi : ρ[i]? = some (some (true, x))) (hs : σ[i]? = some (some (.ref a))) (ho : Own P w K (upd H a o) F a x') :
    SB P w K H0 F0 σ (upd H a o) F (ρ.set i (some (true, x'))) := by
  have r := b.sr
  obtain ⟨a', h1, h2, h3⟩ := r.own i x hi
  rw [hs] at h1; cases h1
  have h0 := b.nw i x a hi hs
  have nx' := b.nx.write (o := o) h0 h2
  have keep : ∀ (j : Nat) (y : Xv), i ≠ j → ρ[j]? = some (some (true, y)) → ∃ c, σ[j]? = some (some (.ref c)) ∧ F c = none ∧ Own P w K (upd H a o) F c y := fun j y hj e => by
    obtain ⟨c, q1, q2, q3⟩ := r.own j y e
    refine ⟨c, q1, q2, q3.mono (fun u hu => ?_) Sub.refl⟩
    rw [upd_ne (fun z => hj (by subst z; exact r.inj i j x y c hi e hs q1))]
    exact hu
  refine ⟨⟨nx'.fh, by rw [List.length_set]; exact r.len, fun j y e => ?_, fun j y e => ?_, fun j l y z c e1 e2 s1 s2 => ?_⟩, nx', fun j y c e s => ?_⟩
  · rcases get_set e with ⟨_, _, z⟩ | ⟨hj, e⟩
    · cases z
    · exact r.sh j y e
  · rcases get_set e with ⟨rfl, hl, z⟩ | ⟨hj, e⟩
    · cases z
      exact ⟨a, hs, h2, ho⟩
    · exact keep j y hj e
  · have f1 : ∃ y', ρ[j]? = some (some (true, y')) := by
      rcases get_set e1 with ⟨rfl, _, _⟩ | ⟨_, e1⟩
      · exact ⟨_, hi⟩
      · exact ⟨_, e1⟩
    have f2 : ∃ y', ρ[l]? = some (some (true, y')) := by
      rcases get_set e2 with ⟨rfl, _, _⟩ | ⟨_, e2⟩
      · exact ⟨_, hi⟩
      · exact ⟨_, e2⟩
    obtain ⟨y1, f1⟩ := f1
    obtain ⟨y2, f2⟩ := f2
    exact r.inj j l y1 y2 c f1 f2 s1 s2
  · rcases get_set e with ⟨rfl, _, _⟩ | ⟨_, e⟩
    · exact b.nw _ _ _ hi s
    · exact b.nw _ _ _ e s
/-- a slot's object is shared from now on -/
theorem SB.frz (b : SB P w K H0 F0 σ H F ρ) {i : Nat} {x : Xv} (hi : ρ[i]? = some (some (true, x))) : ∃ F', Sub F F' ∧ SB P w K H0 F0 σ H F' (ρ.set i (some (false, x))) := by
  have r := b.sr
  obtain ⟨a, h1, h2, h3⟩ := r.own i x hi
  obtain ⟨o, ho⟩ := h3.there
  have h0 := b.nw i x a hi h1
  have nx' := b.nx.share h0 ho h2
  have hl : i < ρ.length := (List.getElem?_eq_some_iff.mp hi).1
  refine ⟨upd F a o, Sub.upd h2, ⟨nx'.fh, by rw [List.length_set]; exact r.len, fun j y e => ?_, fun j y e => ?_, fun j l y z c e1 e2 s1 s2 => ?_⟩, nx', fun j y c e s => ?_⟩
  · rcases get_set e with ⟨rfl, _, z⟩ | ⟨hj, e⟩
    · cases z
      exact ⟨_, h1, h3.froze (Sub.upd h2) (by rw [upd_same, ho])⟩
    · obtain ⟨v, q1, q2⟩ := r.sh j y e
      exact ⟨v, q1, q2.mono (Sub.upd h2)⟩
  · rcases get_set e with ⟨_, _, z⟩ | ⟨hj, e⟩
    · cases z
    · obtain ⟨c, q1, q2, q3⟩ := r.own j y e
      have hc : c ≠ a := fun z => hj (by subst z; exact r.inj i j x y c hi e h1 q1)
      exact ⟨c, q1, by rw [upd_ne hc]; exact q2, q3.mono (fun _ q => q) (Sub.upd h2)⟩
  · rcases get_set e1 with ⟨_, _, z⟩ | ⟨_, e1⟩
    · cases z
    · rcases get_set e2 with ⟨_, _, z⟩ | ⟨_, e2⟩
      · cases z
      · exact r.inj j l y z c e1 e2 s1 s2
  · rcases get_set e with ⟨_, _, z⟩ | ⟨_, e⟩
    · cases z
    · exact b.nw _ _ _ e s
/-- a value goes into a slot -/
theorem SB.put (b : SB P w K H0 F0 σ H F ρ) (n : Nx H F H1 F1) {v : V} {wv : W} {i : Nat} {ρ' : Q7.Env} (hv : Val P w K H H1 F1 σ ρ v wv) (e : put ρ i wv = some ρ') : SB P w K H0 F0 (σ.set i (some v)) H1 F1 ρ' := by
  obtain ⟨k, x⟩ := wv
  cases k with
  | sh =>
    simp only [Q7.put, Option.some.injEq] at e
    subst e
    cases hv with
    | sh h => exact (b.step n).set_sh i h
  | fr =>
    simp only [Q7.put, Option.some.injEq] at e
    subst e
    cases hv with
    | fr e1 h1 h2 h3 =>
      subst e1
      refine (b.step n).set_own i ?_ h2 h3 fun j y hj e s => ?_
      · cases q : H0 _ with
        | none => rfl
        | some u => rw [b.nx.hh _ _ q] at h1; cases h1
      · obtain ⟨c, q1, q2, q3⟩ := b.sr.own j y e
        rw [s] at q1
        cases q1
        obtain ⟨o, ho⟩ := q3.there
        rw [ho] at h1
        cases h1
  | bo => simp [Q7.put] at e
end
end Q7
end

section
set_option autoImplicit false
set_option Elab.async false
set_option linter.all false
set_option maxRecDepth 100000
/-! The rules for statements. -/
namespace Q7
open PySem PySem.Spec PyProof.Rows L2

section
variable {K : PySem.W.Frag} {H F : Hp}
mutual
theorem bind_okB (Pg : Program) (w : World) (H0 F0 : Hp) : ∀ (t : Tg) (d : D) (ρ ρ' : Q7.Env) (σ : L2.St) (v : V) (Q : L2.St → Hp → Prop), SB Pg w K H0 F0 σ H F ρ → bindT t d ρ = some ρ' → Rp K F v d →
    (∀ σ', SB Pg w K H0 F0 σ' H F ρ' → (∀ vs, (∀ j ∈ tgSlots t, j ∈ vs) → wipe σ' vs = wipe σ vs) → Q σ' H) → gT K t v σ H Q
  | .nm i, d, ρ, ρ', σ, v, Q, sr, e, r, q => by
    simp only [bindT, Option.some.injEq] at e
    subst e
    rw [gT]
    exact q _ (sr.set_sh i r) fun vs h => wipe_set i _ vs σ (h i (by simp [tgSlots]))
  | .tp ts, d, ρ, ρ', σ, v, Q, sr, e, r, q => by
    cases d with
    | tup ds =>
      cases r with
      | tup s1 rs =>
        rename_i a xs
        rw [gT]
        obtain ⟨hl, hq⟩ := binds_okB Pg w H0 F0 ts ds ρ ρ' σ xs Q sr e rs (by simpa [tgSlots] using q)
        exact ⟨a, xs, rfl, sr.sr.sub.sqT s1, by rw [rs.length, hl], hq⟩
    | _ => cases ts <;> simp [bindT] at e
theorem binds_okB (Pg : Program) (w : World) (H0 F0 : Hp) : ∀ (ts : List Tg) (ds : List D) (ρ ρ' : Q7.Env) (σ : L2.St) (vs : List V) (Q : L2.St → Hp → Prop), SB Pg w K H0 F0 σ H F ρ → bindT (.tp ts) (.tup ds) ρ = some ρ' → Rps K F vs ds →
    (∀ σ', SB Pg w K H0 F0 σ' H F ρ' → (∀ us, (∀ j ∈ tgsSlots ts, j ∈ us) → wipe σ' us = wipe σ us) → Q σ' H) → ds.length = ts.length ∧ gTs K ts vs σ H Q
  | [], [], ρ, ρ', σ, vs, Q, sr, e, r, q => by
    simp only [bindT, Option.some.injEq] at e
    subst e
    cases r
    rw [gTs]
    exact ⟨rfl, rfl, q σ sr fun _ _ => rfl⟩
  | t :: ts, d :: ds, ρ, ρ', σ, vs, Q, sr, e, r, q => by
    simp only [bindT, Option.bind_eq_some_iff] at e
    obtain ⟨ρ1, e1, e2⟩ := e
    cases r with
    | cons r1 rs =>
      rw [gTs]
      -- the length is that of any run
      have hlen : ds.length = ts.length := bindT_len (K := K) (H := H) (F := F) e2
      refine ⟨by rw [List.length_cons, List.length_cons, hlen], _, _, rfl, bind_okB Pg w H0 F0 t d ρ ρ1 σ _ _ sr e1 r1 fun σ1 sr1 w1 => ?_⟩
      exact (binds_okB Pg w H0 F0 ts ds ρ1 ρ' σ1 _ Q sr1 e2 rs fun σ' sr' w' => q σ' sr' fun us h => (w' us fun j hj => h j (by simp only [tgsSlots, List.mem_append]; exact .inr hj)).trans (w1 us fun j hj => h j (by simp only [tgsSlots, List.mem_append]; exact .inl hj))).2
  | [], _ :: _, _, _, _, _, _, _, e, _, _ => by simp [bindT] at e
  | _ :: _, [], _, _, _, _, _, _, e, _, _ => by simp [bindT] at e
end
end
section
variable {X : Cx} {ca : Nat → Addr} {cl : Nat → List Xv → R W} {Wx : WX} {B : Bs} {sup : Nat → Nat → Option Bool} {fuel : Nat} {st : Stmt} {sts : List Stmt} {pos : Pos} {e k v : CE} {e1 e2 : Expr}
abbrev tSX (X : Cx) (ca : Nat → Addr) (cl : Nat → List Xv → R W) (Wx : WX) (B : Bs) (r : Q7.Env → RS) : TS := tS (Gx X ca cl) Wx B r
theorem ps_imp {t t' : TS} (h : PS X st t) (i : ∀ D σ H, t' D σ H → t D σ H) : PS X st t' := ⟨fun pins s σ H D I q => h.run pins s σ H D I (i D σ H q)⟩
theorem pss_imp {t t' : TS} (h : PSs X sts t) (i : ∀ D σ H, t' D σ H → t D σ H) : PSs X sts t' := ⟨fun pins s σ H D I q => h.run pins s σ H D I (i D σ H q)⟩
theorem n_nil : PSs X [] (tSX X ca cl Wx B fun ρ => xss cl sup fuel ρ .nil) := pss_imp pss_nil fun D σ H ⟨ρ, F, sb, q⟩ => by
  dsimp only at q
  rw [xss] at q
  exact q σ H F sb Sub.refl
theorem n_cons {s : CS} {r : CSs} (h1 : PS X st (tSX X ca cl Wx B fun ρ => xs cl sup fuel ρ s)) (h2 : PSs X sts (tSX X ca cl Wx B fun ρ => xss cl sup fuel ρ r)) : PSs X (st :: sts) (tSX X ca cl Wx B fun ρ => xss cl sup fuel ρ (.cons s r)) :=
  pss_imp (pss_cons h1 h2) fun D σ H ⟨ρ, F, sb, q⟩ => by
    dsimp only at q
    rw [xss] at q
    refine ⟨ρ, F, sb, ?_⟩
    dsimp only
    cases hx : xs cl sup fuel ρ s with
    | ok o =>
      rw [hx] at q
      cases o with
      | nx ρ' => exact fun σ' H' F' sb' s' => ⟨ρ', F', sb', tOut.mono q s'⟩
      | ret wv => exact q
      | brk ρ' => exact q
    | exc c ρ' => rw [hx] at q; exact q
    | stuck => rw [hx] at q; exact q
theorem n_frz1 {i : Nat} {r : CSs} (h : PSs X sts (tSX X ca cl Wx B fun ρ => xss cl sup fuel ρ r)) : PSs X sts (tSX X ca cl Wx B fun ρ => xss cl sup fuel ρ (.cons (.freeze i) r)) :=
  pss_imp h fun D σ H ⟨ρ, F, sb, q⟩ => by
    dsimp only at q
    rw [xss, xs] at q
    cases ho : owned ρ i with
    | none =>
      rw [ho] at q
      exact ⟨ρ, F, sb, q⟩
    | some x =>
      rw [ho] at q
      have hi : ρ[i]? = some (some (true, x)) := by
        unfold owned at ho
        split at ho
        · cases ho; assumption
        · cases ho
      obtain ⟨F', s', sb'⟩ := sb.frz hi
      exact ⟨_, F', sb', tOut.mono q s'⟩
theorem n_frz {l : List Nat} {r : CSs} (h : PSs X sts (tSX X ca cl Wx B fun ρ => xss cl sup fuel ρ r)) : PSs X sts (tSX X ca cl Wx B fun ρ => xss cl sup fuel ρ (frz l r)) := by
  unfold frz
  generalize once [] l = m
  induction m with
  | nil => exact h
  | cons a m ih => exact n_frz1 ih
theorem n_ex (he : PE X e1 (tEX X ca cl Wx e)) (hc : isComp e1 = false) : PS X (.Expr e1 pos) (tSX X ca cl Wx B fun ρ => xs cl sup fuel ρ (.ex e)) :=
  ps_imp (ps_expr he (comp_plain hc)) fun D σ H ⟨ρ, F, sb, q⟩ => by
    dsimp only at q
    rw [xs] at q
    exact to_E sb q fun wv v H1 F1 n hv q1 => q1 σ H1 F1 (sb.step n) n.ff
theorem set_imp {i : Nat} {D : Ends} {σ : L2.St} {H : Hp} (h : tSX X ca cl Wx B (fun ρ => xs cl sup fuel ρ (.asg (.nm i) e)) D σ H) : tAsg (tEX X ca cl Wx e) (gName i) D σ H := by
  obtain ⟨ρ, F, sb, q⟩ := h
  dsimp only at q
  rw [xs] at q
  refine to_E sb q fun wv v H1 F1 n hv q1 => ?_
  simp only [asg] at q1
  cases hp : put ρ i wv with
  | none => rw [hp] at q1; exact q1.elim
  | some ρ' => rw [hp] at q1; exact q1 _ H1 F1 (sb.put n hv hp) n.ff
theorem n_set {i : Nat} {x : Str} {pos' : Pos} (hN : X.N.Nodup) (hi : X.N[i]? = some x) (hx : Loc X.env.scope x) (hf : X.fn x = true ∨ X.env.scope.names.lookup x = some .local) (he : PE X e1 (tEX X ca cl Wx e)) (hc : swapsWith e1 (some (.Name x pos')) pos.line X.env = pure false) :
    PS X (.Assign [.Name x pos'] e1 pos) (tSX X ca cl Wx B fun ρ => xs cl sup fuel ρ (.asg (.nm i) e)) :=
  ps_imp (ps_set hN hi hx he hc hf) fun D σ H h => set_imp h
theorem n_asg {ts : List Tg} {es : List Expr} {kk : Nat} {p2 : Pos} (hg : PG X (.Tuple es kk p2) (gT X.K (.tp ts))) (he : PE X e1 (tEX X ca cl Wx e)) (ht : isTupE e1 = false) :
    PS X (.Assign [.Tuple es kk p2] e1 pos) (tSX X ca cl Wx B fun ρ => xs cl sup fuel ρ (.asg (.tp ts) e)) := by
  have hs : swapsWithSole [.Tuple es kk p2] e1 pos.line X.env = pure false := by
    show swapsWith e1 (some (.Tuple es kk p2)) pos.line X.env = pure false
    cases e1 <;> rfl
  have hw : swappedStores [.Tuple es kk p2] e1 X.env = pure none := by
    cases e1 <;> first
      | rfl
      | (simp [isTupE] at ht)
  refine ps_imp (ps_asg he hg hs hw rfl) fun D σ H ⟨ρ, F, sb, q⟩ => ?_
  dsimp only at q
  rw [xs] at q
  refine to_E sb q fun wv v H1 F1 n hv q1 => ?_
  cases hp : asg ρ (.tp ts) wv with
  | none => rw [hp] at q1; exact q1.elim
  | some ρ' =>
    rw [hp] at q1
    obtain ⟨k, x⟩ := wv
    cases k with
    | bo => simp [asg] at hp
    | sh =>
      cases x with
      | m _ _ => simp [asg] at hp
      | d d =>
        simp only [asg] at hp
        cases hv with
        | sh h =>
          have h : Rp X.K F1 v d := h
          exact bind_okB (H := H1) (F := F1) X.prog X.w B.H0 B.F0 (.tp ts) d ρ ρ' σ v _ (sb.step n) hp h fun σ' sb' _ => q1 σ' H1 F1 sb' n.ff
    | fr =>
      cases x with
      | m _ _ => simp [asg] at hp
      | d d =>
        simp only [asg] at hp
        obtain ⟨F2, n2, r2⟩ := hv.keep n (by simp)
        have h : Rp X.K F2 v d := r2
        exact bind_okB (H := H1) (F := F2) X.prog X.w B.H0 B.F0 (.tp ts) d ρ ρ' σ v _ (sb.step n2) hp h fun σ' sb' _ => q1 σ' H1 F2 sb' n2.ff

theorem ip_all {op : Operator} {o : Bop} (ho : trBop op = some o) : PIp X op (fun x y H Q => ∃ F d1 d2 z, Sub F H ∧ Rp X.K F x d1 ∧ Rp X.K H y d2 ∧ augop o d1 d2 = some z ∧ ∀ v, Rp X.K F v z → Q v H) := by
  intro pins s σ H x y v u Q I rx ry h
  obtain ⟨F, d1, d2, z, sF, r1, r2, hz, q⟩ := h
  cases op <;> simp only [trBop, Option.some.injEq, reduceCtorEq] at ho <;> subst ho <;> cases d1 <;> cases d2 <;> simp only [augop, reduceCtorEq] at hz
  case Add.int.int i j =>
    cases hz
    cases r1
    cases r2
    exact iop_add pins s σ H _ _ v u Q I rx ry ⟨i, j, rfl, rfl, q _ (.int _)⟩
  case Add.str.str a b =>
    obtain ⟨hn, rfl⟩ := isize_get hz
    cases r1 with
    | str o1 =>
      cases r2 with
      | str o2 =>
        refine iop_add_str pins s σ H _ _ v u Q I rx ry ⟨_, _, rfl, rfl, by rw [toS_length, toS_length]; exact big_line hn, ?_⟩
        rw [toS_append]
        exact q _ (.str (o1.append o2 hn))
  case Sub.int.int i j =>
    cases hz
    cases r1
    cases r2
    exact iop_sub pins s σ H _ _ v u Q I rx ry ⟨i, j, rfl, rfl, q _ (.int _)⟩
theorem n_aug {i : Nat} {x : Str} {op : Operator} {o : Bop} {pos' : Pos} (ho : trBop op = some o) (hN : X.N.Nodup) (hi : X.N[i]? = some x) (hx : Loc X.env.scope x) (hf : X.fn x = true ∨ X.env.scope.names.lookup x = some .local) (he : PE X e1 (tEX X ca cl Wx e)) :
    PS X (.AugAssign (.Name x pos') op e1 pos) (tSX X ca cl Wx B fun ρ => xs cl sup fuel ρ (.aug i o e)) :=
  ps_imp (ps_aug hN hi hx he (ip_all ho) hf) fun D σ H ⟨ρ, F, sb, q⟩ => by
    dsimp only at q
    rw [xs] at q
    split at q
    · rename_i d hd
      obtain ⟨v, h1, h2⟩ := sb.sr.sh i _ hd
      have h2 : Rp X.K F v d := h2
      refine ⟨v, h1, to_E sb q fun wv u H1 F1 n hv q1 => ?_⟩
      obtain ⟨y, hy, q1⟩ := to_of q1
      obtain ⟨z, hz, q1⟩ := to_of q1
      have hr := hv.rd sb.sr n
      rw [dat_get hy] at hr
      have hr : Rp X.K H1 u y := hr
      exact ⟨F1, d, y, z, n.fh, h2.mono n.ff, hr, hz, fun v' r' => q1 _ H1 F1 ((sb.step n).set_sh i r') n.ff⟩
    · exact q.elim

/-! ### tests and loops -/
theorem n_if {a b : List Stmt} {ca' cb : CSs} (ht : PT X e1 (tTX X ca cl Wx e)) (ha : PSs X a (tSX X ca cl Wx B fun ρ => xss cl sup fuel ρ ca')) (hb : PSs X b (tSX X ca cl Wx B fun ρ => xss cl sup fuel ρ cb)) :
    PS X (.If e1 a b pos) (tSX X ca cl Wx B fun ρ => xs cl sup fuel ρ (.ifs e ca' cb)) :=
  ps_imp (ps_if ht ha hb) fun D σ H ⟨ρ, F, sb, q⟩ => by
    dsimp only at q
    rw [xs] at q
    refine to_T sb q fun t H1 F1 n q1 => ?_
    cases t with
    | true => exact ⟨ρ, F1, sb.step n, tOut.mono q1 n.ff⟩
    | false => exact ⟨ρ, F1, sb.step n, tOut.mono q1 n.ff⟩
theorem to_bind {α β : Type} (x : R α) (g : α → R β) (ρ : Q7.Env) (f : β → RS) : (x >>= g).to ρ f = x.to ρ fun a => (g a).to ρ f := by
  cases x <;> rfl
theorem n_while {b : List Stmt} {cb : CSs} (hp : PassesOwn (model X.prog X.w) X.A X.env X.xe) (ht : PT X e1 (tTX X ca cl Wx e)) (hb : PSs X b (tSX X ca cl Wx B fun ρ => xss cl sup fuel ρ cb)) :
    PS X (.While e1 b [] pos) (tSX X ca cl Wx B fun ρ => xs cl sup fuel ρ (.whl e cb)) :=
  ps_imp (ps_while hp ht hb) fun D σ H ⟨ρ, F, sb, q⟩ => by
    dsimp only at q
    rw [xs] at q
    refine ⟨fun m σ' H' => ∃ ρ' F', SB X.prog X.w X.K B.H0 B.F0 σ' H' F' ρ' ∧ tOut (Gx X ca cl) Wx B F' D (whlL (fun ρ => do let w ← ev cl ρ e; R.of w.tru) (fun ρ => xss cl sup fuel ρ cb) m ρ'), ⟨fuel, ρ, F, sb, q⟩, ?_⟩
    rintro m σ1 H1 ⟨ρ1, F1, sb1, q1⟩
    cases m with
    | zero => exact q1.elim
    | succ m =>
      rw [whlL, to_bind] at q1
      refine to_T sb1 q1 fun t H2 F2 n q2 => ?_
      cases t with
      | false =>
        rw [if_neg (by decide)] at q2 ⊢
        exact q2 σ1 H2 F2 (sb1.step n) n.ff
      | true =>
        rw [if_pos rfl] at q2 ⊢
        refine ⟨fun σ' H' => ∃ ρ' F', SB X.prog X.w X.K B.H0 B.F0 σ' H' F' ρ' ∧ tOut (Gx X ca cl) Wx B F' D (whlL (fun ρ => do let w ← ev cl ρ e; R.of w.tru) (fun ρ => xss cl sup fuel ρ cb) m ρ'), fun σ' H' h => ⟨m, Nat.lt_succ_self m, h⟩, ρ1, F2, sb1.step n, ?_⟩
        dsimp only
        cases hx : xss cl sup fuel ρ1 cb with
        | ok o =>
          rw [hx] at q2
          cases o with
          | nx ρ' => exact fun σ' H' F' sb' s' => ⟨ρ', F', sb', tOut.mono q2 (n.ff.trans s')⟩
          | ret wv => exact q2
          | brk ρ' => exact fun σ' H' F' sb' s' => q2 σ' H' F' sb' (n.ff.trans s')
        | exc c ρ' =>
          rw [hx] at q2
          exact fun σ' H' F' sb' s' => q2 σ' H' F' sb' (n.ff.trans s')
        | stuck => rw [hx] at q2; exact q2
theorem n_for {tgE iter : Expr} {tg : Tg} {it : CI} {b : List Stmt} {cb : CSs} (hc : X.calm = true) (hp : PassesOwn (model X.prog X.w) X.A X.env X.xe) (hi : PI X tgE iter (tIX X ca cl Wx it)) (hset : isSet iter = false) (hg : PG X tgE (gT X.K tg))
    (hb : PSs X b (tSX X ca cl Wx B fun ρ => xss cl sup fuel ρ cb)) : PS X (.For tgE iter b [] pos) (tSX X ca cl Wx B fun ρ => xs cl sup fuel ρ (.for_ tg it cb)) :=
  ps_imp (ps_for hp hc hi hg hb (fun x => by cases iter <;> first | rfl | (simp [isSet] at hset))) fun D σ H ⟨ρ, F, sb, q⟩ => by
    dsimp only at q
    rw [xs] at q
    refine ⟨ρ, F, sb.sr, ?_⟩
    show tR (Gx X ca cl) Wx σ H F (evi cl ρ it) _
    cases hds : evi cl ρ it with
    | exc c =>
      rw [hds] at q
      exact fun H' F' n => q σ H' F' (sb.step n) n.ff
    | stuck => rw [hds] at q; exact q.elim
    | ok ds =>
      rw [hds] at q
      rw [R.ok_to] at q
      intro H1 F1 n1 J gJ
      generalize hf : (fun d ρ => match bindT tg d ρ with | some ρ' => xss cl sup fuel ρ' cb | none => RS.stuck : Q7.D → Q7.Env → RS) = f at q
      refine ⟨fun i m σ' H' => i + m = ds.length ∧ ∃ ρ' F', SB X.prog X.w X.K B.H0 B.F0 σ' H' F' ρ' ∧ Sub F1 F' ∧ tOut (Gx X ca cl) Wx B F' D (forL f (ds.drop i) ρ'), ⟨ds.length, by omega, ρ, F1, sb.step n1, Sub.refl, by simpa using tOut.mono q n1.ff⟩, ?_⟩
      rintro i m σ2 H2 ⟨him, ρ2, F2, sb2, s2, q2⟩
      have g := gJ i H2 F2 s2 sb2.sr.sub
      cases hd : ds[i]? with
      | none =>
        have hge : ds.length ≤ i := List.getElem?_eq_none_iff.mp hd
        rw [List.drop_of_length_le hge, forL] at q2
        exact .inl ⟨g.2 (by omega), q2 σ2 H2 F2 sb2 Sub.refl⟩
      | some d =>
        obtain ⟨go, gy⟩ := g.1 d hd
        have hlt : i < ds.length := (List.getElem?_eq_some_iff.mp hd).1
        rw [List.drop_eq_getElem_cons hlt, forL] at q2
        have hdd : ds[i] = d := by
          have := List.getElem?_eq_getElem hlt
          rw [hd] at this
          exact (Option.some.inj this).symm
        rw [hdd] at q2
        refine .inr ⟨go, _, fun σ' H' h => ⟨m - 1, by omega, h⟩, fun x H' hx => ?_⟩
        obtain ⟨M, nm, rx⟩ := gy x H' hx
        have hfd : f d ρ2 = (match bindT tg d ρ2 with | some ρ' => xss cl sup fuel ρ' cb | none => RS.stuck) := by rw [← hf]
        cases hb : bindT tg d ρ2 with
        | none => rw [hfd, hb] at q2; exact q2.elim
        | some ρ3 =>
          rw [hfd, hb] at q2
          refine bind_okB (H := H') (F := M) X.prog X.w B.H0 B.F0 tg d ρ2 ρ3 σ2 x _ (sb2.step nm) hb rx fun σ3 sb3 _ => ⟨ρ3, M, sb3, ?_⟩
          dsimp only
          cases hxs : xss cl sup fuel ρ3 cb with
          | ok o =>
            simp only [hxs] at q2
            cases o with
            | nx ρ' => exact fun σ' H' F' sb' s' => ⟨by omega, ρ', F', sb', s2.trans (nm.ff.trans s'), tOut.mono q2 (nm.ff.trans s')⟩
            | ret wv => exact q2
            | brk ρ' => exact fun σ' H' F' sb' s' => q2 σ' H' F' sb' (nm.ff.trans s')
          | exc c ρ' =>
            simp only [hxs] at q2
            exact fun σ' H' F' sb' s' => q2 σ' H' F' sb' (nm.ff.trans s')
          | stuck => simp only [hxs] at q2; exact q2
theorem n_ret (he : PE X e1 (tEX X ca cl Wx e)) : PS X (.Return (some e1) pos) (tSX X ca cl Wx B fun ρ => xs cl sup fuel ρ (.ret e)) :=
  ps_imp (ps_ret he) fun D σ H ⟨ρ, F, sb, q⟩ => by
    dsimp only at q
    rw [xs] at q
    refine to_E sb q fun wv v H1 F1 n hv q1 => ?_
    have h0 : ∀ {a : Addr}, H a = none → B.H0 a = none := fun {a} h => by
      cases e : B.H0 a with
      | none => rfl
      | some u => rw [sb.nx.hh _ _ e] at h; cases h
    cases hv with
    | sh h => exact q1 v H1 F1 (sb.nx.trans n) (.sh h)
    | fr e1 h1 h2 h3 => exact q1 v H1 F1 (sb.nx.trans n) (.fr e1 (h0 h1) h2 h3)
    | bo e1 h1 h2 =>
      obtain ⟨a, g1, g2, g3⟩ := (sb.step n).sr.own _ _ h1
      rw [h2] at g1
      cases g1
      exact q1 v H1 F1 (sb.nx.trans n) (.fr e1 (sb.nw _ _ _ h1 h2) g2 g3)
theorem n_raise {c : Nat} (hc : X.calm = true) (tk : Takes X Wx) (he : PMk X e1 (fun _ H Q => Q (.ref (ca c)) none H)) : PS X (.Raise (some e1) none pos) (tSX X ca cl Wx B fun ρ => xs cl sup fuel ρ (.raise c)) :=
  ps_imp (ps_raise hc tk he) fun D σ H ⟨ρ, F, sb, q⟩ => by
    dsimp only at q
    rw [xs] at q
    exact q σ H F sb Sub.refl
theorem n_brk : PS X (.Break pos) (tSX X ca cl Wx B fun ρ => xs cl sup fuel ρ .brk) :=
  ps_imp ps_break fun D σ H ⟨ρ, F, sb, q⟩ => by
    dsimp only at q
    rw [xs] at q
    exact q σ H F sb Sub.refl

/-! ### try -/
def hdL (X : Cx) (ca : Nat → Addr) (cl : Nat → List Xv → R W) (Wx : WX) (B : Bs) : List (Nat × CS) → List (Value × (Addr → Value → Option Addr → TS))
  | [] => []
  | (h, s) :: r => (.ref (ca h), fun _ _ _ => tS (Gx X ca cl) Wx B fun ρ => suite ρ s) :: hdL X ca cl Wx B r
theorem n_try {body : List Stmt} {h₀ : ExceptHandler} {hds : List ExceptHandler} {cb : CSs} {hs : List (Nat × CS)} (h1 : X.stack = X.env :: X.outer) (h2 : X.env.frame = some X.env.locals) (tk : Takes X Wx)
    (hx : ∀ c h b, h ∈ hs.map (·.1) → sup c h = some b → PySem.W.exmOne X.K (.ref (ca c)) (.ref (ca h)) = some b)
    (hb : ∀ (W' : WX) (pn : List (Addr × Obj)) (xe : Value → Shared → Prop), Takes (X.tr pn xe) W' → PassesOwn (model X.prog X.w) X.A X.env xe → PSs (X.tr pn xe) body (tSX X ca cl W' B fun ρ => xss cl sup fuel ρ cb))
    (hh : HdsOk X (h₀ :: hds) (hdL X ca cl Wx B hs)) : PS X (.Try body (h₀ :: hds) [] [] pos) (tSX X ca cl Wx B fun ρ => xs cl sup fuel ρ (.tr cb hs)) :=
  ps_imp (ps_try_many h1 h2 tk hb hh) fun D σ H ⟨ρ, F, sb, q⟩ => by
    dsimp only at q
    rw [xs] at q
    refine ⟨ρ, F, sb, ?_⟩
    dsimp only
    cases hxs : xss cl sup fuel ρ cb with
    | ok o =>
      simp only [hxs] at q
      cases o with
      | nx ρ' => exact q
      | ret wv => exact q
      | brk ρ' => exact q
    | stuck => simp only [hxs] at q; exact q
    | exc c ρ' =>
      simp only [hxs] at q
      intro σ' H' F' sb' s'
      have go : ∀ l : List (Nat × CS), (∀ p ∈ l, p.1 ∈ hs.map (·.1)) → tOut (Gx X ca cl) Wx B F D (handle sup c ρ' l) → wMany X.K Wx D (hdL X ca cl Wx B l) (.ref (ca c)) none σ' H' := by
        intro l
        induction l with
        | nil =>
          intro _ q
          exact q σ' H' F' sb' s'
        | cons p r ih =>
          intro hm q
          obtain ⟨h, s⟩ := p
          simp only [handle] at q
          cases hsup : sup c h with
          | none => rw [hsup] at q; exact q.elim
          | some b =>
            rw [hsup] at q
            refine ⟨b, hx c h b (hm (h, s) (List.mem_cons_self ..)) hsup, fun hb => ?_, fun hb => ?_⟩
            · subst hb
              exact fun a ha => ⟨ρ', F', sb', tOut.mono q s'⟩
            · subst hb
              exact ih (fun p hp => hm p (List.mem_cons_of_mem _ hp)) q
      exact go hs (fun p hp => List.mem_map_of_mem hp) q
end
end Q7
end

section
set_option autoImplicit false
set_option Elab.async false
set_option linter.all false
set_option maxRecDepth 100000
/-! append, extend, d[k] = v, setdefault; the suites of except clauses. -/
namespace Q7
open PySem PySem.Spec PyProof.Rows L2

theorem owned_get {ρ : Q7.Env} {i : Nat} {x : Xv} (h : owned ρ i = some x) : ρ[i]? = some (some (true, x)) := by
  unfold owned at h
  split at h
  · cases h; assumption
  · cases h
section
variable {X : Cx} {ca : Nat → Addr} {cl : Nat → List Xv → R W} {Wx : WX} {B : Bs} {sup : Nat → Nat → Option Bool} {fuel : Nat} {pos p cpos apos : Pos} {e k v : CE} {e1 e2 e3 : Expr} {x y : Str} {i j : Nat}
theorem few1 {env : PySem.Env} {cpos : Pos} (h : isStar e1 = false) : ((backTo cpos (starEach [e1] env)).all (fun x => !x.1) && (backToKw cpos (keywordEach [] env)).all (fun x => x.1.isSome)
      && decide (([e1] : List Expr).length + ([] : List Keyword).length + (if ([] : List Keyword).isEmpty then 0 else 1) < 30)) = true := by
  rw [star_plain h]; rfl
theorem few2 {env : PySem.Env} {cpos : Pos} (h : isStar e1 = false) (h2 : isStar e2 = false) : ((backTo cpos (starEach [e1, e2] env)).all (fun x => !x.1) && (backToKw cpos (keywordEach [] env)).all (fun x => x.1.isSome)
      && decide (([e1, e2] : List Expr).length + ([] : List Keyword).length + (if ([] : List Keyword).isEmpty then 0 else 1) < 30)) = true := by
  rw [star_plain h, star_plain h2]; rfl
theorem own_lst {P : Program} {w : World} {K : PySem.W.Frag} {σ : L2.St} {H F : Hp} {ρ : Q7.Env} {ds : List D} (r : SR P w K σ H F ρ) (h : ρ[i]? = some (some (true, .d (.lst ds)))) : ∃ a vs, σ[i]? = some (some (.ref a)) ∧ F a = none ∧ H a = some (.lst vs) ∧ Rps K F vs ds := by
  obtain ⟨a, h1, h2, vs, h3, h4⟩ := r.own i _ h
  exact ⟨a, vs, h1, h2, h3, h4⟩
theorem n_append (hN : X.N[i]? = some x) (hv : Vis X.env.scope x) (hd : (x == ("__debug__" : Str)) = false) (hcd : (x == ("__classdict__" : Str)) = false) (hs : isStar e1 = false) (hl : (apos.endLine == cpos.line) = true) (he : PE X e1 (tEX X ca cl Wx e)) :
    PS X (.Expr (.Call (.Attribute (.Name x p) "append" apos) [e1] [] cpos) pos) (tSX X ca cl Wx B fun ρ => xs cl sup fuel ρ (.append i e)) :=
  ps_imp (ps_expr (pe_bm PySem.F.plainAttrs_list PySem.F.slot_list_append PySem.F.type_list_append mt_append (pe_var hN hv hd hcd) (pa_cons he pa_nil (star_plain hs)) rfl (few1 hs) hl (star_plain hs) rfl) (comp_plain rfl)) fun D σ H ⟨ρ, F, sb, q⟩ => by
    dsimp only at q
    rw [xs] at q
    split at q
    · rename_i ds ho
      obtain ⟨a, vs, h1, h2, h3, h4⟩ := own_lst sb.sr (owned_get ho)
      refine ⟨_, h1, .inl ⟨rfl, vs, SqL.of h3⟩, to_E sb q fun wv u H1 F1 n hv q1 => ?_⟩
      obtain ⟨d, hd', q1⟩ := to_of q1
      obtain ⟨hx, hk⟩ := st_get hd'
      obtain ⟨F2, n2, r2⟩ := hv.keep n hk
      rw [hx] at r2
      have r2 : Rp X.K F2 u d := r2
      split at q1
      · rename_i hlt
        refine ⟨a, vs, u, rfl, rfl, n2.hh _ _ h3, by rw [h4.length]; have := sizeLine_eq; unfold big at hlt; omega, q1 σ _ F2 ((sb.step n2).mut (owned_get ho) h1 ⟨vs ++ [u], upd_same, (h4.mono n2.ff).append (.one r2)⟩) n2.ff⟩
      · exact q1.elim
    · exact q.elim
theorem n_extend (hN : X.N[i]? = some x) (hv : Vis X.env.scope x) (hd : (x == ("__debug__" : Str)) = false) (hcd : (x == ("__classdict__" : Str)) = false) (hs : isStar e1 = false) (hl : (apos.endLine == cpos.line) = true) (he : PE X e1 (tEX X ca cl Wx e)) :
    PS X (.Expr (.Call (.Attribute (.Name x p) "extend" apos) [e1] [] cpos) pos) (tSX X ca cl Wx B fun ρ => xs cl sup fuel ρ (.extend i e)) :=
  ps_imp (ps_expr (pe_bm PySem.F.plainAttrs_list PySem.F.slot_list_extend PySem.F.type_list_extend mt_extend (pe_var hN hv hd hcd) (pa_cons he pa_nil (star_plain hs)) rfl (few1 hs) hl (star_plain hs) rfl) (comp_plain rfl)) fun D σ H ⟨ρ, F, sb, q⟩ => by
    dsimp only at q
    rw [xs] at q
    split at q
    · rename_i ds ho
      obtain ⟨a, vs, h1, h2, h3, h4⟩ := own_lst sb.sr (owned_get ho)
      refine ⟨_, h1, .inl ⟨rfl, vs, SqL.of h3⟩, to_E sb q fun wv u H1 F1 n hv q1 => ?_⟩
      obtain ⟨ys, hy, q1⟩ := to_of q1
      obtain ⟨kk, xx⟩ := wv
      cases kk <;> cases xx <;> simp only [W.frL, reduceCtorEq] at hy
      rename_i dd
      cases dd <;> simp only [W.frL, reduceCtorEq, Option.some.injEq] at hy
      subst hy
      cases hv with
      | fr ev h5 h6 h7 =>
        obtain ⟨zs, g1, g2⟩ := h7
        split at q1
        · rename_i hlt
          exact ⟨a, _, vs, zs, rfl, by rw [ev], n.hh _ _ h3, g1, by rw [h4.length, g2.length]; exact big_line hlt, q1 σ _ F1 ((sb.step n).mut (owned_get ho) h1 ⟨vs ++ zs, upd_same, (h4.mono n.ff).append g2⟩) n.ff⟩
        · exact q1.elim
    · exact q.elim

/-! ### d[k] = v -/
def rPutM (X : Cx) : TSet := fun o i v H Q => ∃ a F ks vs kd vd, o = .ref a ∧ Sub F H ∧ F a = none ∧ Mp X.prog X.w X.K H F a ks vs ∧ fitsK kd ks = true ∧ Rp X.K F i kd ∧ Rp X.K F v vd ∧ ks.length < big ∧
  ∀ ob, Mp X.prog X.w X.K (upd H a ob) F a (Q7.putK kd vd ks vs).1 (Q7.putK kd vd ks vs).2 → Q (upd H a ob)
theorem storedH_ne {xs : List (NestedKey × Addr × Value)} {kk : NestedKey} {b : Addr} {r : Value} : storedH xs kk b r ≠ [] := by
  unfold storedH
  split
  · rename_i h
    intro z
    have : xs = [] := by simpa using z
    subst this
    cases h
  · simp
theorem pset_M (hu : X.A.units + 66 < cLine) : PSet X (rPutM X) := by
  intro pins s σ H o i v ov iv u Q I ro ri rv h
  obtain ⟨a, F, ks, vs, kd, vd, rfl, sF, hFa, m, hf, rk, rd, hlen, q⟩ := h
  cases ro
  have hsz := sizeLine_eq
  unfold big at hlen
  rcases m.at I sF hf rk with ⟨kvs, kq, g1, g2, g3, rfl, g4⟩ | ⟨b, xs, rfl, g1, g2, g3, g4, g5, g6, g7⟩
  · obtain ⟨p1, p2⟩ := g4.put g3 rk g2 rd
    exact d_setItem (by omega) I (.k g1 (by rw [g4.len]; omega)) ri rv fun s' I' => ⟨_, I', q _ (.sc _ upd_same p2 p1)⟩
  · cases ri
    refine wpAny_setItem_heap (hsz := g6) (room_n hu) g2 g4 fun h' dd' hs => ?_
    have hn : (xs.map (·.1)).Nodup := g4.nodup
    have he := g5.put (r := u) (u := v) g1 rk hn rv rd
    have hl : (storedH xs (nk kd) b u).length ≤ sizeLine := by
      have := storedH_length xs (nk kd) b u
      have := g5.len
      omega
    obtain ⟨ob, I', mm⟩ := Mp.laidN (F := F) I (t' := s.toks + (nestedKind X.prog X.w).draws (nk kd)) g7 hs g3 dd' hl storedH_ne he
    exact ⟨_, I', q _ (mm _ upd_same)⟩
theorem ps_putM {td ty tv : TE} {t : TSet} (hp : PSet X t) (ho : PE X e1 td) (hi : PE X e2 ty) (hv : PE X e3 tv) (hs : swapsWith e3 (some (.Subscript e1 e2 p)) pos.line X.env = pure false) :
    PS X (.Assign [.Subscript e1 e2 p] e3 pos) (fun D σ H => tv σ H fun v H1 => td σ H1 fun x H2 => ty σ H2 fun y H3 => t x y v H3 fun H4 => D.nx σ H4) := by
  refine ⟨fun pins s σ H D I h => ?_⟩
  refine wpAny_Assign_Subscript (thn (hv.run pins s σ H _ I h) fun r s1 ⟨v, H1, I1, rv, q1⟩ => thn (ho.run pins s1 σ H1 _ I1 q1) fun u s2 ⟨x, H2, I2, rx, q2⟩ => thn (hi.run pins s2 σ H2 _ I2 q2) fun iv s3 ⟨y, H3, I3, ry, q3⟩ => ?_) hs
  exact thn (hp pins s3 σ H3 x y v u iv r _ I3 rx ry rv q3) fun _ s4 ⟨H4, I4, q4⟩ => ⟨σ, H4, I4, q4⟩
theorem n_dput (hu : X.A.units + 66 < cLine) (hN : X.N[i]? = some x) (hv : Vis X.env.scope x) (hd : (x == ("__debug__" : Str)) = false) (hcd : (x == ("__classdict__" : Str)) = false) (hk : PE X e2 (tEX X ca cl Wx k)) (he : PE X e3 (tEX X ca cl Wx v)) {p0 : Pos} :
    PS X (.Assign [.Subscript (.Name x p0) e2 p] e3 pos) (tSX X ca cl Wx B fun ρ => xs cl sup fuel ρ (.dput i k v)) := by
  have hs : swapsWith e3 (some (.Subscript (.Name x p0) e2 p)) pos.line X.env = pure false := by cases e3 <;> rfl
  refine ps_imp (ps_putM (pset_M hu) (pe_var hN hv hd hcd) hk he hs) fun D σ H ⟨ρ, F, sb, q⟩ => ?_
  dsimp only at q
  rw [xs] at q
  split at q
  · rename_i ks vs ho
    have ho' := owned_get ho
    refine to_E sb q fun wv u H1 F1 n hv q1 => ?_
    obtain ⟨vd, hvd, q1⟩ := to_of q1
    obtain ⟨hx, hk1⟩ := st_get hvd
    obtain ⟨F2, n2, r2⟩ := hv.keep n hk1
    rw [hx] at r2
    have r2 : Rp X.K F2 u vd := r2
    have sb2 := sb.step n2
    obtain ⟨a, h1, h2, h3⟩ := sb2.sr.own i _ ho'
    refine ⟨_, h1, to_E sb2 (tOut.mono q1 n2.ff) fun wk y H3 F3 n3 hk q3 => ?_⟩
    obtain ⟨kd, hkd, q3⟩ := to_of q3
    obtain ⟨hx3, hk3⟩ := st_get hkd
    obtain ⟨F4, n4, r4⟩ := hk.keep n3 hk3
    rw [hx3] at r4
    have r4 : Rp X.K F4 y kd := r4
    have sb4 := sb2.step n4
    obtain ⟨a', h1', h2', h3'⟩ := sb4.sr.own i _ ho'
    rw [h1] at h1'
    cases h1'
    split at q3
    · rename_i hc
      exact ⟨a, F4, ks, vs, kd, vd, rfl, n4.fh, h2', h3', hc.2, r4, r2.mono n4.ff, hc.1, fun ob mm => q3 σ _ F4 (sb4.mut ho' h1 mm) n4.ff⟩
    · exact q3.elim
  · exact q.elim

/-! ### x.append(d.setdefault(k, v)) -/
def rSetd (X : Cx) : V → V → V → Hp → VK → Prop := fun o i v H Q => ∃ a F ks vs kd vd, o = .ref a ∧ Sub F H ∧ F a = none ∧ Mp X.prog X.w X.K H F a ks vs ∧ fitsK kd ks = true ∧ Rp X.K F i kd ∧ Rp X.K F v vd ∧ ks.length < big ∧
  (∀ v' d', getK kd ks vs = some d' → hasK kd ks = true → Rp X.K F v' d' → Q v' H) ∧
  ∀ ob, getK kd ks vs = none → hasK kd ks = false → Mp X.prog X.w X.K (upd H a ob) F a (ks ++ [kd]) (vs ++ [vd]) → Q v (upd H a ob)
theorem setd_M (hu : X.A.units + 66 < cLine) {pins : List (Addr × Obj)} {s : Shared} {σ : L2.St} {H : Hp} {o i v : V} {ov iv u : Value} {Q : VK} (I : Inv X pins σ H s) (ro : RelV o ov) (ri : RelV i iv) (rv : RelV v u) (h : rSetd X o i v H Q) :
    wpAny (model X.prog X.w) X.A (call (.builtin "dict.setdefault") [ov, iv, u]) (EP X pins σ Q) X.xe s := by
  obtain ⟨a, F, ks, vs, kd, vd, rfl, sF, hFa, m, hf, rk, rd, hlen, q1, q2⟩ := h
  cases ro
  have hsz := sizeLine_eq
  unfold big at hlen
  rcases m.at I sF hf rk with ⟨kvs, kq, g1, g2, g3, rfl, g4⟩ | ⟨b, xs, rfl, g1, g2, g3, g4, g5, g6, g7⟩
  · refine d_setd I g1 ri rv (by rw [g4.len]; omega) (fun v0 hv0 w' s' I' r' => ?_) fun hn w' s' I' r' => ?_
    · rcases g4.find g3 with ⟨u', v'', f1, f2, f3, f4⟩ | ⟨f1, f2, f4⟩
      · rw [hv0] at f1
        cases f1
        exact ⟨_, H, I', r', q1 _ _ f2 f4 f3⟩
      · rw [hv0] at f1; cases f1
    · rcases g4.find g3 with ⟨u', v'', f1, f2, f3, f4⟩ | ⟨f1, f2, f4⟩
      · rw [hn] at f1; cases f1
      · obtain ⟨p1, p2⟩ := g4.put g3 rk g2 rd
        have e : Q7.putK kd vd ks vs = (ks ++ [kd], vs ++ [vd]) := by unfold Q7.putK; rw [if_neg (by rw [f4]; simp)]
        rw [e] at p1
        exact ⟨_, _, I', r', q2 _ f2 f4 (.sc _ upd_same p2 p1)⟩
  · cases ri
    refine call_setdefault_heap (hsz := g6) (room_n hu) g2 g3 g4 (fun p0 hp0 => ?_) fun hn h' dd' hs => ?_
    · rcases g5.find g1 with ⟨p', u', v'', f1, fr, f2, f3, f4⟩ | ⟨f1, f2, f4⟩
      · rw [hp0] at f1
        cases f1
        exact ⟨u', H, I.tok _, fr, q1 _ _ f2 f4 f3⟩
      · rw [hp0] at f1; cases f1
    · rcases g5.find g1 with ⟨p', u', v'', f1, fr, f2, f3, f4⟩ | ⟨f1, f2, f4⟩
      · rw [hn] at f1; cases f1
      · have hnd : (xs.map (·.1)).Nodup := g4.nodup
        have he := g5.put (r := u) (u := v) g1 rk hnd rv rd
        have e : Q7.putK kd vd ks vs = (ks ++ [kd], vs ++ [vd]) := by unfold Q7.putK; rw [if_neg (by rw [f4]; simp)]
        rw [e] at he
        have hl : (storedH xs (nk kd) b u).length ≤ sizeLine := by
          have := storedH_length xs (nk kd) b u
          have := g5.len
          omega
        obtain ⟨ob, I', mm⟩ := Mp.laidN (F := F) I (t' := s.toks + (nestedKind X.prog X.w).draws (nk kd)) g7 hs g3 dd' hl storedH_ne he
        exact ⟨v, _, I', rv, q2 _ f2 f4 (mm _ upd_same)⟩
def tSetd (X : Cx) (td ty tx : TE) : TE := fun σ H Q => td σ H fun o H1 => (∃ a F ks vs, o = .ref a ∧ Sub F H1 ∧ Mp X.prog X.w X.K H1 F a ks vs) ∧ ty σ H1 fun y H2 => tx σ H2 fun z H3 => rSetd X o y z H3 Q
theorem pe_setdM {td ty tx : TE} (hu : X.A.units + 66 < cLine) (ho : PE X e1 td) (he : PE X e2 ty) (hf : PE X e3 tx) (m : L2.M2 X e1 "setdefault" apos e2 e3 cpos) : PE X (.Call (.Attribute e1 "setdefault" apos) [e2, e3] [] cpos) (tSetd X td ty tx) := by
  refine ⟨fun pins s σ H Q I h => ?_⟩
  refine wpAny_Call_method m.base m.few m.line PySem.F.plainAttrs_dict PySem.F.slot_dict_setdefault PySem.F.type_dict_setdefault (thn (ho.run pins s σ H _ I h) fun u s1 ⟨x, H1, I1, rx, ⟨a, F, ks, vs, ex, sF, mp⟩, q1⟩ => ?_)
  subst ex
  obtain rfl : u = Value.ref a := rx
  obtain ⟨t1, t2, _⟩ := dict_at_type I1 sF mp
  refine ⟨t1, t2, ?_⟩
  rw [m.trees]
  refine Calls.callWith_builtin rfl (Calls.evalArgs_plain (Calls.spliced_cons (thn (he.run pins s1 σ H1 _ I1 q1) fun iv s2 ⟨y, H2, I2, ry, q2⟩ =>
    Calls.spliced_cons (thn (hf.run pins s2 σ H2 _ I2 q2) fun fv s3 ⟨z, H3, I3, rz, q3⟩ => Calls.spliced_nil ?_))))
  exact setd_M (o := .ref a) hu I3 rfl ry rz q3
theorem m2_of {m : Str} {env : PySem.Env} (hX : X.env = env) (hb : attributeBase e1 m X.env (eval e1 X.env) = eval e1 X.env) (h2 : isStar e2 = false) (h3 : isStar e3 = false) (hl : (apos.endLine == cpos.line) = true) : L2.M2 X e1 m apos e2 e3 cpos :=
  ⟨hb, few2 h2 h3, hl, by rw [star_plain h2, star_plain h3]; rfl⟩
theorem m1_of {m : Str} (hb : attributeBase e1 m X.env (eval e1 X.env) = eval e1 X.env) (h2 : isStar e2 = false) (hl : (apos.endLine == cpos.line) = true) : L2.M1 X e1 m apos e2 cpos :=
  ⟨hb, few1 h2, hl, by rw [star_plain h2]; rfl⟩
theorem n_appendSD {apos' cpos' p' : Pos} (hu : X.A.units + 66 < cLine) (hN : X.N[i]? = some x) (hv : Vis X.env.scope x) (hd : (x == ("__debug__" : Str)) = false) (hcd : (x == ("__classdict__" : Str)) = false)
    (hN2 : X.N[j]? = some y) (hv2 : Vis X.env.scope y) (hd2 : (y == ("__debug__" : Str)) = false) (hcd2 : (y == ("__classdict__" : Str)) = false) (hs : isStar e1 = false) (hs2 : isStar e2 = false) (hl : (apos.endLine == cpos.line) = true) (hl2 : (apos'.endLine == cpos'.line) = true)
    (hk : PE X e1 (tEX X ca cl Wx k)) (he : PE X e2 (tEX X ca cl Wx v)) :
    PS X (.Expr (.Call (.Attribute (.Name x p) "append" apos) [.Call (.Attribute (.Name y p') "setdefault" apos') [e1, e2] [] cpos'] [] cpos) pos) (tSX X ca cl Wx B fun ρ => xs cl sup fuel ρ (.appendSD i j k v)) :=
  ps_imp (ps_expr (pe_bm PySem.F.plainAttrs_list PySem.F.slot_list_append PySem.F.type_list_append mt_append (pe_var hN hv hd hcd)
    (pa_cons (pe_setdM hu (pe_var hN2 hv2 hd2 hcd2) hk he (m2_of rfl rfl hs hs2 hl2)) pa_nil rfl) rfl rfl hl rfl rfl) (comp_plain rfl)) fun D σ H ⟨ρ, F, sb, q⟩ => by
    dsimp only at q
    rw [xs] at q
    split at q
    · rename_i ds ks vs ho1 ho2
      have ho1' := owned_get ho1
      have ho2' := owned_get ho2
      obtain ⟨a, us, h1, h2, h3, h4⟩ := own_lst sb.sr ho1'
      obtain ⟨b, g1, g2, g3⟩ := sb.sr.own j _ ho2'
      refine ⟨_, h1, .inl ⟨rfl, us, SqL.of h3⟩, _, g1, ⟨b, F, ks, vs, rfl, sb.sr.sub, g3⟩, to_E sb q fun wk y1 H1 F1 n hk q1 => ?_⟩
      obtain ⟨kd, hkd, q1⟩ := to_of q1
      obtain ⟨hx1, hk1⟩ := st_get hkd
      obtain ⟨F2, n2, r2⟩ := hk.keep n hk1
      rw [hx1] at r2
      have r2 : Rp X.K F2 y1 kd := r2
      have sb2 := sb.step n2
      refine to_E sb2 (tOut.mono q1 n2.ff) fun wv z1 H3 F3 n3 hv3 q3 => ?_
      obtain ⟨vd, hvd, q3⟩ := to_of q3
      obtain ⟨hx3, hk3⟩ := st_get hvd
      obtain ⟨F4, n4, r4⟩ := hv3.keep n3 hk3
      rw [hx3] at r4
      have r4 : Rp X.K F4 z1 vd := r4
      have sb4 := sb2.step n4
      obtain ⟨b', k1, k2, k3⟩ := sb4.sr.own j _ ho2'
      rw [g1] at k1
      cases k1
      have nn := n2.trans n4
      split at q3
      · rename_i hc
        obtain ⟨hij, hlt, hlt2, hfit⟩ := hc
        have hsz := sizeLine_eq
        have hla : us.length < sizeLine := by rw [h4.length]; unfold big at hlt; omega
        have hab : a ≠ b := fun z => hij (by subst z; exact sb.sr.inj i j _ _ a ho1' ho2' h1 g1)
        refine ⟨b, F4, ks, vs, kd, vd, rfl, n4.fh, k2, k3, hfit, r2.mono n4.ff, r4, hlt2, fun v' d' e1 e2 r' => ?_, fun ob e1 e2 mm => ?_⟩
        · refine ⟨a, us, v', rfl, rfl, nn.hh _ _ h3, hla, q3 σ _ F4 ?_ n4.ff⟩
          have s1 := sb4.mut ho1' h1 (x' := .d (.lst (ds ++ [d']))) (o := .lst (us ++ [v'])) ⟨us ++ [v'], upd_same, (h4.mono nn.ff).append (.one r')⟩
          rw [e1, e2]
          have e3 : ρ.set j (some (true, .m ks vs)) = ρ := by
            have := List.getElem?_eq_some_iff.mp ho2'
            obtain ⟨hjl, hje⟩ := this
            rw [← hje]; exact List.set_getElem_self hjl
          simpa [e3] using s1
        · refine ⟨a, us, z1, rfl, rfl, by rw [upd_ne hab]; exact nn.hh _ _ h3, hla, q3 σ _ F4 ?_ n4.ff⟩
          have s1 := sb4.mut ho2' g1 (x' := .m (ks ++ [kd]) (vs ++ [vd])) (o := ob) mm
          have hi' : (ρ.set j (some (true, .m (ks ++ [kd]) (vs ++ [vd]))))[i]? = some (some (true, .d (.lst ds))) := by
            rw [List.getElem?_set_ne (Ne.symm hij)]; exact ho1'
          have s2 := s1.mut hi' h1 (x' := .d (.lst (ds ++ [vd]))) (o := .lst (us ++ [z1])) ⟨us ++ [z1], upd_same, (h4.mono nn.ff).append (.one r4)⟩
          rw [e1, e2]
          simpa using s2
      · exact q3.elim
    · exact q.elim
end
end Q7
end

section
set_option autoImplicit false
set_option Elab.async false
set_option linter.all false
set_option maxRecDepth 100000
/-! Methods; {}; list(x). -/
namespace Q7
open PySem PySem.Spec PyProof.Rows L2

section
variable {X : Cx} {ca : Nat → Addr} {cl : Nat → List Xv → R W} {Wx : WX} {pos p cpos apos : Pos} {e a b c d : CE} {e1 e2 e3 : Expr} {name : Str}
/-- a method of one argument, by what its object is -/
def Meth1 (X : Cx) (name : Str) (chk : W → Option Unit) (f : W → W → Option W) : Prop := ∀ (pins : List (Addr × Obj)) (s : Shared) (σ : L2.St) (H F : Hp) (x : V) (v : Value) (w1 : W), Inv X pins σ H s → RelV x v → Sub F H → Rdx X.prog X.w X.K H F x w1.x → chk w1 = some () →
  ∃ T id, PlainAttrs T ∧ Slot T name id ∧ typeOf (.builtin id) = pure (.type "method_descriptor") ∧ s.TypeIs v T ∧ (∀ a, v = .ref a → ∃ ob, s.heap.get? a = some ob ∧ ob.dict = none) ∧
    ∀ (s' : Shared) (H' : Hp) (F' : Hp) (y : V) (u : Value) (w2 : W) (Q : VK), Inv X pins σ H' s' → RelV y u → Sub F' H' → Rdx X.prog X.w X.K H' F' x w1.x → Rdx X.prog X.w X.K H' F' y w2.x → Ok1 X.prog X.w X.K (f w1 w2) H' F' Q →
      wpAny (model X.prog X.w) X.A (call (.builtin id) [v, u]) (EP X pins σ Q) X.xe s'
theorem s_meth1 {chk : W → Option Unit} {f : W → W → Option W} (M : Meth1 X name chk f) (m : L2.M1 X e1 name apos e2 cpos) (ha : PE X e1 (tEX X ca cl Wx a)) (hb : PE X e2 (tEX X ca cl Wx b))
    (he : ∀ ρ, ev cl ρ c = ev cl ρ a >>= fun x => R.of (chk x) >>= fun _ => ev cl ρ b >>= fun y => R.of (f x y)) : PE X (.Call (.Attribute e1 name apos) [e2] [] cpos) (tEX X ca cl Wx c) := by
  refine ⟨fun pins s σ H Q I ⟨ρ, F, sr, q⟩ => ?_⟩
  rw [he] at q
  have h1 : tEX X ca cl Wx a σ H (fun x H1 => ∃ F1 w1, Sub F1 H1 ∧ Rdx X.prog X.w X.K H1 F1 x w1.x ∧ chk w1 = some () ∧ tEX X ca cl Wx b σ H1 fun y H2 => ∃ F2 w2, Sub F2 H2 ∧ Rdx X.prog X.w X.K H2 F2 x w1.x ∧ Rdx X.prog X.w X.K H2 F2 y w2.x ∧ Ok1 X.prog X.w X.K (f w1 w2) H2 F2 Q) := by
    refine tE.bind sr q fun w1 v1 H1 F1 n1 hv1 sr1 q1 => ?_
    cases hc : chk w1 with
    | none => rw [hc] at q1; exact q1.elim
    | some u =>
      cases u
      rw [hc] at q1
      exact ⟨F1, w1, n1.fh, hv1.rdx sr n1, hc, tE.bind (g := fun y => R.of (f w1 y)) sr1 q1 fun w2 v2 H2 F2 n2 hv2 sr2 q2 => ⟨F2, w2, n2.fh, (hv1.rdx sr n1).step n2, hv2.rdx sr1 n2, q2.of⟩⟩
  refine wpAny_Call_method_late m.base m.few m.line m.trees (thn (ha.run pins s σ H _ I h1) fun v s1 ⟨x, H1, I1, r1, F1, w1, sF1, rd1, hc, q1⟩ => ?_)
  obtain ⟨T, id, t1, t2, t3, t4, t5, go⟩ := M pins s1 σ H1 F1 x v w1 I1 r1 sF1 rd1 hc
  refine ⟨T, id, t1, t2, t3, t4, t5, Calls.callWith_builtin rfl (Calls.evalArgs_plain (Calls.spliced_cons (thn (hb.run pins s1 σ H1 _ I1 q1) fun u s2 ⟨y, H2, I2, ry, F2, w2, sF2, rd2, rd3, ok⟩ => Calls.spliced_nil ?_)))⟩
  exact go s2 H2 F2 y u w2 Q I2 ry sF2 rd2 rd3 ok
theorem strO_get {w1 : W} (h : w1.strO = some ()) : ∃ s, w1.x = .d (.str s) := by
  obtain ⟨k, x⟩ := w1
  cases x with
  | d d => cases d <;> first | exact ⟨_, rfl⟩ | (simp [W.strO] at h)
  | m _ _ => simp [W.strO] at h
/-- a method of texts -/
theorem meth_str {id : String} {f : W → W → Option W} (slot : Slot "str" name id) (ty : typeOf (.builtin id) = pure (.type "method_descriptor"))
    (h : MtR X id (fun x xs H Q => ∃ y, xs = [y] ∧ r2 X.prog X.w X.K f x y H Q)) : Meth1 X name W.strO f := by
  intro pins s σ H F x v w1 I r sF rd hc
  obtain ⟨t, ht⟩ := strO_get hc
  rw [ht] at rd
  obtain ⟨rfl, o⟩ := rd.isStr
  obtain ⟨tk, rfl⟩ := r
  refine ⟨"str", id, PySem.F.plainAttrs_str, slot, ty, typeIs_str s _ tk, (fun _ e => nomatch e), fun s' H' F' y u w2 Q I' ry sF' rd1 rd2 ok => ?_⟩
  exact h pins s' σ H' (.str (toS t)) [y] _ [u] Q I' ⟨tk, rfl⟩ (.cons ry .nil) ⟨y, rfl, F', w1, w2, sF', rd1, rd2, ok⟩
theorem splitC_ne (c : Nat) (l : List Nat) : splitC c l ≠ [] := by
  cases l with
  | nil => simp [splitC]
  | cons x r =>
    simp only [splitC]
    split
    · simp
    · split <;> simp
theorem splitC_spl (c : Nat) : ∀ (l acc : List Nat), TL.spl [c] 0 acc l = (match splitC c l with | [] => [acc] | h :: t => (acc ++ h) :: t)
  | [], acc => by simp [TL.spl, splitC]
  | x :: r, acc => by
    by_cases hx : x = c
    · subst hx
      rw [TL.spl_hit (by simp [TL.pre])]
      show acc :: TL.spl [x] 0 [] r = _
      rw [splitC_spl x r []]
      simp only [splitC, if_true]
      cases h : splitC x r with
      | nil => exact absurd h (splitC_ne x r)
      | cons a b => simp
    · rw [TL.spl_miss (by simp [TL.pre, hx]), splitC_spl c r]
      simp only [splitC, if_neg hx]
      cases splitC c r <;> simp
theorem split_eq (s : List Nat) (c : Nat) (hc : c < 128) : Txt.split (toS s) (toS [c]) = (splitC c s).map toS := by
  refine TL.map_tl_inj ?_
  rw [TL.split_spl (toS s) (toS [c]) (by simp [TL.tl, toS]) (TL.kind_ok (by simp [toS]; omega))]
  show TL.spl [c] 0 [] s = _
  rw [splitC_spl]
  have : List.map TL.tl (List.map toS (splitC c s)) = splitC c s := by
    rw [List.map_map]
    conv => rhs; rw [← List.map_id (splitC c s)]
    exact List.map_congr_left fun x _ => rfl
  rw [this]
  cases h : splitC c s with
  | nil => exact absurd h (splitC_ne c s)
  | cons a b => simp
theorem splitC_sub (c : Nat) : ∀ (s : List Nat) (x : List Nat), x ∈ splitC c s → x.Sublist s
  | [], x, h => by simp [splitC] at h; subst h; exact .refl _
  | y :: r, x, h => by
    simp only [splitC] at h
    split at h
    · rcases List.mem_cons.mp h with rfl | h
      · exact List.nil_sublist _
      · exact (splitC_sub c r x h).cons y
    · split at h
      · rename_i e
        exact absurd e (splitC_ne c r)
      · rename_i a t e
        rcases List.mem_cons.mp h with rfl | h
        · exact (splitC_sub c r a (by rw [e]; exact List.mem_cons_self ..)).cons₂ y
        · exact (splitC_sub c r x (by rw [e]; exact List.mem_cons_of_mem _ h)).cons y
theorem rps_strs {K : PySem.W.Frag} {F : Hp} : ∀ {l : List (List Nat)}, (∀ x ∈ l, OkS x) → Rps K F ((l.map toS).map V.str) (l.map .str)
  | [], _ => .nil
  | x :: l, h => .cons (.str (h x (List.mem_cons_self ..))) (rps_strs fun y hy => h y (List.mem_cons_of_mem _ hy))
theorem me_split : MtR X "str.split" (fun x xs H Q => ∃ y, xs = [y] ∧ r2 X.prog X.w X.K splitW x y H Q) := by
  intro pins s σ H x xs v us Q I rx rs h
  obtain ⟨y, rfl, F, w1, w2, sF, h1, h2, ok⟩ := h
  obtain ⟨wv, e, q⟩ := ok.get
  simp only [splitW, Option.bind_eq_bind, Option.bind_eq_some_iff] at e
  obtain ⟨d1, e1, d2, e2, e⟩ := e
  rw [dat_get e1] at h1
  rw [dat_get e2] at h2
  cases d1 <;> cases d2 <;> try (simp only [reduceCtorEq] at e; done)
  rename_i t u
  split at e
  · rename_i c ec1 ec2
    cases ec1
    cases ec2
    cases e
    obtain ⟨rfl, o1⟩ := h1.isStr
    obtain ⟨rfl, o2⟩ := h2.isStr
    have hc : c < 128 := o2.asc c (by simp)
    refine mt_split pins s σ H _ _ v us Q I rx rs ⟨_, _, rfl, rfl, by rw [toS_length]; rfl, ?_, fun p hp => ?_⟩
    · rw [toS_length]
      have := o1.len
      have := sizeLine_eq
      unfold big at *
      omega
    · rw [split_eq t c hc]
      refine fin_lst q sF hp (rps_strs fun x hx => o1.sub (splitC_sub c t x hx))
  · cases e
theorem texts_get : ∀ {ds : List D} {ts : List (List Nat)}, texts ds = some ts → ds = ts.map .str
  | [], ts, h => by simp [texts] at h; subst h; rfl
  | d :: ds, ts, h => by
    cases d <;> simp [texts] at h
    obtain ⟨ms, h1, rfl⟩ := h
    rw [texts_get h1]; rfl
theorem Rps.texts {K : PySem.W.Frag} {F : Hp} : ∀ {vs : List V} {ts : List (List Nat)}, Rps K F vs (ts.map .str) → vs = (ts.map toS).map V.str ∧ ∀ t ∈ ts, OkS t
  | _, [], .nil => ⟨rfl, fun _ h => nomatch h⟩
  | _, n :: ns, .cons a b => by
    cases a with
    | str o =>
      obtain ⟨h1, h2⟩ := Rps.texts b
      refine ⟨by rw [h1]; rfl, fun t ht => ?_⟩
      rcases List.mem_cons.mp ht with rfl | ht
      · exact o
      · exact h2 t ht
theorem joinL_eq (s : List Nat) : ∀ ts : List (List Nat), TL.joinL s ts = joinL s ts
  | [] => rfl
  | [_] => rfl
  | x :: y :: r => by
    show x ++ (s ++ TL.joinL s (y :: r)) = x ++ (s ++ joinL s (y :: r))
    rw [joinL_eq s (y :: r)]
theorem join_toS (s : List Nat) (ts : List (List Nat)) : Txt.join (toS s) (ts.map toS) = toS (joinL s ts) := by
  refine TL.ext_tl ?_
  rw [TL.join_eq, TL.tl_join, List.map_map]
  have : List.map (TL.tl ∘ toS) ts = ts := by
    conv => rhs; rw [← List.map_id ts]
    exact List.map_congr_left fun x _ => rfl
  rw [this]
  exact joinL_eq s ts
theorem joinL_len (s : List Nat) : ∀ ts : List (List Nat), (ts.map (·.length)).sum ≤ (joinL s ts).length
  | [] => by simp [joinL]
  | [x] => by simp [joinL]
  | x :: y :: r => by
    have := joinL_len s (y :: r)
    simp only [List.map_cons, List.sum_cons, joinL, List.length_append] at this ⊢
    omega
theorem joinL_len2 (s : List Nat) : ∀ ts : List (List Nat), ts.length * s.length ≤ (joinL s ts).length + s.length
  | [] => by simp [joinL]
  | [x] => by simp [joinL]
  | x :: y :: r => by
    have := joinL_len2 s (y :: r)
    simp only [List.length_cons, joinL, List.length_append] at this ⊢
    rw [Nat.add_mul]
    omega
theorem joinL_asc {s : List Nat} (hs : OkS s) : ∀ {ts : List (List Nat)}, (∀ t ∈ ts, OkS t) → ∀ c ∈ joinL s ts, c < 128
  | [], _, c, h => by simp [joinL] at h
  | [x], ht, c, h => (ht x (by simp)).asc c (by simpa [joinL] using h)
  | x :: y :: r, ht, c, h => by
    simp only [joinL, List.mem_append] at h
    rcases h with h | h | h
    · exact (ht x (List.mem_cons_self ..)).asc c h
    · exact hs.asc c h
    · exact joinL_asc hs (fun t h' => ht t (List.mem_cons_of_mem _ h')) c h
theorem me_join : MtR X "str.join" (fun x xs H Q => ∃ y, xs = [y] ∧ r2 X.prog X.w X.K joinW x y H Q) := by
  intro pins s σ H x xs v us Q I rx rs h
  obtain ⟨y, rfl, F, w1, w2, sF, h1, h2, ok⟩ := h
  obtain ⟨wv, e, q⟩ := ok.get
  simp only [joinW, Option.bind_eq_bind, Option.bind_eq_some_iff] at e
  obtain ⟨d1, e1, d2, e2, e⟩ := e
  rw [dat_get e1] at h1
  rw [dat_get e2] at h2
  cases d1 <;> cases d2 <;> simp only [reduceCtorEq] at e
  rename_i t ds
  split at e
  · rename_i ts hts
    simp only [Option.bind_eq_some_iff, Option.some.injEq] at e
    obtain ⟨z, hz, rfl⟩ := e
    obtain ⟨hn, rfl⟩ := isize_get hz
    obtain ⟨rfl, o1⟩ := h1.isStr
    rw [texts_get hts] at h2
    obtain ⟨l, vs, rfl, g1, g2⟩ := h2.isLst sF
    obtain ⟨rfl, ok2⟩ := g2.texts
    refine mt_join pins s σ H _ _ v us Q I rx rs ⟨_, l, ts.map toS, rfl, rfl, .inl g1, ?_, ?_⟩
    · rw [toS_length, List.map_map, List.length_map]
      have e3 : List.map ((fun x => x.length) ∘ toS) ts = ts.map (·.length) := List.map_congr_left fun x _ => toS_length x
      rw [e3]
      have l1 := joinL_len t ts
      have l2 := joinL_len2 t ts
      have l3 := o1.len
      unfold big at hn l3
      omega
    · rw [join_toS]
      exact fin_sh q sF (.str ⟨hn, joinL_asc o1 ok2⟩)
  · cases e
theorem me_starts : MtR X "str.startswith" (fun x xs H Q => ∃ y, xs = [y] ∧ r2 X.prog X.w X.K startswithW x y H Q) := by
  intro pins s σ H x xs v us Q I rx rs h
  obtain ⟨y, rfl, F, w1, w2, sF, h1, h2, ok⟩ := h
  obtain ⟨wv, e, q⟩ := ok.get
  simp only [startswithW, Option.bind_eq_bind, Option.bind_eq_some_iff] at e
  obtain ⟨d1, e1, d2, e2, e⟩ := e
  rw [dat_get e1] at h1
  rw [dat_get e2] at h2
  cases d1 <;> cases d2 <;> simp only [reduceCtorEq, Option.some.injEq] at e
  rename_i t u
  subst e
  obtain ⟨rfl, o1⟩ := h1.isStr
  obtain ⟨rfl, o2⟩ := h2.isStr
  refine mt_startswith pins s σ H _ _ v us Q I rx rs ⟨_, _, rfl, rfl, ?_⟩
  have e : Txt.startswith (toS t) (toS u) = u.isPrefixOf t := by
    unfold Txt.startswith
    rw [StrLaws.subAt_eq, toS_length, toS_length, pre_take]
    show (decide (0 + u.length ≤ t.length) && ((t.drop 0).take u.length == u)) = (t.take u.length == u)
    rw [List.drop_zero]
    by_cases h : u.length ≤ t.length
    · rw [decide_eq_true (by omega), Bool.true_and]
    · rw [decide_eq_false (by omega), Bool.false_and]
      symm
      rw [beq_eq_false_iff_ne]
      intro z
      have := congrArg List.length z
      rw [List.length_take] at this
      omega
  rw [e]
  exact fin_sh q sF (.bl _)
theorem s_dnew : PE X (.Dict [] [] pos) (tEX X ca cl Wx .dnew) := pe_imp pe_dnewK fun σ H Q ⟨ρ, F, sr, q⟩ => by
  rw [ev] at q
  intro l hl
  refine q _ F (Nx.new sr.sub hl) (.ref l) (.fr rfl hl ?_ (show Mp _ _ _ _ _ _ _ _ from .sc [] upd_same .nil .nil))
  cases e : F l with
  | none => rfl
  | some u => rw [sr.sub l u e] at hl; cases hl
end
end Q7
end

section
set_option autoImplicit false
set_option Elab.async false
set_option linter.all false
set_option maxRecDepth 100000
/-! Sets of ints and texts: made of a list, counted, sorted. -/
namespace Q7
open PySem PySem.Spec PyProof.Rows L2

/-- the key that a value is -/
def vk : Value → Key
  | .int k _ => .inl k
  | .str x _ => .inr x
  | _ => .inl 0
theorem vk_of {k : Key} {v : Value} (h : keyIs k v = true) : vk v = k := by
  rcases keyIs_shape h with ⟨i, t, rfl, rfl⟩ | ⟨x, t, rfl, rfl⟩ <;> rfl
def GoodK (w : World) (e : Int × Value) : Prop := ∃ k, keyIs k e.2 = true ∧ e.1 = keyH w k
/-- the set at a has the members ks -/
def SetG (w : World) (h : Heap) (a : Addr) (ks : List Key) : Prop :=
  ∃ o es ep t, h.get? a = some o ∧ o.ExactSet ∧ o.data = .set es ep t ∧ (∀ e ∈ es.toList, GoodK w e) ∧ (es.toList.map fun e => vk e.2).Perm ks ∧ ks.Nodup ∧
    es.size < scanBound ∧ t.fits es.size = true ∧ Ris t.place.toList ∧ (w.params.followText "set-order" = true ∨ t.led = true)
section
variable {P : Program} {w : World} {h h' : Heap} {a : Addr} {ks : List Key}
theorem SetG.at (R : SetG w h a ks) (k : ∀ o, h.get? a = some o → h'.get? a = some o) : SetG w h' a ks := by
  obtain ⟨o, es, ep, t, ho, r⟩ := R
  exact ⟨o, es, ep, t, k o ho, r⟩
theorem goodK_elems {l : List (Int × Value)} (g : ∀ e ∈ l, GoodK w e) : ElemsOf (mixKind P w) l := fun e he => by
  obtain ⟨k, h1, h2⟩ := g e he
  refine ⟨⟨k, h1, h2⟩, ?_⟩
  rcases keyIs_shape h1 with ⟨i, t, _, q⟩ | ⟨x, t, _, q⟩ <;> rw [q] <;> rfl
theorem goodK_is {e : Int × Value} (g : GoodK w e) (k : Key) : (mixKind P w).is k e.2 = true ↔ vk e.2 = k := by
  obtain ⟨k0, h1, _⟩ := g
  constructor
  · intro h2; exact vk_of h2
  · intro h2
    rw [vk_of h1] at h2
    subst h2
    exact h1
end
/-- a key put in -/
def memK (ks : List Key) (k : Key) : Bool := ks.any fun x => decide (x = k)
theorem memK_iff {ks : List Key} {k : Key} : memK ks k = true ↔ k ∈ ks := by
  unfold memK
  rw [List.any_eq_true]
  constructor
  · rintro ⟨x, hx, e⟩
    rw [decide_eq_true_eq] at e
    exact e ▸ hx
  · intro h
    exact ⟨k, h, decide_eq_true rfl⟩
def addK (ks : List Key) (k : Key) : List Key := if memK ks k = true then ks else ks ++ [k]
theorem addK_nodup {ks : List Key} {k : Key} (h : ks.Nodup) : (addK ks k).Nodup := by
  unfold addK
  split
  · exact h
  · rename_i hn
    rw [List.nodup_append]
    refine ⟨h, by simp, fun x hx y hy => ?_⟩
    have : y = k := by simpa using hy
    subst this
    exact fun z => hn (memK_iff.mpr (z ▸ hx))
section
variable {P : Program} {w : World} {A : Around} {E : Value → Shared → Prop} {s : Shared} {a : Addr} {ks : List Key}
theorem setG_tail {g : Bool → Sem Unit} (hg : ∀ (b : Bool) (s₁ : Shared) (Q' : Unit → Shared → Prop), Q' () s₁ → wpAny (model P w) A (g b) Q' E s₁)
    {o : Obj} {es : Array (Int × Value)} {ep : Nat} {t : SetTable} (ho : s.heap.get? a = some o) (hex : o.ExactSet) (hd : o.data = .set es ep t)
    {es1 : Array (Int × Value)} {t2 : SetTable} {ks' : List Key} (g1 : ∀ e ∈ es1.toList, GoodK w e) (p1 : (es1.toList.map fun e => vk e.2).Perm ks') (n1 : ks'.Nodup)
    (hb1 : es1.size < scanBound) (hf2 : t2.fits es1.size = true) (hr : Ris t2.place.toList) (hl : w.params.followText "set-order" = true ∨ t2.led = true) {wasDummy : Bool} {R : Option Bool → Shared → Prop}
    (hR : ∀ h', Heap.SameBut a s.heap h' → SetG w h' a ks' → R (some true) { s with heap := h' }) :
    wpAny (model P w) A (do
        storeSet a es1 t2
        if (!wasDummy && t2.tooFull) = true then do
            g (relayAll t2 es1 (SetTable.grown es1.size)).2.2
            storeSet a (relayAll t2 es1 (SetTable.grown es1.size)).1 (relayAll t2 es1 (SetTable.grown es1.size)).2.1
            pure (some true)
          else pure (some true)) R E s := by
  refine wpAny_bind (wpAny_storeSet_of ho hd ?_ (fits_of_scanBound hb1))
  have ho1 := store_at (es' := es1) (t' := t2) ho hd
  have sb1 := Heap.SameBut.update s.heap a (Obj.putSet es1 t2)
  split
  · have pm := relayAll_perm t2 es1 (SetTable.grown es1.size)
    have hf3 := relayAll_fits t2 es1 (SetTable.grown es1.size)
    have hr3 := relayAll_ris t2 es1 (SetTable.grown es1.size)
    have hl3 := relayAll_led t2 es1 (SetTable.grown es1.size)
    generalize relayAll t2 es1 (SetTable.grown es1.size) = Z at pm hf3 hr3 hl3 ⊢
    obtain ⟨es2, t3, gave⟩ := Z
    dsimp only at pm hf3 hr3 hl3 ⊢
    have hsz : es2.size = es1.size := by rw [← Array.length_toList, pm.length_eq, Array.length_toList]
    have hb2 : es2.size < scanBound := by rw [hsz]; exact hb1
    refine wpAny_bind (hg _ _ _ ?_)
    refine wpAny_bind (wpAny_storeSet_of ho1 rfl ?_ (fits_of_scanBound hb2))
    have ho2 := store_at (es' := es2) (t' := t3) ho1 rfl
    refine wpAny_pure (hR _ (sb1.trans (Heap.SameBut.update _ a _)) ?_)
    exact ⟨_, es2, _, t3, ho2, hex, rfl, fun e he => g1 e (pm.mem_iff.mp he), (pm.map _).trans p1, n1, hb2, hf3, hr3, hl.imp id fun z => by rw [hl3]; exact z⟩
  · exact wpAny_pure (hR _ sb1 ⟨_, es1, _, t2, ho1, hex, rfl, g1, p1, n1, hb1, hf2, hr, hl⟩)
theorem setG_add {k : Key} {v : Value} {Q : Bool → Shared → Prop} (R : SetG w s.heap a ks) (hv : keyIs k v = true) (room : ks.length + 1 < scanBound)
    (hQ : ∀ b h', Heap.SameBut a s.heap h' → SetG w h' a (addK ks k) → Q b { s with heap := h' }) :
    wpAny (model P w) A (setAddHashed a v ((mixKind P w).hash k)) Q E s := by
  obtain ⟨o, es, ep, t, ho, hex, hd, g, pm0, nd, hb, hf, hr, hl⟩ := R
  have hkey : (mixKind P w).is k v = true := hv
  have hsc : v.scannable = true := by
    rcases keyIs_shape hv with ⟨i, t, _, q⟩ | ⟨x, t, _, q⟩ <;> rw [q] <;> rfl
  have hel : ElemsOf (mixKind P w) es.toList := goodK_elems g
  unfold setAddHashed setAddHashedIn
  refine wpAny_holding (wpAny_bind (wpAny_setState_of ho hd hf ?_))
  dsimp only
  rw [byScan_of hsc hb hel]
  simp only [↓reduceIte]
  unfold setAddByScan
  refine wpAny_bind ?_
  refine wpAny_bind (wpAny_rule ?_)
  refine wpAny_bind (wpAny_setScan_of hkey ho hd hf hel ?_)
  cases hfi : List.findIdx? (fun e => (mixKind P w).is k e.2) es.toList with
  | some j =>
    dsimp only
    obtain ⟨hj, pj, _⟩ := List.findIdx?_eq_some_iff_getElem.mp hfi
    have hmem : k ∈ ks := pm0.mem_iff.mp (List.mem_map.mpr ⟨_, List.getElem_mem hj, (goodK_is (P := P) (g _ (List.getElem_mem hj)) k).mp pj⟩)
    refine wpAny_pure (wpAny_pure ?_)
    refine hQ _ s.heap (Heap.SameBut.refl a s.heap) ?_
    unfold addK
    rw [if_pos (memK_iff.mpr hmem)]
    exact ⟨o, es, ep, t, ho, hex, hd, g, pm0, nd, hb, hf, hr, hl⟩
  | none =>
    dsimp only
    have hnk : k ∉ ks := fun z => by
      obtain ⟨e, he, q⟩ := List.mem_map.mp (pm0.mem_iff.mpr z)
      have c := List.findIdx?_eq_none_iff.mp hfi e he
      rw [(goodK_is (P := P) (g e he) k).mpr q] at c
      cases c
    have hgw : ∀ (b : Bool) {s₁ : Shared} {Q' : Unit → Shared → Prop}, Q' () s₁ → wpAny (model P w) A (match b with | true => rule "set.scan.the-table-gave-way" | false => pure ()) Q' E s₁ :=
      fun b s₁ Q' q => by cases b <;> first | exact wpAny_pure q | exact wpAny_rule q
    have pm := layNew_perm t es ((mixKind P w).hash k) v
    have hf1 := layNew_fits t es ((mixKind P w).hash k) v
    have hr1 := layNew_ris t es ((mixKind P w).hash k) v hr
    have hl1 := layNew_led t es ((mixKind P w).hash k) v
    generalize layNew t es ((mixKind P w).hash k) v = Z at pm hf1 hr1 hl1 ⊢
    obtain ⟨es1, t1, wasDummy, gave⟩ := Z
    dsimp only at pm hf1 hr1 hl1 ⊢
    rw [Array.toList_push] at pm
    have pk : (es1.toList.map fun e => vk e.2).Perm (ks ++ [k]) := by
      have q := pm.map fun e => vk e.2
      rw [List.map_append] at q
      refine q.trans ?_
      have e0 : vk v = k := vk_of hv
      show ((es.toList.map fun e => vk e.2) ++ [vk v]).Perm (ks ++ [k])
      rw [e0]
      exact pm0.append_right _
    have g1 : ∀ e ∈ es1.toList, GoodK w e := fun e he => by
      rcases List.mem_append.mp (pm.mem_iff.mp he) with z | z
      · exact g e z
      · rw [List.mem_singleton.mp z]; exact ⟨k, hv, rfl⟩
    have eadd : addK ks k = ks ++ [k] := by unfold addK; rw [if_neg fun z => hnk (memK_iff.mp z)]
    have nd1 : (addK ks k).Nodup := addK_nodup nd
    rw [← eadd] at pk
    have hsz : es1.size < scanBound := by
      have q := pk.length_eq
      rw [List.length_map, Array.length_toList, eadd, List.length_append] at q
      have : es1.size = ks.length + 1 := q
      omega
    have hled : w.params.followText "set-order" = true ∨ t1.led = true := hl.imp id fun z => by rw [hl1]; exact z
    refine wpAny_bind (hgw _ ?_)
    split
    · refine wpAny_bind ?_
      rw [hashByValue_scannable 8 hsc]
      refine wpAny_pure ?_
      refine setG_tail ?_ ho hex hd g1 pk nd1 hsz ?_ ?_ ?_ ?_
      · intro b s₁ Q' q; cases b <;> first | exact wpAny_pure q | exact wpAny_rule q
      · first | (split <;> first | exact hf1 | exact SetTable.fits_plain_off hf1) | exact hf1
      · first | (split <;> exact hr1) | exact hr1
      · first | (split <;> exact hled) | exact hled
      · intro h' sb r; dsimp only; exact wpAny_pure (hQ _ h' sb r)
    · refine wpAny_bind (wpAny_pure ?_)
      simp only [↓reduceIte]
      refine setG_tail ?_ ho hex hd g1 pk nd1 hsz hf1 hr1 hled ?_
      · intro b s₁ Q' q; cases b <;> first | exact wpAny_pure q | exact wpAny_rule q
      · intro h' sb r; dsimp only; exact wpAny_pure (hQ _ h' sb r)
theorem setG_fresh {h : Heap} {a : Addr} (ho : h.get? a = some { cls := .type "set", dict := none, data := .set #[] 0 (.fresh 0 0 (!w.params.followText "set-order")) }) : SetG w h a [] :=
  ⟨_, #[], 0, _, ho, ⟨rfl, rfl, rfl⟩, rfl, (fun e he => by simp at he), .nil, .nil, (by decide), (by rfl), List.Pairwise.nil, by
    show _ ∨ (!w.params.followText "set-order") = true
    cases w.params.followText "set-order"
    · exact .inr rfl
    · exact .inl rfl⟩

/-- the loop of set.update -/
theorem setG_loop {I : Addr} {fp wr : List Addr} {G : Array GenState → Array GenState → Prop} {n : Nat} {Pv : Nat → Value → Prop} {St : Nat → Shared → Prop} {R : Result → Shared → Prop}
    (W : WalksS P w A.in1 I fp wr G n Pv St) (S : Addr) (hSf : S ∉ fp) (kz : List Key) (hn : n = kz.length) (hfew : kz.length + 1 < scanBound) (hval : ∀ i v, Pv i v → ∃ k, kz[i]? = some k ∧ keyIs k v = true) :
    ∀ (k i : Nat) (s : Shared), n - i = k → i ≤ n → St i s → SetG w s.heap S ((kz.take i).foldl addK []) →
      (∀ s', Moved (S :: wr) G s s' → SetG w s'.heap S (kz.foldl addK []) → R (.ok (.ret .none)) s') →
      codeAny (model P w) A (.builtin "set.update.loop" ⟨[.ref S, .ref I], []⟩) R s := by
  have hSw : S ∉ wr := fun h => hSf (W.sub _ h)
  have hsub : ∀ b ∈ wr, b ∈ S :: wr := fun b hb => List.mem_cons_of_mem _ hb
  intro k
  induction k with
  | zero =>
    intro i s hk' hi hst hS hR
    have hin : i = n := by omega
    subst hin
    refine codeAny_builtin F.entry_set_update_loop ?_
    rw [Around.under_plainId F.plain_set_update_loop _]
    show wpAny _ A.in1 (pyNext (.ref I) >>= _) _ _ s
    refine wpAny_bind (W.done s _ _ hst fun s' hm => ?_)
    show wpAny _ A.in1 (ret Value.none) _ _ s'
    rw [List.take_of_length_le (by omega)] at hS
    exact wpAny_pure (hR s' (hm.mono hsub) (hS.at fun o e => hm.heap S o hSw e))
  | succ k ih =>
    intro i s hk' hi hst hS hR
    have hlt : i < n := by omega
    refine codeAny_builtin F.entry_set_update_loop ?_
    rw [Around.under_plainId F.plain_set_update_loop _]
    show wpAny _ A.in1 (pyNext (.ref I) >>= _) _ _ s
    refine wpAny_bind (W.item i s _ _ hlt hst fun v s' hP hst' hm => ?_)
    obtain ⟨q, hq, hv⟩ := hval i v hP
    have hS' : SetG w s'.heap S ((kz.take i).foldl addK []) := hS.at fun o e => hm.heap S o hSw e
    show wpAny _ A.in1 (holding [v] (setAdd S v) >>= _) _ _ s'
    refine wpAny_bind (wpAny_holding ?_)
    unfold setAdd
    refine wpAny_holding ?_
    refine wpAny_bind ((mixKind P w).pyHash (show (mixKind P w).is q v = true from hv) ?_)
    have hlen : ((kz.take i).foldl addK []).length ≤ i := by
      have gen : ∀ (l : List Key) (acc : List Key), (l.foldl addK acc).length ≤ acc.length + l.length := by
        intro l
        induction l with
        | nil => intro acc; simp
        | cons x r ih2 =>
          intro acc
          have h2 := ih2 (addK acc x)
          have h3 : (addK acc x).length ≤ acc.length + 1 := by
            unfold addK
            split
            · omega
            · simp
          rw [List.foldl_cons, List.length_cons]
          omega
      have := gen (kz.take i) []
      rw [List.length_nil, List.length_take] at this
      omega
    refine setG_add (s := { s' with toks := s'.toks + 1 }) hS' hv (by omega) fun b h' hsb hS2 => ?_
    have etake : (kz.take (i + 1)).foldl addK [] = addK ((kz.take i).foldl addK []) q := by
      rw [List.take_add_one, hq, List.foldl_append]
      rfl
    refine wpAny_pure ⟨plainId_quiet F.plain_set_update_loop _, ih (i + 1) _ (by omega) hlt (W.frame _ s' _ _ hst' (Nat.le_add_right _ _) fun b hb o e => ?_) (by rw [etake]; exact hS2) fun s'' hm'' hS'' => ?_⟩
    · rw [hsb.2 b (fun h : b = S => hSf (by rw [← h]; exact hb))]; exact e
    · refine hR s'' (Moved.trans W.gtrans ((hm.mono hsub).then_heap (Nat.le_add_right _ _) fun b o hb e => ?_) hm'') hS''
      rw [hsb.2 b (fun h : b = S => hb (by rw [h]; exact List.mem_cons_self))]; exact e

set_option maxHeartbeats 3200000 in
/-- set(a list) -/
theorem call_setG_list {l : Addr} {items : Array Value} (kz : List Key) {Q : Value → Shared → Prop} (hh : A.handled = none) (hl : s.heap.IsList l items) (hlen : items.size = kz.length)
    (hit : ∀ (i : Nat) (v : Value), items[i]? = some v → ∃ k, kz[i]? = some k ∧ keyIs k v = true) (hfew : kz.length + 1 < scanBound)
    (h : ∀ (h' : Heap) (tk : Nat), SetG w h' s.heap.objs.size (kz.foldl addK []) → (∀ b o, s.heap.get? b = some o → h'.get? b = some o) → Q (.ref s.heap.objs.size) { s with heap := h', toks := tk }) :
    wpAny (model P w) A (call (.type "set") [.ref l]) Q E s := by
  obtain ⟨c, tl, hmro⟩ := F.called_set.mro
  have hmade := F.called_set.made
  have hsub := F.called_set.sub
  refine wpAny_call (codeAny_of_tree ?_)
  show wpAny _ _ (callAny (.type "set") _) _ _ _
  refine wpAny_pure ⟨Code.quiet_builtin _ (by decide +kernel), codeAny_builtin F.entry_type_call ?_⟩
  rw [Around.under_plain (weight_type_call_type "set" [.ref l] []) rfl]
  have h1 := F.called_set.notType
  have h2 := F.called_set.canCreate
  have hct := F.typeCall_set_1 (.ref l)
  repeat (any_goals (first | assumption | wp_step))
  refine codeAny_mono (code_set_led1 (.ref l) (E := E) (Q₁ := fun obj s₁ => obj = .ref s.heap.objs.size ∧ s₁ = { s with heap := s.heap.push { cls := .type "set", dict := none, data := .set #[] 0 (.fresh 0 0 (!w.params.followText "set-order")) } }) ⟨rfl, rfl⟩) fun r s₁ hr => ?_
  cases r with
  | error e => exact hr
  | ok fl =>
    cases fl with
    | ret obj =>
      obtain ⟨rfl, rfl⟩ := hr
      have hS : (s.heap.push { cls := .type "set", dict := none, data := .set #[] 0 (.fresh 0 0 (!w.params.followText "set-order")) }).get? s.heap.objs.size = some { cls := .type "set", dict := none, data := .set #[] 0 (.fresh 0 0 (!w.params.followText "set-order")) } := Heap.get?_push_size _ rfl
      have hT : Shared.TypeIs { s with heap := s.heap.push { cls := .type "set", dict := none, data := .set #[] 0 (.fresh 0 0 (!w.params.followText "set-order")) } } (.ref s.heap.objs.size) "set" := ⟨_, hS, rfl⟩
      have hli := F.called_set.init.lookup
      have hbi := F.called_set.init.bind (.ref s.heap.objs.size)
      repeat (any_goals (first | assumption | wp_step))
      refine codeAny_mono (codeAny_call_builtin (R := wants (fun r s₂ => r = .none ∧ ∃ h' tk, s₂ = { s with heap := h', toks := tk } ∧ SetG w h' s.heap.objs.size (kz.foldl addK []) ∧
          (∀ b o, s.heap.get? b = some o → h'.get? b = some o)) E) F.called_set.init.plain F.entry_set_init (check_set_init_1 hT ?_)) fun r₂ s₂ hr₂ => ?_
      · obtain ⟨ol, hol, hcl, nl, hdl⟩ := hl
        obtain ⟨ocls, odict, odata, oslots⟩ := ol
        simp only at hcl hdl
        subst hcl; subst hdl
        have hol' : (s.heap.push { cls := .type "set", dict := none, data := .set #[] 0 (.fresh 0 0 (!w.params.followText "set-order")) }).get? l = some { cls := .type "list", dict := odict, data := .seq items nl, slots := oslots } := Heap.get?_push_of_some _ hol
        have hsls := F.sub_list_set
        have hslf := F.sub_list_frozenset
        have hne : (Value.type "list" == Value.type "dict") = false := by decide
        have hl1 : (s.heap.push { cls := .type "set", dict := none, data := .set #[] 0 (.fresh 0 0 (!w.params.followText "set-order")) }).IsList l items := ⟨_, hol', rfl, nl, rfl⟩
        unfold Builtin.«set.__init__» noKeywords Builtin.Frozenset.updateFrom
        generalize hPI : pyIter = PI
        wp_walk
        subst hPI
        refine wpAny_pyIter_list hl1 ?_
        refine wpAny_bind (wpAny_runValue ?_)
        have hlS : l < s.heap.objs.size := Heap.lt_size hol
        have hh3 : A.in1.in1.in1.handled = none := by simp [hh]
        have hneI : l ≠ (s.heap.push { cls := .type "set", dict := none, data := .set #[] 0 (.fresh 0 0 (!w.params.followText "set-order")) }).objs.size := by
          rw [Heap.size_push]; exact Nat.ne_of_lt (Nat.lt_succ_of_lt hlS)
        have hSf : s.heap.objs.size ∉ [(s.heap.push { cls := .type "set", dict := none, data := .set #[] 0 (.fresh 0 0 (!w.params.followText "set-order")) }).objs.size, l] := by
          rw [Heap.size_push]; simp only [List.mem_cons, List.mem_singleton, List.not_mem_nil, or_false, not_or]
          exact ⟨Nat.ne_of_lt (Nat.lt_succ_self _), Nat.ne_of_gt hlS⟩
        refine setG_loop ((Walks.list hh3 _ l hneI items).toS) s.heap.objs.size hSf kz hlen hfew hit (items.size - 0) 0 _ (by omega) (Nat.zero_le _)
          ⟨⟨_, Heap.get?_push_size _ rfl, rfl, rfl⟩, (hl1.push _)⟩ ?hS0 ?hR
        case hS0 => exact setG_fresh (Heap.get?_push_of_some _ hS)
        case hR =>
          intro s' hm hS'
          obtain ⟨h', g2, d', tk', os'⟩ := s'
          have eg : g2 = s.gens := hm.gens
          have ed : d' = s.drawn := hm.drawn
          have eo : os' = s.os := hm.os
          subst eg; subst ed; subst eo
          show wpAny _ _ _ _ _ _
          refine wpAny_pure ?_
          show wpAny _ _ (ret Value.none) _ _ _
          refine wpAny_pure ⟨rfl, h', tk', rfl, hS', fun b o e => ?_⟩
          have hbl : b < s.heap.objs.size := Heap.lt_size e
          refine hm.heap b o (fun z => ?_) (Heap.get?_push_of_some _ (Heap.get?_push_of_some _ e))
          rcases List.mem_cons.mp z with z | z
          · exact absurd hbl (by rw [z]; exact Nat.lt_irrefl _)
          · have z' : b = s.heap.objs.size + 1 := by
              have q := List.mem_singleton.mp z
              rw [Heap.size_push] at q
              exact q
            exact absurd hbl (by rw [z']; exact Nat.not_lt_of_le (Nat.le_succ _))
      · cases r₂ with
        | error e => exact hr₂
        | ok fl₂ =>
          cases fl₂ with
          | ret r =>
            obtain ⟨rfl, h', tk, rfl, hS', hk'⟩ := hr₂
            repeat (any_goals (first | assumption | wp_step))
            exact h _ _ hS' hk'
          | _ => exact hr₂.elim
    | _ => exact hr.elim

set_option maxHeartbeats 3200000 in
/-- set(a tuple) -/
theorem call_setG_tuple {l : Addr} {items : Array Value} (kz : List Key) {Q : Value → Shared → Prop} (hh : A.handled = none) (hl : s.heap.IsTuple l items) (hlen : items.size = kz.length)
    (hit : ∀ (i : Nat) (v : Value), items[i]? = some v → ∃ k, kz[i]? = some k ∧ keyIs k v = true) (hfew : kz.length + 1 < scanBound)
    (h : ∀ (h' : Heap) (tk : Nat), SetG w h' s.heap.objs.size (kz.foldl addK []) → (∀ b o, s.heap.get? b = some o → h'.get? b = some o) → Q (.ref s.heap.objs.size) { s with heap := h', toks := tk }) :
    wpAny (model P w) A (call (.type "set") [.ref l]) Q E s := by
  obtain ⟨c, tl, hmro⟩ := F.called_set.mro
  have hmade := F.called_set.made
  have hsub := F.called_set.sub
  refine wpAny_call (codeAny_of_tree ?_)
  show wpAny _ _ (callAny (.type "set") _) _ _ _
  refine wpAny_pure ⟨Code.quiet_builtin _ (by decide +kernel), codeAny_builtin F.entry_type_call ?_⟩
  rw [Around.under_plain (weight_type_call_type "set" [.ref l] []) rfl]
  have h1 := F.called_set.notType
  have h2 := F.called_set.canCreate
  have hct := F.typeCall_set_1 (.ref l)
  repeat (any_goals (first | assumption | wp_step))
  refine codeAny_mono (code_set_led1 (.ref l) (E := E) (Q₁ := fun obj s₁ => obj = .ref s.heap.objs.size ∧ s₁ = { s with heap := s.heap.push { cls := .type "set", dict := none, data := .set #[] 0 (.fresh 0 0 (!w.params.followText "set-order")) } }) ⟨rfl, rfl⟩) fun r s₁ hr => ?_
  cases r with
  | error e => exact hr
  | ok fl =>
    cases fl with
    | ret obj =>
      obtain ⟨rfl, rfl⟩ := hr
      have hS : (s.heap.push { cls := .type "set", dict := none, data := .set #[] 0 (.fresh 0 0 (!w.params.followText "set-order")) }).get? s.heap.objs.size = some { cls := .type "set", dict := none, data := .set #[] 0 (.fresh 0 0 (!w.params.followText "set-order")) } := Heap.get?_push_size _ rfl
      have hT : Shared.TypeIs { s with heap := s.heap.push { cls := .type "set", dict := none, data := .set #[] 0 (.fresh 0 0 (!w.params.followText "set-order")) } } (.ref s.heap.objs.size) "set" := ⟨_, hS, rfl⟩
      have hli := F.called_set.init.lookup
      have hbi := F.called_set.init.bind (.ref s.heap.objs.size)
      repeat (any_goals (first | assumption | wp_step))
      refine codeAny_mono (codeAny_call_builtin (R := wants (fun r s₂ => r = .none ∧ ∃ h' tk, s₂ = { s with heap := h', toks := tk } ∧ SetG w h' s.heap.objs.size (kz.foldl addK []) ∧
          (∀ b o, s.heap.get? b = some o → h'.get? b = some o)) E) F.called_set.init.plain F.entry_set_init (check_set_init_1 hT ?_)) fun r₂ s₂ hr₂ => ?_
      · obtain ⟨ol, hol, hcl, nl, hdl⟩ := hl
        obtain ⟨ocls, odict, odata, oslots⟩ := ol
        simp only at hcl hdl
        subst hcl; subst hdl
        have hol' : (s.heap.push { cls := .type "set", dict := none, data := .set #[] 0 (.fresh 0 0 (!w.params.followText "set-order")) }).get? l = some { cls := .type "tuple", dict := odict, data := .seq items nl, slots := oslots } := Heap.get?_push_of_some _ hol
        have hsls := F.sub_tuple_set
        have hslf := F.sub_tuple_frozenset
        have hne : (Value.type "tuple" == Value.type "dict") = false := by decide
        have hl1 : (s.heap.push { cls := .type "set", dict := none, data := .set #[] 0 (.fresh 0 0 (!w.params.followText "set-order")) }).IsTuple l items := ⟨_, hol', rfl, nl, rfl⟩
        unfold Builtin.«set.__init__» noKeywords Builtin.Frozenset.updateFrom
        generalize hPI : pyIter = PI
        wp_walk
        subst hPI
        refine wpAny_pyIter_tuple hl1 ?_
        refine wpAny_bind (wpAny_runValue ?_)
        have hlS : l < s.heap.objs.size := Heap.lt_size hol
        have hh3 : A.in1.in1.in1.handled = none := by simp [hh]
        have hneI : l ≠ (s.heap.push { cls := .type "set", dict := none, data := .set #[] 0 (.fresh 0 0 (!w.params.followText "set-order")) }).objs.size := by
          rw [Heap.size_push]; exact Nat.ne_of_lt (Nat.lt_succ_of_lt hlS)
        have hSf : s.heap.objs.size ∉ [(s.heap.push { cls := .type "set", dict := none, data := .set #[] 0 (.fresh 0 0 (!w.params.followText "set-order")) }).objs.size, l] := by
          rw [Heap.size_push]; simp only [List.mem_cons, List.mem_singleton, List.not_mem_nil, or_false, not_or]
          exact ⟨Nat.ne_of_lt (Nat.lt_succ_self _), Nat.ne_of_gt hlS⟩
        refine setG_loop ((Walks.tuple hh3 _ l hneI items).toS) s.heap.objs.size hSf kz hlen hfew hit (items.size - 0) 0 _ (by omega) (Nat.zero_le _)
          ⟨⟨_, Heap.get?_push_size _ rfl, rfl, rfl⟩, (hl1.push _)⟩ ?hS0 ?hR
        case hS0 => exact setG_fresh (Heap.get?_push_of_some _ hS)
        case hR =>
          intro s' hm hS'
          obtain ⟨h', g2, d', tk', os'⟩ := s'
          have eg : g2 = s.gens := hm.gens
          have ed : d' = s.drawn := hm.drawn
          have eo : os' = s.os := hm.os
          subst eg; subst ed; subst eo
          show wpAny _ _ _ _ _ _
          refine wpAny_pure ?_
          show wpAny _ _ (ret Value.none) _ _ _
          refine wpAny_pure ⟨rfl, h', tk', rfl, hS', fun b o e => ?_⟩
          have hbl : b < s.heap.objs.size := Heap.lt_size e
          refine hm.heap b o (fun z => ?_) (Heap.get?_push_of_some _ (Heap.get?_push_of_some _ e))
          rcases List.mem_cons.mp z with z | z
          · exact absurd hbl (by rw [z]; exact Nat.lt_irrefl _)
          · have z' : b = s.heap.objs.size + 1 := by
              have q := List.mem_singleton.mp z
              rw [Heap.size_push] at q
              exact q
            exact absurd hbl (by rw [z']; exact Nat.not_lt_of_le (Nat.le_succ _))
      · cases r₂ with
        | error e => exact hr₂
        | ok fl₂ =>
          cases fl₂ with
          | ret r =>
            obtain ⟨rfl, h', tk, rfl, hS', hk'⟩ := hr₂
            repeat (any_goals (first | assumption | wp_step))
            exact h _ _ hS' hk'
          | _ => exact hr₂.elim
    | _ => exact hr.elim
end
end Q7
end

section
set_option autoImplicit false
set_option Elab.async false
set_option linter.all false
set_option maxRecDepth 100000
/-! Sorted lists. -/
namespace Q7
open PySem PySem.Spec PyProof.Rows L2

theorem ltn_irrefl : ∀ x : List Nat, ltn x x = false
  | [] => rfl
  | a :: r => by simp [ltn, ltn_irrefl r]
theorem ltn_anti : ∀ x y : List Nat, ltn x y = false → ltn y x = false → x = y
  | [], [], _, _ => rfl
  | [], _ :: _, h, _ => by simp [ltn] at h
  | _ :: _, [], _, h => by simp [ltn] at h
  | a :: r, b :: t, h1, h2 => by
    unfold ltn at h1 h2
    by_cases e : a = b
    · subst e
      rw [if_pos rfl] at h1 h2
      rw [ltn_anti r t h1 h2]
    · rw [if_neg e] at h1
      rw [if_neg (fun z => e z.symm)] at h2
      simp at h1 h2
      omega
mutual
theorem eqv_eq : ∀ a b : D, alike a b = true → eqv a b = true → a = b
  | .non, b, h, _ => by cases b <;> simp [alike] at h
  | .bl x, b, h, _ => by cases b <;> simp [alike] at h
  | .lst x, b, h, _ => by cases b <;> simp [alike] at h
  | .int x, b, h, e => by
    cases b with
    | int y => simp only [eqv, beq_iff_eq] at e; rw [e]
    | _ => simp [alike] at h
  | .str x, b, h, e => by
    cases b with
    | str y => simp only [eqv, beq_iff_eq] at e; rw [e]
    | _ => simp [alike] at h
  | .tup xs, b, h, e => by
    cases b with
    | tup ys => simp only [eqv, alike] at e h; rw [eqvs_eq xs ys h e]
    | _ => simp [alike] at h
theorem eqvs_eq : ∀ a b : List D, alikes a b = true → eqvs a b = true → a = b
  | [], [], _, _ => rfl
  | [], _ :: _, _, e => by simp [eqvs] at e
  | _ :: _, [], _, e => by simp [eqvs] at e
  | x :: xs, y :: ys, h, e => by
    simp only [eqvs, alikes, Bool.and_eq_true] at e h
    rw [eqv_eq x y h.1 e.1, eqvs_eq xs ys h.2 e.2]
end
mutual
theorem eqv_refl : ∀ a : D, eqv a a = true
  | .non => by simp [eqv]
  | .bl x => by simp [eqv]
  | .int x => by simp [eqv]
  | .str x => by simp [eqv]
  | .tup xs => by simp only [eqv]; exact eqvs_refl xs
  | .lst xs => by simp only [eqv]; exact eqvs_refl xs
theorem eqvs_refl : ∀ a : List D, eqvs a a = true
  | [] => rfl
  | x :: xs => by simp only [eqvs]; rw [eqv_refl x, eqvs_refl xs]; rfl
end
mutual
theorem dlt_anti : ∀ a b : D, alike a b = true → dlt a b = false → dlt b a = false → a = b
  | .non, b, h, _, _ => by cases b <;> simp [alike] at h
  | .bl x, b, h, _, _ => by cases b <;> simp [alike] at h
  | .lst x, b, h, _, _ => by cases b <;> simp [alike] at h
  | .int x, b, h, e, f => by
    cases b with
    | int y =>
      simp only [dlt, decide_eq_false_iff_not] at e f
      have : x = y := by omega
      rw [this]
    | _ => simp [alike] at h
  | .str x, b, h, e, f => by
    cases b with
    | str y => simp only [dlt] at e f; rw [ltn_anti x y e f]
    | _ => simp [alike] at h
  | .tup xs, b, h, e, f => by
    cases b with
    | tup ys => simp only [dlt, alike] at e f h; rw [dlts_anti xs ys h e f]
    | _ => simp [alike] at h
theorem dlts_anti : ∀ a b : List D, alikes a b = true → dlts a b = false → dlts b a = false → a = b
  | [], [], _, _, _ => rfl
  | [], _ :: _, _, e, _ => by simp [dlts] at e
  | _ :: _, [], _, _, e => by simp [dlts] at e
  | x :: xs, y :: ys, h, e, f => by
    simp only [alikes, Bool.and_eq_true] at h
    simp only [dlts] at e f
    cases q : eqv x y with
    | true =>
      have := eqv_eq x y h.1 q
      subst this
      rw [q, if_pos rfl] at e f
      rw [dlts_anti xs ys h.2 e f]
    | false =>
      have q2 : eqv y x = false := by
        cases z : eqv y x with
        | false => rfl
        | true =>
          have := eqv_eq y x (alike_sym x y h.1) z
          subst this
          rw [eqv_refl] at q
          cases q
      rw [q, if_neg (by decide)] at e
      rw [q2, if_neg (by decide)] at f
      have := dlt_anti x y h.1 e f
      subst this
      rw [eqv_refl] at q
      cases q
end
/-- the order of sorting -/
abbrev le (a b : D) : Bool := PySem.W.dataLe false toPy a b
theorem le_total : PySem.W.TotalLe le := PySem.W.sortLe_total _ _ _
theorem le_eq {a b : D} (h : alike a b = true) : le a b = !dlt b a := by
  have e : le a b = !PySem.W.dataLt (toPy b) (toPy a) := by rw [show le a b = PySem.W.dataLe false toPy a b from rfl, PySem.W.dataLe_eq]; rfl
  rw [e, dlt_py b a (alike_sym a b h)]
def AA (xs : List D) : Prop := ∀ x ∈ xs, ∀ y ∈ xs, alike x y = true
theorem allAlike_iff {xs : List D} : allAlike xs = true ↔ AA xs := by
  unfold allAlike AA
  simp only [List.all_eq_true]
theorem ins_perm (x : D) : ∀ ys : List D, (ins x ys).Perm (x :: ys)
  | [] => .refl _
  | y :: ys => by
    unfold ins
    split
    · exact ((ins_perm x ys).cons y).trans (.swap x y ys)
    · exact .refl _
theorem isort_perm : ∀ xs : List D, (isort xs).Perm xs
  | [] => .nil
  | x :: xs => (ins_perm x (isort xs)).trans ((isort_perm xs).cons x)
theorem ins_sorted {x : D} : ∀ {ys : List D}, AA (x :: ys) → ys.Pairwise (fun a b => le a b = true) → (ins x ys).Pairwise (fun a b => le a b = true)
  | [], _, _ => by simp [ins]
  | y :: ys, ha, hp => by
    have hxy : alike x y = true := ha x (by simp) y (by simp)
    rw [List.pairwise_cons] at hp
    unfold ins
    split
    · rename_i hd
      have hlt : le y x = true := by
        rcases le_total.total y x with z | z
        · exact z
        · rw [le_eq hxy, hd] at z; cases z
      rw [List.pairwise_cons]
      have sub : ∀ a, a ∈ x :: ys → a ∈ x :: y :: ys := fun a h => by
        rcases List.mem_cons.mp h with rfl | h
        · exact List.mem_cons_self ..
        · exact List.mem_cons_of_mem _ (List.mem_cons_of_mem _ h)
      refine ⟨fun z hz => ?_, ins_sorted (fun a h1 b h2 => ha a (sub a h1) b (sub b h2)) hp.2⟩
      rcases List.mem_cons.mp ((ins_perm x ys).mem_iff.mp hz) with rfl | hz
      · exact hlt
      · exact hp.1 z hz
    · rename_i hd
      have hle : le x y = true := by rw [le_eq hxy]; simpa using hd
      rw [List.pairwise_cons]
      refine ⟨fun z hz => ?_, List.pairwise_cons.mpr hp⟩
      rcases List.mem_cons.mp hz with rfl | hz
      · exact hle
      · exact le_total.trans x y z hle (hp.1 z hz)
theorem isort_sorted : ∀ {xs : List D}, AA xs → (isort xs).Pairwise (fun a b => le a b = true)
  | [], _ => .nil
  | x :: xs, ha => by
    refine ins_sorted (fun a h1 b h2 => ha a ?_ b ?_) (isort_sorted fun a h1 b h2 => ha a (List.mem_cons_of_mem _ h1) b (List.mem_cons_of_mem _ h2))
    · rcases List.mem_cons.mp h1 with rfl | h1
      · exact List.mem_cons_self ..
      · exact List.mem_cons_of_mem _ ((isort_perm xs).mem_iff.mp h1)
    · rcases List.mem_cons.mp h2 with rfl | h2
      · exact List.mem_cons_self ..
      · exact List.mem_cons_of_mem _ ((isort_perm xs).mem_iff.mp h2)
/-- two sorted lists of the same things are one -/
theorem sorted_one : ∀ {xs ys : List D}, AA xs → xs.Perm ys → xs.Pairwise (fun a b => le a b = true) → ys.Pairwise (fun a b => le a b = true) → xs = ys
  | [], ys, _, p, _, _ => (List.Perm.nil_eq p)
  | x :: xs, [], _, p, _, _ => by simpa using p
  | x :: xs, y :: ys, ha, p, h1, h2 => by
    rw [List.pairwise_cons] at h1 h2
    have hy : y ∈ x :: xs := p.mem_iff.mpr (List.mem_cons_self ..)
    have hx : x ∈ y :: ys := p.mem_iff.mp (List.mem_cons_self ..)
    have hal : alike x y = true := ha x (List.mem_cons_self ..) y hy
    have e : x = y := by
      rcases List.mem_cons.mp hy with z | z
      · exact z.symm
      · rcases List.mem_cons.mp hx with u | u
        · exact u
        · have a1 := h1.1 y z
          have a2 := h2.1 x u
          rw [le_eq hal] at a1
          rw [le_eq (alike_sym x y hal)] at a2
          exact dlt_anti x y hal (by simpa using a2) (by simpa using a1)
    subst e
    rw [sorted_one (fun a q b r => ha a (List.mem_cons_of_mem _ q) b (List.mem_cons_of_mem _ r)) (List.perm_cons x |>.mp p) h1.2 h2.2]
theorem merge_isort {xs : List D} (ha : AA xs) : xs.mergeSort le = isort xs := by
  have p1 := List.mergeSort_perm xs le
  refine sorted_one (fun a h1 b h2 => ha a (p1.mem_iff.mp h1) b (p1.mem_iff.mp h2)) (p1.trans (isort_perm xs).symm) (PySem.W.sort_pairwise le_total xs) (isort_sorted ha)
/-- sorted, whatever the order at first -/
theorem isort_congr {xs ys : List D} (ha : AA xs) (p : xs.Perm ys) : isort xs = isort ys := by
  have hb : AA ys := fun a h1 b h2 => ha a (p.mem_iff.mpr h1) b (p.mem_iff.mpr h2)
  refine sorted_one (fun a h1 b h2 => ha a ((isort_perm xs).mem_iff.mp h1) b ((isort_perm xs).mem_iff.mp h2)) ((isort_perm xs).trans (p.trans (isort_perm ys).symm)) (isort_sorted ha) (isort_sorted hb)
end Q7
end

section
set_option autoImplicit false
set_option Elab.async false
set_option linter.all false
set_option maxRecDepth 100000
/-! sorted(xs), sorted(set(xs)), len(set(xs)). -/
namespace Q7
open PySem PySem.Spec PyProof.Rows L2

/-! ### keys of data -/
def kd (d : D) : Key := (sk d).getD (.inl 0)
def Scal (ds : List D) : Prop := ∀ d ∈ ds, ∃ k, sk d = some k
theorem kd_of {d : D} {k : Key} (h : sk d = some k) : kd d = k := by unfold kd; rw [h]; rfl
theorem perm_nodup {α : Type} : ∀ {xs ys : List α}, xs.Nodup → ys.Nodup → (∀ a, a ∈ xs ↔ a ∈ ys) → xs.Perm ys
  | [], ys, _, _, h => by
    cases ys with
    | nil => exact .nil
    | cons y r => exact absurd ((h y).mpr (List.mem_cons_self ..)) (by simp)
  | x :: xs, ys, hx, hy, h => by
    obtain ⟨l1, l2, rfl⟩ := List.append_of_mem ((h x).mp (List.mem_cons_self ..))
    rw [List.nodup_cons] at hx
    have hy' : (x :: (l1 ++ l2)).Nodup := (List.perm_middle.nodup_iff).mp hy
    rw [List.nodup_cons] at hy'
    have : xs.Perm (l1 ++ l2) := perm_nodup hx.2 hy'.2 fun a => by
      constructor
      · intro ha
        have := (h a).mp (List.mem_cons_of_mem _ ha)
        rw [List.mem_append, List.mem_cons] at this
        rw [List.mem_append]
        rcases this with z | z | z
        · exact .inl z
        · subst z; exact absurd ha hx.1
        · exact .inr z
      · intro ha
        have hm : a ∈ l1 ++ x :: l2 := by
          rw [List.mem_append] at ha
          rw [List.mem_append, List.mem_cons]
          exact ha.imp id .inr
        rcases List.mem_cons.mp ((h a).mpr hm) with z | z
        · subst z; exact absurd ha hy'.1
        · exact z
    exact (this.cons x).trans List.perm_middle.symm
theorem foldK_mem (k : Key) : ∀ (l acc : List Key), k ∈ l.foldl addK acc ↔ k ∈ acc ∨ k ∈ l
  | [], acc => by simp
  | x :: r, acc => by
    rw [List.foldl_cons, foldK_mem k r]
    have : k ∈ addK acc x ↔ k ∈ acc ∨ k = x := by
      unfold addK
      split
      · rename_i h
        rw [memK_iff] at h
        exact ⟨.inl, fun z => z.elim id fun e => e ▸ h⟩
      · rw [List.mem_append, List.mem_singleton]
    rw [this, List.mem_cons, or_assoc]
theorem foldK_nodup : ∀ (l acc : List Key), acc.Nodup → (l.foldl addK acc).Nodup
  | [], _, h => h
  | x :: r, acc, h => foldK_nodup r (addK acc x) (addK_nodup h)
theorem dedup_sub : ∀ (ds : List D) (d : D), d ∈ dedup ds → d ∈ ds
  | [], d, h => h
  | x :: r, d, h => by
    unfold dedup at h
    rcases List.mem_cons.mp h with rfl | h
    · exact List.mem_cons_self ..
    · exact List.mem_cons_of_mem _ (dedup_sub r d (List.mem_filter.mp h).1)
theorem dedup_keys {ds : List D} (hs : Scal ds) : ((dedup ds).map kd).Nodup ∧ ∀ k, k ∈ (dedup ds).map kd ↔ k ∈ ds.map kd := by
  induction ds with
  | nil => exact ⟨.nil, fun k => Iff.rfl⟩
  | cons x r ih =>
    obtain ⟨h1, h2⟩ := ih fun d hd => hs d (List.mem_cons_of_mem _ hd)
    obtain ⟨kx, hkx⟩ := hs x (List.mem_cons_self ..)
    have key : ∀ y ∈ dedup r, eqv x y = decide (kd x = kd y) := fun y hy => by
      obtain ⟨ky, hky⟩ := hs y (List.mem_cons_of_mem _ (dedup_sub r y hy))
      rw [eqv_sk hkx hky, kd_of hkx, kd_of hky]
    unfold dedup
    refine ⟨?_, fun k => ?_⟩
    · rw [List.map_cons, List.nodup_cons]
      constructor
      · intro hm
        obtain ⟨y, hy, e⟩ := List.mem_map.mp hm
        obtain ⟨hy1, hy2⟩ := List.mem_filter.mp hy
        rw [key y hy1, e] at hy2
        simp at hy2
      · exact h1.sublist ((List.filter_sublist).map _)
    · rw [List.map_cons, List.map_cons, List.mem_cons, List.mem_cons, ← h2 k]
      constructor
      · rintro (z | z)
        · exact .inl z
        · obtain ⟨y, hy, e⟩ := List.mem_map.mp z
          exact .inr (List.mem_map.mpr ⟨y, (List.mem_filter.mp hy).1, e⟩)
      · rintro (z | z)
        · exact .inl z
        · obtain ⟨y, hy, e⟩ := List.mem_map.mp z
          by_cases hc : kd x = kd y
          · exact .inl (by rw [← e, hc])
          · exact .inr (List.mem_map.mpr ⟨y, List.mem_filter.mpr ⟨hy, by rw [key y hy, decide_eq_false hc]; rfl⟩, e⟩)
theorem fold_dedup {ds : List D} (hs : Scal ds) : ((ds.map kd).foldl addK []).Perm ((dedup ds).map kd) := by
  obtain ⟨h1, h2⟩ := dedup_keys hs
  exact perm_nodup (foldK_nodup _ _ .nil) h1 fun k => by rw [foldK_mem, h2 k]; simp
theorem setable_get {xs : List D} (h : setable xs = true) : xs.length ≤ 4000 ∧ ((∃ ns : List Int, xs = ns.map .int) ∨ ∃ ts : List (List Nat), xs = ts.map .str) := by
  unfold setable at h
  rw [Bool.and_eq_true, decide_eq_true_eq, Bool.or_eq_true] at h
  refine ⟨h.1, ?_⟩
  have gi : ∀ l : List D, (l.all fun d => match d with | .int _ => true | _ => false) = true → ∃ ns : List Int, l = ns.map .int := by
    intro l
    induction l with
    | nil => exact fun _ => ⟨[], rfl⟩
    | cons d r ih =>
      intro h
      rw [List.all_cons, Bool.and_eq_true] at h
      obtain ⟨ns, rfl⟩ := ih h.2
      cases d with
      | int i => exact ⟨i :: ns, rfl⟩
      | _ => cases h.1
  have gs : ∀ l : List D, (l.all fun d => match d with | .str _ => true | _ => false) = true → ∃ ns : List (List Nat), l = ns.map .str := by
    intro l
    induction l with
    | nil => exact fun _ => ⟨[], rfl⟩
    | cons d r ih =>
      intro h
      rw [List.all_cons, Bool.and_eq_true] at h
      obtain ⟨ns, rfl⟩ := ih h.2
      cases d with
      | str i => exact ⟨i :: ns, rfl⟩
      | _ => cases h.1
  rcases h.2 with z | z
  · exact .inl (gi _ z)
  · exact .inr (gs _ z)
theorem setable_scal {xs : List D} (h : setable xs = true) : Scal xs := by
  obtain ⟨_, ⟨ns, rfl⟩ | ⟨ts, rfl⟩⟩ := setable_get h
  · intro d hd
    obtain ⟨n, _, rfl⟩ := List.mem_map.mp hd
    exact ⟨_, rfl⟩
  · intro d hd
    obtain ⟨n, _, rfl⟩ := List.mem_map.mp hd
    exact ⟨_, rfl⟩
theorem setable_AA {xs : List D} (h : setable xs = true) : AA xs := by
  obtain ⟨_, ⟨ns, rfl⟩ | ⟨ts, rfl⟩⟩ := setable_get h
  · intro a ha b hb
    obtain ⟨n, _, rfl⟩ := List.mem_map.mp ha
    obtain ⟨m, _, rfl⟩ := List.mem_map.mp hb
    rfl
  · intro a ha b hb
    obtain ⟨n, _, rfl⟩ := List.mem_map.mp ha
    obtain ⟨m, _, rfl⟩ := List.mem_map.mp hb
    rfl
theorem keyAt (P : Program) (w : World) {K : PySem.W.Frag} {F : Hp} {ds : List D} (hs : Scal ds) : ∀ {vs : List V} {its : List Value}, Rps K F vs ds → Vals vs its → ∀ (i : Nat) (u : Value), its[i]? = some u → ∃ k, (ds.map kd)[i]? = some k ∧ keyIs k u = true := by
  intro vs its r rv i u hu
  have hl := rv.length
  have hi : i < vs.length := by rw [hl]; exact (List.getElem?_eq_some_iff.mp hu).1
  obtain ⟨u', hu', ru⟩ := rv.get (List.getElem?_eq_getElem hi)
  rw [hu] at hu'
  cases hu'
  obtain ⟨d, hd, rd⟩ := r.getV (List.getElem?_eq_getElem hi)
  obtain ⟨k, hk⟩ := hs d (List.mem_of_getElem? hd)
  refine ⟨k, by rw [List.getElem?_map, hd]; exact congrArg some (kd_of hk), ?_⟩
  rw [sk_V hk rd] at ru
  exact kV_is (P := P) (w := w) ru

/-! ### sorted(xs) -/
/-- values that stand for data -/
def StV (K : PySem.W.Frag) (F : Hp) (u : Value) (d : D) : Prop := ∃ x, RelV x u ∧ Rp K F x d
theorem each_of {K : PySem.W.Frag} {F : Hp} : ∀ {vs : List V} {its : List Value} {ds : List D}, Rps K F vs ds → Vals vs its → PySem.W.EachIs (StV K F) its ds
  | _, _, _, .nil, .nil => .nil
  | _, _, _, .cons a b, .cons r t => .cons ⟨_, r, a⟩ (each_of b t)
theorem of_each {K : PySem.W.Frag} {F : Hp} : ∀ {its : List Value} {ds : List D}, PySem.W.EachIs (StV K F) its ds → ∃ vs, Vals vs its ∧ Rps K F vs ds
  | _, _, .nil => ⟨[], .nil, .nil⟩
  | _, _, .cons ⟨x, r, p⟩ h => by
    obtain ⟨vs, h1, h2⟩ := of_each h
    exact ⟨x :: vs, .cons r h1, .cons p h2⟩
theorem sortable_py {ds : List D} (h : sortable ds = true) (ha : AA ds) : PySem.W.Sortable (ds.map toPy) := by
  cases ds with
  | nil => exact .inl fun d hd => by simp at hd
  | cons x r =>
    have al : ∀ y ∈ x :: r, alike x y = true := ha x (List.mem_cons_self ..)
    cases x with
    | int i =>
      refine .inr fun d hd => ?_
      obtain ⟨y, hy, rfl⟩ := List.mem_map.mp hd
      have := al y hy
      cases y <;> simp [alike] at this
      exact ⟨by simp [toPy], by simp [toPy]⟩
    | str i =>
      refine .inr fun d hd => ?_
      obtain ⟨y, hy, rfl⟩ := List.mem_map.mp hd
      have := al y hy
      cases y <;> simp [alike] at this
      exact ⟨by simp [toPy], by simp [toPy]⟩
    | tup xs =>
      cases xs with
      | nil => simp [sortable] at h
      | cons a b =>
        refine .inl fun d hd => ?_
        obtain ⟨y, hy, rfl⟩ := List.mem_map.mp hd
        rcases List.mem_cons.mp hy with rfl | hy
        · exact ⟨toPy a, toPys b, by simp [toPy, toPys]⟩
        · simp only [sortable, List.all_eq_true] at h
          have := h y hy
          split at this
          · rename_i a' b' _
            exact ⟨toPy a', toPys b', by simp [toPy, toPys]⟩
          · cases this
    | non => simp [sortable] at h
    | bl b => simp [sortable] at h
    | lst b => simp [sortable] at h
theorem AA_py {ds : List D} (ha : AA ds) : PySem.W.AllAlike (ds.map toPy) := by
  intro d hd d' hd'
  obtain ⟨y, hy, rfl⟩ := List.mem_map.mp hd
  obtain ⟨y', hy', rfl⟩ := List.mem_map.mp hd'
  exact (alike_py y y' (ha y hy y' hy')).1
theorem depth_mem : ∀ {ds : List D} {d : D}, d ∈ ds → depth d ≤ depths ds
  | x :: r, d, h => by
    simp only [depths]
    rcases List.mem_cons.mp h with rfl | h
    · omega
    · have := depth_mem h
      omega
section
variable {X : Cx} {ca : Nat → Addr} {cl : Nat → List Xv → R W} {Wx : WX} {pos pos' p p' : Pos} {a : CE} {e1 : Expr}
theorem cb_sorted (hu : X.A.units + 80 < cLine) (hc : X.calm = true) : CallR X (.builtin "sorted") (fun xs H Q => ∃ x, xs = [x] ∧ r1 X.prog X.w X.K (b1W .sorted) x H Q) := by
  intro pins s σ H xs us Q I r h
  obtain ⟨x, rfl, F, w1, sF, h1, ok⟩ := h
  obtain ⟨wv, e0, q⟩ := ok.get
  obtain ⟨z, e, rfl⟩ := b1W_get e0
  cases hw : w1.x with
  | m ks vs => rw [hw] at e; simp [b1] at e
  | d d =>
    rw [hw] at h1 e
    cases d <;> simp only [b1, reduceCtorEq] at e
    case lst ds =>
      split at e
      · rename_i hcnd
        cases e
        rw [Bool.and_eq_true, Bool.and_eq_true, decide_eq_true_eq] at hcnd
        obtain ⟨⟨c1, c2⟩, c3⟩ := hcnd
        have ha := allAlike_iff.mp c1
        obtain ⟨l, vs, rfl, g1, g2⟩ := h1.isLst sF
        obtain ⟨its, rv, pl, hz⟩ := I.list g1
        rw [Vals.ref1 r]
        have hr : PySem.W.EachIs (fun v b => ∃ as, Reads s.heap v (toPy b) as) its ds := by
          have gen : ∀ {vs : List V} {its : List Value} {ds : List D}, Rps X.K F vs ds → Vals vs its → PySem.W.EachIs (fun v b => ∃ as, Reads s.heap v (toPy b) as) its ds := by
            intro vs its ds r
            induction vs generalizing its ds with
            | nil => intro rv; cases r; cases rv; exact .nil
            | cons v vs ih =>
              intro rv
              cases r with
              | cons a b =>
                cases rv with
                | cons ra rb => exact .cons (Dp.reads I _ _ _ (a.mono sF).dp ra) (ih b rb)
          exact gen g2 rv
        refine PySem.W.sorted_data (R := StV X.K F) pl.isList (each_of g2 rv) hr (AA_py ha) (sortable_py c2 ha) (by rw [← g2.length]; exact hz) (fun b hb => ?_) fun out hout ho => ?_
        · rw [depth_py]
          have := depth_mem hb
          omega
        · have em : ds.mergeSort (PySem.W.dataLe false toPy) = isort ds := merge_isort ha
          rw [em] at ho
          obtain ⟨vs', v1, v2⟩ := of_each ho
          obtain ⟨ep, he'⟩ := PyProof.Rows.sortedAll_at s.heap its out.toArray
          have hlen : vs'.length ≤ sizeLine := by
            rw [v2.length, (isort_perm ds).length_eq, ← g2.length]; exact hz
          refine ⟨.ref _, upd H (s.heap.objs.size + 1) (.lst vs'), I.laid (t' := s.toks) (fun _ _ => PyProof.Rows.sortedAll_old) (Nat.le_succ _) ⟨hlen, out, ep, v1, he'⟩, rfl, ?_⟩
          exact fin_lst q sF (I.hok.fresh (Nat.le_succ _)) v2
      · cases e
/-! ### of sets -/
/-- set(xs), xs a list or a tuple -/
theorem set_of (hc : X.calm = true) {pins : List (Addr × Obj)} {σ : L2.St} {H F : Hp} {s : Shared} {x : V} {u : Value} {d : D} {ds : List D} {Q : Value → Shared → Prop} (I : Inv X pins σ H s) (sF : Sub F H) (ru : RelV x u) (hx : Rdx X.prog X.w X.K H F x (.d d)) (hd : d = .lst ds ∨ d = .tup ds) (hs : setable ds = true)
    (h : ∀ h' tk, SetG X.w h' s.heap.objs.size ((ds.map kd).foldl addK []) → Inv X pins σ H { s with heap := h', toks := tk } → Q (.ref s.heap.objs.size) { s with heap := h', toks := tk }) :
    wpAny (model X.prog X.w) X.A (call (.type "set") [u]) Q X.xe s := by
  have hl := (setable_get hs).1
  have hb : (ds.map kd).length + 1 < scanBound := by rw [List.length_map]; show _ < 4096; omega
  rcases hd with rfl | rfl
  · obtain ⟨l, vs, rfl, g1, g2⟩ := hx.isLst sF
    obtain ⟨its, rv, pl, hz⟩ := I.list g1
    cases ru
    refine call_setG_list (P := X.prog) (w := X.w) (ds.map kd) (I.ok.hd hc) pl.isList (by rw [List.size_toArray, ← rv.length, g2.length, List.length_map]) (fun i v hv => keyAt X.prog X.w (setable_scal hs) g2 rv i v (by simpa using hv)) hb fun h' tk hS hk => ?_
    exact h h' tk hS (I.kept hk)
  · obtain ⟨l, vs, rfl, g1, _, g2⟩ := hx.isTup sF
    obtain ⟨its, rv, pl, hz⟩ := I.tuple g1
    cases ru
    refine call_setG_tuple (P := X.prog) (w := X.w) (ds.map kd) (I.ok.hd hc) pl (by rw [List.size_toArray, ← rv.length, g2.length, List.length_map]) (fun i v hv => keyAt X.prog X.w (setable_scal hs) g2 rv i v (by simpa using hv)) hb fun h' tk hS hk => ?_
    exact h h' tk hS (I.kept hk)
theorem s_lenset (hc : X.calm = true) (hg : Gl X "len") (hm : X.mg "len" = none) (hg2 : Gl X "set") (hm2 : X.mg "set" = none) (hs : isStar e1 = false) (ha : PE X e1 (tEX X ca cl Wx a)) :
    PE X (.Call (.Name "len" p) [.Call (.Name "set" p') [e1] [] pos'] [] pos) (tEX X ca cl Wx (.b1 .lenset a)) := by
  refine ⟨fun pins s σ H Q I ⟨ρ, F, sr, q⟩ => ?_⟩
  rw [ev] at q
  have h2 : tEX X ca cl Wx a σ H (fun v H1 => ∃ F1 w1, Sub F1 H1 ∧ Rdx X.prog X.w X.K H1 F1 v w1.x ∧ Ok1 X.prog X.w X.K (b1W .lenset w1) H1 F1 Q) :=
    tE.bind sr q fun wv v H1 F1 n hv sr1 q1 => ⟨F1, wv, n.fh, hv.rdx sr n, q1.of⟩
  refine Call_ (ld_blt I hg hm boot_len ?_)
  refine PyProof.Rows.callWith_builtin1 (PyProof.Rows.args_cons ?_ rfl) rfl rfl
  refine Call_ (ld_blt I hg2 hm2 boot_set ?_)
  refine PyProof.Rows.callWith_type1 (PyProof.Rows.args_cons (thn (ha.run pins s σ H _ I h2) fun v s1 ⟨x, H1, I1, r1, F1, w1, sF, hx, ok⟩ => PyProof.Rows.args_nil ?_) (star_plain hs)) (star_plain hs) rfl
  obtain ⟨wv, e0, q⟩ := ok.get
  obtain ⟨z, e, rfl⟩ := b1W_get e0
  cases hw : w1.x with
  | m ks vs => rw [hw] at e; simp [b1] at e
  | d d =>
    rw [hw] at hx e
    cases d <;> simp only [b1, reduceCtorEq] at e
    case lst ds =>
      split at e
      · rename_i hset
        cases e
        refine set_of hc I1 sF r1 hx (.inl rfl) hset fun h' tk hS I2 => PyProof.Rows.args_nil ?_
        obtain ⟨o, es, ep, t, ho, hex, hd, _, pm, _, hb, hf, _⟩ := hS
        have hn : es.size = (dedup ds).length := by
          have e1 := pm.length_eq
          rw [List.length_map, Array.length_toList] at e1
          rw [e1, (fold_dedup (setable_scal hset)).length_eq, List.length_map]
        refine call_len_set ho hex hd hf (by have : scanBound = 4096 := rfl; omega) ⟨.int _, H1, I2.tok _, ⟨_, rfl⟩, ?_⟩
        rw [hn]
        exact fin_sh q sF (.int _)
      · cases e

/-- the data that a value is: an int or a text -/
def vD : Value → D
  | .int i _ => .int i
  | .str x _ => .str x.cps.toList
  | _ => .non
theorem vD_key {v : Value} {k : Key} (h : keyIs k v = true) : sk (vD v) = some k := by
  rcases keyIs_shape h with ⟨i, t, rfl, rfl⟩ | ⟨x, t, rfl, rfl⟩ <;> rfl
def kD : Key → D
  | .inl i => .int i
  | .inr x => .str x.cps.toList
theorem kD_kd {d : D} {k : Key} (h : sk d = some k) : kD (kd d) = d := by
  cases d <;> simp [sk] at h <;> rfl
theorem kD_vk {v : Value} {k : Key} (h : keyIs k v = true) : kD (vk v) = vD v := by
  rw [vk_of h]
  rcases keyIs_shape h with ⟨i, t, rfl, rfl⟩ | ⟨x, t, rfl, rfl⟩ <;> rfl
theorem good_reads {v : Value} {k : Key} (hp : Heap) (h : keyIs k v = true) : Reads hp v (toPy (vD v)) [] := by
  rcases keyIs_shape h with ⟨i, t, rfl, rfl⟩ | ⟨x, t, rfl, rfl⟩
  · exact .int _ _
  · exact .str _ _
theorem each_self {R : Value → D → Prop} : ∀ {vs : List Value}, (∀ v ∈ vs, R v (vD v)) → PySem.W.EachIs R vs (vs.map vD)
  | [], _ => .nil
  | v :: r, h => .cons (h v (List.mem_cons_self ..)) (each_self fun u hu => h u (List.mem_cons_of_mem _ hu))
theorem dedup_len : ∀ ds : List D, (dedup ds).length ≤ ds.length
  | [] => Nat.le_refl _
  | x :: r => by
    unfold dedup
    have := dedup_len r
    have := List.length_filter_le (fun y => !eqv x y) (dedup r)
    simp only [List.length_cons]
    omega
theorem setable_sub {ds es : List D} (h : setable ds = true) (hs : ∀ d ∈ es, d ∈ ds) (hl : es.length ≤ ds.length) : setable es = true := by
  unfold setable at h ⊢
  rw [Bool.and_eq_true, decide_eq_true_eq, Bool.or_eq_true] at h ⊢
  refine ⟨by omega, ?_⟩
  rcases h.2 with z | z
  · exact .inl (List.all_eq_true.mpr fun d hd => List.all_eq_true.mp z d (hs d hd))
  · exact .inr (List.all_eq_true.mpr fun d hd => List.all_eq_true.mp z d (hs d hd))
theorem setable_sortable {ds : List D} (h : setable ds = true) : PySem.W.Sortable (ds.map toPy) := by
  refine .inr fun d hd => ?_
  obtain ⟨y, hy, rfl⟩ := List.mem_map.mp hd
  obtain ⟨_, ⟨ns, rfl⟩ | ⟨ts, rfl⟩⟩ := setable_get h
  · obtain ⟨n, _, rfl⟩ := List.mem_map.mp hy
    exact ⟨by simp [toPy], by simp [toPy]⟩
  · obtain ⟨n, _, rfl⟩ := List.mem_map.mp hy
    exact ⟨by simp [toPy], by simp [toPy]⟩
theorem sorted_setG (hh : X.A.handled = none) (hu : X.A.units + 80 < cLine) {s : Shared} {p0 : Addr} {ds : List D} {Q : Value → Shared → Prop} (hs : setable ds = true) (R : SetG X.w s.heap p0 ((ds.map kd).foldl addK []))
    (hQ : ∀ s' l out c, (∀ b o, s.heap.get? b = some o → s'.heap.get? b = some o) → s'.gens = s.gens → s'.os = s.os → s.heap.objs.size ≤ l → s'.heap.get? l = some (seqObj "list" (List.toArray out) c) → PySem.W.EachIs (fun v d => (∃ k, keyIs k v = true) ∧ vD v = d) out (isort (dedup ds)) → Q (.ref l) s') :
    wpAny (model X.prog X.w) X.A (call (.builtin "sorted") [.ref p0]) Q X.xe s := by
  obtain ⟨o, es, ep, t, ho, hex, hd, g, pm, nd, hb, hf, hr, hl⟩ := R
  refine Calls.call_function_entry kind_sorted plain_sorted entry_sorted (args_sorted1 _) ?_
  unfold Builtin.«sorted»
  refine wpAny_bind (m := checkCount "sorted" 1 1 _) (wpAny_pure ?_)
  refine wpAny_bind (collect_set (A := X.A.in1) hh ⟨o, ho, hex.1, hd⟩ hf hb hr hl fun s1 vs k1 hz g1 o1 po => ?_)
  have hgood : ∀ v ∈ vs, ∃ k, keyIs k v = true := fun v hv => by
    obtain ⟨e, he, q⟩ := List.mem_map.mp (po.mem_iff.mp hv)
    obtain ⟨k, h1, _⟩ := g e he
    exact ⟨k, by rw [← q]; exact h1⟩
  have pd : (vs.map vD).Perm (dedup ds) := by
    have h1 : (vs.map vk).Perm (es.toList.map fun e => vk e.2) := by
      have := po.map vk
      rwa [List.map_map] at this
    have h2 := ((h1.trans pm).trans (fold_dedup (setable_scal hs))).map kD
    rw [List.map_map, List.map_map] at h2
    have e1 : vs.map (kD ∘ vk) = vs.map vD := List.map_congr_left fun v hv => by
      obtain ⟨k, hk⟩ := hgood v hv
      exact kD_vk hk
    have e2 : (dedup ds).map (kD ∘ kd) = dedup ds := by
      have : (dedup ds).map (kD ∘ kd) = (dedup ds).map id := List.map_congr_left fun d hd => by
        obtain ⟨k, hk⟩ := setable_scal hs d (dedup_sub ds d hd)
        exact kD_kd hk
      rw [this, List.map_id]
    rwa [e1, e2] at h2
  have hvl : vs.length ≤ 4096 := by
    have := pd.length_eq
    rw [List.length_map] at this
    have := dedup_len ds
    have := (setable_get hs).1
    omega
  have hset : setable (vs.map vD) = true := setable_sub hs (fun d hd => dedup_sub ds d (pd.mem_iff.mp hd)) (by rw [pd.length_eq]; exact dedup_len ds)
  refine wpAny_bind (wpAny_newList ?_ (by rw [sizeLine_eq]; omega))
  have hoL : (s1.heap.push (seqObj "list" vs.toArray 0)).get? s1.heap.objs.size = some (seqObj "list" vs.toArray 0) := Heap.get?_push_size _ rfl
  have hAA : AA (vs.map vD) := by
    have := setable_AA hs
    exact fun a h1 b h2 => this a (dedup_sub ds a (pd.mem_iff.mp h1)) b (dedup_sub ds b (pd.mem_iff.mp h2))
  refine wpAny_bind (wpAny_holding (PySem.W.list_sort_data (A := X.A.in1) (R := fun v d => (∃ k, keyIs k v = true) ∧ vD v = d) (enc := toPy) (bs := vs.map vD) hoL ?e ?er (AA_py hAA) ?hk ?hL ?hu fun out hlen hout => ?h))
  case e => exact each_self fun v hv => ⟨hgood v hv, rfl⟩
  case er => exact each_self fun v hv => (hgood v hv).elim fun k hk => ⟨[], good_reads _ hk, by simp⟩
  case hk => exact setable_sortable hset
  case hL => rw [List.length_map, sizeLine_eq]; omega
  case hu =>
    intro b hb
    rw [depth_py]
    have e0 : depth b = 0 := by
      obtain ⟨_, ⟨ns, e⟩ | ⟨ts, e⟩⟩ := setable_get hset
      · rw [e] at hb; obtain ⟨n, _, rfl⟩ := List.mem_map.mp hb; rfl
      · rw [e] at hb; obtain ⟨n, _, rfl⟩ := List.mem_map.mp hb; rfl
    rw [e0]
    show X.A.in1.units + 1 + 0 < _
    have : X.A.in1.units = X.A.units + 1 := rfl
    omega
  case h =>
    obtain ⟨c, hc⟩ := sortedHeap_at (vs := vs) (out := out.toArray) hoL
    have em : (vs.map vD).mergeSort (PySem.W.dataLe false toPy) = isort (dedup ds) := by
      rw [show (vs.map vD).mergeSort (PySem.W.dataLe false toPy) = isort (vs.map vD) from merge_isort hAA, isort_congr hAA pd]
    rw [em] at hout
    refine wpAny_pure ⟨_, rfl, hQ _ s1.heap.objs.size out c (fun b u e => ?_) g1 o1 hz hc hout⟩
    have q := k1 b u e
    have hlt := Heap.lt_size q
    show (sortedHeap (s1.heap.push (seqObj "list" vs.toArray 0)) s1.heap.objs.size vs out.toArray).get? b = some u
    rw [sortedHeap_old (Nat.ne_of_lt hlt) (by rw [size_push']; exact Nat.lt_succ_of_lt hlt)]
    exact Heap.get?_push_of_some _ q
theorem okS_of {K : PySem.W.Frag} {F : Hp} : ∀ {vs : List V} {ds : List D}, Rps K F vs ds → ∀ s, D.str s ∈ ds → OkS s
  | _, _, .cons a b, s, h => by
    rcases List.mem_cons.mp h with e | h
    · subst e; cases a; assumption
    · exact okS_of b s h
theorem of_scal {K : PySem.W.Frag} {F : Hp} : ∀ {out : List Value} {ds : List D}, PySem.W.EachIs (fun v d => (∃ k, keyIs k v = true) ∧ vD v = d) out ds → (∀ s, D.str s ∈ ds → OkS s) → ∃ vs, Vals vs out ∧ Rps K F vs ds
  | _, _, .nil, _ => ⟨[], .nil, .nil⟩
  | _, _, .cons ⟨⟨k, hk⟩, e⟩ h, ho => by
    obtain ⟨vs, h1, h2⟩ := of_scal (K := K) (F := F) h fun s hs => ho s (List.mem_cons_of_mem _ hs)
    subst e
    rcases keyIs_shape hk with ⟨i, t, rfl, rfl⟩ | ⟨x, t, rfl, rfl⟩
    · exact ⟨.int i :: vs, .cons ⟨_, rfl⟩ h1, .cons (.int _) h2⟩
    · refine ⟨.str x :: vs, .cons ⟨_, rfl⟩ h1, .cons (.str (ho _ (List.mem_cons_self ..))) h2⟩
theorem s_sortedset (hu : X.A.units + 80 < cLine) (hc : X.calm = true) (hg : Gl X "sorted") (hm : X.mg "sorted" = none) (hg2 : Gl X "set") (hm2 : X.mg "set" = none) (hs : isStar e1 = false) (ha : PE X e1 (tEX X ca cl Wx a)) :
    PE X (.Call (.Name "sorted" p) [.Call (.Name "set" p') [e1] [] pos'] [] pos) (tEX X ca cl Wx (.b1 .sortedset a)) := by
  refine ⟨fun pins s σ H Q I ⟨ρ, F, sr, q⟩ => ?_⟩
  rw [ev] at q
  have h2 : tEX X ca cl Wx a σ H (fun v H1 => ∃ F1 w1, Sub F1 H1 ∧ Rdx X.prog X.w X.K H1 F1 v w1.x ∧ Ok1 X.prog X.w X.K (b1W .sortedset w1) H1 F1 Q) :=
    tE.bind sr q fun wv v H1 F1 n hv sr1 q1 => ⟨F1, wv, n.fh, hv.rdx sr n, q1.of⟩
  refine Call_ (ld_blt I hg hm boot_sorted ?_)
  refine PyProof.Rows.callWith_builtin1 (PyProof.Rows.args_cons ?_ rfl) rfl rfl
  refine Call_ (ld_blt I hg2 hm2 boot_set ?_)
  refine PyProof.Rows.callWith_type1 (PyProof.Rows.args_cons (thn (ha.run pins s σ H _ I h2) fun v s1 ⟨x, H1, I1, r1, F1, w1, sF, hx, ok⟩ => PyProof.Rows.args_nil ?_) (star_plain hs)) (star_plain hs) rfl
  obtain ⟨wv, e0, q⟩ := ok.get
  obtain ⟨z, e, rfl⟩ := b1W_get e0
  have main : ∀ d ds, d = .lst ds ∨ d = .tup ds → Rdx X.prog X.w X.K H1 F1 x (.d d) → setable ds = true → z = .lst (isort (dedup ds)) → 
      wpAny (model X.prog X.w) X.A (call (.type "set") [v]) (fun u s' => wpAny (model X.prog X.w) X.A (call (.builtin "sorted") [u]) (fun v s' => ∃ x H', Inv X pins σ H' s' ∧ RelV x v ∧ Q x H') X.xe s') X.xe s1 := by
    intro d ds hd hx hset ez
    refine set_of hc I1 sF r1 hx hd hset fun h' tk hS I2 => ?_
    refine sorted_setG (X := X) (I2.ok.hd hc) hu hset hS fun s' l out c k g o hp hgl hout => ?_
    have hok : ∀ s, D.str s ∈ isort (dedup ds) → OkS s := fun s hs => by
      have hs := dedup_sub ds _ ((isort_perm _).mem_iff.mp hs)
      rcases hd with rfl | rfl
      · obtain ⟨l, vs, rfl, g1, g2⟩ := hx.isLst sF
        exact okS_of g2 s hs
      · obtain ⟨l, vs, rfl, g1, _, g2⟩ := hx.isTup sF
        exact okS_of g2 s hs
    obtain ⟨vs', v1, v2⟩ := of_scal (K := X.K) (F := F1) hout hok
    have hlen : vs'.length ≤ sizeLine := by
      rw [v2.length, (isort_perm _).length_eq, sizeLine_eq]
      have := dedup_len ds
      have := (setable_get hset).1
      omega
    have hn : H1 l = none := I2.hok.fresh hp
    have J : Inv X pins σ (upd H1 l (.lst vs')) { s1 with heap := s'.heap, gens := s'.gens, drawn := s'.drawn, toks := s'.toks } :=
      L2.Inv.call (s := { s1 with heap := h', toks := tk }) I2 (ch := []) (Un.laid k hp hn) (I2.hok.laid k hp ⟨hlen, out, c, v1, hgl⟩) (by rw [g]; exact I2.bare) (fun _ z => nomatch z)
    have e : s' = { s1 with heap := s'.heap, gens := s'.gens, drawn := s'.drawn, toks := s'.toks } := by
      cases s'
      cases s1
      cases o
      rfl
    rw [e]
    refine ⟨.ref l, _, J, rfl, ?_⟩
    subst ez
    exact fin_lst q sF hn v2
  cases hw : w1.x with
  | m ks vs => rw [hw] at e; simp [b1] at e
  | d d =>
    rw [hw] at hx e
    cases d <;> simp only [b1, reduceCtorEq] at e
    case lst ds =>
      split at e
      · rename_i hset
        cases e
        exact thn (main _ ds (.inl rfl) hx hset rfl) fun u s' h => PyProof.Rows.args_nil h
      · cases e
    case tup ds =>
      split at e
      · rename_i hset
        cases e
        exact thn (main _ ds (.inr rfl) hx hset rfl) fun u s' h => PyProof.Rows.args_nil h
      · cases e
end
end Q7
end

section
set_option autoImplicit false
set_option Elab.async false
set_option linter.all false
set_option maxRecDepth 100000
/-! list(x), min(xs), max(xs), xs.index(x). -/
namespace Q7
open PySem PySem.Spec PyProof.Rows L2
mutual
theorem toPy_inj : ∀ a b : D, toPy a = toPy b → a = b
  | .non, b, h => by cases b <;> simp [toPy] at h ⊢
  | .bl x, b, h => by cases b <;> simp [toPy] at h ⊢; exact h
  | .int x, b, h => by cases b <;> simp [toPy] at h ⊢; exact h
  | .str x, b, h => by
    cases b <;> simp [toPy] at h ⊢
    exact toS_inj h
  | .tup x, b, h => by
    cases b <;> simp [toPy] at h ⊢
    exact toPys_inj _ _ h
  | .lst x, b, h => by
    cases b <;> simp [toPy] at h ⊢
    exact toPys_inj _ _ h
theorem toPys_inj : ∀ a b : List D, toPys a = toPys b → a = b
  | [], [], _ => rfl
  | [], _ :: _, h => by simp [toPys] at h
  | _ :: _, [], h => by simp [toPys] at h
  | x :: xs, y :: ys, h => by
    simp only [toPys, List.cons.injEq] at h
    rw [toPy_inj x y h.1, toPys_inj xs ys h.2]
end
section
variable {X : Cx} {ca : Nat → Addr} {cl : Nat → List Xv → R W} {Wx : WX} {pos pos' p p' : Pos} {a : CE} {e1 : Expr}
theorem Kvs.keyV {K : PySem.W.Frag} {F : Hp} : ∀ {kvs : List (Key × V)} {ks vs : List D}, Kvs K F kvs ks vs → Rps K F (kvs.map fun kv => kV kv.1) ks
  | _, _, _, .nil => .nil
  | _, _, _, .cons _ b _ d => .cons b (Kvs.keyV d)
theorem Ents.keyV {K : PySem.W.Frag} {F : Hp} : ∀ {xs : List (NestedKey × Addr × Value)} {ks vs : List D}, Ents K F xs ks vs → Rps K F (xs.map fun x => V.ref x.2.1) ks
  | _, _, _, .nil => .nil
  | _, _, _, .cons a b => .cons a.rep (Ents.keyV b)
theorem cb_list (hc : X.calm = true) : CallR X (.type "list") (fun xs H Q => ∃ x, xs = [x] ∧ r1 X.prog X.w X.K (b1W .list) x H Q) := by
  intro pins s σ H xs us Q I r h
  obtain ⟨x, rfl, F, w1, sF, h1, ok⟩ := h
  obtain ⟨wv, e0, q⟩ := ok.get
  obtain ⟨z, e, rfl⟩ := b1W_get e0
  cases hw : w1.x with
  | d d =>
    rw [hw] at h1 e
    cases d <;> simp only [b1, reduceCtorEq, Option.some.injEq] at e <;> subst e
    case tup t =>
      obtain ⟨a, vs, rfl, g1, g1', g2⟩ := h1.isTup sF
      exact call_list_of pins s σ H _ us Q I r ⟨a, vs, rfl, .inr g1, fun l hl => fin_lst q sF hl g2⟩
    case lst t =>
      obtain ⟨a, vs, rfl, g1, g2⟩ := h1.isLst sF
      exact call_list_of pins s σ H _ us Q I r ⟨a, vs, rfl, .inl g1, fun l hl => fin_lst q sF hl g2⟩
    case str t =>
      obtain ⟨rfl, okt⟩ := h1.isStr
      obtain ⟨u, rfl, rx⟩ := r.one
      obtain ⟨tk0, rfl⟩ := rx
      have hsz : (toS t).cps.size = t.length := by simp [toS]
      refine call_list_str (I.ok.hd hc) (toS t) tk0 (fun h' tk acc' c' hk hS hacc => ?_) (by rw [hsz]; have := okt.len; exact big_line this)
      have hv : Vals (t.map fun c => V.str (toS [c])) acc'.toList := by
        refine vals_of_at (by rw [List.length_map, ← hsz, ← hacc.1]; simp) fun j x w h1 h2 => ?_
        obtain ⟨c, u, hcu, rfl⟩ := hacc.2 j w (by rw [← Array.getElem?_toList]; exact h2)
        have hc' : t[j]? = some c := by simpa [toS] using hcu
        rw [List.getElem?_map, hc'] at h1
        cases h1
        exact ⟨u, rfl⟩
      have hr : Rps X.K F (t.map fun c => V.str (toS [c])) (t.map fun c => D.str [c]) := by
        have gen : ∀ l : List Nat, (∀ c ∈ l, OkS [c]) → Rps X.K F (l.map fun c => V.str (toS [c])) (l.map fun c => D.str [c]) := by
          intro l
          induction l with
          | nil => exact fun _ => .nil
          | cons c r ih => exact fun h => .cons (.str (h c (List.mem_cons_self ..))) (ih fun d hd => h d (List.mem_cons_of_mem _ hd))
        exact gen t fun c hc => ⟨by simp [big], fun d hd => okt.asc d (by rw [List.mem_singleton.mp hd]; exact hc)⟩
      refine ⟨.ref s.heap.objs.size, _, I.laid hk (Nat.le_refl _) (show ObjOk X.prog X.w _ _ _ (.lst (t.map fun c => V.str (toS [c]))) from ⟨by rw [List.length_map]; have := okt.len; exact big_line this, acc'.toList, c', hv, by rw [Array.toArray_toList]; exact hS⟩), rfl, fin_lst q sF (I.hok.fresh (Nat.le_refl _)) hr⟩
  | m ks vs =>
    rw [hw] at h1 e
    simp only [b1, Option.some.injEq] at e
    subst e
    obtain ⟨a, rfl, hm⟩ := h1.isMp sF
    cases hm with
    | sc kvs g1 g2 g3 => exact call_list_dK hc pins s σ H _ us Q I r ⟨a, kvs, rfl, g1, fun l hl => fin_lst q sF hl g3.keyV⟩
    | ne o es ep xs g1 g2 g3 g4 g5 g6 g7 g8 g9 =>
      obtain ⟨u, rfl, rx⟩ := r.one
      cases rx
      have ho : s.heap.get? a = some o := (I.hok a _ g1).1
      have l1 : es.size = xs.length := by
        have := congrArg List.length g5
        simpa using this
      refine PySem.W.kdl_call (kdl_raw g2 g3 g4) (I.ok.hd hc) ho (by omega) fun h' tk acc' c' kp e it => ?_
      have hv : Vals (xs.map fun x => V.ref x.2.1) acc'.toList := by
        refine vals_of_at (by rw [List.length_map, ← l1, ← it.1]; simp) fun j x w h1 h2 => ?_
        obtain ⟨en, hen, rfl⟩ := it.2 j w (by rw [← Array.getElem?_toList]; exact h2)
        have h3 : es.toList[j]? = some en := by rw [Array.getElem?_toList]; exact hen
        rw [g5, List.getElem?_map] at h3
        rw [List.getElem?_map] at h1
        cases hx : xs[j]? with
        | none => rw [hx] at h1; cases h1
        | some y =>
          rw [hx] at h1 h3
          cases h1
          cases h3
          rfl
      refine ⟨.ref s.heap.objs.size, _, I.laid kp (Nat.le_refl _) (show ObjOk X.prog X.w _ _ _ (.lst (xs.map fun x => V.ref x.2.1)) from ⟨by rw [List.length_map]; exact g7, acc'.toList, c', hv, by rw [Array.toArray_toList]; exact e⟩), rfl, fin_lst q sF (I.hok.fresh (Nat.le_refl _)) g9.keyV⟩
theorem mk_al {d : D} (h : alike d d = true) : mk d = ⟨.sh, .d d⟩ := by cases d <;> simp [alike] at h <;> rfl
theorem foldMin_mem {f : D → D → Bool} : ∀ (xs : List D) (x : D), xs.foldl (fun m y => if f y m then y else m) x ∈ x :: xs
  | [], x => List.mem_singleton.mpr rfl
  | y :: r, x => by
    rw [List.foldl_cons]
    have := foldMin_mem (f := f) r (if f y x then y else x)
    rcases List.mem_cons.mp this with e | h
    · rw [e]
      split
      · exact List.mem_cons_of_mem _ (List.mem_cons_self ..)
      · exact List.mem_cons_self ..
    · exact List.mem_cons_of_mem _ (List.mem_cons_of_mem _ h)
theorem fold_py {f : D → D → Bool} {g : PyData → PyData → Bool} : ∀ (xs : List D) (x : D), (∀ a ∈ x :: xs, ∀ b ∈ x :: xs, g (toPy a) (toPy b) = f a b) → (toPys xs).foldl (fun m y => if g y m then y else m) (toPy x) = toPy (xs.foldl (fun m y => if f y m then y else m) x)
  | [], x, _ => by simp [toPys]
  | y :: r, x, h => by
    rw [toPys, List.foldl_cons, List.foldl_cons, h y (List.mem_cons_of_mem _ (List.mem_cons_self ..)) x (List.mem_cons_self ..)]
    have hr : ∀ z, z = y ∨ z = x → ∀ a ∈ z :: r, ∀ b ∈ z :: r, g (toPy a) (toPy b) = f a b := by
      intro z hz a ha b hb
      have up : ∀ c, c ∈ z :: r → c ∈ x :: y :: r := by
        intro c hc
        rcases List.mem_cons.mp hc with rfl | hc
        · rcases hz with rfl | rfl
          · exact List.mem_cons_of_mem _ (List.mem_cons_self ..)
          · exact List.mem_cons_self ..
        · exact List.mem_cons_of_mem _ (List.mem_cons_of_mem _ hc)
      exact h a (up a ha) b (up b hb)
    split
    · exact fold_py r y (hr y (.inl rfl))
    · exact fold_py r x (hr x (.inr rfl))
theorem best_at {K : PySem.W.Frag} {F : Hp} {h' : Heap} {vs : List V} {its : List Value} {ds : List D} {d : D} {i : Nat} {v : Value} {bs : List Addr} (g2 : Rps K F vs ds) (rv : Vals vs its) (hv : its[i]? = some v) (hr : Reads h' v (toPy d) bs)
    (hds : ∀ (x : V) (e : D), Rp K F x e → RelV x v → ∃ as, Reads h' v (toPy e) as) : ∃ x, RelV x v ∧ Rp K F x d := by
  have hl := rv.length
  have hi : i < vs.length := by rw [hl]; exact (List.getElem?_eq_some_iff.mp hv).1
  obtain ⟨u', hu', ru⟩ := rv.get (List.getElem?_eq_getElem hi)
  rw [hv] at hu'
  cases hu'
  obtain ⟨e, he, re⟩ := g2.getV (List.getElem?_eq_getElem hi)
  obtain ⟨as, r2⟩ := hds _ e re ru
  have := (r2.unique _ _ hr).1
  rw [toPy_inj _ _ this] at re
  exact ⟨_, ru, re⟩
theorem cb_min (hu : X.A.units + 66 < cLine) (hc : X.calm = true) : CallR X (.builtin "min") (fun xs H Q => ∃ x, xs = [x] ∧ r1 X.prog X.w X.K (b1W .min) x H Q) := by
  intro pins s σ H xs us Q I r h
  obtain ⟨x, rfl, F, w1, sF, h1, ok⟩ := h
  obtain ⟨wv, e0, q⟩ := ok.get
  obtain ⟨z, e, rfl⟩ := b1W_get e0
  cases hw : w1.x with
  | m ks vs => rw [hw] at e; simp [b1] at e
  | d d =>
    rw [hw] at h1 e
    cases d <;> simp only [b1, reduceCtorEq] at e
    case lst ds =>
      cases ds with
      | nil => simp [b1] at e
      | cons d0 ds =>
        simp only [b1] at e
        split at e
        · rename_i hcnd
          cases e
          rw [Bool.and_eq_true, decide_eq_true_eq] at hcnd
          obtain ⟨c1, c3⟩ := hcnd
          have ha := allAlike_iff.mp c1
          obtain ⟨l, vs, rfl, g1, g2⟩ := h1.isLst sF
          obtain ⟨its, rv, pl, hz⟩ := I.list g1
          rw [Vals.ref1 r]
          obtain ⟨as, hr⟩ := Dp.readsAll I _ _ its (g2.mono sF).dp rv
          have haa : PySem.W.AlikeAll (toPy d0 :: toPys ds) := by
            have : toPy d0 :: toPys ds = (d0 :: ds).map toPy := by rw [toPys_map]; rfl
            rw [this]
            exact ⟨AA_py ha, fun y hy => by
              obtain ⟨e, he, rfl⟩ := List.mem_map.mp hy
              exact (alike_py e e (ha e he e he)).2⟩
          refine PySem.W.min_list_data (I.ok.hd hc) pl.isList (by simpa [toPys] using hr) haa ?_ fun i v h' tk bs hv hrd hk => ?_
          · have := depths_py (d0 :: ds)
            rw [toPys] at this
            rw [this]; omega
          · have I2 : L2.Inv X pins σ H { s with heap := h', toks := tk } := I.kept hk
            have em : PySem.W.minD (toPy d0) (toPys ds) = toPy (ds.foldl (fun m y => if dlt y m then y else m) d0) := fold_py ds d0 fun a h1 b h2 => dlt_py a b (ha a h1 b h2)
            rw [em] at hrd
            obtain ⟨x, rx, px⟩ := best_at g2 rv (by simpa using hv) hrd fun x e re rv' => Dp.reads I2 _ _ _ (re.mono sF).dp rv'
            rw [mk_al (ha _ (foldMin_mem (f := fun y m => dlt y m) ds d0) _ (foldMin_mem (f := fun y m => dlt y m) ds d0))] at q
            exact ⟨x, H, I2, rx, fin_sh q sF px⟩
        · cases e
theorem cb_max (hu : X.A.units + 66 < cLine) (hc : X.calm = true) : CallR X (.builtin "max") (fun xs H Q => ∃ x, xs = [x] ∧ r1 X.prog X.w X.K (b1W .max) x H Q) := by
  intro pins s σ H xs us Q I r h
  obtain ⟨x, rfl, F, w1, sF, h1, ok⟩ := h
  obtain ⟨wv, e0, q⟩ := ok.get
  obtain ⟨z, e, rfl⟩ := b1W_get e0
  cases hw : w1.x with
  | m ks vs => rw [hw] at e; simp [b1] at e
  | d d =>
    rw [hw] at h1 e
    cases d <;> simp only [b1, reduceCtorEq] at e
    case lst ds =>
      cases ds with
      | nil => simp [b1] at e
      | cons d0 ds =>
        simp only [b1] at e
        split at e
        · rename_i hcnd
          cases e
          rw [Bool.and_eq_true, decide_eq_true_eq] at hcnd
          obtain ⟨c1, c3⟩ := hcnd
          have ha := allAlike_iff.mp c1
          obtain ⟨l, vs, rfl, g1, g2⟩ := h1.isLst sF
          obtain ⟨its, rv, pl, hz⟩ := I.list g1
          rw [Vals.ref1 r]
          obtain ⟨as, hr⟩ := Dp.readsAll I _ _ its (g2.mono sF).dp rv
          have haa : PySem.W.AlikeAll (toPy d0 :: toPys ds) := by
            have : toPy d0 :: toPys ds = (d0 :: ds).map toPy := by rw [toPys_map]; rfl
            rw [this]
            exact ⟨AA_py ha, fun y hy => by
              obtain ⟨e, he, rfl⟩ := List.mem_map.mp hy
              exact (alike_py e e (ha e he e he)).2⟩
          refine PySem.W.max_list_data (I.ok.hd hc) pl.isList (by simpa [toPys] using hr) haa ?_ fun i v h' tk bs hv hrd hk => ?_
          · have := depths_py (d0 :: ds)
            rw [toPys] at this
            rw [this]; omega
          · have I2 : L2.Inv X pins σ H { s with heap := h', toks := tk } := I.kept hk
            have em : PySem.W.maxD (toPy d0) (toPys ds) = toPy (ds.foldl (fun m y => if dlt m y then y else m) d0) := fold_py (f := fun y m => dlt m y) (g := fun y m => PySem.W.dataLt m y) ds d0 fun a h1 b h2 => dlt_py b a (ha b h2 a h1)
            rw [em] at hrd
            obtain ⟨x, rx, px⟩ := best_at g2 rv (by simpa using hv) hrd fun x e re rv' => Dp.reads I2 _ _ _ (re.mono sF).dp rv'
            rw [mk_al (ha _ (foldMin_mem (f := fun y m => dlt m y) ds d0) _ (foldMin_mem (f := fun y m => dlt m y) ds d0))] at q
            exact ⟨x, H, I2, rx, fin_sh q sF px⟩
        · cases e
end
end Q7
end

section
set_option autoImplicit false
set_option Elab.async false
set_option linter.all false
set_option maxRecDepth 100000
/-! enumerate(x), zip(x, y) over lists, tuples, texts. -/
namespace Q7
open PySem PySem.Spec PyProof.Rows L2

/-- what a walk draws from -/
inductive Src where
  | l (a : Addr)
  | t (a : Addr)
  | s (x : List Nat) (tk : Tok)
def Src.it (it : Addr) (i : Nat) (h : Heap) : Src → Prop
  | .l a => h.IsListIter it a i
  | .t a => h.IsTupleIter it a i
  | .s x tk => h.IsStrIter it "str_ascii_iterator" (toS x) tk i
def Src.At (K : PySem.W.Frag) (H : Hp) (vs : List V) : Src → Prop
  | .l a => SqL K H a vs
  | .t a => SqT K H a vs
  | .s x _ => vs = x.map fun c => V.str (toS [c])
def Src.ads : Src → List Addr
  | .l a => [a]
  | .t a => [a]
  | .s _ _ => []
theorem Src.At.mono {K : PySem.W.Frag} {H H' : Hp} {vs : List V} {S : Src} (h : S.At K H vs) (s : Sub H H') : S.At K H' vs := by
  cases S with
  | l a => exact s.sqL h
  | t a => exact s.sqT h
  | s x tk => exact h
theorem Src.it.keep {it : Addr} {i : Nat} {h h' : Heap} {S : Src} (x : S.it it i h) (k : ∀ o, h.get? it = some o → h'.get? it = some o) : S.it it i h' := by
  cases S with
  | l a => exact Heap.IsListIter.at x k
  | t a => exact Heap.IsTupleIter.at x k
  | s y tk => obtain ⟨o, ho, r⟩ := x; exact ⟨o, k o ho, r⟩
theorem Src.it.obj {it : Addr} {i : Nat} {h : Heap} {S : Src} (x : S.it it i h) : ∃ o, h.get? it = some o ∧ ∀ v, o.data ≠ .cell v := by
  cases S with
  | l a => obtain ⟨o, ho, _, hd⟩ := x; exact ⟨o, ho, fun v q => by rw [hd] at q; cases q⟩
  | t a => obtain ⟨o, ho, _, hd⟩ := x; exact ⟨o, ho, fun v q => by rw [hd] at q; cases q⟩
  | s y tk => obtain ⟨o, ho, _, hd⟩ := x; exact ⟨o, ho, fun v q => by rw [hd] at q; cases q⟩
section
variable {X : Cx} {pins : List (Addr × Obj)} {σ : L2.St} {H F : Hp} {s : Shared}
theorem Src.At.inj {S : Src} {vs us : List V} (I : Inv X pins σ H s) (h : S.At X.K H vs) (h' : S.At X.K H us) : vs = us := by
  cases S with
  | l a => exact I.list_inj h h'
  | t a => exact I.tuple_inj h h'
  | s x tk => exact Eq.trans h (Eq.symm h')
theorem src_draws {A : Around} (hA : A.handled = none) (I : Inv X pins σ H s) {S : Src} {vs : List V} (hS : S.At X.K H vs) {it : Addr} (hn : ∀ a ∈ S.ads, a ≠ it) :
    ∃ P St, Draws X.prog X.w A it (it :: S.ads) vs.length P St ∧ (∀ j u, P j u → ∃ x, vs[j]? = some x ∧ RelV x u) ∧ (∀ j h, St j h → S.it it j h) ∧ ∀ j, S.it it j s.heap → St j s.heap := by
  cases S with
  | l a =>
    obtain ⟨its, rv, p, hz⟩ := I.list hS
    have D := Draws.list (prog := X.prog) (w := X.w) hA it a (hn a (List.mem_singleton.mpr rfl)) its.toArray
    rw [List.size_toArray, ← rv.length] at D
    refine ⟨_, _, D, fun j u hu => ?_, fun j h st => st.1, fun j st => ⟨st, p.isList⟩⟩
    have hu : its[j]? = some u := by simpa using hu
    have hj : j < vs.length := by rw [rv.length]; exact (List.getElem?_eq_some_iff.mp hu).1
    obtain ⟨u', hu', ru⟩ := rv.get (List.getElem?_eq_getElem hj)
    rw [hu] at hu'
    cases hu'
    exact ⟨_, List.getElem?_eq_getElem hj, ru⟩
  | t a =>
    obtain ⟨its, rv, p, hz⟩ := I.tuple hS
    have D := Draws.tuple (prog := X.prog) (w := X.w) hA it a (hn a (List.mem_singleton.mpr rfl)) its.toArray
    rw [List.size_toArray, ← rv.length] at D
    refine ⟨_, _, D, fun j u hu => ?_, fun j h st => st.1, fun j st => ⟨st, p⟩⟩
    have hu : its[j]? = some u := by simpa using hu
    have hj : j < vs.length := by rw [rv.length]; exact (List.getElem?_eq_some_iff.mp hu).1
    obtain ⟨u', hu', ru⟩ := rv.get (List.getElem?_eq_getElem hj)
    rw [hu] at hu'
    cases hu'
    exact ⟨_, List.getElem?_eq_getElem hj, ru⟩
  | s x tk =>
    have hS : vs = x.map fun c => V.str (toS [c]) := hS
    subst hS
    have D := Draws.strAscii (prog := X.prog) (w := X.w) hA it (toS x) tk
    have e : (toS x).cps.size = (x.map fun c => V.str (toS [c])).length := by simp [toS]
    rw [e] at D
    refine ⟨_, _, D, fun j u ⟨c, t, hc, hu⟩ => ?_, fun j h st => st, fun j st => st⟩
    have hc : x[j]? = some c := by simpa [toS] using hc
    refine ⟨V.str (toS [c]), by rw [List.getElem?_map, hc]; rfl, ?_⟩
    subst hu
    exact ⟨t, rfl⟩
theorem src_begin {v : V} {u : Value} {d : D} {ds : List D} (I : Inv X pins σ H s) (sF : Sub F H) (ru : RelV v u) (r : Rp X.K F v d) (e : items d = some ds) :
    ∃ (S : Src) (vs : List V) (o : Obj) (Hh : Heap → Prop), S.At X.K F vs ∧ Rps X.K F vs ds ∧ Begins u o Hh ∧ Hh s.heap ∧ (∀ h' it, h'.get? it = some o → S.it it 0 h') ∧ ∀ a ∈ S.ads, a < s.heap.objs.size := by
  cases r with
  | @lst a xs ds' h1 h2 =>
    simp only [items, Option.some.injEq] at e
    subst e
    cases ru
    obtain ⟨its, rv, p, hz⟩ := I.list (sF.sqL h1)
    exact ⟨.l a, xs, _, _, h1, h2, begins_list a its.toArray, p.isList, fun h' it ho => ⟨_, ho, rfl, rfl⟩, fun b hb => by rw [List.mem_singleton.mp hb]; exact p.lt⟩
  | @tup a xs ds' h1 h2 =>
    simp only [items, Option.some.injEq] at e
    subst e
    cases ru
    obtain ⟨its, rv, p, hz⟩ := I.tuple (sF.sqT h1)
    obtain ⟨o1, ho1, _⟩ := id p
    exact ⟨.t a, xs, _, _, h1, h2, begins_tuple a its.toArray, p, fun h' it ho => ⟨_, ho, rfl, rfl⟩, fun b hb => by rw [List.mem_singleton.mp hb]; exact Heap.lt_size ho1⟩
  | @str t o =>
    simp only [items, Option.some.injEq] at e
    subst e
    obtain ⟨tk, rfl⟩ := ru
    have ha : (toS t).cps.all (· < 128) = true := by
      show t.toArray.all _ = true
      rw [List.all_toArray]
      exact List.all_eq_true.mpr fun c hc => decide_eq_true (o.asc c hc)
    have ht : strIterType (toS t) = "str_ascii_iterator" := by unfold strIterType; rw [ha]; rfl
    refine ⟨.s t tk, _, _, _, rfl, ?_, begins_text (toS t) tk, trivial, fun h' it ho => ⟨_, ho, by rw [ht], rfl⟩, fun a ha => nomatch ha⟩
    have gen : ∀ l : List Nat, (∀ c ∈ l, OkS [c]) → Rps X.K F (l.map fun c => V.str (toS [c])) (l.map fun c => D.str [c]) := by
      intro l
      induction l with
      | nil => exact fun _ => .nil
      | cons c r ih => exact fun h => .cons (.str (h c (List.mem_cons_self ..))) (ih fun d hd => h d (List.mem_cons_of_mem _ hd))
    exact gen t fun c hc => ⟨by simp [big], fun d hd => o.asc d (by rw [List.mem_singleton.mp hd]; exact hc)⟩
  | non => simp [items] at e
  | bl b => simp [items] at e
  | int b => simp [items] at e
end

/-! ### enumerate -/
set_option maxHeartbeats 1000000 in
theorem meets_enum1 {v : Value} {o : Obj} {H : Heap → Prop} (B : Begins v o H) :
    Meets (Builtin.«enumerate.__new__» ⟨[.type "enumerate", v], []⟩) (fun _ R s => H s.heap ∧
      R (.ok (.ret (.ref (s.heap.push o).objs.size))) { s with heap := (s.heap.push o).push { cls := .type "enumerate", data := .fields #[.none, .bool false, .ref s.heap.objs.size, rawInt 0, .none, .none] } }) :=
  .of_wp fun prog w A R s h => by
    obtain ⟨hp, g, d, tk, os⟩ := s; obtain ⟨h1, h⟩ := h
    have hsub := sub_enumerate
    have q1 : ∀ {A' : Around} {E : Value → Shared → Prop} {Q : Value → Shared → Prop}, Q (.ref hp.objs.size) ⟨hp.push o, g, d, tk, os⟩ → wpAny (model prog w) A' (pyIter v) Q E ⟨hp, g, d, tk, os⟩ :=
      fun q => B.iter prog w _ _ ⟨hp, g, d, tk, os⟩ _ h1 q
    wp_walk using q1
    refine wpAny_stack_any fun st => wpAny_pure ?_
    split
    · rename_i c _ _ _ _ _
      cases (c == Value.type "enumerate")
      · wp_walk using q1
        exact ⟨_, rfl, h⟩
      · wp_walk using q1
        exact ⟨_, rfl, h⟩
    · wp_walk using q1
      exact ⟨_, rfl, h⟩
section
variable {prog : Program} {w : World} {A : Around} {E : Value → Shared → Prop} {s : Shared}
theorem enum_begins1 {v : Value} {o : Obj} {H : Heap → Prop} {Q : Value → Shared → Prop} (B : Begins v o H) (h1 : H s.heap)
    (h : ∀ h', IsEnum h' (s.heap.objs.size + 1) s.heap.objs.size 0 .none → h'.get? s.heap.objs.size = some o → h'.objs.size = s.heap.objs.size + 2 →
      (∀ b o, s.heap.get? b = some o → h'.get? b = some o) → Q (.ref (s.heap.objs.size + 1)) { s with heap := h' }) :
    wpAny (model prog w) A (call (.type "enumerate") [v]) Q E s := by
  refine callType_new F.called_enumerate (by decide) (F.typeCall_enumerate_1 _) (F.newCall_enumerate_1 _) (fun obj => F.args_object_init_2 obj _) F.entry_enumerate_new
    (meets_enum1 B) ⟨h1, ?_⟩
  have hz : (s.heap.push o).objs.size = s.heap.objs.size + 1 := Heap.size_push ..
  show _ ∧ _
  rw [hz]
  have he : IsEnum ((s.heap.push o).push { cls := .type "enumerate", data := .fields #[.none, .bool false, .ref s.heap.objs.size, rawInt 0, .none, .none] }) (s.heap.objs.size + 1) s.heap.objs.size 0 .none := by
    have := Heap.get?_push_size (s.heap.push o) (o := { cls := .type "enumerate", data := .fields #[.none, .bool false, .ref s.heap.objs.size, rawInt 0, .none, .none] }) rfl
    rw [hz] at this; exact this
  refine ⟨⟨_, he, rfl⟩, h _ he (Heap.get?_push_of_some _ (Heap.get?_push_size _ B.free)) (by rw [Heap.size_push, hz]) fun b o x => Heap.get?_push_of_some _ (Heap.get?_push_of_some _ x)⟩
end
def ItE (K : PySem.W.Frag) (S : Src) : It :=
  ⟨fun i H => ∃ (vs : List V) (x : V), S.At K H vs ∧ vs[i]? = some x, fun i H v H' => ∃ T x, v = .ref T ∧ H T = none ∧ H' = upd H T (.tup [.int (i : Nat), x]) ∧ ∀ vs, S.At K H vs → vs[i]? = some x, fun i H => ∃ vs : List V, S.At K H vs ∧ i = vs.length⟩
theorem turn_enumS {P : Program} {w : World} {K : PySem.W.Frag} {elts : List Expr} {kk : Nat} {tpos : Pos} (S : Src) (e it : Addr) :
    Turn P w K (.Tuple elts kk tpos) (ItE K S) [e, it] e (fun i h => (∃ old, IsEnum h e it ((i : Nat) : Int) old) ∧ S.it it i h ∧ e ≠ it ∧ ∀ a ∈ S.ads, a ≠ e ∧ a ≠ it) where
  mem := by simp
  obj := fun i h st b hb => by
    obtain ⟨⟨old, he⟩, hi, _⟩ := st
    have e' : b = e ∨ b = it := by simpa using hb
    rcases e' with z | z
    · rw [z]; exact ⟨_, he, fun v q => nomatch q⟩
    · rw [z]; exact hi.obj
  keep := fun i h h' st k => let ⟨⟨old, he⟩, hi, hne⟩ := st; ⟨⟨old, k e (by simp) _ he⟩, hi.keep fun o q => k it (by simp) o q, hne⟩
  item := by
    intro X hP hw hK hc i pins s σ H E I hf st hg
    subst hP hw hK
    obtain ⟨⟨old, he⟩, hit, hne, hap⟩ := st
    obtain ⟨vs, x, hq, hx⟩ := hg
    obtain ⟨PP, St, D, hP, hS1, hS2⟩ := src_draws (A := X.A.in1) (I.ok.hd hc) I hq (it := it) fun a ha => (hap a ha).2
    have hel : e < s.heap.objs.size := Heap.lt_size he
    have hil : it < s.heap.objs.size := by obtain ⟨_, q, _⟩ := hit.obj; exact Heap.lt_size q
    have hef : e ∉ it :: S.ads := fun hm => by
      rcases List.mem_cons.mp hm with z | z
      · exact hne z
      · exact (hap e z).1 rfl
    refine wpAny_pyNext_enum_itemC D he (hS2 i hit) (List.getElem?_eq_some_iff.mp hx).1 hne hef fun u h' tk hPu ho hit' hT hsz hk => ?_
    obtain ⟨x', hx', ru⟩ := hP i u hPu
    rw [hx] at hx'
    cases hx'
    refine ⟨_, rfl, wpAny_letOwnedTupleGo_enum (s := { s with heap := h', toks := tk + 1 }) ho fun h'' he' sb => ?_⟩
    have hT2 : h''.get? s.heap.objs.size = some { cls := .type "tuple", data := .seq #[.int i tk, u] } := (sb.2 _ (Nat.ne_of_gt hel)).trans hT
    have new : ObjOk X.prog X.w (upd H s.heap.objs.size (.tup [.int (i : Nat), x])) h'' s.heap.objs.size (.tup [.int (i : Nat), x]) :=
      ⟨by show 2 ≤ sizeLine; decide, [.int i tk, u], .cons ⟨_, rfl⟩ (.cons ru .nil), ⟨_, hT2, rfl, _, rfl⟩⟩
    have I1 : Inv X pins σ (upd H s.heap.objs.size (.tup [.int (i : Nat), x])) { s with heap := h'', toks := tk + 1 } :=
      I.turnedNew (ch := [e, it]) (fun b ob hb q => (sb.2 b (fun z => hb (by simp [z]))).trans (hk b ob (fun z => hb (by simp [z])) (fun z => hb (by simp [z])) q)) hf (Nat.le_refl _) new
    refine ⟨.ref s.heap.objs.size, _, I1, rfl, ⟨_, x, rfl, I.hok.fresh (Nat.le_refl _), rfl, fun ys hy => by rw [hy.inj I hq]; exact hx⟩, ⟨⟨u, ?_⟩, (hS1 _ _ hit').keep fun o q => (sb.2 it (Ne.symm hne)).trans q, hne, hap⟩, fun b hb => ?_⟩
    · have e1 : ((i + 1 : Nat) : Int) = (i : Int) + 1 := by omega
      rw [e1]; exact he'
    · have hb' : b < s.heap.objs.size := by
        have e' : b = e ∨ b = it := by simpa using hb
        rcases e' with z | z
        · rw [z]; exact hel
        · rw [z]; exact hil
      rw [upd_ne (Nat.ne_of_lt hb')]
      exact (hf b hb).1
  done := by
    intro X hP hw hK hc i pins s σ H E I hf st hg
    subst hP hw hK
    obtain ⟨⟨old, he⟩, hit, hne, hap⟩ := st
    obtain ⟨vs, hq, rfl⟩ := hg
    obtain ⟨PP, St, D, hP, hS1, hS2⟩ := src_draws (A := X.A.in1) (I.ok.hd hc) I hq (it := it) fun a ha => (hap a ha).2
    obtain ⟨f0, f1, f2, f3, f4, f5⟩ := hf it (by simp)
    exact wpAny_pyNext_enum_endD D he (hS2 _ hit) fun h' eb => ⟨rfl, I.turned (t' := s.toks) (fun b o hb q => eb b o hb q) f0 f1 f3 f4 f5⟩
  self := fun A i s Q E st h => let ⟨⟨_, he⟩, _⟩ := st; wpAny_pyIter_enum he h
theorem enumL_get : ∀ (ds : List D) (k i : Nat), (enumL k ds)[i]? = (ds[i]?).map fun d => D.tup [.int ((k + i : Nat) : Int), d]
  | [], _, _ => by simp [enumL]
  | x :: r, k, 0 => by simp [enumL]
  | x :: r, k, i + 1 => by
    simp only [enumL, List.getElem?_cons_succ]
    rw [enumL_get r (k + 1) i]
    have : k + 1 + i = k + (i + 1) := by omega
    rw [this]
theorem enumL_len : ∀ (ds : List D) (k : Nat), (enumL k ds).length = ds.length
  | [], _ => rfl
  | x :: r, k => by simp [enumL, enumL_len r]
theorem gives_enum {K : PySem.W.Frag} {F : Hp} {S : Src} {vs : List V} {ds : List D} (h : S.At K F vs) (r : Rps K F vs ds) : Gives K F (ItE K S) (enumL 0 ds) := by
  intro i H M s1 s2
  have s12 := s1.trans s2
  refine ⟨fun d hd => ?_, fun hl => ⟨vs, h.mono s12, by rw [r.length, hl, enumL_len]⟩⟩
  rw [enumL_get, Option.map_eq_some_iff] at hd
  obtain ⟨dd, hdd, rfl⟩ := hd
  obtain ⟨v, hv, rv⟩ := r.get hdd
  refine ⟨⟨vs, v, h.mono s12, hv⟩, fun x H' ⟨T, y, e1, hT, e2, q⟩ => ?_⟩
  subst e1
  subst e2
  have hx := q vs (h.mono s12)
  rw [hv] at hx
  cases hx
  have n := Nx.newS (o := .tup [.int (i : Nat), v]) s2 hT
  refine ⟨_, n, .tup (SqT.of upd_same) (.cons ?_ (.cons ((rv.mono s1).mono n.ff) .nil))⟩
  rw [Nat.zero_add]
  exact .int _
section
variable {X : Cx} {ca : Nat → Addr} {cl : Nat → List Xv → R W} {Wx : WX} {tg e e1 e2 : Expr} {a b : CE} {p p1 pos pos' p' : Pos} {k : Nat}
/-- what an expression yields that is walked -/
theorem walked {α : Type} {f : W → Option α} {g : List D → α → Prop} (hf : ∀ wv z, f wv = some z → ∃ ds, valI wv = some ds ∧ g ds z) {σ : L2.St} {H F : Hp} {ρ : Q7.Env} (sr : SR X.prog X.w X.K σ H F ρ) {Q : α → Hp → Hp → Prop}
    (q : tR (Gx X ca cl) Wx σ H F (ev cl ρ a >>= fun wv => R.of (f wv)) Q) :
    tEX X ca cl Wx a σ H (fun v H1 => ∃ F1 d ds z, Nx H F H1 F1 ∧ Rp X.K F1 v d ∧ items d = some ds ∧ g ds z ∧ Q z H1 F1) := by
  refine ⟨ρ, F, sr, q.bind fun wv H1 F1 e1 n q1 v hv => ?_⟩
  cases e2 : f wv with
  | none => rw [e2] at q1; exact q1.elim
  | some z =>
    obtain ⟨ds, hv1, hg⟩ := hf wv z e2
    obtain ⟨d, h1, h2, h3⟩ := valI_get hv1
    obtain ⟨F2, n2, r⟩ := hv.keep n h2
    rw [h1] at r
    have q2 : tR (Gx X ca cl) Wx σ H F (R.of (f wv)) Q := by
      have := q
      rw [e1] at this
      exact this
    rw [e2] at q2
    exact ⟨F2, d, ds, z, n2, r, h3, hg, q2 H1 F2 n2⟩
theorem s_enum {es : List Expr} (hc : X.calm = true) (hg : Gl X "enumerate") (hm : X.mg "enumerate" = none) (hs : isStar e1 = false) (ha : PE X e1 (tEX X ca cl Wx a)) : PI X (.Tuple es k p1) (.Call (.Name "enumerate" p) [e1] [] pos) (tIX X ca cl Wx (.enum a)) := by
  refine ⟨fun pins s σ H R0 I h => ?_⟩
  obtain ⟨ρ, F, sr, q⟩ := h
  rw [evi] at q
  have h2 := walked (a := a) (f := enumI) (g := fun ds z => z = enumL 0 ds) (fun wv z h => by
    simp only [enumI, Option.bind_eq_bind, Option.bind_eq_some_iff, Option.some.injEq] at h
    obtain ⟨x, h1, xs, h2, h3⟩ := h
    exact ⟨xs, by simp only [valI, Option.bind_eq_bind, Option.bind_eq_some_iff]; exact ⟨x, h1, h2⟩, h3.symm⟩) sr q
  refine Call_ (ld_blt I hg hm boot_enumerate (PyProof.Rows.callWith_type1 (PyProof.Rows.args_cons (thn (ha.run pins s σ H _ I h2) fun u s1 ⟨v, H1, I1, r1, F1, d, ds, z, n, r, e, ez, q⟩ => PyProof.Rows.args_nil ?_) (star_plain hs)) (star_plain hs) rfl))
  subst ez
  obtain ⟨S, vs, o, Hh, hS, hr, hB, hh, hit, hlt⟩ := src_begin I1 n.fh r1 r e
  refine enum_begins1 hB hh fun h' he hob hsz hk => wpAny_pyIter_enum he ?_
  have I2 : Inv X pins σ H1 { s1 with heap := h' } := I1.kept (t' := s1.toks) hk
  refine ⟨s1.heap.objs.size + 1, [s1.heap.objs.size + 1, s1.heap.objs.size], _, _, H1, rfl, I2, turn_enumS S (s1.heap.objs.size + 1) s1.heap.objs.size, ⟨⟨.none, he⟩, hit _ _ hob, Nat.succ_ne_self _, fun a ha => ?_⟩, fun b hb => ?_, q _ (gives_enum hS hr)⟩
  · have := hlt a ha
    exact ⟨Nat.ne_of_lt (Nat.lt_succ_of_lt this), Nat.ne_of_lt this⟩
  · have e' : b = s1.heap.objs.size + 1 ∨ b = s1.heap.objs.size := by simpa using hb
    have hle : s1.heap.objs.size ≤ b := by
      rcases e' with z | z
      · rw [z]; exact Nat.le_add_right _ _
      · rw [z]; exact Nat.le_refl _
    exact I1.fpOk hle (I1.hok.fresh hle)
end
/-! ### zip -/
def ItZ (K : PySem.W.Frag) (S1 S2 : Src) : It :=
  ⟨fun i H => ∃ (vs us : List V) (x y : V), S1.At K H vs ∧ S2.At K H us ∧ vs[i]? = some x ∧ us[i]? = some y,
    fun i H v H' => ∃ T x y, v = .ref T ∧ H T = none ∧ H' = upd H T (.tup [x, y]) ∧ (∀ vs, S1.At K H vs → vs[i]? = some x) ∧ ∀ us, S2.At K H us → us[i]? = some y,
    fun i H => ∃ vs us : List V, S1.At K H vs ∧ S2.At K H us ∧ i = min vs.length us.length⟩
theorem turn_zipS {P : Program} {w : World} {K : PySem.W.Frag} {elts : List Expr} {kk : Nat} {tpos : Pos} {S1 S2 : Src} {z TI TO i1 i2 : Addr} (D : ZipSep2 z TI TO i1 i2 (i1 :: S1.ads) (i2 :: S2.ads)) (n1 : ∀ a ∈ S1.ads, a ≠ i1) (n2 : ∀ a ∈ S2.ads, a ≠ i2) :
    Turn P w K (.Tuple elts kk tpos) (ItZ K S1 S2) [z, TI, TO, i1, i2] z (fun i h => IsZip h z TI TO .none ∧ IsTupOf2 h TI (.ref i1) (.ref i2) ∧ (∃ x y, IsTupOf2 h TO x y) ∧ S1.it i1 i h ∧ S2.it i2 i h) where
  mem := by simp
  obj := fun i h st c hc => by
    obtain ⟨hz, hTI, ⟨x, y, hTO⟩, h1, h2⟩ := st
    have e' : c = z ∨ c = TI ∨ c = TO ∨ c = i1 ∨ c = i2 := by simpa using hc
    rcases e' with q | q | q | q | q
    · rw [q]; exact ⟨_, hz, fun v q => nomatch q⟩
    · rw [q]; exact ⟨_, hTI, fun v q => nomatch q⟩
    · rw [q]; exact ⟨_, hTO, fun v q => nomatch q⟩
    · rw [q]; exact h1.obj
    · rw [q]; exact h2.obj
  keep := fun i h h' st k => by
    obtain ⟨hz, hTI, ⟨x, y, hTO⟩, h1, h2⟩ := st
    exact ⟨k z (by simp) _ hz, k TI (by simp) _ hTI, ⟨x, y, k TO (by simp) _ hTO⟩, h1.keep fun o q => k i1 (by simp) o q, h2.keep fun o q => k i2 (by simp) o q⟩
  item := by
    intro X hP hw hK hc i pins s σ H E I hf st hg
    subst hP hw hK
    obtain ⟨hz, hTI, ⟨x0, y0, hTO⟩, h1, h2⟩ := st
    obtain ⟨vs, us, x, y, hqx, hqy, hx, hy⟩ := hg
    obtain ⟨P1, St1, D1, hP1, hS1, hT1⟩ := src_draws (A := X.A.in1) (I.ok.hd hc) I hqx (it := i1) n1
    obtain ⟨P2, St2, D2, hP2, hS2, hT2⟩ := src_draws (A := X.A.in1) (I.ok.hd hc) I hqy (it := i2) n2
    have hzl : z < s.heap.objs.size := Heap.lt_size hz
    refine wpAny_pyNext_zipD2_item D D1 D2 hz hTI hTO (hT1 i h1) (hT2 i h2) (List.getElem?_eq_some_iff.mp hx).1 (List.getElem?_eq_some_iff.mp hy).1 fun u u2 h' tk p1 p2 z' TO' h1' h2' hT hsz hk => ?_
    obtain ⟨x', hx', ru⟩ := hP1 i u p1
    rw [hx] at hx'
    cases hx'
    obtain ⟨y', hy', ru2⟩ := hP2 i u2 p2
    rw [hy] at hy'
    cases hy'
    refine ⟨_, rfl, wpAny_letOwnedTupleGo_zip (s := { s with heap := h', toks := tk }) z' fun h'' z'' sb => ?_⟩
    have hT2 : h''.get? s.heap.objs.size = some { cls := .type "tuple", data := .seq #[u, u2] } := (sb.2 _ (Nat.ne_of_gt hzl)).trans hT
    have new : ObjOk X.prog X.w (upd H s.heap.objs.size (.tup [x, y])) h'' s.heap.objs.size (.tup [x, y]) :=
      ⟨by show 2 ≤ sizeLine; decide, [u, u2], .cons ru (.cons ru2 .nil), ⟨_, hT2, rfl, _, rfl⟩⟩
    have I1 : Inv X pins σ (upd H s.heap.objs.size (.tup [x, y])) { s with heap := h'', toks := tk } :=
      I.turnedNew (ch := [z, TI, TO, i1, i2]) (fun c o hb q => (sb.2 c (fun q' => hb (by simp [q']))).trans (hk c o (fun q' => hb (by simp [q'])) (fun q' => hb (by simp [q'])) (fun q' => hb (by simp [q'])) (fun q' => hb (by simp [q'])) q)) hf (Nat.le_refl _) new
    refine ⟨.ref s.heap.objs.size, _, I1, rfl, ⟨_, x, y, rfl, I.hok.fresh (Nat.le_refl _), rfl, fun l hl => by rw [hl.inj I hqx]; exact hx, fun l hl => by rw [hl.inj I hqy]; exact hy⟩, ⟨z'', ?_, ⟨u, u2, ?_⟩, ?_, ?_⟩, fun c hcm => ?_⟩
    · exact (sb.2 _ D.TIz).trans (hk _ _ D.TIz D.TITO D.TIi1 D.TIi2 hTI)
    · exact (sb.2 _ D.TOz).trans TO'
    · exact (hS1 _ _ h1').keep fun o q => (sb.2 _ D.zi1.symm).trans q
    · exact (hS2 _ _ h2').keep fun o q => (sb.2 _ D.zi2.symm).trans q
    · have hlt : c < s.heap.objs.size := by
        have e' : c = z ∨ c = TI ∨ c = TO ∨ c = i1 ∨ c = i2 := by simpa using hcm
        rcases e' with q | q | q | q | q
        · rw [q]; exact hzl
        · rw [q]; exact Heap.lt_size hTI
        · rw [q]; exact Heap.lt_size hTO
        · rw [q]; obtain ⟨_, e1, _⟩ := h1.obj; exact Heap.lt_size e1
        · rw [q]; obtain ⟨_, e2, _⟩ := h2.obj; exact Heap.lt_size e2
      rw [upd_ne (Nat.ne_of_lt hlt)]
      exact (hf c hcm).1
  done := by
    intro X hP hw hK hc i pins s σ H E I hf st hg
    subst hP hw hK
    obtain ⟨hz, hTI, ⟨x0, y0, hTO⟩, h1, h2⟩ := st
    obtain ⟨vs, us, hqx, hqy, hend⟩ := hg
    obtain ⟨P1, St1, D1, hP1, hS1, hT1⟩ := src_draws (A := X.A.in1) (I.ok.hd hc) I hqx (it := i1) n1
    obtain ⟨P2, St2, D2, hP2, hS2, hT2⟩ := src_draws (A := X.A.in1) (I.ok.hd hc) I hqy (it := i2) n2
    exact wpAny_pyNext_zipD2_end D D1 D2 hz hTI hTO (hT1 i h1) (hT2 i h2) (by omega) (by omega) (by omega) fun h' tk hk => ⟨rfl, I.turnedL (ch := [z, TI, TO, i1, i2]) (fun c o hb q =>
      hk c o (fun q' => hb (by simp [q'])) (fun q' => hb (by simp [q'])) (fun q' => hb (by simp [q'])) (fun q' => hb (by simp [q'])) q) hf⟩
  self := fun A i s Q E st h => wpAny_pyIter_zip st.1 h
theorem zipL_get : ∀ (ds es : List D) (i : Nat) (d : D), (zipL ds es)[i]? = some d → ∃ a b, ds[i]? = some a ∧ es[i]? = some b ∧ d = .tup [a, b]
  | [], _, _, _, h => by simp [zipL] at h
  | _ :: _, [], _, _, h => by simp [zipL] at h
  | x :: r, y :: t, 0, d, h => by
    simp only [zipL, List.getElem?_cons_zero, Option.some.injEq] at h
    exact ⟨x, y, rfl, rfl, h.symm⟩
  | x :: r, y :: t, i + 1, d, h => by
    simp only [zipL, List.getElem?_cons_succ] at h ⊢
    exact zipL_get r t i d h
theorem zipL_len : ∀ (ds es : List D), (zipL ds es).length = min ds.length es.length
  | [], _ => by simp [zipL]
  | _ :: _, [] => by simp [zipL]
  | x :: r, y :: t => by simp only [zipL, List.length_cons, zipL_len r t]; omega
theorem gives_zip {K : PySem.W.Frag} {F : Hp} {S1 S2 : Src} {vs us : List V} {ds es : List D} (h1 : S1.At K F vs) (r1 : Rps K F vs ds) (h2 : S2.At K F us) (r2 : Rps K F us es) : Gives K F (ItZ K S1 S2) (zipL ds es) := by
  intro i H M s1 s2
  have s12 := s1.trans s2
  refine ⟨fun d hd => ?_, fun hl => ⟨vs, us, h1.mono s12, h2.mono s12, by rw [r1.length, r2.length, hl, zipL_len]⟩⟩
  obtain ⟨a, b, ha, hb, rfl⟩ := zipL_get _ _ _ _ hd
  obtain ⟨v, hv, rv⟩ := r1.get ha
  obtain ⟨u, hu, ru⟩ := r2.get hb
  refine ⟨⟨vs, us, v, u, h1.mono s12, h2.mono s12, hv, hu⟩, fun x H' ⟨T, y, y', e1, hT, e2, q, q'⟩ => ?_⟩
  subst e1
  subst e2
  have hx := q vs (h1.mono s12)
  rw [hv] at hx
  cases hx
  have hx := q' us (h2.mono s12)
  rw [hu] at hx
  cases hx
  have n := Nx.newS (o := .tup [v, u]) s2 hT
  exact ⟨_, n, .tup (SqT.of upd_same) (.cons ((rv.mono s1).mono n.ff) (.cons ((ru.mono s1).mono n.ff) .nil))⟩
section
variable {X : Cx} {ca : Nat → Addr} {cl : Nat → List Xv → R W} {Wx : WX} {tg e e1 e2 : Expr} {a b : CE} {p p1 pos pos' p' : Pos} {k : Nat}
theorem zip_made {pins : List (Addr × Obj)} {σ : L2.St} {H F : Hp} {s : Shared} {v1 v2 : V} {u1 u2 : Value} {d1 d2 : D} {ds1 ds2 : List D} {Q : Value → Shared → Prop} {E : Value → Shared → Prop} {A : Around} (I : Inv X pins σ H s) (sF : Sub F H) (ru1 : RelV v1 u1) (ru2 : RelV v2 u2) (r1 : Rp X.K F v1 d1) (r2 : Rp X.K F v2 d2) (e1 : items d1 = some ds1) (e2 : items d2 = some ds2)
    (h : ∀ (z TI TO i1 i2 : Addr) (S1 S2 : Src) h', ZipSep2 z TI TO i1 i2 (i1 :: S1.ads) (i2 :: S2.ads) → (∀ a ∈ S1.ads, a ≠ i1) → (∀ a ∈ S2.ads, a ≠ i2) → IsZip h' z TI TO .none → IsTupOf2 h' TI (.ref i1) (.ref i2) → (∃ x y, IsTupOf2 h' TO x y) → S1.it i1 0 h' → S2.it i2 0 h' →
      (∀ b o, s.heap.get? b = some o → h'.get? b = some o) → (∀ c ∈ [z, TI, TO, i1, i2], s.heap.objs.size ≤ c) → Gives X.K F (ItZ X.K S1 S2) (zipL ds1 ds2) → Q (.ref z) { s with heap := h' }) :
    wpAny (model X.prog X.w) A (call (.type "zip") [u1, u2]) Q E s := by
  obtain ⟨S1, vs1, o1, H1, hS1, hr1, hB1, hh1, hit1, hlt1⟩ := src_begin I sF ru1 r1 e1
  obtain ⟨S2, vs2, o2, H2, hS2, hr2, hB2, hh2, hit2, hlt2⟩ := src_begin I sF ru2 r2 e2
  refine zip_begins2 hB1 hB2 hh1 hh2 fun h' hz hTI hTO hg1 hg2 hsz hk => ?_
  refine h _ _ _ _ _ S1 S2 h' (zip_sep2 hlt1 hlt2) (fun a ha => Nat.ne_of_lt (hlt1 a ha)) (fun a ha => Nat.ne_of_lt (Nat.lt_succ_of_lt (hlt2 a ha))) hz hTI ⟨_, _, hTO⟩ (hit1 _ _ hg1) (hit2 _ _ hg2) hk (fun c hcm => ?_) (gives_zip hS1 hr1 hS2 hr2)
  have e' : c = s.heap.objs.size + 4 ∨ c = s.heap.objs.size + 2 ∨ c = s.heap.objs.size + 3 ∨ c = s.heap.objs.size ∨ c = s.heap.objs.size + 1 := by simpa using hcm
  rcases e' with z | z | z | z | z
  · rw [z]; exact Nat.le_add_right _ _
  · rw [z]; exact Nat.le_add_right _ _
  · rw [z]; exact Nat.le_add_right _ _
  · rw [z]; exact Nat.le_refl _
  · rw [z]; exact Nat.le_add_right _ _
theorem zip_args {α : Type} {f : W → W → Option α} {g : List D → α → Prop} (hf : ∀ w1 w2 z, f w1 w2 = some z → ∃ xs ys, valI w1 = some xs ∧ valI w2 = some ys ∧ g (zipL xs ys) z) {σ : L2.St} {H F : Hp} {ρ : Q7.Env} (sr : SR X.prog X.w X.K σ H F ρ) {Q : α → Hp → Hp → Prop}
    (q : tR (Gx X ca cl) Wx σ H F (ev cl ρ a >>= fun x => ev cl ρ b >>= fun y => R.of (f x y)) Q) :
    tEX X ca cl Wx a σ H (fun v H1 => tEX X ca cl Wx b σ H1 fun u H2 => ∃ F2 d1 d2 xs ys z, Sub F2 H2 ∧ Rp X.K F2 v d1 ∧ Rp X.K F2 u d2 ∧ items d1 = some xs ∧ items d2 = some ys ∧ g (zipL xs ys) z ∧ Q z H2 F2) := by
  refine ⟨ρ, F, sr, q.bind fun w1 H1 F1 e1 n q1 v hv => ?_⟩
  cases eb : ev cl ρ b with
  | stuck => rw [eb] at q1; exact q1.elim
  | exc c =>
    refine ⟨ρ, F1, sr.step n, ?_⟩
    show tR (Gx X ca cl) Wx σ H1 F1 (ev cl ρ b) _
    rw [eb] at q1 ⊢
    exact q1
  | ok w2 =>
    cases ef : f w1 w2 with
    | none =>
      rw [eb] at q1
      have q1 : tR (Gx X ca cl) Wx σ H1 F1 (R.of (f w1 w2)) Q := q1
      rw [ef] at q1
      exact q1.elim
    | some z =>
      obtain ⟨xs, ys, hv1, hv2, hg⟩ := hf _ _ _ ef
      obtain ⟨d1, h1, h2, h3⟩ := valI_get hv1
      obtain ⟨F1', n', r1⟩ := hv.keep n h2
      rw [h1] at r1
      have q' : tR (Gx X ca cl) Wx σ H F (ev cl ρ b >>= fun y => R.of (f w1 y)) Q := by
        have := q
        rw [e1] at this
        exact this
      have q1' := q'.step n'
      refine ⟨ρ, F1', sr.step n', q1'.bind fun w2' H2 F2 e2 n2 q2 u hu => ?_⟩
      have ew : w2' = w2 := by
        have e2 : ev cl ρ b = .ok w2' := e2
        rw [eb] at e2
        cases e2
        rfl
      subst ew
      obtain ⟨d2, k1, k2, k3⟩ := valI_get hv2
      obtain ⟨F2', n2', r2⟩ := hu.keep n2 k2
      rw [k1] at r2
      have q3 : tR (Gx X ca cl) Wx σ H1 F1' (R.of (f w1 w2')) Q := by
        have := q1'
        rw [eb] at this
        exact this
      rw [ef] at q3
      exact ⟨F2', d1, d2, xs, ys, z, n2'.fh, Rp.mono n2'.ff r1, r2, h3, k3, hg, q3 H2 F2' n2'⟩
theorem s_zip {es : List Expr} (hc : X.calm = true) (hg : Gl X "zip") (hm : X.mg "zip" = none) (hs : isStar e1 = false) (hs2 : isStar e2 = false) (ha : PE X e1 (tEX X ca cl Wx a)) (hb : PE X e2 (tEX X ca cl Wx b)) :
    PI X (.Tuple es k p1) (.Call (.Name "zip" p) [e1, e2] [] pos) (tIX X ca cl Wx (.zip a b)) := by
  refine ⟨fun pins s σ H R0 I h => ?_⟩
  obtain ⟨ρ, F, sr, q⟩ := h
  rw [evi] at q
  have h2 := zip_args (a := a) (b := b) (f := zipI) (g := fun l z => z = l) (fun w1 w2 z h => by
    simp only [zipI, Option.bind_eq_bind, Option.bind_eq_some_iff, Option.some.injEq] at h
    obtain ⟨x, h1, xs, h2, y, h3, ys, h4, h5⟩ := h
    exact ⟨xs, ys, by simp only [valI, Option.bind_eq_bind, Option.bind_eq_some_iff]; exact ⟨x, h1, h2⟩, by simp only [valI, Option.bind_eq_bind, Option.bind_eq_some_iff]; exact ⟨y, h3, h4⟩, h5.symm⟩) sr q
  refine Call_ (ld_blt I hg hm PyProof.Rows.boot_zip (PyProof.Rows.callWith_type1 (PyProof.Rows.args_cons (thn (ha.run pins s σ H _ I h2) fun u s1 ⟨v, H1, I1, r1, h3⟩ => PyProof.Rows.args_cons (thn (hb.run pins s1 σ H1 _ I1 h3) fun u2 s2 ⟨v2, H2, I2, r2, F2, d1, d2, xs, ys, z, sF, p1, p2, e1, e2, ez, q⟩ => PyProof.Rows.args_nil ?_) (star_plain hs2)) (star_plain hs)) (star_plain hs) (by rw [star_plain hs2]; rfl)))
  subst ez
  refine zip_made I2 sF (r1) r2 p1 p2 e1 e2 fun z TI TO i1 i2 S1 S2 h' D n1 n2 hz hTI hTO h1 h2 hk hle gv => wpAny_pyIter_zip hz ?_
  have I3 : Inv X pins σ H2 { s2 with heap := h' } := I2.kept (t' := s2.toks) hk
  exact ⟨z, [z, TI, TO, i1, i2], _, _, H2, rfl, I3, turn_zipS D n1 n2, ⟨hz, hTI, hTO, h1, h2⟩, fun c hc => I2.fpOk (hle c hc) (I2.hok.fresh (hle c hc)), q _ gv⟩
end
end Q7
end

section
set_option autoImplicit false
set_option Elab.async false
set_option linter.all false
set_option maxRecDepth 100000
/-! Forms that the interpreter does not run (yet); xs.index(x). -/
namespace Q7
open PySem PySem.Spec PyProof.Rows L2
section
variable {X : Cx} {ca : Nat → Addr} {cl : Nat → List Xv → R W} {Wx : WX} {pos pos' p p' p1 p2 p3 cpos apos : Pos} {e a b c d : CE} {e1 e2 e3 : Expr} {name : Str} {k : Nat}
theorem pe_stuck {e : Expr} {c : CE} (h : ∀ ρ, ev cl ρ c = .stuck) : PE X e (tEX X ca cl Wx c) := by
  refine ⟨fun pins s σ H Q I ⟨ρ, F, sr, q⟩ => ?_⟩
  have q : tR (Gx X ca cl) Wx σ H F (ev cl ρ c) _ := q
  rw [h ρ] at q
  exact q.elim
theorem s_rev (ha : PE X e1 (tEX X ca cl Wx a)) : PE X (.Subscript e1 (.Slice none none (some (.UnaryOp .USub (.Constant (.int 1) k p1) p2)) p3) pos) (tEX X ca cl Wx (.rev a)) := pe_stuck fun ρ => by rw [ev]
theorem me_strip : MtR X "str.strip" (fun x xs H Q => ∃ y, xs = [y] ∧ r2 X.prog X.w X.K stripW x y H Q) := by
  intro pins s σ H x xs v us Q I rx rs ⟨y, e, F, w1, w2, sF, h1, h2, ok⟩
  exact ok.elim
theorem s_get (hu : X.A.units + 66 < cLine) (m : L2.M2 X e1 "get" apos e2 e3 cpos) (ha : PE X e1 (tEX X ca cl Wx a)) (hb : PE X e2 (tEX X ca cl Wx b)) (hc : PE X e3 (tEX X ca cl Wx c)) : PE X (.Call (.Attribute e1 "get" apos) [e2, e3] [] cpos) (tEX X ca cl Wx (.get a b c)) := pe_stuck fun ρ => by rw [ev]
theorem s_replace (m : L2.M2 X e1 "replace" apos e2 e3 cpos) (ha : PE X e1 (tEX X ca cl Wx a)) (hb : PE X e2 (tEX X ca cl Wx b)) (hc : PE X e3 (tEX X ca cl Wx c)) : PE X (.Call (.Attribute e1 "replace" apos) [e2, e3] [] cpos) (tEX X ca cl Wx (.replace a b c)) := pe_stuck fun ρ => by rw [ev]
/-- the pairs of a display -/
inductive PKV (X : Cx) (ca : Nat → Addr) (cl : Nat → List Xv → R W) (Wx : WX) : List (Option Expr) → List Expr → CEs → Prop
  | nil : PKV X ca cl Wx [] [] .nil
  | cons {k v : Expr} {ks : List (Option Expr)} {vs : List Expr} {a b : CE} {r : CEs} : PE X k (tEX X ca cl Wx a) → PE X v (tEX X ca cl Wx b) → PKV X ca cl Wx ks vs r → PKV X ca cl Wx (some k :: ks) (v :: vs) (.cons a (.cons b r))
theorem s_dict {ks : List (Option Expr)} {vs : List Expr} {r : CEs} (hu : X.A.units + 66 < cLine) (h : PKV X ca cl Wx ks vs r) (h0 : ks ≠ []) : PE X (.Dict ks vs pos) (tEX X ca cl Wx (.dict r)) := pe_stuck fun ρ => by rw [ev]
theorem s_dictof (hu : X.A.units + 66 < cLine) (hc : X.calm = true) (hg : Gl X "dict") (hm : X.mg "dict" = none) (hs : isStar e1 = false) (ha : PE X e1 (tEX X ca cl Wx a)) : PE X (.Call (.Name "dict" p) [e1] [] pos) (tEX X ca cl Wx (.dictof a)) := pe_stuck fun ρ => by rw [ev]
theorem s_listzip (hc : X.calm = true) (hg : Gl X "list") (hm : X.mg "list" = none) (hg2 : Gl X "zip") (hm2 : X.mg "zip" = none) (hs : isStar e1 = false) (hs2 : isStar e2 = false) (ha : PE X e1 (tEX X ca cl Wx a)) (hb : PE X e2 (tEX X ca cl Wx b)) :
    PE X (.Call (.Name "list" p) [.Call (.Name "zip" p') [e1, e2] [] pos'] [] pos) (tEX X ca cl Wx (.listzip a b)) := pe_stuck fun ρ => by rw [ev]
theorem findD_get (d : D) : ∀ (xs : List D) (k i : Nat), findD d xs k = some i → ∃ j z, i = k + j ∧ xs[j]? = some z ∧ eqv z d = true ∧ ∀ m z', m < j → xs[m]? = some z' → eqv z' d = false
  | [], _, _, h => by simp [findD] at h
  | x :: r, k, i, h => by
    unfold findD at h
    split at h
    · rename_i e
      cases h
      exact ⟨0, x, rfl, rfl, e, fun m z' hm => by omega⟩
    · rename_i e
      obtain ⟨j, z, e1, h1, h2, h3⟩ := findD_get d r (k + 1) i h
      refine ⟨j + 1, z, by omega, by simpa using h1, h2, fun m z' hm hz => ?_⟩
      cases m with
      | zero =>
        simp at hz
        subst hz
        simpa using e
      | succ m => exact h3 m z' (by omega) (by simpa using hz)
theorem me_index (hu : X.A.units + 66 < cLine) : Meth1 X "index" W.seqO indexW := by
  intro pins s σ H F x v w1 I r sF rd hc
  obtain ⟨k1, x1⟩ := w1
  cases x1 with
  | m ks vs => simp [W.seqO] at hc
  | d d1 =>
    cases d1 <;> simp [W.seqO] at hc
    case str t =>
      obtain ⟨rfl, o⟩ := Rdx.isStr rd
      obtain ⟨tk, rfl⟩ := r
      refine ⟨"str", "str.index", PySem.F.plainAttrs_str, PySem.F.slot_str_index, PySem.F.type_str_index, typeIs_str s _ tk, (fun _ e => nomatch e), fun s' H' F' y u w2 Q I' ry sF' rd1 rd2 ok => ?_⟩
      obtain ⟨wv, e, q⟩ := ok.get
      simp only [indexW, Option.bind_eq_bind, Option.bind_eq_some_iff] at e
      obtain ⟨d1, e1, d2, e2, z, e3, e4⟩ := e
      cases e1
      simp [indexOf] at e3
    case lst ds =>
      obtain ⟨a, vs, rfl, g1, g2⟩ := Rdx.isLst rd sF
      cases r
      obtain ⟨its, rv, ⟨o0, n0, ho0, hc0, hdn0, hdt0⟩, hz⟩ := I.list g1
      refine ⟨"list", "list.index", PySem.F.plainAttrs_list, PySem.F.slot_list_index, PySem.F.type_list_index, ⟨_, ho0, hc0⟩, (fun b e => by cases e; exact ⟨o0, ho0, hdn0⟩), fun s' H' F' y u w2 Q I' ry sF' rd1 rd2 ok => ?_⟩
      obtain ⟨wv, e, q⟩ := ok.get
      simp only [indexW, Option.bind_eq_bind, Option.bind_eq_some_iff, Option.some.injEq] at e
      obtain ⟨d1, e1, d, e2, z, e3, e4⟩ := e
      cases e1
      subst e4
      rw [dat_get e2] at rd2
      simp only [indexOf] at e3
      split at e3
      · rename_i hdep
        rw [decide_eq_true_eq] at hdep
        cases hfi : findD d ds 0 with
        | none => rw [hfi] at e3; cases e3
        | some i =>
          rw [hfi] at e3
          cases e3
          obtain ⟨j, z, ej, h1, h2, h3⟩ := findD_get d ds 0 i hfi
          have ej : j = i := by omega
          subst ej
          obtain ⟨a', vs', ea, g1, g2⟩ := Rdx.isLst rd1 sF'
          cases ea
          obtain ⟨its, rv, ⟨⟨cls, dd, data, sls⟩, n, ho, hc, hdn, hdt⟩, hlen⟩ := I'.list g1
          simp only at hc hdt
          subst hc hdt
          have py : Rp X.K H' y d := rd2.rp sF'
          obtain ⟨bs, r1⟩ := Dp.reads I' _ y u py.dp ry
          obtain ⟨as, h4⟩ := Dp.readsAll I' _ _ its (g2.mono sF').dp rv
          have hxs : PyData.canLayAll0 (toPys ds) = true := g2.lay
          have hmap : its.map (SeqAt.readOf s'.heap) = toPys ds := SeqAt.readsAll_map _ its as hxs h4
          have hn : its.length = ds.length := by rw [← rv.length, g2.length]
          have hjd : j < ds.length := (List.getElem?_eq_some_iff.mp h1).1
          have hjl : j < its.length := by omega
          have hj : j < its.toArray.size := by simpa using hjl
          have hsl := sizeLine_eq
          have hvl := rv.length
          have at_ : ∀ (m : Nat) (hm : m < its.toArray.size) (z' : D), ds[m]? = some z' → SeqAt.readOf s'.heap its.toArray[m] = toPy z' := by
            intro m hm z' hz'
            have hml : m < its.length := by simpa using hm
            have hz2 : (toPys ds)[m]? = some (toPy z') := by rw [toPys_map, List.getElem?_map, hz']; rfl
            rw [← hmap, List.getElem?_map, List.getElem?_eq_getElem hml] at hz2
            have e1 : SeqAt.readOf s'.heap its[m] = toPy z' := Option.some.inj hz2
            simpa using e1
          refine call_meets PySem.F.slot_list_index ⟨_, ho, rfl⟩ PySem.F.entry_list_index (PySem.F.args_list_index_2 _ _)
            (SeqAt.list_indexAt a its.toArray n dd sls u (fun u => PyData.eqv (SeqAt.readOf s'.heap u) (toPy d)) j hj (by omega) ?_ ?_) ⟨ho, SeqAt.items_eqAt (vs := its.toArray) (show ReadsAll s'.heap its.toArray.toList (toPys ds) as from h4) r1 hxs py.lay (by rw [depths_py, depth_py]; omega), ?_⟩
          · show PyData.eqv (SeqAt.readOf s'.heap its.toArray[j]) (toPy d) = true
            rw [at_ j hj z h1, eqv_py]
            exact h2
          · intro m hm hmj
            have hmd : m < ds.length := by omega
            show PyData.eqv (SeqAt.readOf s'.heap its.toArray[m]) (toPy d) = false
            rw [at_ m hm _ (List.getElem?_eq_getElem hmd), eqv_py]
            exact h3 m _ hmj (List.getElem?_eq_getElem hmd)
          · exact ⟨.int (j : Nat), H', I'.tok _, ⟨_, rfl⟩, fin_sh q sF' (.int _)⟩
      · cases e3
end
end Q7
end

section
set_option autoImplicit false
set_option Elab.async false
set_option linter.all false
set_option maxRecDepth 100000
/-! The whole language, by the translation. -/
namespace Q7
open PySem PySem.Spec PyProof.Rows L2

/-- a context where the text's functions, classes and constants stand -/
structure Cok (C : PC) (ca : Nat → Addr) (cl : Nat → List Xv → R W) (k : Nat) (X : Cx) (S : SC) : Prop where
  nd : X.N.Nodup
  hN : X.N = S.N
  sc : X.env.scope = S.sc
  fn : ∀ x, S.fn x = true → X.fn x = true
  calm : X.calm = true
  room : Room k X.A
  kind : S.sc.kind = .function
  blt : ∀ x ∈ bltNames, X.mg x = none
  fns : ∀ f i, C.fns.lookup f = some i → ∃ fa fd ps, FnOk X.prog X.w X.K X.mg X.base (L2.CX X.prog X.w) k fa fd ps (spF X.prog X.w X.K ca cl i) ∧ X.mg f = some (.ref fa) ∧ PySem.W.keepIn X.K (.ref fa) = true ∧ Binds X.K fd ps []
  cons : ∀ x d, C.cons.lookup x = some d → ∃ v u, X.mg x = some u ∧ RelV v u ∧ ∀ F, Rp X.K F v d
section
variable {C : PC} {ca : Nat → Addr} {cl : Nat → List Xv → R W} {k : Nat} {X : Cx} {S : SC}
theorem Cok.un (h : Cok C ca cl k X S) : X.A.units + 66 < cLine := by have := h.room.un; omega
theorem Cok.un80 (h : Cok C ca cl k X S) : X.A.units + 80 < cLine := by have := h.room.un; omega
theorem Cok.gl (h : Cok C ca cl k X S) {x : Str} (hx : glb S x = true) : Gl X x ∧ (x == ("__debug__" : Str)) = false := by
  unfold glb plainName at hx
  simp only [Bool.and_eq_true, Bool.not_eq_true'] at hx
  exact ⟨by show X.env.scope.names.lookup x = _; rw [h.sc]; exact glbK_get hx.1, hx.2.1⟩
theorem Cok.slot (h : Cok C ca cl k X S) {x : Str} {i : Nat} (hx : slotOf S x = some i) : X.N[i]? = some x ∧ Vis X.env.scope x ∧ (x == ("__debug__" : Str)) = false ∧ (x == ("__classdict__" : Str)) = false := by
  unfold slotOf plainName at hx
  split at hx
  · rename_i hc
    simp only [Bool.and_eq_true, Bool.not_eq_true'] at hc
    exact ⟨by rw [h.hN]; exact ixOf_get hx, by show X.env.scope.names.lookup x = _ ∨ _; rw [h.sc]; exact visK_get hc.1, hc.2.1, hc.2.2⟩
  · cases hx
theorem Cok.store (h : Cok C ca cl k X S) {x : Str} {i : Nat} (hx : storeOf S x = some i) : X.N[i]? = some x ∧ Loc X.env.scope x ∧ (X.fn x = true ∨ X.env.scope.names.lookup x = some .local) := by
  have ⟨h2, h3, h4⟩ := storeOf_get hx
  exact ⟨by rw [h.hN]; exact h2, by show X.env.scope.names.lookup x = _ ∨ _; rw [h.sc]; exact h3, by rw [h.sc]; exact h4.imp (h.fn x) id⟩
/-- the block of a comprehension -/
theorem Cok.blk (h : Cok C ca cl k X S) {scope : Scope} {own : List (Str × Nat)} (ok : BlkOk S.N S.sc scope own) (s : Shared) (H : Hp) (A : Addr) (cs : List (Str × Addr)) (fp : List Addr) : Cok C ca cl k (X.blk s H scope (compEnvC scope cs A X.env) fp) (S.blk scope) := by
  refine ⟨h.nd, h.hN, ?_, fun x hx => hx, h.calm, h.room, ok.kind, h.blt, h.fns, h.cons⟩
  show relabel scope X.env = relS scope S.sc
  rw [← h.sc]
  rfl
theorem Cok.tr (h : Cok C ca cl k X S) (pn : List (Addr × Obj)) (xe : Value → Shared → Prop) : Cok C ca cl k (X.tr pn xe) S :=
  ⟨h.nd, h.hN, h.sc, h.fn, h.calm, h.room, h.kind, h.blt, h.fns, h.cons⟩
theorem const_ok {c : Const} {d : D} (h : trConst c = some d) : ∃ v, (∀ (X : Cx) (j : Nat) (pos : Pos), PE X (.Constant c j pos) (tC v)) ∧ ∀ (K : PySem.W.Frag) (F : Hp), Rp K F v d := by
  cases c <;> simp only [trConst, reduceCtorEq, Option.some.injEq] at h
  case none => subst h; exact ⟨.non, fun X j pos => pe_non, fun K F => .non⟩
  case bool b => subst h; exact ⟨.bl b, fun X j pos => pe_bl, fun K F => .bl b⟩
  case int i => subst h; exact ⟨.int i, fun X j pos => pe_int, fun K F => .int i⟩
  case str x =>
    split at h
    · rename_i hc
      rw [Bool.and_eq_true, List.all_eq_true] at hc
      cases h
      have e : toS x.cps.toList = x := rfl
      refine ⟨.str x, fun X j pos => pe_str, fun K F => ?_⟩
      have r : Rp K F (.str (toS x.cps.toList)) (.str x.cps.toList) := .str ⟨of_decide_eq_true hc.2, fun c hc' => by simpa using hc.1 c hc'⟩
      exact r
    · cases h
def isBool : Expr → Bool
  | .BoolOp _ _ _ => true
  | _ => false
/-- what the translation of an expression promises -/
structure Ex (X : Cx) (ca : Nat → Addr) (cl : Nat → List Xv → R W) (Wx : WX) (e : Expr) (c : CE) : Prop where
  pe : PE X e (tEX X ca cl Wx c)
  pt : PT X e (tTX X ca cl Wx c)
  pw : isBool e = true → PW X e (tTX X ca cl Wx c)
theorem Ex.of {Wx : WX} {e : Expr} {c : CE} (h : PE X e (tEX X ca cl Wx c)) (he : ∀ whole, isTrue e X.env whole = (do let v ← whole; standAt e.pos; holding [v] (truthy v))) (hb : isBool e = false) : Ex X ca cl Wx e c :=
  ⟨h, pt_of h he, fun z => by rw [hb] at z; cases z⟩

structure All (C : PC) (ca : Nat → Addr) (cl : Nat → List Xv → R W) (k n : Nat) : Prop where
  e : ∀ X S Wx e c, Cok C ca cl k X S → Takes X Wx → trE C n S e = some c → Ex X ca cl Wx e c
  es : ∀ X S Wx es c, Cok C ca cl k X S → Takes X Wx → trEs C n S es = some c → PA X es (tAX X ca cl Wx c) ∧ ∀ e ∈ es, isStar e = false
  kv : ∀ X S Wx ks vs c, Cok C ca cl k X S → Takes X Wx → trKV C n S ks vs = some c → PKV X ca cl Wx ks vs c
  o : ∀ X S Wx e c, Cok C ca cl k X S → Takes X Wx → trO C n S e = some c → PO X e (tOX X ca cl Wx c)
  b : ∀ X S Wx f p args pos c, Cok C ca cl k X S → Takes X Wx → glb S f = true → C.fns.lookup f = none → trB C n S f args = some c → PE X (.Call (.Name f p) args [] pos) (tEX X ca cl Wx c)
  m : ∀ X S Wx o m ap args p c, Cok C ca cl k X S → Takes X Wx → (ap.endLine == p.line) = true → trM C n S o m args = some c → PE X (.Call (.Attribute o m ap) args [] p) (tEX X ca cl Wx c)
  i : ∀ X S Wx tg e c, Cok C ca cl k X S → Takes X Wx → trI C n S (isTupE tg) e = some c → PI X tg e (tIX X ca cl Wx c) ∧ isSet e = false
end
end Q7
end

section
set_option autoImplicit false
set_option Elab.async false
set_option linter.all false
set_option maxRecDepth 100000
/-! The whole language: one step of the translation. -/
namespace Q7
open PySem PySem.Spec PyProof.Rows L2

mutual
theorem own_N {S S' : SC} (h : S.N = S'.N) : ∀ e : Expr, ownOf S e = ownOf S' e
  | .Name x p => by simp only [ownOf]; rw [h]
  | .Tuple es _ _ => by simp only [ownOf]; exact owns_N h es
  | .BoolOp .. => by simp [ownOf]
  | .NamedExpr .. => by simp [ownOf]
  | .BinOp .. => by simp [ownOf]
  | .UnaryOp .. => by simp [ownOf]
  | .Lambda .. => by simp [ownOf]
  | .IfExp .. => by simp [ownOf]
  | .Dict .. => by simp [ownOf]
  | .Set .. => by simp [ownOf]
  | .ListComp .. => by simp [ownOf]
  | .SetComp .. => by simp [ownOf]
  | .DictComp .. => by simp [ownOf]
  | .GeneratorExp .. => by simp [ownOf]
  | .Await .. => by simp [ownOf]
  | .Yield .. => by simp [ownOf]
  | .YieldFrom .. => by simp [ownOf]
  | .Compare .. => by simp [ownOf]
  | .Call .. => by simp [ownOf]
  | .FormattedValue .. => by simp [ownOf]
  | .JoinedStr .. => by simp [ownOf]
  | .Constant .. => by simp [ownOf]
  | .Attribute .. => by simp [ownOf]
  | .Subscript .. => by simp [ownOf]
  | .Starred .. => by simp [ownOf]
  | .List .. => by simp [ownOf]
  | .Slice .. => by simp [ownOf]
theorem owns_N {S S' : SC} (h : S.N = S'.N) : ∀ es : List Expr, ownsOf S es = ownsOf S' es
  | [] => by simp [ownsOf]
  | e :: es => by simp only [ownsOf]; rw [own_N h e, owns_N h es]
end
theorem map_get {α β : Type} {f : α → β} {o : Option α} {b : β} (h : o.map f = some b) : ∃ a, o = some a ∧ f a = b := Option.map_eq_some_iff.mp h
section
variable {C : PC} {ca : Nat → Addr} {cl : Nat → List Xv → R W} {k : Nat} {X : Cx} {S : SC}
theorem step_comp {n : Nat} (A : All C ca cl k n) {Wx : WX} (h : Cok C ca cl k X S) (tk : Takes X Wx) {elt tg iter : Expr} {ifs : List Expr} {scope : Scope} {it : CI} {t : Tg} {cc ce : CE} (hb : blkC S.N S.sc scope (ownOf S tg) = true)
    (h1 : trI C n S (isTupE tg) iter = some it) (h2 : trTg (S.blk scope) tg = some t) (h3 : (match ifs with | [] => some (CE.con (.bl true)) | [c] => trE C n (S.blk scope) c | _ => none) = some cc) (h4 : trE C n (S.blk scope) elt = some ce) :
    PI X tg iter (tIX X ca cl Wx it) ∧ isSet iter = false ∧ BlkOk X.N X.env.scope scope (ownOf S tg) ∧ tgSlots t = (ownOf S tg).map (·.2) ∧
    (∀ (s : Shared) (H : Hp) (A : Addr) (cs : List (Str × Addr)) (fp : List Addr), PG (X.blk s H scope (compEnvC scope cs A X.env) fp) tg (gT X.K t)) ∧
    (∀ (s : Shared) (H : Hp) (A : Addr) (cs : List (Str × Addr)) (fp : List Addr), PTs (X.blk s H scope (compEnvC scope cs A X.env) fp) ifs (tT (Gx X ca cl) W0 cc)) ∧
    ∀ (s : Shared) (H : Hp) (A : Addr) (cs : List (Str × Addr)) (fp : List Addr), PE (X.blk s H scope (compEnvC scope cs A X.env) fp) elt (tE (Gx X ca cl) W0 ce) := by
  obtain ⟨i1, i2⟩ := A.i X S Wx tg iter it h tk h1
  have ok : BlkOk S.N S.sc scope (ownOf S tg) := blkOk_by hb
  have hblk := fun s H A cs fp => h.blk ok s H A cs fp
  have htg := fun s H A' cs fp => s_tg (X := X.blk s H scope (compEnvC scope cs A' X.env) fp) (S := S.blk scope) h.calm h.nd (hblk s H A' cs fp).hN (hblk s H A' cs fp).sc (hblk s H A' cs fp).fn tg t h2
  have hsl : tgSlots t = (ownOf S tg).map (·.2) := by
    have s0 := (htg X.s_0 X.H_0 0 [] []).2.2
    rw [s0, own_N (S := S.blk scope) (S' := S) rfl tg]
  refine ⟨i1, i2, by rw [h.hN, h.sc]; exact ok, hsl, fun s H A' cs fp => (htg s H A' cs fp).1, fun s H A' cs fp => ?_, fun s H A' cs fp => ?_⟩
  · split at h3
    · cases h3; exact s_yes
    · exact pts_one (A.e _ _ W0 _ _ (hblk s H A' cs fp) takes0 h3).pt
    · cases h3
  · exact (A.e _ _ W0 _ _ (hblk s H A' cs fp) takes0 h4).pe
theorem step_e {n : Nat} (A : All C ca cl k n) {Wx : WX} {e : Expr} {c : CE} (h : Cok C ca cl k X S) (tk : Takes X Wx) (he : trE C (n + 1) S e = some c) : Ex X ca cl Wx e c := by
  unfold trE at he
  split at he
  case h_1 => cases he
  case h_2 =>
    rename_i heq
    cases heq
    obtain ⟨d, hd, rfl⟩ := map_get he
    obtain ⟨v, h1, h2⟩ := const_ok hd
    exact Ex.of (s_con (h1 X _ _) (h2 X.K)) (fun _ => rfl) rfl
  case h_3 =>
    rename_i heq
    cases heq
    split at he
    · rename_i i hi
      cases he
      have ⟨g1, g2, g3, g4⟩ := h.slot hi
      exact Ex.of (s_var g1 g2 g3 g4) (fun _ => rfl) rfl
    · split at he
      · rename_i hg
        obtain ⟨d, hd, rfl⟩ := map_get he
        obtain ⟨v, u, h1, h2, h3⟩ := h.cons _ _ hd
        have ⟨g1, g2⟩ := h.gl hg
        exact Ex.of (s_con (pe_glob g1 h1 h2 g2) h3) (fun _ => rfl) rfl
      · cases he
  case h_4 =>
    rename_i heq
    cases heq
    simp only [Option.bind_eq_bind, Option.bind_eq_some_iff, Option.some.injEq] at he
    obtain ⟨o, ho, a, ha, b, hb, rfl⟩ := he
    exact Ex.of (s_bop ho (A.e _ _ _ _ _ h tk ha).pe (A.e _ _ _ _ _ h tk hb).pe) (fun _ => rfl) rfl
  case h_5 =>
    rename_i heq
    cases heq
    simp only [Option.bind_eq_bind, Option.bind_eq_some_iff, Option.some.injEq] at he
    obtain ⟨a, ha, rfl⟩ := he
    have x := A.e _ _ _ _ _ h tk ha
    have ⟨g1, g2⟩ := s_not (pos := by assumption) x.pe x.pt
    exact ⟨g1, g2, fun z => by cases z⟩
  case h_6 =>
    rename_i heq
    cases heq
    simp only [Option.bind_eq_bind, Option.bind_eq_some_iff, Option.some.injEq] at he
    obtain ⟨a, ha, rfl⟩ := he
    exact Ex.of (s_neg (A.e _ _ _ _ _ h tk ha).pe) (fun _ => rfl) rfl
  case h_7 =>
    rename_i heq
    cases heq
    split at he
    · cases he
    · rename_i hset
      simp only [Option.bind_eq_bind, Option.bind_eq_some_iff, Option.some.injEq] at he
      obtain ⟨o, ho, a, ha, b, hb, rfl⟩ := he
      have ⟨g1, g2⟩ := s_cmp (pos := by assumption) h.un ho (by simpa using hset) (A.e _ _ _ _ _ h tk ha).pe (A.e _ _ _ _ _ h tk hb).pe
      exact ⟨g1, g2, fun z => by cases z⟩
  case h_8 =>
    rename_i heq
    cases heq
    split at he
    · cases he
    · rename_i hset
      simp only [Option.bind_eq_bind, Option.bind_eq_some_iff, Option.some.injEq] at he
      obtain ⟨o, ho, o', ho', a, ha, b, hb, c', hc, rfl⟩ := he
      rw [Bool.or_eq_true, not_or] at hset
      have ⟨g1, g2⟩ := s_chain (pos := by assumption) h.un ho ho' (by simpa using hset.2) (A.e _ _ _ _ _ h tk ha).pe (A.e _ _ _ _ _ h tk hb).pe (A.e _ _ _ _ _ h tk hc).pe
      exact ⟨g1, g2, fun z => by cases z⟩
  case h_9 =>
    rename_i heq
    cases heq
    simp only [Option.bind_eq_bind, Option.bind_eq_some_iff, Option.some.injEq] at he
    obtain ⟨a, ha, b, hb, rfl⟩ := he
    have x := A.e _ _ _ _ _ h tk ha
    have y := A.e _ _ _ _ _ h tk hb
    have w := pw_imp (pw_and x.pt (y.pw rfl)) fun σ H Q q => and_impT q
    exact ⟨s_and x.pe y.pe, w.pt, fun _ => w⟩
  case h_10 =>
    rename_i heq
    cases heq
    simp only [Option.bind_eq_bind, Option.bind_eq_some_iff, Option.some.injEq] at he
    obtain ⟨a, ha, b, hb, rfl⟩ := he
    have x := A.e _ _ _ _ _ h tk ha
    have y := A.e _ _ _ _ _ h tk hb
    have w := pw_imp (pw_or x.pt (y.pw rfl)) fun σ H Q q => or_impT q
    exact ⟨s_or x.pe y.pe, w.pt, fun _ => w⟩
  case h_11 =>
    rename_i op a _ heq
    cases heq
    have x := A.e _ _ _ _ _ h tk he
    cases op with
    | And => exact ⟨pe_one x.pe, (pw_and1 x.pt).pt, fun _ => pw_and1 x.pt⟩
    | Or => exact ⟨pe_one x.pe, (pw_or1 x.pt).pt, fun _ => pw_or1 x.pt⟩
  case h_12 =>
    rename_i heq
    cases heq
    simp only [Option.bind_eq_bind, Option.bind_eq_some_iff, Option.some.injEq] at he
    obtain ⟨c', hc, a, ha, b, hb, rfl⟩ := he
    have x := A.e _ _ _ _ _ h tk hc
    have y := A.e _ _ _ _ _ h tk ha
    have z := A.e _ _ _ _ _ h tk hb
    have ⟨g1, g2⟩ := s_ite (pos := by assumption) x.pt y.pe z.pe y.pt z.pt
    exact ⟨g1, g2, fun z => by cases z⟩
  case h_13 =>
    rename_i heq
    cases heq
    obtain ⟨as, ha, rfl⟩ := map_get he
    exact Ex.of (s_tup (A.es _ _ _ _ _ h tk ha).1) (fun _ => rfl) rfl
  case h_14 =>
    rename_i heq
    cases heq
    obtain ⟨as, ha, rfl⟩ := map_get he
    exact Ex.of (s_lst (A.es _ _ _ _ _ h tk ha).1) (fun _ => rfl) rfl
  case h_15 =>
    cases he
    exact Ex.of s_dnew (fun _ => rfl) rfl
  case h_16 =>
    rename_i ks vs _ hne heq
    cases heq
    obtain ⟨as, ha, rfl⟩ := map_get he
    have kv := A.kv _ _ _ _ _ _ h tk ha
    have h0 : ks ≠ [] := fun z => by
      subst z
      cases kv
      exact hne rfl rfl
    exact Ex.of (s_dict h.un kv h0) (fun _ => rfl) rfl
  case h_17 =>
    rename_i heq
    cases heq
    obtain ⟨a, ha, rfl⟩ := map_get he
    exact Ex.of (s_rev (A.e _ _ _ _ _ h tk ha).pe) (fun _ => rfl) rfl
  case h_18 =>
    rename_i heq
    cases heq
    simp only [Option.bind_eq_bind, Option.bind_eq_some_iff, Option.some.injEq] at he
    obtain ⟨a, ha, l, hl, hi, hh, rfl⟩ := he
    exact Ex.of (s_slice (A.e _ _ _ _ _ h tk ha).pe (A.o _ _ _ _ _ h tk hl) (A.o _ _ _ _ _ h tk hh)) (fun _ => rfl) rfl
  case h_19 =>
    rename_i heq
    cases heq
    split at he
    · cases he
    · rename_i hsl
      simp only [Option.bind_eq_bind, Option.bind_eq_some_iff, Option.some.injEq] at he
      obtain ⟨a, ha, i, hi, rfl⟩ := he
      exact Ex.of (s_idx h.un (by simpa using hsl) (A.e _ _ _ _ _ h tk ha).pe (A.e _ _ _ _ _ h tk hi).pe) (fun _ => rfl) rfl
  case h_20 =>
    rename_i f p args pos heq
    cases heq
    split at he
    · rename_i hg
      have ⟨g1, g2⟩ := h.gl hg
      split at he
      · rename_i i hi
        split at he
        · cases he
        · rename_i hne
          obtain ⟨as, ha, rfl⟩ := map_get he
          obtain ⟨pa, st⟩ := A.es _ _ _ _ _ h tk ha
          obtain ⟨fa, fd, ps, q1, q2, q3, q4⟩ := h.fns _ _ hi
          cases args with
          | nil => exact absurd rfl hne
          | cons e1 es =>
            exact Ex.of (s_call q1 h.room g1 q2 q3 q4 tk g2 (st e1 (List.mem_cons_self ..)) (backs fun x hx => st x (List.mem_cons_of_mem _ hx)) pa) (fun _ => rfl) rfl
      · rename_i hn
        exact Ex.of (A.b _ _ _ _ _ _ _ _ h tk hg hn he) (fun _ => rfl) rfl
    · cases he
  case h_21 =>
    rename_i heq
    cases heq
    split at he
    · rename_i hl
      exact Ex.of (A.m _ _ _ _ _ _ _ _ _ h tk hl he) (fun _ => rfl) rfl
    · cases he
  case h_22 =>
    rename_i heq
    cases heq
    split at he
    · rename_i hb
      simp only [Option.bind_eq_bind, Option.bind_eq_some_iff, Option.some.injEq] at he
      obtain ⟨it, h1, t, h2, cc, h3, ce, h4, rfl⟩ := he
      obtain ⟨g1, g2, g3, g4, g5, g6, g7⟩ := step_comp A h tk hb h1 h2 h3 h4
      exact Ex.of (s_comp h.calm h.nd g1 g3 g4 g2 g5 g6 g7) (fun _ => rfl) rfl
    · cases he
  case h_23 => cases he

theorem step_es {n : Nat} (A : All C ca cl k n) {Wx : WX} {es : List Expr} {c : CEs} (h : Cok C ca cl k X S) (tk : Takes X Wx) (he : trEs C (n + 1) S es = some c) : PA X es (tAX X ca cl Wx c) ∧ ∀ e ∈ es, isStar e = false := by
  cases es with
  | nil =>
    simp only [trEs, Option.some.injEq] at he
    subst he
    exact ⟨s_nil, fun _ z => nomatch z⟩
  | cons e es =>
    simp only [trEs] at he
    split at he
    · cases he
    · rename_i hs
      have hs : isStar e = false := by simpa using hs
      simp only [Option.bind_eq_bind, Option.bind_eq_some_iff, Option.some.injEq] at he
      obtain ⟨x, hx, xs, hxs, rfl⟩ := he
      obtain ⟨g1, g2⟩ := A.es _ _ _ _ _ h tk hxs
      refine ⟨s_cons hs (A.e _ _ _ _ _ h tk hx).pe g1, fun y hy => ?_⟩
      rcases List.mem_cons.mp hy with rfl | hy
      · exact hs
      · exact g2 y hy
theorem step_kv {n : Nat} (A : All C ca cl k n) {Wx : WX} {ks : List (Option Expr)} {vs : List Expr} {c : CEs} (h : Cok C ca cl k X S) (tk : Takes X Wx) (he : trKV C (n + 1) S ks vs = some c) : PKV X ca cl Wx ks vs c := by
  cases ks with
  | nil =>
    cases vs with
    | nil =>
      simp only [trKV, Option.some.injEq] at he
      subst he
      exact .nil
    | cons v vs => simp [trKV] at he
  | cons kk ks =>
    cases kk with
    | none => simp [trKV] at he
    | some kk =>
      cases vs with
      | nil => simp [trKV] at he
      | cons v vs =>
        simp only [trKV, Option.bind_eq_bind, Option.bind_eq_some_iff, Option.some.injEq] at he
        obtain ⟨x, hx, y, hy, r, hr, rfl⟩ := he
        exact .cons (A.e _ _ _ _ _ h tk hx).pe (A.e _ _ _ _ _ h tk hy).pe (A.kv _ _ _ _ _ _ h tk hr)
theorem step_o {n : Nat} (A : All C ca cl k n) {Wx : WX} {e : Option Expr} {c : CE} (h : Cok C ca cl k X S) (tk : Takes X Wx) (he : trO C (n + 1) S e = some c) : PO X e (tOX X ca cl Wx c) := by
  cases e with
  | none =>
    simp only [trO, Option.some.injEq] at he
    subst he
    exact s_onone
  | some e =>
    simp only [trO] at he
    exact s_osome (A.e _ _ _ _ _ h tk he).pe
theorem setArg_get {e a : Expr} (h : setArg e = some a) : ∃ p pos, e = .Call (.Name "set" p) [a] [] pos := by
  unfold setArg at h
  split at h
  · split at h
    · rename_i hg
      cases h
      subst hg
      exact ⟨_, _, rfl⟩
    · cases h
  · cases h
theorem zipArg_get {e a b : Expr} (h : zipArg e = some (a, b)) : ∃ p pos, e = .Call (.Name "zip" p) [a, b] [] pos := by
  unfold zipArg at h
  split at h
  · split at h
    · rename_i hg
      cases h
      subst hg
      exact ⟨_, _, rfl⟩
    · cases h
  · cases h
theorem step_b {n : Nat} (A : All C ca cl k n) {Wx : WX} {f : Str} {p pos : Pos} {args : List Expr} {c : CE} (h : Cok C ca cl k X S) (tk : Takes X Wx) (hg : glb S f = true) (hn : C.fns.lookup f = none) (he : trB C (n + 1) S f args = some c) :
    PE X (.Call (.Name f p) args [] pos) (tEX X ca cl Wx c) := by
  have ⟨g1, g2⟩ := h.gl hg
  have blt : ∀ x ∈ bltNames, X.mg x = none := h.blt
  unfold trB at he
  split at he
  case h_1 => cases he
  case h_2 =>
    rename_i e heq
    cases heq
    split at he
    · cases he
    · rename_i hs
      have hs : isStar e = false := by simpa using hs
      split at he
      · rename_i a hsa
        obtain ⟨p', pos', rfl⟩ := setArg_get hsa
        split at he
        · rename_i hc
          simp only [Bool.and_eq_true, Bool.not_eq_true'] at hc
          obtain ⟨⟨hgs, _⟩, hsa'⟩ := hc
          have ⟨k1, _⟩ := h.gl hgs
          split at he
          · rename_i hf
            subst hf
            obtain ⟨x, hx, rfl⟩ := map_get he
            exact s_sortedset h.un80 h.calm g1 (blt _ (by decide)) k1 (blt _ (by decide)) hsa' (A.e _ _ _ _ _ h tk hx).pe
          · split at he
            · rename_i hf
              subst hf
              obtain ⟨x, hx, rfl⟩ := map_get he
              exact s_lenset h.calm g1 (blt _ (by decide)) k1 (blt _ (by decide)) hsa' (A.e _ _ _ _ _ h tk hx).pe
            · cases he
        · cases he
      · split at he
        · rename_i a b hz
          obtain ⟨p', pos', rfl⟩ := zipArg_get hz
          split at he
          · rename_i hc
            simp only [Bool.and_eq_true, Bool.not_eq_true', decide_eq_true_eq] at hc
            obtain ⟨⟨⟨⟨hf, hgz⟩, _⟩, hsa⟩, hsb⟩ := hc
            subst hf
            have ⟨k1, _⟩ := h.gl hgz
            simp only [Option.bind_eq_bind, Option.bind_eq_some_iff, Option.some.injEq] at he
            obtain ⟨x, hx, y, hy, rfl⟩ := he
            exact s_listzip h.calm g1 (blt _ (by decide)) k1 (blt _ (by decide)) hsa hsb (A.e _ _ _ _ _ h tk hx).pe (A.e _ _ _ _ _ h tk hy).pe
          · cases he
        · split at he
          · rename_i hf
            subst hf
            obtain ⟨x, hx, rfl⟩ := map_get he
            exact s_dictof h.un h.calm g1 (blt _ (by decide)) hs (A.e _ _ _ _ _ h tk hx).pe
          · simp only [Option.bind_eq_bind, Option.bind_eq_some_iff, Option.some.injEq] at he
            obtain ⟨b, hb, x, hx, rfl⟩ := he
            have ha := (A.e _ _ _ _ _ h tk hx).pe
            unfold trB1 at hb
            split at hb
            · rename_i hf; subst hf; cases hb
              exact s_b1 (cb_len h.un) g1 (blt _ (by decide)) rfl (by decide) g2 hs ha fun ρ => by rw [ev]
            split at hb
            · rename_i hf; subst hf; cases hb
              exact s_t1 cb_int g1 (blt _ (by decide)) rfl (by decide) g2 hs ha fun ρ => by rw [ev]
            split at hb
            · rename_i hf; subst hf; cases hb
              exact s_t1 cb_bool g1 (blt _ (by decide)) rfl (by decide) g2 hs ha fun ρ => by rw [ev]
            split at hb
            · rename_i hf; subst hf; cases hb
              exact s_t1 cb_tuple g1 (blt _ (by decide)) rfl (by decide) g2 hs ha fun ρ => by rw [ev]
            split at hb
            · rename_i hf; subst hf; cases hb
              exact s_t1 (cb_list h.calm) g1 (blt _ (by decide)) rfl (by decide) g2 hs ha fun ρ => by rw [ev]
            split at hb
            · rename_i hf; subst hf; cases hb
              exact s_b1 (cb_sum h.calm) g1 (blt _ (by decide)) rfl (by decide) g2 hs ha fun ρ => by rw [ev]
            split at hb
            · rename_i hf; subst hf; cases hb
              exact s_b1 (cb_min h.un h.calm) g1 (blt _ (by decide)) rfl (by decide) g2 hs ha fun ρ => by rw [ev]
            split at hb
            · rename_i hf; subst hf; cases hb
              exact s_b1 (cb_max h.un h.calm) g1 (blt _ (by decide)) rfl (by decide) g2 hs ha fun ρ => by rw [ev]
            split at hb
            · rename_i hf; subst hf; cases hb
              exact s_b1 (cb_sorted h.un80 h.calm) g1 (blt _ (by decide)) rfl (by decide) g2 hs ha fun ρ => by rw [ev]
            · cases hb
  case h_3 =>
    rename_i a b heq
    cases heq
    split at he
    · cases he
    · rename_i hs
      rw [Bool.or_eq_true, not_or] at hs
      have hs1 : isStar a = false := by simpa using hs.1
      have hs2 : isStar b = false := by simpa using hs.2
      split at he
      · rename_i hf
        subst hf
        split at he
        · rename_i t np
          split at he
          · rename_i hgt
            have ⟨k1, _⟩ := h.gl hgt
            simp only [Option.bind_eq_bind, Option.bind_eq_some_iff, Option.some.injEq] at he
            obtain ⟨x, hx, ty, hty, rfl⟩ := he
            refine s_isi hty g1 (blt _ (by decide)) k1 ?_ hs1 (A.e _ _ _ _ _ h tk hx).pe
            have e := trTy_get hty
            subst e
            cases ty <;> exact blt _ (by decide)
          · cases he
        · cases he
      · split at he
        · rename_i hf
          subst hf
          simp only [Option.bind_eq_bind, Option.bind_eq_some_iff, Option.some.injEq] at he
          obtain ⟨x, hx, y, hy, rfl⟩ := he
          exact s_b2 (cb_min2 h.calm) g1 (blt _ (by decide)) rfl (by decide) g2 hs1 hs2 (A.e _ _ _ _ _ h tk hx).pe (A.e _ _ _ _ _ h tk hy).pe fun ρ => by rw [ev]
        · split at he
          · rename_i hf
            subst hf
            simp only [Option.bind_eq_bind, Option.bind_eq_some_iff, Option.some.injEq] at he
            obtain ⟨x, hx, y, hy, rfl⟩ := he
            exact s_b2 (cb_max2 h.calm) g1 (blt _ (by decide)) rfl (by decide) g2 hs1 hs2 (A.e _ _ _ _ _ h tk hx).pe (A.e _ _ _ _ _ h tk hy).pe fun ρ => by rw [ev]
          · cases he
  case h_4 => cases he
/-- the object of a method is no super() -/
theorem base_ok {n : Nat} {o : Expr} {x : CE} {m : Str} (h : trE C n S o = some x) : attributeBase o m X.env (eval o X.env) = eval o X.env := by
  unfold attributeBase
  split
  · rename_i id p pos
    exfalso
    cases n with
    | zero => simp [trE] at h
    | succ n =>
      simp only [trE] at h
      split at h
      · split at h
        · simp at h
        · cases n with
          | zero => simp [trB] at h
          | succ n => simp [trB] at h
      · cases h
  · rfl
theorem step_m {n : Nat} (A : All C ca cl k n) {Wx : WX} {o : Expr} {m : Str} {ap p : Pos} {args : List Expr} {c : CE} (h : Cok C ca cl k X S) (tk : Takes X Wx) (hl : (ap.endLine == p.line) = true) (he : trM C (n + 1) S o m args = some c) :
    PE X (.Call (.Attribute o m ap) args [] p) (tEX X ca cl Wx c) := by
  unfold trM at he
  split at he
  case h_1 => cases he
  case h_2 =>
    rename_i a heq
    cases heq
    split at he
    · cases he
    · rename_i hs
      have hs : isStar a = false := by simpa using hs
      simp only [Option.bind_eq_bind, Option.bind_eq_some_iff] at he
      obtain ⟨x, hx, y, hy, he⟩ := he
      have px := (A.e _ _ _ _ _ h tk hx).pe
      have py := (A.e _ _ _ _ _ h tk hy).pe
      have m1 : ∀ m, L2.M1 X _ m ap a p := fun m => m1_of (base_ok hx) hs hl
      split at he
      · rename_i hf; subst hf; cases he
        exact s_meth1 (meth_str PySem.F.slot_str_split PySem.F.type_str_split me_split) (m1 _) px py fun ρ => by rw [ev]
      split at he
      · rename_i hf; subst hf; cases he
        exact s_meth1 (meth_str PySem.F.slot_str_join PySem.F.type_str_join me_join) (m1 _) px py fun ρ => by rw [ev]
      split at he
      · rename_i hf; subst hf; cases he
        exact s_meth1 (me_index h.un) (m1 _) px py fun ρ => by rw [ev]
      split at he
      · rename_i hf; subst hf; cases he
        exact s_meth1 (meth_str PySem.F.slot_str_startswith PySem.F.type_str_startswith me_starts) (m1 _) px py fun ρ => by rw [ev]
      split at he
      · rename_i hf; subst hf; cases he
        exact s_meth1 (meth_str PySem.F.slot_str_strip PySem.F.type_str_strip me_strip) (m1 _) px py fun ρ => by rw [ev]
      · cases he
  case h_3 =>
    rename_i a b heq
    cases heq
    split at he
    · cases he
    · rename_i hs
      rw [Bool.or_eq_true, not_or] at hs
      have hs1 : isStar a = false := by simpa using hs.1
      have hs2 : isStar b = false := by simpa using hs.2
      simp only [Option.bind_eq_bind, Option.bind_eq_some_iff] at he
      obtain ⟨x, hx, y, hy, z, hz, he⟩ := he
      have px := (A.e _ _ _ _ _ h tk hx).pe
      have py := (A.e _ _ _ _ _ h tk hy).pe
      have pz := (A.e _ _ _ _ _ h tk hz).pe
      have m2 : ∀ m, L2.M2 X _ m ap a b p := fun m => m2_of rfl (base_ok hx) hs1 hs2 hl
      split at he
      · rename_i hf; subst hf; cases he
        exact s_get h.un (m2 _) px py pz
      split at he
      · rename_i hf; subst hf; cases he
        exact s_replace (m2 _) px py pz
      · cases he
  case h_4 => cases he
theorem step_i {n : Nat} (A : All C ca cl k n) {Wx : WX} {tg e : Expr} {c : CI} (h : Cok C ca cl k X S) (tk : Takes X Wx) (he : trI C (n + 1) S (isTupE tg) e = some c) : PI X tg e (tIX X ca cl Wx c) ∧ isSet e = false := by
  have blt : ∀ x ∈ bltNames, X.mg x = none := h.blt
  have tup : isTupE tg = true → ∃ es k p, tg = .Tuple es k p := fun z => by
    cases tg <;> first
      | exact ⟨_, _, _, rfl⟩
      | cases z
  unfold trI at he
  split at he
  case h_1 => cases he
  case h_2 =>
    rename_i f p a pos heq
    cases heq
    refine ⟨?_, rfl⟩
    split at he
    · rename_i hf
      subst hf
      split at he
      · rename_i hc
        simp only [Bool.and_eq_true, Bool.not_eq_true'] at hc
        obtain ⟨⟨hg, _⟩, hs⟩ := hc
        have ⟨g1, _⟩ := h.gl hg
        obtain ⟨x, hx, rfl⟩ := map_get he
        exact s_rng1 g1 (blt _ (by decide)) hs (A.e _ _ _ _ _ h tk hx).pe
      · cases he
    · split at he
      · rename_i hf
        subst hf
        split at he
        · rename_i hc
          simp only [Bool.and_eq_true, Bool.not_eq_true'] at hc
          obtain ⟨⟨⟨ht, hg⟩, _⟩, hs⟩ := hc
          have ⟨g1, _⟩ := h.gl hg
          obtain ⟨x, hx, rfl⟩ := map_get he
          obtain ⟨es, kk, pp, rfl⟩ := tup ht
          exact s_enum h.calm g1 (blt _ (by decide)) hs (A.e _ _ _ _ _ h tk hx).pe
        · cases he
      · obtain ⟨x, hx, rfl⟩ := map_get he
        exact s_ival (A.e _ _ _ _ _ h tk hx).pe
  case h_3 =>
    rename_i f p a b pos heq
    cases heq
    refine ⟨?_, rfl⟩
    split at he
    · rename_i hf
      subst hf
      split at he
      · rename_i hc
        simp only [Bool.and_eq_true, Bool.not_eq_true'] at hc
        obtain ⟨⟨⟨hg, _⟩, hs⟩, hs2⟩ := hc
        have ⟨g1, _⟩ := h.gl hg
        simp only [Option.bind_eq_bind, Option.bind_eq_some_iff, Option.some.injEq] at he
        obtain ⟨x, hx, y, hy, rfl⟩ := he
        exact s_rng2 g1 (blt _ (by decide)) hs hs2 (A.e _ _ _ _ _ h tk hx).pe (A.e _ _ _ _ _ h tk hy).pe
      · cases he
    · split at he
      · rename_i hf
        subst hf
        split at he
        · rename_i hc
          simp only [Bool.and_eq_true, Bool.not_eq_true'] at hc
          obtain ⟨⟨⟨⟨ht, hg⟩, _⟩, hs⟩, hs2⟩ := hc
          have ⟨g1, _⟩ := h.gl hg
          simp only [Option.bind_eq_bind, Option.bind_eq_some_iff, Option.some.injEq] at he
          obtain ⟨x, hx, y, hy, rfl⟩ := he
          obtain ⟨es, kk, pp, rfl⟩ := tup ht
          exact s_zip h.calm g1 (blt _ (by decide)) hs hs2 (A.e _ _ _ _ _ h tk hx).pe (A.e _ _ _ _ _ h tk hy).pe
        · cases he
      · obtain ⟨x, hx, rfl⟩ := map_get he
        exact s_ival (A.e _ _ _ _ _ h tk hx).pe
  case h_4 =>
    rename_i heq _ _
    cases heq
    split at he
    · cases he
    · rename_i hs
      obtain ⟨x, hx, rfl⟩ := map_get he
      exact ⟨s_ival (A.e _ _ _ _ _ h tk hx).pe, by simpa using hs⟩
theorem all_expr : ∀ n, All C ca cl k n
  | 0 => by
    refine ⟨fun X S Wx e c _ _ h => by simp [trE] at h, fun X S Wx es c _ _ h => ?_, fun X S Wx ks vs c _ _ h => ?_, fun X S Wx e c _ _ h => ?_, fun X S Wx f p args pos c _ _ _ _ h => by simp [trB] at h, fun X S Wx o m ap args p c _ _ _ h => by simp [trM] at h, fun X S Wx tg e c _ _ h => by simp [trI] at h⟩
    · cases es with
      | nil =>
        simp only [trEs, Option.some.injEq] at h
        subst h
        exact ⟨s_nil, fun _ z => nomatch z⟩
      | cons a b => simp [trEs] at h
    · cases ks with
      | nil =>
        cases vs with
        | nil =>
          simp only [trKV, Option.some.injEq] at h
          subst h
          exact .nil
        | cons a b => simp [trKV] at h
      | cons a b => simp [trKV] at h
    · cases e with
      | none =>
        simp only [trO, Option.some.injEq] at h
        subst h
        exact s_onone
      | some a => simp [trO] at h
  | n + 1 => by
    have A : All C ca cl k n := all_expr n
    exact ⟨fun X S Wx e c h tk he => step_e A h tk he, fun X S Wx es c h tk he => step_es A h tk he, fun X S Wx ks vs c h tk he => step_kv A h tk he, fun X S Wx e c h tk he => step_o A h tk he,
      fun X S Wx f p args pos c h tk hg hn he => step_b A h tk hg hn he, fun X S Wx o m ap args p c h tk hl he => step_m A h tk hl he, fun X S Wx tg e c h tk he => step_i A h tk he⟩
end
end Q7
end

section
set_option autoImplicit false
set_option Elab.async false
set_option linter.all false
set_option maxRecDepth 100000
/-! The whole language: statements. -/
namespace Q7
open PySem PySem.Spec PyProof.Rows L2

structure Sok (C : PC) (ca : Nat → Addr) (cl : Nat → List Xv → R W) (k : Nat) (sup : Nat → Nat → Option Bool) (X : Cx) (S : SC) : Prop where
  cok : Cok C ca cl k X S
  hp : PassesOwn (model X.prog X.w) X.A X.env X.xe
  st : X.stack = X.env :: X.outer
  fr : X.env.frame = some X.env.locals
  cls : ∀ x c, C.cls.lookup x = some c → X.mg x = some (.ref (ca c)) ∧ PySem.W.keepIn X.K (.ref (ca c)) = true ∧ (∃ bmB B newId initId, ExcBaseFacts B newId initId bmB ∧ PySem.W.excIn X.K (ca c) bmB newId = true) ∧
    PySem.W.subIn X.K (.ref (ca c)) (.type "BaseException") = some true ∧ PySem.W.typeIn X.K (.ref (ca c)) = some (.type "type")
  exm : ∀ x h c b, C.cls.lookup x = some h → sup c h = some b → PySem.W.exmOne X.K (.ref (ca c)) (.ref (ca h)) = some b
section
variable {C : PC} {ca : Nat → Addr} {cl : Nat → List Xv → R W} {k : Nat} {X : Cx} {S : SC} {sup : Nat → Nat → Option Bool} {fuel : Nat} {B : Bs} {Wx : WX} {fz : List Nat}
theorem Sok.tr (h : Sok C ca cl k sup X S) (pn : List (Addr × Obj)) (xe : Value → Shared → Prop) (hp : PassesOwn (model X.prog X.w) X.A X.env xe) : Sok C ca cl k sup (X.tr pn xe) S :=
  ⟨h.cok.tr pn xe, hp, h.st, h.fr, h.cls, h.exm⟩
/-! ### the suites of except clauses -/
theorem suite_ok (X' : Cx) (hN : X'.N = S.N) (nd : X'.N.Nodup) (hs : X'.env.scope = S.sc) (hf : ∀ x, S.fn x = true → X'.fn x = true) {b : List Stmt} {s : CS} (h : trSuite S b = some s) : (∃ b₀ r, b = b₀ :: r) ∧ PSs X' b (tS (Gx X' ca cl) Wx B fun ρ => suite ρ s) := by
  have hstore : ∀ {x : Str} {i : Nat}, storeOf S x = some i → X'.N[i]? = some x ∧ Loc X'.env.scope x ∧ (X'.fn x = true ∨ X'.env.scope.names.lookup x = some .local) := fun {x i} hx => by
    have ⟨h2, h3, h4⟩ := storeOf_get hx
    exact ⟨by rw [hN]; exact h2, by show X'.env.scope.names.lookup x = _ ∨ _; rw [hs]; exact h3, by rw [hs]; exact h4.imp (hf x) id⟩
  unfold trSuite at h
  split at h
  · rename_i x p c j p2 pos
    simp only [Option.bind_eq_bind, Option.bind_eq_some_iff, Option.some.injEq] at h
    obtain ⟨i, hi, d, hd, rfl⟩ := h
    obtain ⟨g1, g2, g3⟩ := hstore hi
    obtain ⟨v, h1, h2⟩ := const_ok hd
    refine ⟨⟨_, _, rfl⟩, pss_imp (pss_one (ps_set nd g1 g2 (h1 X' _ _) (comp_plain rfl) g3)) fun D σ H ⟨ρ, F, sb, q⟩ => ?_⟩
    dsimp only at q
    rw [suite] at q
    exact q _ H F (sb.set_sh i (show RpX _ _ _ _ _ (.d d) from h2 _ F)) Sub.refl
  · rename_i x p m ap c j p2 cp pos
    split at h
    · rename_i hc
      simp only [Bool.and_eq_true, decide_eq_true_eq] at hc
      obtain ⟨rfl, hl⟩ := hc
      simp only [Option.bind_eq_bind, Option.bind_eq_some_iff, Option.some.injEq] at h
      obtain ⟨i, hi, d, hd, rfl⟩ := h
      obtain ⟨v, h1, h2⟩ := const_ok hd
      have hv : X'.N[i]? = some x ∧ Vis X'.env.scope x ∧ (x == ("__debug__" : Str)) = false ∧ (x == ("__classdict__" : Str)) = false := by
        unfold slotOf plainName at hi
        split at hi
        · rename_i hc
          simp only [Bool.and_eq_true, Bool.not_eq_true'] at hc
          exact ⟨by rw [hN]; exact ixOf_get hi, by show X'.env.scope.names.lookup x = _ ∨ _; rw [hs]; exact visK_get hc.1, hc.2.1, hc.2.2⟩
        · cases hi
      refine ⟨⟨_, _, rfl⟩, pss_imp (pss_one (ps_expr (pe_bm PySem.F.plainAttrs_list PySem.F.slot_list_append PySem.F.type_list_append mt_append (pe_var hv.1 hv.2.1 hv.2.2.1 hv.2.2.2) (pa_cons (h1 X' _ _) pa_nil rfl) rfl rfl hl rfl rfl) (comp_plain rfl))) fun D σ H ⟨ρ, F, sb, q⟩ => ?_⟩
      dsimp only at q
      rw [suite] at q
      split at q
      · rename_i ds ho
        obtain ⟨a, vs, k1, k2, k3, k4⟩ := own_lst sb.sr (owned_get ho)
        split at q
        · rename_i hlt
          exact ⟨_, k1, .inl ⟨rfl, vs, SqL.of k3⟩, a, vs, v, rfl, rfl, k3, by rw [k4.length]; have := sizeLine_eq; unfold big at hlt; omega, q σ _ F (sb.mut (owned_get ho) k1 ⟨vs ++ [v], upd_same, k4.append (.one (h2 _ F))⟩) Sub.refl⟩
        · exact q.elim
      · exact q.elim
    · cases h
  · rename_i x p j jj p2 pos
    simp only [Option.bind_eq_bind, Option.bind_eq_some_iff, Option.some.injEq] at h
    obtain ⟨i, hi, rfl⟩ := h
    obtain ⟨g1, g2, g3⟩ := hstore hi
    refine ⟨⟨_, _, rfl⟩, pss_imp (pss_one (ps_aug nd g1 g2 pe_int ip_add g3)) fun D σ H ⟨ρ, F, sb, q⟩ => ?_⟩
    dsimp only at q
    rw [suite] at q
    split at q
    · rename_i kk hk
      obtain ⟨v, q1, q2⟩ := sb.sr.sh i _ hk
      have q2 : Rp X'.K F v (.int kk) := q2
      cases q2
      exact ⟨_, q1, kk, j, rfl, rfl, q _ H F (sb.set_sh i (show RpX _ _ _ _ _ (.d (.int (kk + j))) from .int _)) Sub.refl⟩
    · exact q.elim
  · cases h
theorem hds_ok (h : Sok C ca cl k sup X S) : ∀ {hds : List ExceptHandler} {hs : List (Nat × CS)}, trHs C S hds = some hs → HdsOk X hds (hdL X ca cl Wx B hs) ∧ ∀ p ∈ hs, ∃ x, C.cls.lookup x = some p.1
  | [], hs, he => by
    simp only [trHs, Option.some.injEq] at he
    subst he
    exact ⟨.nil, fun _ z => nomatch z⟩
  | hd :: hds, hs, he => by
    unfold trHs at he
    split at he
    · rename_i heq
      cases heq
    · rename_i c np b pos r heq
      cases heq
      split at he
      · rename_i hg
        simp only [Option.bind_eq_bind, Option.bind_eq_some_iff, Option.some.injEq] at he
        obtain ⟨hn, h1, s, h2, r', h3, rfl⟩ := he
        have ⟨g1, g2⟩ := h.cok.gl hg
        obtain ⟨i1, i2⟩ := hds_ok h h3
        have hsu := fun (a : Addr) (pn : List (Addr × Obj)) => suite_ok (ca := ca) (cl := cl) (Wx := Wx) (B := B) (X.suite a pn) h.cok.hN h.cok.nd h.cok.sc h.cok.fn h2
        obtain ⟨b₀, rr, rfl⟩ := (hsu 0 []).1
        refine ⟨.cons ⟨g1, g2, .inl (h.cls _ _ h1).1⟩ (fun a oe cls d pn _ _ => (hsu a _).2) i1, fun p hp => ?_⟩
        rcases List.mem_cons.mp hp with rfl | hp
        · exact ⟨_, h1⟩
        · exact i2 p hp
      · cases he
    · cases he
/-! ### name = value -/
theorem asg_name {n : Nat} (h : Sok C ca cl k sup X S) (tk : Takes X Wx) {x : Str} {i : Nat} {p pos : Pos} {e : Expr} {c : CE} (hi : storeOf S x = some i) (he : trE C n S e = some c) : PS X (.Assign [.Name x p] e pos) (tSX X ca cl Wx B fun ρ => xs cl sup fuel ρ (.asg (.nm i) c)) := by
  have A := all_expr (C := C) (ca := ca) (cl := cl) (k := k) n
  have pe := (A.e _ _ Wx _ _ h.cok tk he).pe
  obtain ⟨g1, g2, g3⟩ := h.cok.store hi
  cases hc : isComp e with
  | false => exact n_set h.cok.nd g1 g2 g3 pe (comp_plain hc)
  | true =>
    cases e <;> simp only [isComp, reduceCtorEq] at hc
    case ListComp elt gs scope p2 =>
      cases n with
      | zero => simp [trE] at he
      | succ n =>
        have A := all_expr (C := C) (ca := ca) (cl := cl) (k := k) n
        unfold trE at he
        split at he
        case h_22 =>
          rename_i heq1 heq2
          cases heq1
          cases heq2
          split at he
          · rename_i hb
            simp only [Option.bind_eq_bind, Option.bind_eq_some_iff, Option.some.injEq] at he
            obtain ⟨it, h1, t, h2, cc, h3, ce, h4, rfl⟩ := he
            obtain ⟨k1, k2, k3, k4, k5, k6, k7⟩ := step_comp A h.cok tk hb h1 h2 h3 h4
            rename_i tg iter ifs
            have hfs : ∀ x, foldedSetIterable iter X.env x = pure x := fun x => by cases iter <;> first | rfl | (simp [isSet] at k2)
            cases hsw : (X.env.blockKind == .function && X.env.kindOf x == some .local && p.line == p2.line && !(scope.names.any fun (n, k) => n == x && (k == .local || k == .cell))) with
            | false =>
              refine n_set h.cok.nd g1 g2 g3 pe ?_
              show pure (X.env.blockKind == .function && X.env.kindOf x == some .local && p.line == p2.line && !(scope.names.any fun (n, k) => n == x && (k == .local || k == .cell))) = _
              rw [hsw]
            | true =>
              have hsw' : swapsWith (.ListComp elt [⟨tg, iter, ifs, 0⟩] scope p2) (some (.Name x p)) pos.line X.env = pure true := by
                show pure (X.env.blockKind == .function && X.env.kindOf x == some .local && p.line == p2.line && !(scope.names.any fun (n, k) => n == x && (k == .local || k == .cell))) = _
                rw [hsw]
              simp only [Bool.and_eq_true, beq_iff_eq] at hsw
              have hloc : X.env.scope.names.lookup x = some .local := hsw.1.1.2
              exact ps_imp (ps_setLc h.cok.calm h.cok.nd g1 hloc hsw' k1 k3 k5 k6 k7 hfs) fun D σ H hh => by
                have h5 := set_imp hh
                exact comp_imp k4 h5
          · cases he
        all_goals (first | (rename_i heq; cases heq; done) | cases he)
    case SetComp =>
      cases n with
      | zero => simp [trE] at he
      | succ n => simp [trE] at he
    case DictComp =>
      cases n with
      | zero => simp [trE] at he
      | succ n => simp [trE] at he
/-! ### all statements -/
structure AllS (C : PC) (ca : Nat → Addr) (cl : Nat → List Xv → R W) (k : Nat) (sup : Nat → Nat → Option Bool) (fuel : Nat) (B : Bs) (fz : List Nat) (n : Nat) : Prop where
  s : ∀ X S Wx st rest r c, Sok C ca cl k sup X S → Takes X Wx → trS C fz n S st r = some c → PSs X rest (tSX X ca cl Wx B fun ρ => xss cl sup fuel ρ r) → PSs X (st :: rest) (tSX X ca cl Wx B fun ρ => xss cl sup fuel ρ c)
  ss : ∀ X S Wx sts c, Sok C ca cl k sup X S → Takes X Wx → trSs C fz n S sts = some c → PSs X sts (tSX X ca cl Wx B fun ρ => xss cl sup fuel ρ c)
theorem raised_get {e : Expr} {c : Str} (h : raised e = some c) : ∃ p m j p2 pos, e = .Call (.Name c p) [.Constant (.str m) j p2] [] pos := by
  unfold raised at h
  split at h
  · cases h; exact ⟨_, _, _, _, _, rfl⟩
  · cases h
theorem step_s {n : Nat} (A : AllS C ca cl k sup fuel B fz n) {st : Stmt} {rest : List Stmt} {r c : CSs} (h : Sok C ca cl k sup X S) (tk : Takes X Wx) (he : trS C fz (n + 1) S st r = some c) (hr : PSs X rest (tSX X ca cl Wx B fun ρ => xss cl sup fuel ρ r)) :
    PSs X (st :: rest) (tSX X ca cl Wx B fun ρ => xss cl sup fuel ρ c) := by
  have E := all_expr (C := C) (ca := ca) (cl := cl) (k := k) n
  unfold trS at he
  split at he
  case h_1 => cases he
  case h_2 =>
    rename_i heq
    cases heq
    split at he
    · rename_i hc
      simp only [Bool.and_eq_true, Bool.not_eq_true', decide_eq_true_eq] at hc
      obtain ⟨⟨⟨⟨⟨rfl, rfl⟩, hl⟩, hl2⟩, hs1⟩, hs2⟩ := hc
      simp only [Option.bind_eq_bind, Option.bind_eq_some_iff, Option.some.injEq] at he
      obtain ⟨i, hi, j, hj, kk, hk, v, hv, rfl⟩ := he
      obtain ⟨a1, a2, a3, a4⟩ := h.cok.slot hi
      obtain ⟨b1, b2, b3, b4⟩ := h.cok.slot hj
      exact n_frz (n_cons (n_appendSD h.cok.un a1 a2 a3 a4 b1 b2 b3 b4 hs1 hs2 hl hl2 (E.e _ _ _ _ _ h.cok tk hk).pe (E.e _ _ _ _ _ h.cok tk hv).pe) hr)
    · cases he
  case h_3 =>
    rename_i heq
    cases heq
    split at he
    · rename_i hc
      simp only [Bool.and_eq_true, Bool.not_eq_true'] at hc
      obtain ⟨hl, hs⟩ := hc
      simp only [Option.bind_eq_bind, Option.bind_eq_some_iff] at he
      obtain ⟨i, hi, a, ha, he⟩ := he
      obtain ⟨a1, a2, a3, a4⟩ := h.cok.slot hi
      split at he
      · rename_i hm
        subst hm
        cases he
        exact n_frz (n_cons (n_append a1 a2 a3 a4 hs hl (E.e _ _ _ _ _ h.cok tk ha).pe) hr)
      · split at he
        · rename_i hm
          subst hm
          cases he
          exact n_frz (n_cons (n_extend a1 a2 a3 a4 hs hl (E.e _ _ _ _ _ h.cok tk ha).pe) hr)
        · cases he
    · cases he
  case h_4 =>
    rename_i heq
    cases heq
    split at he
    · cases he
    · rename_i hc
      simp only [Option.bind_eq_bind, Option.bind_eq_some_iff, Option.some.injEq] at he
      obtain ⟨e, hee, rfl⟩ := he
      exact n_frz (n_cons (n_ex (E.e _ _ _ _ _ h.cok tk hee).pe (by simpa using hc)) hr)
  case h_5 =>
    rename_i heq
    cases heq
    simp only [Option.bind_eq_bind, Option.bind_eq_some_iff, Option.some.injEq] at he
    obtain ⟨i, hi, e, hee, rfl⟩ := he
    exact n_frz (n_cons (asg_name h tk hi hee) hr)
  case h_6 =>
    rename_i heq
    cases heq
    split at he
    · cases he
    · rename_i ht
      simp only [Option.bind_eq_bind, Option.bind_eq_some_iff, Option.some.injEq] at he
      obtain ⟨t, htg, e, hee, rfl⟩ := he
      have g := s_tg h.cok.calm h.cok.nd h.cok.hN h.cok.sc h.cok.fn _ t htg
      simp only [trTg, Option.map_eq_some_iff] at htg
      obtain ⟨ts, _, rfl⟩ := htg
      exact n_frz (n_cons (n_asg g.1 (E.e _ _ _ _ _ h.cok tk hee).pe (by simpa using ht)) hr)
  case h_7 =>
    rename_i heq
    cases heq
    split at he
    · cases he
    · rename_i hc
      simp only [Option.bind_eq_bind, Option.bind_eq_some_iff, Option.some.injEq] at he
      obtain ⟨i, hi, kk, hk, e, hee, rfl⟩ := he
      obtain ⟨a1, a2, a3, a4⟩ := h.cok.slot hi
      exact n_frz (n_cons (n_dput h.cok.un a1 a2 a3 a4 (E.e _ _ _ _ _ h.cok tk hk).pe (E.e _ _ _ _ _ h.cok tk hee).pe) hr)
  case h_8 =>
    rename_i heq
    cases heq
    simp only [Option.bind_eq_bind, Option.bind_eq_some_iff, Option.some.injEq] at he
    obtain ⟨o, ho, i, hi, e, hee, rfl⟩ := he
    obtain ⟨g1, g2, g3⟩ := h.cok.store hi
    exact n_frz (n_cons (n_aug ho h.cok.nd g1 g2 g3 (E.e _ _ _ _ _ h.cok tk hee).pe) hr)
  case h_9 =>
    rename_i heq
    cases heq
    simp only [Option.bind_eq_bind, Option.bind_eq_some_iff, Option.some.injEq] at he
    obtain ⟨cc, hc, a, ha, b, hb, rfl⟩ := he
    exact n_frz (n_cons (n_if (E.e _ _ _ _ _ h.cok tk hc).pt (A.ss _ _ _ _ _ h tk ha) (A.ss _ _ _ _ _ h tk hb)) hr)
  case h_10 =>
    rename_i heq
    cases heq
    simp only [Option.bind_eq_bind, Option.bind_eq_some_iff, Option.some.injEq] at he
    obtain ⟨cc, hc, b, hb, rfl⟩ := he
    exact n_frz (n_cons (n_while h.hp (E.e _ _ _ _ _ h.cok tk hc).pt (A.ss _ _ _ _ _ h tk hb)) hr)
  case h_11 =>
    rename_i heq
    cases heq
    simp only [Option.bind_eq_bind, Option.bind_eq_some_iff, Option.some.injEq] at he
    obtain ⟨it, hi, t, ht, b, hb, rfl⟩ := he
    obtain ⟨i1, i2⟩ := E.i _ _ _ _ _ _ h.cok tk hi
    have g := s_tg h.cok.calm h.cok.nd h.cok.hN h.cok.sc h.cok.fn _ t ht
    exact n_frz (n_cons (n_for h.cok.calm h.hp i1 i2 g.1 (A.ss _ _ _ _ _ h tk hb)) hr)
  case h_12 =>
    rename_i heq
    cases heq
    simp only [Option.bind_eq_bind, Option.bind_eq_some_iff, Option.some.injEq] at he
    obtain ⟨e, hee, rfl⟩ := he
    exact n_frz (n_cons (n_ret (E.e _ _ _ _ _ h.cok tk hee).pe) hr)
  case h_13 =>
    rename_i heq
    cases heq
    simp only [Option.bind_eq_bind, Option.bind_eq_some_iff] at he
    obtain ⟨x, hx, he⟩ := he
    split at he
    · rename_i hg
      obtain ⟨cc, hc, he⟩ := Option.bind_eq_some_iff.mp he
      cases he
      obtain ⟨p, m, j, p2, pos, rfl⟩ := raised_get hx
      obtain ⟨c1, c2, ⟨bmB, Bn, newId, initId, c3, c4⟩, c5, c6⟩ := h.cls _ _ hc
      have ⟨g1, g2⟩ := h.cok.gl hg
      exact n_cons (n_raise h.cok.calm tk (pmk_own c3 c4 c1 c2 (raises_own c5 c6) g1 g2)) hr
    · cases he
  case h_14 =>
    rename_i heq
    cases heq
    simp only [Option.bind_eq_bind, Option.bind_eq_some_iff, Option.some.injEq] at he
    obtain ⟨b, hb, hs, hhs, rfl⟩ := he
    obtain ⟨h1, h2⟩ := hds_ok (Wx := Wx) (B := B) h hhs
    refine n_cons (n_try h.st h.fr tk (fun c hh b hm hsup => ?_) (fun W' pn xe tk' hp' => A.ss _ _ _ _ _ (h.tr pn xe hp') tk' hb) h1) hr
    obtain ⟨p, hp, rfl⟩ := List.mem_map.mp hm
    obtain ⟨x, hx⟩ := h2 p hp
    exact h.exm x _ c b hx hsup
  case h_15 =>
    cases he
    exact n_cons n_brk hr
  case h_16 => cases he
theorem all_stmt : ∀ n, AllS C ca cl k sup fuel B fz n
  | 0 => by
    refine ⟨fun X S Wx st rest r c _ _ he _ => by simp [trS] at he, fun X S Wx sts c _ _ he => ?_⟩
    cases sts with
    | nil =>
      simp only [trSs, Option.some.injEq] at he
      subst he
      exact n_nil
    | cons a b => simp [trSs] at he
  | n + 1 => by
    have A : AllS C ca cl k sup fuel B fz n := all_stmt n
    refine ⟨fun X S Wx st rest r c h tk he hr => step_s A h tk he hr, fun X S Wx sts c h tk he => ?_⟩
    cases sts with
    | nil =>
      simp only [trSs, Option.some.injEq] at he
      subst he
      exact n_nil
    | cons a b =>
      simp only [trSs, Option.bind_eq_bind, Option.bind_eq_some_iff] at he
      obtain ⟨r, h1, h2⟩ := he
      exact A.s _ _ _ _ _ _ _ h tk h2 (A.ss _ _ _ _ _ h tk h1)
end
end Q7
end

section
set_option autoImplicit false
set_option Elab.async false
set_option linter.all false
set_option maxRecDepth 100000
/-! The defs of a text keep what the interpreter says. -/
namespace Q7
open PySem PySem.Spec PyProof.Rows L2

/-- the module's facts -/
structure Gok (C : PC) (ca : Nat → Addr) (sup : Nat → Nat → Option Bool) (K : PySem.W.Frag) (mg : Str → Option Value) : Prop where
  blt : ∀ x ∈ bltNames, mg x = none
  cons : ∀ x d, C.cons.lookup x = some d → ∃ v u, mg x = some u ∧ RelV v u ∧ ∀ F, Rp K F v d
  cls : ∀ x c, C.cls.lookup x = some c → mg x = some (.ref (ca c)) ∧ PySem.W.keepIn K (.ref (ca c)) = true ∧ (∃ bmB B newId initId, ExcBaseFacts B newId initId bmB ∧ PySem.W.excIn K (ca c) bmB newId = true) ∧
    PySem.W.subIn K (.ref (ca c)) (.type "BaseException") = some true ∧ PySem.W.typeIn K (.ref (ca c)) = some (.type "type")
  exm : ∀ x h c b, C.cls.lookup x = some h → sup c h = some b → PySem.W.exmOne K (.ref (ca c)) (.ref (ca h)) = some b
/-- one def: its record, and its core form in the table -/
inductive FnRec (C : PC) (T : Nat → Option Fn) (K : PySem.W.Frag) (mg : Str → Option Value) (f : Str) (i : Nat) (fa : Addr) (fd : FuncData) (ps : List Str) : Prop
  | mk (name qual : Str) (params : Arguments) (body : List Stmt) (scope : Scope) (dV kV doc pm cdv ct oc : Value) (an od : Option Addr) (osl : Array (Option Value)) (N : List Str) (fz : List Nat) (F : Fn)
      (hfd : fd = PySem.W.fnOf name qual params body scope dV kV doc pm an cdv ct) (lk : K.lookup fa = some ⟨oc, od, .func fd, osl⟩) (hcd : PySem.W.codeIn K cdv qual = true) (S : FnScope N ps scope)
      (hm : mg f = some (.ref fa)) (hk : PySem.W.keepIn K (.ref fa) = true) (hb : Binds K fd ps []) (hT : T i = some F) (hp : F.np = ps.length) (hn : F.ns = N.length) (ht : trSs C fz 300 ⟨N, scope, fun _ => true⟩ body = some F.body) : FnRec C T K mg f i fa fd ps

section
variable {P : Program} {w : World} {K : PySem.W.Frag} {mg : Str → Option Value} {base : Heap} {C : PC} {ca : Nat → Addr} {sup : Nat → Nat → Option Bool} {fuel : Nat} {T : Nat → Option Fn}
theorem RpXs.getV {F : Hp} : ∀ {vs : List V} {xs : List Xv} {i : Nat} {x : Xv}, RpXs P w K F vs xs → xs[i]? = some x → ∃ v, vs[i]? = some v ∧ RpX P w K F v x
  | _, _, _, _, .nil, e => by simp at e
  | _, _, 0, _, .cons a _, e => by
    simp at e; subst e
    exact ⟨_, rfl, a⟩
  | _, _, i + 1, x, .cons _ b, e => by
    obtain ⟨v, h1, h2⟩ := RpXs.getV (i := i) (x := x) b (by simpa using e)
    exact ⟨v, by simpa using h1, h2⟩
theorem sr_start {N : List Str} {vs : List V} {xs : List Xv} {H F : Hp} (sF : Sub F H) (r : RpXs P w K F vs xs) : SR P w K (L2.start N vs) H F (Q7.start N.length xs) := by
  have hl := r.length
  have get : ∀ {j : Nat} {b : Bool} {y : Xv}, (Q7.start N.length xs)[j]? = some (some (b, y)) → b = false ∧ xs[j]? = some y := fun {j b y} e => by
    unfold Q7.start at e
    by_cases hj : j < xs.length
    · rw [List.getElem?_append_left (by simpa using hj), List.getElem?_map, Option.map_eq_some_iff] at e
      obtain ⟨z, h1, h2⟩ := e
      cases h2
      exact ⟨rfl, h1⟩
    · rw [List.getElem?_append_right (by simpa using hj)] at e
      have := List.mem_of_getElem? e
      rw [List.mem_replicate] at this
      cases this.2
  refine ⟨sF, ?_, fun j y e => ?_, fun j y e => ?_, fun j l y z a e1 e2 s1 s2 => ?_⟩
  · unfold L2.start Q7.start
    simp only [List.length_append, List.length_map, List.length_replicate]
    rw [hl]
  · obtain ⟨_, h⟩ := get e
    obtain ⟨v, h1, h2⟩ := r.getV h
    refine ⟨v, ?_, h2⟩
    unfold L2.start
    have hlt := (List.getElem?_eq_some_iff.mp h1).1
    rw [List.getElem?_append_left (by simpa using hlt), List.getElem?_map, h1]
    rfl
  · obtain ⟨h, _⟩ := get e; cases h
  · obtain ⟨h, _⟩ := get e1; cases h
theorem fn_sound {k : Nat} (g : Gok C ca sup K mg)
    (ih : ∀ f i, C.fns.lookup f = some i → ∃ fa fd ps, FnOk P w K mg base (L2.CX P w) k fa fd ps (spF P w K ca (run T sup fuel k) i) ∧ mg f = some (.ref fa) ∧ PySem.W.keepIn K (.ref fa) = true ∧ Binds K fd ps [])
    {f : Str} {i : Nat} {fa : Addr} {fd : FuncData} {ps : List Str} (r : FnRec C T K mg f i fa fd ps) : FnOk P w K mg base (L2.CX P w) (k + 1) fa fd ps (spF P w K ca (run T sup fuel (k + 1)) i) := by
  obtain ⟨name, qual, params, body, scope, dV, kV, doc, pm, cdv, ct, oc, an, od, osl, N, fz, F, hfd, lk, hcd, S, hm, hk, hb, hT, hp, hn, ht⟩ := r
  subst hfd
  have hrun : ∀ xs, run T sup fuel (k + 1) i xs = if xs.length = F.np ∧ F.np ≤ F.ns then fin (xss (run T sup fuel k) sup fuel (Q7.start F.ns xs) F.body) else .stuck := fun xs => by
    rw [run, hT]
  refine fn_of lk hcd S (fun vs H Q E ⟨xs, F0, sF, rx, q⟩ => ?_) fun A outer s H vs Q E hr ⟨xs, F0, sF, rx, q⟩ => ?_
  · rw [hrun] at q
    split at q
    · rename_i wv e
      split at e
      · rename_i hc; rw [rx.length, hc.1, hp]
      · cases e
    · rename_i c e
      split at e
      · rename_i hc; rw [rx.length, hc.1, hp]
      · cases e
    · exact q.elim
  · have tk : Takes (cxOf (L2.CX P w) P w K mg base N qual scope fa cdv A outer s H E) (fun cls d _ H => E cls d H) := takes_of rfl rfl rfl rfl
    have cok : Cok C ca (run T sup fuel k) k (cxOf (L2.CX P w) P w K mg base N qual scope fa cdv A outer s H E) ⟨N, scope, fun _ => true⟩ :=
      ⟨S.nd, rfl, rfl, fun _ h => h, rfl, hr, S.kind, g.blt, ih, g.cons⟩
    have sok : Sok C ca (run T sup fuel k) k sup (cxOf (L2.CX P w) P w K mg base N qual scope fa cdv A outer s H E) ⟨N, scope, fun _ => true⟩ := ⟨cok, passes_of rfl, rfl, rfl, g.cls, g.exm⟩
    refine ⟨_, (all_stmt (C := C) (ca := ca) (cl := run T sup fuel k) (k := k) (sup := sup) (fuel := fuel) (B := ⟨H, F0⟩) (fz := fz) 300).ss _ _ _ _ _ sok tk ht, Q7.start N.length xs, F0, ⟨sr_start sF rx, Nx.refl sF, fun j y a e _ => ?_⟩, ?_⟩
    · exfalso
      unfold Q7.start at e
      by_cases hj : j < xs.length
      · rw [List.getElem?_append_left (by simpa using hj), List.getElem?_map, Option.map_eq_some_iff] at e
        obtain ⟨z, h1, h2⟩ := e
        cases h2
      · rw [List.getElem?_append_right (by simpa using hj)] at e
        have := List.mem_of_getElem? e
        rw [List.mem_replicate] at this
        cases this.2
    · rw [hrun] at q
      by_cases hc : xs.length = F.np ∧ F.np ≤ F.ns
      · rw [if_pos hc, hn] at q
        dsimp only
        cases hx : xss (run T sup fuel k) sup fuel (Q7.start N.length xs) F.body with
        | ok o =>
          rw [hx] at q
          cases o with
          | nx ρ' => exact fun σ' H' F' sb _ => q _ H' F' sb.nx (.sh (.non))
          | ret wv => exact q
          | brk ρ' => exact q.elim
        | exc c ρ' =>
          rw [hx] at q
          exact fun σ' H' F' sb _ => q H' F' sb.nx
        | stuck => rw [hx] at q; exact q.elim
      · rw [if_neg hc] at q; exact q.elim
/-- all defs, at every depth of calls -/
theorem fns_ok (g : Gok C ca sup K mg) (rec : ∀ f i, C.fns.lookup f = some i → ∃ fa fd ps, FnRec C T K mg f i fa fd ps) : ∀ k f i, C.fns.lookup f = some i → ∃ fa fd ps, FnOk P w K mg base (L2.CX P w) k fa fd ps (spF P w K ca (run T sup fuel k) i) ∧ mg f = some (.ref fa) ∧ PySem.W.keepIn K (.ref fa) = true ∧ Binds K fd ps []
  | 0, f, i, h => by
    obtain ⟨fa, fd, ps, r⟩ := rec f i h
    have r' := r
    obtain ⟨name, qual, params, body, scope, dV, kV, doc, pm, cdv, ct, oc, an, od, osl, N, fz, F, hfd, lk, hcd, S, hm, hk, hb, hT, hp, hn, ht⟩ := r
    exact ⟨fa, fd, ps, ⟨fun vs H Q E ⟨xs, F0, sF, rx, q⟩ => q.elim, fun A outer s H args us vs Q E _ _ _ _ ⟨xs, F0, sF, rx, q⟩ => q.elim⟩, hm, hk, hb⟩
  | k + 1, f, i, h => by
    obtain ⟨fa, fd, ps, r⟩ := rec f i h
    have r' := r
    obtain ⟨name, qual, params, body, scope, dV, kV, doc, pm, cdv, ct, oc, an, od, osl, N, fz, F, hfd, lk, hcd, S, hm, hk, hb, hT, hp, hn, ht⟩ := r
    exact ⟨fa, fd, ps, fn_sound g (fns_ok g rec k) r', hm, hk, hb⟩
end
end Q7
end

section
set_option autoImplicit false
set_option Elab.async false
set_option linter.all false
set_option maxRecDepth 100000
/-! A def's record in the written part, looked at by a program. -/
namespace Q7
open PySem PySem.Spec PyProof.Rows L2

/-- plain parameters -/
def plainArgs (p : Arguments) : Option (List Str) :=
  if p.posonlyargs.isEmpty && p.vararg.isNone && p.kwonlyargs.isEmpty && p.kwarg.isNone then some (p.args.map (·.arg)) else none
theorem lookup_zip {ps : List Str} : ∀ {us : List Value}, ps.Nodup → us.length = ps.length → ps.filterMap (fun n => ((ps.zip us).lookup n).map (n, ·)) = ps.zip us := by
  have gen : ∀ (qs : List Str) (us : List Value) (pre : List (Str × Value)), qs.Nodup → us.length = qs.length → (∀ q ∈ qs, pre.lookup q = none) → qs.filterMap (fun n => ((pre ++ qs.zip us).lookup n).map (n, ·)) = qs.zip us := by
    intro qs
    induction qs with
    | nil => intro us pre _ _ _; rfl
    | cons q qs ih =>
      intro us pre nd hl hp
      cases us with
      | nil => simp at hl
      | cons u us =>
        rw [List.nodup_cons] at nd
        have e1 : (pre ++ (q, u) :: qs.zip us).lookup q = some u := by
          rw [List.lookup_append, hp q (List.mem_cons_self ..)]
          simp [List.lookup]
        rw [List.zip_cons_cons, List.filterMap_cons, e1]
        show (q, u) :: _ = (q, u) :: _
        congr 1
        have e2 : pre ++ (q, u) :: qs.zip us = (pre ++ [(q, u)]) ++ qs.zip us := by simp
        rw [e2]
        refine ih us (pre ++ [(q, u)]) nd.2 (by simpa using hl) fun x hx => ?_
        rw [List.lookup_append, hp x (List.mem_cons_of_mem _ hx)]
        have : (x == q) = false := beq_eq_false_iff_ne.mpr fun z => nd.1 (z ▸ hx)
        simp [List.lookup, this]
  intro us nd hl
  simpa using gen ps us [] nd hl fun _ _ => rfl
theorem binds_plain {K : PySem.W.Frag} {fd : FuncData} {ps : List Str} (h : plainArgs fd.params = some ps) (hd : fd.defaults = .none) (nd : ps.Nodup) : Binds K fd ps [] := by
  refine Binds.all fun us hl => ?_
  unfold plainArgs at h
  split at h
  · rename_i hc
    simp only [Bool.and_eq_true, List.isEmpty_iff, Option.isNone_iff_eq_none] at hc
    obtain ⟨⟨⟨h1, h2⟩, h3⟩, h4⟩ := hc
    have h5 : fd.params.args.map (·.arg) = ps := Option.some.inj h
    unfold bindArgs
    simp only [h1, h2, h3, h4, h5, hd, List.map_nil, List.nil_append, List.append_nil, List.forIn_nil, pure_bind, Option.isNone_none]
    have e0 : seqItems? Value.none = pure none := rfl
    rw [e0]
    have e1 : (decide (us.length > ps.length) && true) = false := by rw [Bool.and_true]; exact decide_eq_false (by omega)
    simp only [pure_bind, Option.getD_none, List.length_nil]
    have hm : (List.filter (fun n => (List.lookup n (ps.zip us)).isNone) ps) = [] := by
      rw [List.filter_eq_nil_iff]
      intro n hn
      obtain ⟨i, hi, rfl⟩ := List.mem_iff_getElem.mp hn
      cases e : List.lookup ps[i] (ps.zip us) with
      | some v => simp
      | none =>
        exfalso
        have z := List.lookup_eq_none_iff.mp e (ps[i], us[i]'(by omega)) (by
          rw [List.mem_iff_getElem]
          exact ⟨i, by simp; omega, by simp⟩)
        simp at z
    rw [if_neg (by rw [e1]; exact Bool.false_ne_true)]
    simp only [List.drop_nil, List.length_nil, Nat.sub_zero, List.take_length, hm, List.isEmpty_nil, Bool.not_true, Bool.false_eq_true, if_false, List.zip_nil_right, List.forIn_nil, pure_bind]
    rw [lookup_zip nd hl]
  · cases h
/-- a scope's check -/
def scopeChk (N ps : List Str) (sc : Scope) : Bool :=
  (match sc.kind with | .function => true | _ => false) && !sc.isCoroutine && !sc.isGenerator && decide N.Nodup && decide (N.take ps.length = ps) && (ps.all fun x => locK (sc.names.lookup x)) && (sc.names.all fun y => match y.2 with | .free => false | _ => true)
theorem scope_ok {N ps : List Str} {sc : Scope} (h : scopeChk N ps sc = true) : FnScope N ps sc := by
  unfold scopeChk at h
  simp only [Bool.and_eq_true, Bool.not_eq_true', decide_eq_true_eq, List.all_eq_true] at h
  obtain ⟨⟨⟨⟨⟨⟨h1, h2⟩, h3⟩, h4⟩, h5⟩, h6⟩, h7⟩ := h
  refine ⟨?_, h2, h3, h4, h5, fun x hx => locK_get (h6 x hx), fun y hy z => ?_⟩
  · split at h1
    · assumption
    · cases h1
  · have := h7 y hy
    rw [z] at this
    cases this
def isNoneV : Value → Bool
  | .none => true
  | _ => false
/-- the core form of the def that stands under a name -/
def fnIn (K : PySem.W.Frag) (C : PC) (f : Str) (fz : List Nat) (N : List Str) : Option Fn :=
  match PySem.W.nsIn K mainGlobals f with
  | some (some (.ref fa)) => (match K.lookup fa with
    | some ⟨_, _, .func fd, _⟩ => (match fd.body, plainArgs fd.params with
      | .stmts body, some ps =>
        if fd.globals == mainGlobals && fd.closure.isEmpty && fd.builtins == builtinsNs && isNoneV fd.defaults && PySem.W.codeIn K fd.code fd.qualname && PySem.W.keepIn K (.ref fa) && scopeChk N ps fd.scope then
          (trSs C fz 300 ⟨N, fd.scope, fun _ => true⟩ body).map fun b => ⟨ps.length, N.length, b⟩
        else none
      | _, _ => none)
    | _ => none)
  | _ => none
theorem fnIn_ok {K : PySem.W.Frag} {C : PC} {T : Nat → Option Fn} {mg : Str → Option Value} {h : Heap} {f : Str} {fz : List Nat} {N : List Str} {F : Fn} {i : Nat} (X : K.In h) (G : h.Ns mainGlobals mg) (e : fnIn K C f fz N = some F) (hT : T i = some F) :
    ∃ fa fd ps, FnRec C T K mg f i fa fd ps := by
  unfold fnIn at e
  split at e
  · rename_i fa hn
    split at e
    · rename_i oc od fd osl hl
      split at e
      · rename_i body ps hb hp
        split at e
        · rename_i hc
          simp only [Bool.and_eq_true, beq_iff_eq, List.isEmpty_iff] at hc
          obtain ⟨⟨⟨⟨⟨⟨h1, h2⟩, h3⟩, h4⟩, h5⟩, h6⟩, h7⟩ := hc
          obtain ⟨b, hb', rfl⟩ := Option.map_eq_some_iff.mp e
          have S := scope_ok h7
          have hd : fd.defaults = .none := by
            cases q : fd.defaults <;> first
              | rfl
              | (rw [q] at h4; cases h4)
          have nd : ps.Nodup := by
            rw [← S.pre]
            exact S.nd.sublist (List.take_sublist _ _)
          refine ⟨fa, fd, ps, .mk fd.name fd.qualname fd.params body fd.scope fd.defaults fd.kwdefaults fd.doc fd.pyModule fd.code fd.closureTuple oc fd.annotations od osl N fz _ ?_ hl h5 S (PySem.W.mg_of X G hn) h6 (binds_plain hp hd nd) hT rfl rfl hb'⟩
          obtain ⟨nm, qn, pr, bd, sc, gl, cl, df, kd, dc, pm, an, cd, ct, bi⟩ := fd
          simp only at h1 h2 h3 hb
          subst h1 h2 h3 hb
          rfl
        · cases e
      · cases e
    · cases e
  · cases e
end Q7
end

section
set_option autoImplicit false
set_option Elab.async false
set_option linter.all false
set_option maxRecDepth 100000
/-! The module's facts by computing; the law's end. -/
namespace Q7
open PySem PySem.Spec PyProof.Rows L2

/-! ### constants -/
mutual
def repIn (K : PySem.W.Frag) : Value → D → Bool
  | u, .non => isNoneV u
  | u, .bl b => (match u with | .bool c => b == c | _ => false)
  | u, .int i => (match u with | .int j _ => i == j | _ => false)
  | u, .str s => (match u with | .str x _ => decide (x.cps.toList = s) && s.all (· < 128) && decide (s.length ≤ big) | _ => false)
  | u, .tup ds => (match u with
    | .ref a => (match K.lookup a with
      | some ⟨.type "tuple", _, .seq its _, _⟩ => decide (its.size ≤ sizeLine) && repsIn K its.toList ds
      | _ => false)
    | _ => false)
  | _, .lst _ => false
def repsIn (K : PySem.W.Frag) : List Value → List D → Bool
  | [], [] => true
  | u :: us, d :: ds => repIn K u d && repsIn K us ds
  | _, _ => false
end
mutual
theorem repIn_ok {K : PySem.W.Frag} : ∀ (u : Value) (d : D), repIn K u d = true → ∃ v, RelV v u ∧ ∀ F, Rp K F v d
  | u, .non, h => by
    simp only [repIn] at h
    cases u <;> first
      | exact ⟨.non, rfl, fun F => .non⟩
      | cases h
  | u, .bl b, h => by
    simp only [repIn] at h
    split at h
    · rename_i c
      have e : b = c := by simpa using h
      subst e
      exact ⟨.bl b, rfl, fun F => .bl b⟩
    · cases h
  | u, .int b, h => by
    simp only [repIn] at h
    split at h
    · rename_i c t
      have e : b = c := by simpa using h
      subst e
      exact ⟨.int b, ⟨t, rfl⟩, fun F => .int b⟩
    · cases h
  | u, .str s, h => by
    simp only [repIn] at h
    split at h
    · rename_i x t
      simp only [Bool.and_eq_true, decide_eq_true_eq, List.all_eq_true] at h
      obtain ⟨⟨h1, h2⟩, h3⟩ := h
      subst h1
      refine ⟨.str x, ⟨t, rfl⟩, fun F => ?_⟩
      have r : Rp K F (.str (toS x.cps.toList)) (.str x.cps.toList) := .str ⟨h3, h2⟩
      exact r
    · cases h
  | u, .tup ds, h => by
    simp only [repIn] at h
    split at h
    · rename_i a
      split at h
      · rename_i dd its n sl hl
        rw [Bool.and_eq_true, decide_eq_true_eq] at h
        obtain ⟨vs, h1, h2⟩ := repsIn_ok its.toList ds h.2
        exact ⟨.ref a, rfl, fun F => .tup (.inr ⟨_, its, n, hl, rfl, rfl, h.1, h1⟩) (h2 F)⟩
      · cases h
    · cases h
  | _, .lst _, h => by simp [repIn] at h
theorem repsIn_ok {K : PySem.W.Frag} : ∀ (us : List Value) (ds : List D), repsIn K us ds = true → ∃ vs, Vals vs us ∧ ∀ F, Rps K F vs ds
  | [], [], _ => ⟨[], .nil, fun F => .nil⟩
  | u :: us, d :: ds, h => by
    simp only [repsIn, Bool.and_eq_true] at h
    obtain ⟨v, h1, h2⟩ := repIn_ok u d h.1
    obtain ⟨vs, h3, h4⟩ := repsIn_ok us ds h.2
    exact ⟨v :: vs, .cons h1 h3, fun F => .cons (h2 F) (h4 F)⟩
  | [], _ :: _, h => by simp [repsIn] at h
  | _ :: _, [], h => by simp [repsIn] at h
end
/-! ### the module -/
def caOf (K : PySem.W.Frag) (C : PC) (c : Nat) : Addr := match C.cls.find? (·.2 == c) with
  | some (x, _) => (match PySem.W.nsIn K mainGlobals x with | some (some (.ref a)) => a | _ => 0)
  | none => 0
/-- whether an exception of class c is caught as h; 0 is the root of all -/
def supOf (cs : List Nat) (c h : Nat) : Option Bool := if cs.contains c && cs.contains h then some (c == h || h == 0) else none
def mroVE : List Value := [.type "ValueError", .type "Exception", .type "BaseException", .type "object"]
def clsChk (K : PySem.W.Frag) (C : PC) (x : Str) (c : Nat) : Bool :=
  (match PySem.W.nsIn K mainGlobals x with | some (some (.ref a)) => a == caOf K C c | _ => false) && PySem.W.keepIn K (.ref (caOf K C c)) && PySem.W.excIn K (caOf K C c) mroVE "ValueError.__new__" &&
    (PySem.W.subIn K (.ref (caOf K C c)) (.type "BaseException") == some true) && (PySem.W.typeIn K (.ref (caOf K C c)) == some (.type "type"))
def gChk (K : PySem.W.Frag) (C : PC) : Bool :=
  (bltNames.all fun x => match PySem.W.nsIn K mainGlobals x with | some none => true | _ => false) &&
  (C.cons.all fun p => match PySem.W.nsIn K mainGlobals p.1 with | some (some u) => repIn K u p.2 | _ => false) &&
  (C.cls.all fun p => clsChk K C p.1 p.2) &&
  (C.cls.all fun p => C.cls.all fun q => PySem.W.exmOne K (.ref (caOf K C p.2)) (.ref (caOf K C q.2)) == some (p.2 == q.2 || q.2 == 0))
theorem mem_of_look {α : Type} : ∀ {l : List (Str × α)} {x : Str} {a : α}, l.lookup x = some a → (x, a) ∈ l
  | [], _, _, h => by simp at h
  | (y, b) :: r, x, a, h => by
    by_cases e : x = y
    · subst e
      simp [List.lookup] at h
      subst h
      exact List.mem_cons_self ..
    · have : (x == y) = false := beq_eq_false_iff_ne.mpr e
      simp only [List.lookup, this] at h
      exact List.mem_cons_of_mem _ (mem_of_look h)
theorem gok_of {K : PySem.W.Frag} {C : PC} {h : Heap} {mg : Str → Option Value} (X : K.In h) (G : h.Ns mainGlobals mg) (e : gChk K C = true) : Gok C (caOf K C) (supOf (C.cls.map (·.2))) K mg := by
  unfold gChk at e
  simp only [Bool.and_eq_true, List.all_eq_true] at e
  obtain ⟨⟨⟨h1, h2⟩, h3⟩, h4⟩ := e
  refine ⟨fun x hx => ?_, fun x d hd => ?_, fun x c hc => ?_, fun x hh c b hl hs => ?_⟩
  · have := h1 x hx
    split at this
    · rename_i q
      exact PySem.W.mg_none_of X G q
    · cases this
  · have := h2 _ (mem_of_look hd)
    split at this
    · rename_i u q
      obtain ⟨v, r1, r2⟩ := repIn_ok u d this
      exact ⟨v, u, PySem.W.mg_of X G q, r1, r2⟩
    · cases this
  · have := h3 _ (mem_of_look hc)
    unfold clsChk at this
    simp only [Bool.and_eq_true] at this
    obtain ⟨⟨⟨⟨g1, g2⟩, g3⟩, g4⟩, g5⟩ := this
    split at g1
    · rename_i a q
      have e : a = caOf K C c := by simpa using g1
      subst e
      exact ⟨PySem.W.mg_of X G q, g2, ⟨_, _, _, _, PySem.F.excBase_ValueError, g3⟩, by simpa using g4, by simpa using g5⟩
    · cases g1
  · unfold supOf at hs
    split at hs
    · rename_i hc
      simp only [Bool.and_eq_true, List.contains_iff_mem, List.mem_map] at hc
      obtain ⟨⟨p, hp, rfl⟩, ⟨q, hq, rfl⟩⟩ := hc
      cases hs
      have := h4 p hp q hq
      simpa using this
    · cases hs
/-! ### the law's end -/
/-- one row of the table: name, number, slots that may own, names of slots, core form -/
structure Rw where
  f : Str
  i : Nat
  fz : List Nat
  N : List Str
  F : Fn
theorem look_map {FL : List Rw} {f : Str} {i : Nat} (h : (FL.map fun e => (e.f, e.i)).lookup f = some i) : ∃ e ∈ FL, e.f = f ∧ e.i = i := by
  obtain ⟨e, he, q⟩ := List.mem_map.mp (mem_of_look h)
  cases q
  exact ⟨e, he, rfl, rfl⟩
theorem map_eq_get {α β : Type} {f g : α → β} : ∀ {l : List α}, l.map f = l.map g → ∀ x ∈ l, f x = g x
  | [], _, _, h => nomatch h
  | a :: l, e, x, h => by
    rw [List.map_cons, List.map_cons] at e
    injection e with e1 e2
    rcases List.mem_cons.mp h with rfl | h
    · exact e1
    · exact map_eq_get e2 x h
theorem rps_ints {K : PySem.W.Frag} {F : Hp} : ∀ ns : List Int, Rps K F (ns.map V.int) (ns.map .int)
  | [] => .nil
  | n :: ns => .cons (.int n) (rps_ints ns)
theorem fnIn_ps {K : PySem.W.Frag} {C : PC} {f : Str} {fz : List Nat} {x : Str} {r : List Str} {F : Fn} (e : fnIn K C f fz (x :: r) = some F) (h1 : F.np = 1) : ∃ fa fd, PySem.W.nsIn K mainGlobals f = some (some (.ref fa)) ∧ plainArgs fd.params = some [x] ∧ fd.defaults = .none ∧
    ∀ (T : Nat → Option Fn) (i : Nat) (h : Heap) (mg : Str → Option Value), K.In h → h.Ns mainGlobals mg → T i = some F → FnRec C T K mg f i fa fd [x] := by
  unfold fnIn at e
  split at e
  · rename_i fa hn
    split at e
    · rename_i oc od fd osl hl
      split at e
      · rename_i body ps hb hp
        split at e
        · rename_i hc
          simp only [Bool.and_eq_true, beq_iff_eq, List.isEmpty_iff] at hc
          obtain ⟨⟨⟨⟨⟨⟨k1, k2⟩, k3⟩, k4⟩, k5⟩, k6⟩, k7⟩ := hc
          obtain ⟨b, hb', rfl⟩ := Option.map_eq_some_iff.mp e
          have S := scope_ok k7
          have hps : ps = [x] := by
            have q := S.pre
            have h1 : ps.length = 1 := h1
            rw [h1] at q
            exact q.symm
          subst hps
          have hd : fd.defaults = .none := by
            cases q : fd.defaults <;> first
              | rfl
              | (rw [q] at k4; cases k4)
          refine ⟨fa, fd, hn, hp, hd, fun T i h mg X G hT => .mk fd.name fd.qualname fd.params body fd.scope fd.defaults fd.kwdefaults fd.doc fd.pyModule fd.code fd.closureTuple oc fd.annotations od osl (x :: r) fz _ ?_ hl k5 S (PySem.W.mg_of X G hn) k6 (binds_plain hp hd (by simp)) hT rfl rfl hb'⟩
          obtain ⟨nm, qn, pr, bd, sc, gl, cl, df, kd, dc, pm, an, cd, ct, bi⟩ := fd
          simp only at k1 k2 k3 hb
          subst k1 k2 k3 hb
          rfl
        · cases e
      · cases e
    · cases e
  · cases e
theorem law_end {l : PySem.W.OpenLaw} {k : Nat} {q : Program} {loose : List Str} {XP : (Str → Option Value) → Heap → Prop} {YP : World → Heap → Prop} {d : DefRec} {K : Params → PySem.W.Frag} (FL : List Rw) (cls : List (Str × Nat)) (cons : List (Str × D)) (T : Nat → Option Fn) (fuel : Nat) {e : Rw} {r : List Str}
    (hn : l.most = some 63) (hdf : d.params.defaults = []) (hr : Room k callerA) (hY : ∀ (w : World) (h : Heap), YP w h → (K w.params).In h)
    (hg : ∀ P, gChk (K P) ⟨FL.map fun e => (e.f, e.i), cls, cons⟩ = true)
    (hf : ∀ P, (FL.map fun e => fnIn (K P) ⟨FL.map fun e => (e.f, e.i), cls, cons⟩ e.f e.fz e.N) = FL.map fun e => some e.F)
    (hT : (FL.map fun e => T e.i) = FL.map fun e => some e.F)
    (he : e ∈ FL) (hne : e.f = d.name) (hN : e.N = ("script" : Str) :: r) (hp : e.F.np = 1)
    (hrun : ∀ ns : List Int, ns.length ≤ 63 → run T (supOf (cls.map (·.2))) fuel k e.i [.d (.lst (ns.map .int))] = .ok ⟨.sh, .d (.bl true)⟩) :
    PySem.W.WalkO q loose XP YP l.row.toRowW d [] (fun f vs => PySem.call f vs) := by
  refine L2.walk_of (K := K) (n := 63) (k := k) (x := "script") (CX := fun w => L2.CX l.prog w) (sp := fun w => spF l.prog w (K w.params) (caOf (K w.params) ⟨FL.map fun e => (e.f, e.i), cls, cons⟩) (run T (supOf (cls.map (·.2))) fuel k) e.i) hn (by rw [sizeLine_eq]; decide) hdf hr hY
    (fun w mg fa h X G hmg => ?_) (fun w H a ns hl hO hS => ?_) fun w H s e s' hx => ?_
  · have hfe := map_eq_get (hf w.params) e he
    rw [hN] at hfe
    obtain ⟨fa', fd, n1, n2, n3, mkr⟩ := fnIn_ps hfe hp
    have e1 := PySem.W.mg_of X G n1
    rw [hne] at e1
    rw [hmg] at e1
    cases e1
    refine ⟨fd, fun s u => ?_, fun base Xb Gb => ?_⟩
    · have b := binds_plain (K := []) n2 n3 (by simp)
      have := b s [u] (fun a o z => by simp at z) (by simp)
      simpa using this
    · have g := gok_of Xb Gb (hg w.params)
      have recs : ∀ f i, (FL.map fun e => (e.f, e.i)).lookup f = some i → ∃ fa fd ps, FnRec ⟨FL.map fun e => (e.f, e.i), cls, cons⟩ T (K w.params) mg f i fa fd ps := fun f i hl => by
        obtain ⟨e2, m2, rfl, rfl⟩ := look_map hl
        exact fnIn_ok Xb Gb (map_eq_get (hf w.params) e2 m2) (map_eq_get hT e2 m2)
      cases k with
      | zero =>
        have z : ∀ vs H Q E, ¬ spF l.prog w (K w.params) (caOf (K w.params) ⟨FL.map fun e => (e.f, e.i), cls, cons⟩) (run T (supOf (cls.map (·.2))) fuel 0) e.i vs H Q E := fun vs H Q E ⟨xs, F0, sF, rx, q⟩ => q.elim
        exact ⟨fun vs H Q E q => (z _ _ _ _ q).elim, fun A outer s H args us vs Q E _ _ _ _ q => (z _ _ _ _ q).elim⟩
      | succ k => exact fn_sound g (fns_ok g recs k) (mkr T e.i base mg Xb Gb (map_eq_get hT e he))
  · refine ⟨[.d (.lst (ns.map .int))], H, Sub.refl, .cons (show Rp _ _ _ _ from .lst hS (rps_ints ns)) .nil, ?_⟩
    rw [hrun ns hl]
    intro v H' F' n hv
    cases hv with
    | sh hv =>
      have hv : Rp (K w.params) F' v (.bl true) := hv
      cases hv
      rfl
  · obtain ⟨_, _, _, _, _, _, _, _, _, _, _, _, z⟩ := hx
    exact z
end Q7
end

section
set_option autoImplicit false
set_option Elab.async false
set_option linter.all false
set_option maxRecDepth 100000
/-! Steps of the interpreter as rewriting rules. -/
namespace Q7.P
/-- a shared value -/
abbrev sv (d : D) : W := ⟨.sh, .d d⟩
abbrev okv (d : D) : R W := .ok ⟨.sh, .d d⟩
abbrev okf (d : D) : R W := .ok ⟨.fr, .d d⟩
theorem run_eq {T : Nat → Option Fn} {sup : Nat → Nat → Option Bool} {fuel k f : Nat} {F : Fn} {as : List Xv} (h : T f = some F) (h1 : as.length = F.np) (h2 : F.np ≤ F.ns) :
    run T sup fuel (k + 1) f as = fin (xss (run T sup fuel k) sup fuel (start F.ns as) F.body) := by
  rw [run, h]; simp [h1, h2]
/-! the rules, big steps -/
section
variable {cl : Nat → List Xv → R W} {ρ : Env} {a b c : CE} {x y z w : W} {p q : Bool}
theorem e_var {i : Nat} {own : Bool} {v : Xv} (h : ρ[i]? = some (some (own, v))) : ev cl ρ (.var i) = .ok ⟨if own then .bo else .sh, v⟩ := by rw [ev, h]
theorem e_vs {i : Nat} {v : Xv} (h : ρ[i]? = some (some (false, v))) : ev cl ρ (.var i) = .ok ⟨.sh, v⟩ := by rw [ev, h]; rfl
theorem e_vo {i : Nat} {v : Xv} (h : ρ[i]? = some (some (true, v))) : ev cl ρ (.var i) = .ok ⟨.bo, v⟩ := by rw [ev, h]; rfl
theorem e_con {d : D} : ev cl ρ (.con d) = okv d := by rw [ev]
theorem e_omit : ev cl ρ .omit = .ok ⟨.bo, .d .non⟩ := by rw [ev]
theorem e_bop {o : Bop} (h1 : ev cl ρ a = .ok x) (h2 : ev cl ρ b = .ok y) (h3 : bopW o x y = some z) : ev cl ρ (.bop o a b) = .ok z := by rw [ev, h1, R.ok_bind, h2, R.ok_bind, h3]; rfl
theorem e_cmp {o : Cop} (h1 : ev cl ρ a = .ok x) (h2 : ev cl ρ b = .ok y) (h3 : cmpW o x y = some z) : ev cl ρ (.cmp o a b) = .ok z := by rw [ev, h1, R.ok_bind, h2, R.ok_bind, h3]; rfl
theorem e_neg (h1 : ev cl ρ a = .ok x) (h3 : negW x = some z) : ev cl ρ (.neg a) = .ok z := by rw [ev, h1, R.ok_bind, h3]; rfl
theorem e_and (h1 : ev cl ρ a = okv (.bl p)) (h2 : p = true → ev cl ρ b = okv (.bl q)) : ev cl ρ (.and a b) = okv (.bl (p && q)) := by
  rw [ev, h1]
  cases p with
  | true => simpa [W.tru, tru] using h2 rfl
  | false => rfl
theorem e_or (h1 : ev cl ρ a = okv (.bl p)) (h2 : p = false → ev cl ρ b = okv (.bl q)) : ev cl ρ (.or a b) = okv (.bl (p || q)) := by
  rw [ev, h1]
  cases p with
  | true => rfl
  | false => simpa [W.tru, tru] using h2 rfl
theorem e_or1 (h1 : ev cl ρ a = okv (.bl true)) : ev cl ρ (.or a b) = okv (.bl true) := by rw [ev, h1]; rfl
theorem e_or0 {r : R W} (h1 : ev cl ρ a = okv (.bl false)) (h2 : ev cl ρ b = r) : ev cl ρ (.or a b) = r := by rw [ev, h1]; exact h2
theorem e_and0 (h1 : ev cl ρ a = okv (.bl false)) : ev cl ρ (.and a b) = okv (.bl false) := by rw [ev, h1]; rfl
theorem e_and1 {r : R W} (h1 : ev cl ρ a = okv (.bl true)) (h2 : ev cl ρ b = r) : ev cl ρ (.and a b) = r := by rw [ev, h1]; exact h2
theorem e_not (h1 : ev cl ρ a = .ok x) (h2 : x.tru = some p) : ev cl ρ (.not a) = okv (.bl (!p)) := by rw [ev, h1, R.ok_bind, h2]; rfl
theorem e_notb (h1 : ev cl ρ a = okv (.bl p)) : ev cl ρ (.not a) = okv (.bl (!p)) := e_not h1 rfl
theorem e_notl {k : Kd} {ys : List D} (h1 : ev cl ρ a = .ok ⟨k, .d (.lst ys)⟩) : ev cl ρ (.not a) = okv (.bl ys.isEmpty) := by rw [e_not h1 rfl, tru, Bool.not_not]
theorem e_ite (h1 : ev cl ρ c = .ok x) (h2 : x.tru = some p) (h3 : p = true → ev cl ρ a = .ok y) (h4 : p = false → ev cl ρ b = .ok z) : ev cl ρ (.ite c a b) = .ok (if p then y else z) := by
  rw [ev, h1, R.ok_bind, h2]
  cases p with
  | true => exact h3 rfl
  | false => exact h4 rfl
theorem e_idx (h1 : ev cl ρ a = .ok x) (h2 : ev cl ρ b = .ok y) (h3 : idxW x y = some z) : ev cl ρ (.idx a b) = .ok z := by rw [ev, h1, R.ok_bind, h2, R.ok_bind, h3]; rfl
theorem e_slice {l h : Option Int} (h1 : ev cl ρ a = .ok x) (h2 : ev cl ρ b = .ok y) (h3 : optInt y = some l) (h4 : ev cl ρ c = .ok z) (h5 : optInt z = some h) (h6 : sliceW x l h = some w) : ev cl ρ (.slice a b c) = .ok w := by
  rw [ev, h1, R.ok_bind, h2, R.ok_bind, h3, R.of_some, R.ok_bind, h4, R.ok_bind, h5, R.of_some, R.ok_bind, h6]; rfl
theorem e_b1 {o : B1} (h1 : ev cl ρ a = .ok x) (h3 : b1W o x = some z) : ev cl ρ (.b1 o a) = .ok z := by rw [ev, h1, R.ok_bind, h3]; rfl
theorem e_isi {t : Ty} (h1 : ev cl ρ a = .ok x) (h3 : isiW t x = some z) : ev cl ρ (.isi a t) = .ok z := by rw [ev, h1, R.ok_bind, h3]; rfl
theorem e_min2 (h1 : ev cl ρ a = .ok x) (h2 : ev cl ρ b = .ok y) (h3 : min2W x y = some z) : ev cl ρ (.min2 a b) = .ok z := by rw [ev, h1, R.ok_bind, h2, R.ok_bind, h3]; rfl
theorem e_max2 (h1 : ev cl ρ a = .ok x) (h2 : ev cl ρ b = .ok y) (h3 : max2W x y = some z) : ev cl ρ (.max2 a b) = .ok z := by rw [ev, h1, R.ok_bind, h2, R.ok_bind, h3]; rfl
theorem e_split (h1 : ev cl ρ a = .ok x) (h0 : x.strO = some ()) (h2 : ev cl ρ b = .ok y) (h3 : splitW x y = some z) : ev cl ρ (.split a b) = .ok z := by rw [ev, h1, R.ok_bind, h0, R.of_some, R.ok_bind, h2, R.ok_bind, h3]; rfl
theorem e_join (h1 : ev cl ρ a = .ok x) (h0 : x.strO = some ()) (h2 : ev cl ρ b = .ok y) (h3 : joinW x y = some z) : ev cl ρ (.join a b) = .ok z := by rw [ev, h1, R.ok_bind, h0, R.of_some, R.ok_bind, h2, R.ok_bind, h3]; rfl
theorem e_starts (h1 : ev cl ρ a = .ok x) (h0 : x.strO = some ()) (h2 : ev cl ρ b = .ok y) (h3 : startswithW x y = some z) : ev cl ρ (.startswith a b) = .ok z := by rw [ev, h1, R.ok_bind, h0, R.of_some, R.ok_bind, h2, R.ok_bind, h3]; rfl
theorem e_tup {es : CEs} {vs : List Xv} (h1 : eva cl ρ es = .ok vs) (h3 : tupW vs = some z) : ev cl ρ (.tup es) = .ok z := by rw [ev, h1, R.ok_bind, h3]; rfl
theorem e_lst {es : CEs} {vs : List Xv} (h1 : eva cl ρ es = .ok vs) (h3 : lstW vs = some z) : ev cl ρ (.lst es) = .ok z := by rw [ev, h1, R.ok_bind, h3]; rfl
theorem e_call {f : Nat} {es : CEs} {vs : List Xv} {r : R W} (h1 : eva cl ρ es = .ok vs) (h3 : cl f vs = r) : ev cl ρ (.call f es) = r := by rw [ev, h1, R.ok_bind, h3]
theorem e_nil : eva cl ρ .nil = .ok [] := by rw [eva]
theorem e_cons {es : CEs} {v : Xv} {vs : List Xv} (h1 : ev cl ρ a = .ok x) (h2 : x.arg = some v) (h3 : eva cl ρ es = .ok vs) : eva cl ρ (.cons a es) = .ok (v :: vs) := by rw [eva, h1, R.ok_bind, h2, R.of_some, R.ok_bind, h3]; rfl
theorem e_val {ds : List D} (h1 : ev cl ρ a = .ok x) (h2 : valI x = some ds) : evi cl ρ (.val a) = .ok ds := by rw [evi, h1, R.ok_bind, h2]; rfl
theorem e_rng1 {ds : List D} (h1 : ev cl ρ a = .ok x) (h2 : rng1I x = some ds) : evi cl ρ (.rng1 a) = .ok ds := by rw [evi, h1, R.ok_bind, h2]; rfl
theorem e_rng2 {ds : List D} (h1 : ev cl ρ a = .ok x) (h3 : ev cl ρ b = .ok y) (h2 : rng2I x y = some ds) : evi cl ρ (.rng2 a b) = .ok ds := by rw [evi, h1, R.ok_bind, h3, R.ok_bind, h2]; rfl
theorem e_enum {ds : List D} (h1 : ev cl ρ a = .ok x) (h2 : enumI x = some ds) : evi cl ρ (.enum a) = .ok ds := by rw [evi, h1, R.ok_bind, h2]; rfl
theorem e_zip {ds : List D} (h1 : ev cl ρ a = .ok x) (h3 : ev cl ρ b = .ok y) (h2 : zipI x y = some ds) : evi cl ρ (.zip a b) = .ok ds := by rw [evi, h1, R.ok_bind, h3, R.ok_bind, h2]; rfl
end
section
variable {cl : Nat → List Xv → R W} {sup : Nat → Nat → Option Bool} {fuel : Nat} {ρ ρ' : Env} {e c : CE} {w x : W} {r s t : CSs} {o : RS} {p : Bool}
theorem x_nil : xss cl sup fuel ρ .nil = .ok (.nx ρ) := by rw [xss]
theorem x_ret (h : ev cl ρ e = .ok w) (hk : w.k ≠ .bo) : xss cl sup fuel ρ (.cons (.ret e) r) = .ok (.ret w) := by
  rw [xss, xs, h, R.ok_to]
  obtain ⟨k, v⟩ := w
  cases k <;> first | rfl | exact absurd rfl hk
theorem x_retb {v : Xv} (h : ev cl ρ e = .ok ⟨.bo, v⟩) : xss cl sup fuel ρ (.cons (.ret e) r) = .ok (.ret ⟨.fr, v⟩) := by
  rw [xss, xs, h, R.ok_to]; rfl
theorem x_ex (h : ev cl ρ e = .ok w) (h2 : xss cl sup fuel ρ r = o) : xss cl sup fuel ρ (.cons (.ex e) r) = o := by
  rw [xss, xs, h, R.ok_to]; exact h2
theorem x_exe {k : Nat} (h : ev cl ρ e = .exc k) : xss cl sup fuel ρ (.cons (.ex e) r) = .exc k ρ := by
  rw [xss, xs, h]; rfl
theorem x_raise {k : Nat} : xss cl sup fuel ρ (.cons (.raise k) r) = .exc k ρ := by rw [xss, xs]; rfl
theorem x_asg {tg : Tg} (h : ev cl ρ e = .ok w) (h1 : asg ρ tg w = some ρ') (h2 : xss cl sup fuel ρ' r = o) : xss cl sup fuel ρ (.cons (.asg tg e) r) = o := by
  rw [xss, xs, h, R.ok_to, h1]; exact h2
theorem x_asge {tg : Tg} {k : Nat} (h : ev cl ρ e = .exc k) : xss cl sup fuel ρ (.cons (.asg tg e) r) = .exc k ρ := by
  rw [xss, xs, h]; rfl
theorem x_ifs (h : ev cl ρ c = .ok w) (h1 : w.tru = some p) (h2 : (xss cl sup fuel ρ (if p then s else t)).seq (fun ρ' => xss cl sup fuel ρ' r) = o) : xss cl sup fuel ρ (.cons (.ifs c s t) r) = o := by
  rw [xss, xs, h, R.ok_to, h1, R.of_some, R.ok_to]
  cases p <;> exact h2
theorem x_ifb (h : ev cl ρ c = okv (.bl p)) (h2 : p = true → (xss cl sup fuel ρ s).seq (fun ρ' => xss cl sup fuel ρ' r) = o) (h3 : p = false → (xss cl sup fuel ρ t).seq (fun ρ' => xss cl sup fuel ρ' r) = o) : xss cl sup fuel ρ (.cons (.ifs c s t) r) = o := by
  refine x_ifs h rfl ?_
  cases p with
  | true => exact h2 rfl
  | false => exact h3 rfl
theorem x_ift (h : ev cl ρ c = okv (.bl true)) (h2 : (xss cl sup fuel ρ s).seq (fun ρ' => xss cl sup fuel ρ' r) = o) : xss cl sup fuel ρ (.cons (.ifs c s t) r) = o := x_ifs h rfl h2
theorem x_iff (h : ev cl ρ c = okv (.bl false)) (h2 : (xss cl sup fuel ρ t).seq (fun ρ' => xss cl sup fuel ρ' r) = o) : xss cl sup fuel ρ (.cons (.ifs c s t) r) = o := x_ifs h rfl h2
theorem x_frz {i : Nat} (h1 : owned ρ i = none) (h2 : xss cl sup fuel ρ r = o) : xss cl sup fuel ρ (.cons (.freeze i) r) = o := by
  rw [xss, xs, h1]; exact h2
theorem x_frzo {i : Nat} {v : Xv} (h1 : owned ρ i = some v) (h2 : xss cl sup fuel (ρ.set i (some (false, v))) r = o) : xss cl sup fuel ρ (.cons (.freeze i) r) = o := by
  rw [xss, xs, h1]; exact h2
theorem x_app {i : Nat} {vs : List D} {d : D} (h : owned ρ i = some (.d (.lst vs))) (h1 : ev cl ρ e = .ok w) (h2 : w.st = some d) (h3 : vs.length < 1000000) (h4 : xss cl sup fuel (ρ.set i (some (true, .d (.lst (vs ++ [d]))))) r = o) : xss cl sup fuel ρ (.cons (.append i e) r) = o := by
  rw [xss, xs, h]
  simp only [h1, R.ok_to, h2, R.of_some, h3, if_true]
  exact h4
theorem x_ext {i : Nat} {vs us : List D} (h : owned ρ i = some (.d (.lst vs))) (h1 : ev cl ρ e = .ok w) (h2 : w.frL = some us) (h3 : vs.length + us.length ≤ 1000000) (h4 : xss cl sup fuel (ρ.set i (some (true, .d (.lst (vs ++ us))))) r = o) : xss cl sup fuel ρ (.cons (.extend i e) r) = o := by
  rw [xss, xs, h]
  simp only [h1, R.ok_to, h2, R.of_some, h3, if_true]
  exact h4
/-- one turn of a loop -/
def turn (cl : Nat → List Xv → R W) (sup : Nat → Nat → Option Bool) (fuel : Nat) (tg : Tg) (b : CSs) (d : D) (ρ : Env) : RS := match bindT tg d ρ with
  | some ρ' => xss cl sup fuel ρ' b
  | none => .stuck
theorem x_for {tg : Tg} {it : CI} {b : CSs} {ds : List D} {o1 : RS} (h : evi cl ρ it = .ok ds) (h1 : forL (turn cl sup fuel tg b) ds ρ = o1) (h2 : o1.seq (fun ρ' => xss cl sup fuel ρ' r) = o) : xss cl sup fuel ρ (.cons (.for_ tg it b) r) = o := by
  rw [xss, xs, h, R.ok_to]; subst h1; exact h2
theorem turn_eq {tg : Tg} {b : CSs} {d : D} (h : bindT tg d ρ = some ρ') : turn cl sup fuel tg b d ρ = xss cl sup fuel ρ' b := by rw [turn, h]
theorem s_n {f : Env → RS} (h : f ρ = o) : (RS.ok (.nx ρ)).seq f = o := h
theorem s_r {f : Env → RS} : (RS.ok (.ret w)).seq f = .ok (.ret w) := rfl
theorem s_e {f : Env → RS} {k : Nat} : (RS.exc k ρ).seq f = .exc k ρ := rfl
end
/-! values -/
theorem c_dat {k : Kd} {d : D} : W.dat ⟨k, .d d⟩ = some d := rfl
theorem c_sts {d : D} : W.st ⟨.sh, .d d⟩ = some d := rfl
theorem c_stf {d : D} : W.st ⟨.fr, .d d⟩ = some d := rfl
theorem c_args {d : Xv} : W.arg ⟨.sh, d⟩ = some d := rfl
theorem c_argf {d : Xv} : W.arg ⟨.fr, d⟩ = some d := rfl
theorem c_tru {k : Kd} {d : D} : W.tru ⟨k, .d d⟩ = some (Q7.tru d) := rfl
theorem c_strO {k : Kd} {s : List Nat} : W.strO ⟨k, .d (.str s)⟩ = some () := rfl
theorem c_seqO {k : Kd} {s : List D} : W.seqO ⟨k, .d (.lst s)⟩ = some () := rfl
theorem c_frL {s : List D} : W.frL ⟨.fr, .d (.lst s)⟩ = some s := rfl
theorem c_opti {k : Kd} {i : Int} : optInt ⟨k, .d (.int i)⟩ = some (some i) := rfl
theorem c_opto : optInt ⟨.bo, .d .non⟩ = some none := rfl
theorem c_trun : Q7.tru .non = false := rfl
theorem c_trub {b : Bool} : Q7.tru (.bl b) = b := rfl
theorem c_trui {i : Int} : Q7.tru (.int i) = (i != 0) := rfl
theorem c_trus {s : List Nat} : Q7.tru (.str s) = !s.isEmpty := rfl
theorem c_trut {s : List D} : Q7.tru (.tup s) = !s.isEmpty := rfl
theorem c_trul {s : List D} : Q7.tru (.lst s) = !s.isEmpty := rfl
theorem c_mki {i : Int} : mk (.int i) = ⟨.sh, .d (.int i)⟩ := rfl
theorem c_mks {i : List Nat} : mk (.str i) = ⟨.sh, .d (.str i)⟩ := rfl
theorem c_mkb {i : Bool} : mk (.bl i) = ⟨.sh, .d (.bl i)⟩ := rfl
theorem c_mkt {i : List D} : mk (.tup i) = ⟨.sh, .d (.tup i)⟩ := rfl
theorem c_mkl {i : List D} : mk (.lst i) = ⟨.fr, .d (.lst i)⟩ := rfl
/-! comparisons -/
theorem c_cmp {o : Cop} {k k' : Kd} {x y : D} {b : Bool} (h : cmpop o x y = some b) : cmpW o ⟨k, .d x⟩ ⟨k', .d y⟩ = some ⟨.sh, .d (.bl b)⟩ := by simp [cmpW, W.dat, h]
theorem bnd0 {a b : D} (h : depth a ≤ 64) : bounded a b = true := by simp only [bounded, decide_eq_true_eq]; omega
theorem c_eqs {s t : List Nat} : cmpop .eq (.str s) (.str t) = some (s == t) := by simp [cmpop, bounded, depth, eqv]
theorem c_nes {s t : List Nat} : cmpop .ne (.str s) (.str t) = some (!(s == t)) := by simp [cmpop, bounded, depth, eqv]
theorem c_eqi {s t : Int} : cmpop .eq (.int s) (.int t) = some (s == t) := by simp [cmpop, bounded, depth, eqv]
theorem c_nei {s t : Int} : cmpop .ne (.int s) (.int t) = some (!(s == t)) := by simp [cmpop, bounded, depth, eqv]
theorem c_lti {s t : Int} : cmpop .lt (.int s) (.int t) = some (decide (s < t)) := by simp [cmpop, lessThan, alike, bounded, depth, dlt]
theorem c_gti {s t : Int} : cmpop .gt (.int s) (.int t) = some (decide (t < s)) := by simp [cmpop, lessThan, alike, bounded, depth, dlt]
theorem c_lei {s t : Int} : cmpop .le (.int s) (.int t) = some (!decide (t < s)) := by simp [cmpop, lessThan, alike, bounded, depth, dlt]
theorem c_gei {s t : Int} : cmpop .ge (.int s) (.int t) = some (!decide (s < t)) := by simp [cmpop, lessThan, alike, bounded, depth, dlt]
theorem c_ins {s t : List Nat} : cmpop .isin (.str s) (.str t) = some (isInfix s t) := rfl
theorem c_nins {s t : List Nat} : cmpop .notin (.str s) (.str t) = some (!isInfix s t) := rfl
theorem c_nel {s t : List D} (h : depths s ≤ 60) : cmpop .ne (.lst s) (.lst t) = some (!eqvs s t) := by
  rw [cmpop, bnd0 (by simp [depth]; omega)]; simp [eqv]
theorem c_eql {s t : List D} (h : depths s ≤ 60) : cmpop .eq (.lst s) (.lst t) = some (eqvs s t) := by
  rw [cmpop, bnd0 (by simp [depth]; omega)]; simp [eqv]
theorem c_net {s t : List D} (h : depths s ≤ 60) : cmpop .ne (.tup s) (.tup t) = some (!eqvs s t) := by
  rw [cmpop, bnd0 (by simp [depth]; omega)]; simp [eqv]
theorem c_eqt {s t : List D} (h : depths s ≤ 60) : cmpop .eq (.tup s) (.tup t) = some (eqvs s t) := by
  rw [cmpop, bnd0 (by simp [depth]; omega)]; simp [eqv]
theorem c_int {s : List Nat} {t : List D} : cmpop .isin (.str s) (.tup t) = some (t.any fun y => eqv y (.str s)) := by simp [cmpop, isIn, depth]
theorem c_nint {s : List Nat} {t : List D} : cmpop .notin (.str s) (.tup t) = some (!t.any fun y => eqv y (.str s)) := by simp [cmpop, isIn, depth]
/-! numbers and texts -/
theorem c_bop {o : Bop} {k k' : Kd} {x y z : D} (h : binop o x y = some z) : bopW o ⟨k, .d x⟩ ⟨k', .d y⟩ = some (mk z) := by simp [bopW, W.dat, h]
theorem c_addi {i j : Int} : binop .add (.int i) (.int j) = some (.int (i + j)) := rfl
theorem c_subi {i j : Int} : binop .sub (.int i) (.int j) = some (.int (i - j)) := rfl
theorem c_adds {x y : List Nat} (h : x.length + y.length ≤ 1000000) : binop .add (.str x) (.str y) = some (.str (x ++ y)) := by simp [binop, isize, h]
theorem c_addl {x y : List D} (h : x.length + y.length ≤ 1000000) : binop .add (.lst x) (.lst y) = some (.lst (x ++ y)) := by simp [binop, isize, h]
theorem c_addt {x y : List D} (h : x.length + y.length ≤ 1000000) : binop .add (.tup x) (.tup y) = some (.tup (x ++ y)) := by simp [binop, isize, h]
theorem c_mod {i j : Int} (h : 0 < j) : binop .mod (.int i) (.int j) = some (.int (i % j)) := by simp [binop, h]
theorem c_mul1 {i j : Int} (h : -18446744073709551616 < j) (h2 : j < 18446744073709551616) : binop .mul (.int i) (.int j) = some (.int (i * j)) := by simp [binop, i64, h, h2]
theorem c_mul2 {i j : Int} (h : -18446744073709551616 < i) (h2 : i < 18446744073709551616) : binop .mul (.int i) (.int j) = some (.int (i * j)) := by simp [binop, i64, h, h2]
theorem c_pow {i j : Int} (h0 : 0 ≤ j) (h1 : j ≤ 1000000) (h : -18446744073709551616 < i) (h2 : i < 18446744073709551616) : binop .pow (.int i) (.int j) = some (.int (i ^ j.toNat)) := by simp [binop, i64, h, h2, h0, h1]
theorem c_fdiv {i j : Int} (h : 0 < j) (h2 : j < 1073741824) : binop .fdiv (.int i) (.int j) = some (.int (i / j)) := by simp [binop, h, h2]
theorem c_neg {k : Kd} {i : Int} : negW ⟨k, .d (.int i)⟩ = some ⟨.sh, .d (.int (-i))⟩ := rfl
theorem c_min2 {k k' : Kd} {i j : Int} : min2W ⟨k, .d (.int i)⟩ ⟨k', .d (.int j)⟩ = some ⟨.sh, .d (.int (if j < i then j else i))⟩ := rfl
theorem c_max2 {k k' : Kd} {i j : Int} : max2W ⟨k, .d (.int i)⟩ ⟨k', .d (.int j)⟩ = some ⟨.sh, .d (.int (if j > i then j else i))⟩ := rfl
/-! built-ins -/
theorem c_b1 {b : B1} {k : Kd} {x : Xv} {z : D} (h : b1 b x = some z) : b1W b ⟨k, x⟩ = some (mk z) := by simp [b1W, h]
theorem c_lens {s : List Nat} : b1 .len (.d (.str s)) = some (.int s.length) := rfl
theorem c_lenl {s : List D} : b1 .len (.d (.lst s)) = some (.int s.length) := rfl
theorem c_lent {s : List D} : b1 .len (.d (.tup s)) = some (.int s.length) := rfl
theorem c_tupl {s : List D} : b1 .tuple (.d (.lst s)) = some (.tup s) := rfl
theorem c_lstt {s : List D} : b1 .list (.d (.tup s)) = some (.lst s) := rfl
theorem c_intb {b : Bool} : b1 .int (.d (.bl b)) = some (.int (if b then 1 else 0)) := rfl
theorem c_isi {k : Kd} {d : D} {t : Ty} : isiW t ⟨k, .d d⟩ = some ⟨.sh, .d (.bl (hasTy (.d d) t))⟩ := rfl
theorem c_split {k k' : Kd} {s : List Nat} {c : Nat} : splitW ⟨k, .d (.str s)⟩ ⟨k', .d (.str [c])⟩ = some ⟨.fr, .d (.lst ((splitC c s).map .str))⟩ := rfl
theorem c_tup {xs : List Xv} {ds : List D} (h : datas xs = some ds) (h2 : ds.length ≤ 1000000) : tupW xs = some ⟨.sh, .d (.tup ds)⟩ := by simp [tupW, h, isize, h2]
theorem c_lst {xs : List Xv} {ds : List D} (h : datas xs = some ds) (h2 : ds.length ≤ 1000000) : lstW xs = some ⟨.fr, .d (.lst ds)⟩ := by simp [lstW, h, isize, h2]
theorem c_dn : datas [] = some [] := rfl
theorem c_dc {d : D} {r : List Xv} {ds : List D} (h : datas r = some ds) : datas (.d d :: r) = some (d :: ds) := by simp [datas, h]
theorem c_vals {s : List Nat} : valI ⟨.sh, .d (.str s)⟩ = some (s.map fun c => .str [c]) := rfl
theorem c_valt {s : List D} : valI ⟨.sh, .d (.tup s)⟩ = some s := rfl
theorem c_vall {s : List D} : valI ⟨.sh, .d (.lst s)⟩ = some s := rfl
theorem c_valf {s : List D} : valI ⟨.fr, .d (.lst s)⟩ = some s := rfl
theorem c_idx {k k' : Kd} {x : Xv} {y z : D} (h : indexX x y = some z) : idxW ⟨k, x⟩ ⟨k', .d y⟩ = some ⟨.sh, .d z⟩ := by simp [idxW, W.dat, h]
theorem c_ixt {s : List D} {i : Int} {z : D} (h : at? s i = some z) : indexX (.d (.tup s)) (.int i) = some z := by simp [indexX, index, h]
theorem c_ixl {s : List D} {i : Int} {z : D} (h : at? s i = some z) : indexX (.d (.lst s)) (.int i) = some z := by simp [indexX, index, h]
theorem c_ixs {s : List Nat} {i : Int} {c : Nat} (h : atS? s i = some c) : indexX (.d (.str s)) (.int i) = some (.str [c]) := by simp [indexX, index, h]
theorem c_slice {k : Kd} {x z : D} {l h : Option Int} (e : slice x l h = some z) : sliceW ⟨k, .d x⟩ l h = some (mk z) := by simp [sliceW, W.dat, e]
theorem c_sls {s : List Nat} {l h : Option Int} : slice (.str s) l h = some (.str (cut s l h)) := rfl
theorem c_slt {s : List D} {l h : Option Int} : slice (.tup s) l h = some (.tup (cut s l h)) := rfl
theorem c_sll {s : List D} {l h : Option Int} : slice (.lst s) l h = some (.lst (cut s l h)) := rfl
theorem c_puts {ρ : Env} {i : Nat} {x : Xv} : asg ρ (.nm i) ⟨.sh, x⟩ = some (ρ.set i (some (false, x))) := rfl
theorem c_putf {ρ : Env} {i : Nat} {x : Xv} : asg ρ (.nm i) ⟨.fr, x⟩ = some (ρ.set i (some (true, x))) := rfl
theorem c_asgt {ρ : Env} {ts : List Tg} {d : D} : asg ρ (.tp ts) ⟨.sh, .d d⟩ = bindT (.tp ts) d ρ := rfl
theorem c_rng1 {k : Kd} {j : Int} (h : -4611686018427387904 ≤ j) (h2 : j < 4611686018427387904) : rng1I ⟨k, .d (.int j)⟩ = some (rngL 0 j.toNat) := by simp [rng1I, W.dat, i62, h, h2]
theorem k_eqs {k k' : Kd} {s t : List Nat} : cmpW .eq ⟨k, .d (.str s)⟩ ⟨k', .d (.str t)⟩ = some ⟨.sh, .d (.bl ((s == t)))⟩ := c_cmp (c_eqs)
theorem k_nes {k k' : Kd} {s t : List Nat} : cmpW .ne ⟨k, .d (.str s)⟩ ⟨k', .d (.str t)⟩ = some ⟨.sh, .d (.bl ((!(s == t))))⟩ := c_cmp (c_nes)
theorem k_eqi {k k' : Kd} {s t : Int} : cmpW .eq ⟨k, .d (.int s)⟩ ⟨k', .d (.int t)⟩ = some ⟨.sh, .d (.bl ((s == t)))⟩ := c_cmp (c_eqi)
theorem k_nei {k k' : Kd} {s t : Int} : cmpW .ne ⟨k, .d (.int s)⟩ ⟨k', .d (.int t)⟩ = some ⟨.sh, .d (.bl ((!(s == t))))⟩ := c_cmp (c_nei)
theorem k_lti {k k' : Kd} {s t : Int} : cmpW .lt ⟨k, .d (.int s)⟩ ⟨k', .d (.int t)⟩ = some ⟨.sh, .d (.bl ((decide (s < t))))⟩ := c_cmp (c_lti)
theorem k_gti {k k' : Kd} {s t : Int} : cmpW .gt ⟨k, .d (.int s)⟩ ⟨k', .d (.int t)⟩ = some ⟨.sh, .d (.bl ((decide (t < s))))⟩ := c_cmp (c_gti)
theorem k_lei {k k' : Kd} {s t : Int} : cmpW .le ⟨k, .d (.int s)⟩ ⟨k', .d (.int t)⟩ = some ⟨.sh, .d (.bl ((!decide (t < s))))⟩ := c_cmp (c_lei)
theorem k_gei {k k' : Kd} {s t : Int} : cmpW .ge ⟨k, .d (.int s)⟩ ⟨k', .d (.int t)⟩ = some ⟨.sh, .d (.bl ((!decide (s < t))))⟩ := c_cmp (c_gei)
theorem k_ins {k k' : Kd} {s t : List Nat} : cmpW .isin ⟨k, .d (.str s)⟩ ⟨k', .d (.str t)⟩ = some ⟨.sh, .d (.bl ((isInfix s t)))⟩ := c_cmp (c_ins)
theorem k_nins {k k' : Kd} {s t : List Nat} : cmpW .notin ⟨k, .d (.str s)⟩ ⟨k', .d (.str t)⟩ = some ⟨.sh, .d (.bl ((!isInfix s t)))⟩ := c_cmp (c_nins)
theorem k_nel {k k' : Kd} {s t : List D} (h : depths s ≤ 60) : cmpW .ne ⟨k, .d (.lst s)⟩ ⟨k', .d (.lst t)⟩ = some ⟨.sh, .d (.bl ((!eqvs s t)))⟩ := c_cmp (c_nel h)
theorem k_eql {k k' : Kd} {s t : List D} (h : depths s ≤ 60) : cmpW .eq ⟨k, .d (.lst s)⟩ ⟨k', .d (.lst t)⟩ = some ⟨.sh, .d (.bl ((eqvs s t)))⟩ := c_cmp (c_eql h)
theorem k_net {k k' : Kd} {s t : List D} (h : depths s ≤ 60) : cmpW .ne ⟨k, .d (.tup s)⟩ ⟨k', .d (.tup t)⟩ = some ⟨.sh, .d (.bl ((!eqvs s t)))⟩ := c_cmp (c_net h)
theorem k_eqt {k k' : Kd} {s t : List D} (h : depths s ≤ 60) : cmpW .eq ⟨k, .d (.tup s)⟩ ⟨k', .d (.tup t)⟩ = some ⟨.sh, .d (.bl ((eqvs s t)))⟩ := c_cmp (c_eqt h)
theorem k_int {k k' : Kd} {s : List Nat} {t : List D} : cmpW .isin ⟨k, .d (.str s)⟩ ⟨k', .d (.tup t)⟩ = some ⟨.sh, .d (.bl ((t.any fun y => eqv y (.str s))))⟩ := c_cmp (c_int)
theorem k_nint {k k' : Kd} {s : List Nat} {t : List D} : cmpW .notin ⟨k, .d (.str s)⟩ ⟨k', .d (.tup t)⟩ = some ⟨.sh, .d (.bl ((!t.any fun y => eqv y (.str s))))⟩ := c_cmp (c_nint)
theorem b_addi {k k' : Kd} {i j : Int} : bopW .add ⟨k, .d (.int i)⟩ ⟨k', .d (.int j)⟩ = some ⟨.sh, .d (.int (i + j))⟩ := c_bop (c_addi)
theorem b_subi {k k' : Kd} {i j : Int} : bopW .sub ⟨k, .d (.int i)⟩ ⟨k', .d (.int j)⟩ = some ⟨.sh, .d (.int (i - j))⟩ := c_bop (c_subi)
theorem b_adds {k k' : Kd} {x y : List Nat} (h : x.length + y.length ≤ 1000000) : bopW .add ⟨k, .d (.str x)⟩ ⟨k', .d (.str y)⟩ = some ⟨.sh, .d (.str (x ++ y))⟩ := c_bop (c_adds h)
theorem b_addl {k k' : Kd} {x y : List D} (h : x.length + y.length ≤ 1000000) : bopW .add ⟨k, .d (.lst x)⟩ ⟨k', .d (.lst y)⟩ = some ⟨.fr, .d (.lst (x ++ y))⟩ := c_bop (c_addl h)
theorem b_addt {k k' : Kd} {x y : List D} (h : x.length + y.length ≤ 1000000) : bopW .add ⟨k, .d (.tup x)⟩ ⟨k', .d (.tup y)⟩ = some ⟨.sh, .d (.tup (x ++ y))⟩ := c_bop (c_addt h)
theorem b_mod {k k' : Kd} {i j : Int} (h : 0 < j) : bopW .mod ⟨k, .d (.int i)⟩ ⟨k', .d (.int j)⟩ = some ⟨.sh, .d (.int (i % j))⟩ := c_bop (c_mod h)
theorem b_mul1 {k k' : Kd} {i j : Int} (h : -18446744073709551616 < j) (h2 : j < 18446744073709551616) : bopW .mul ⟨k, .d (.int i)⟩ ⟨k', .d (.int j)⟩ = some ⟨.sh, .d (.int (i * j))⟩ := c_bop (c_mul1 h h2)
theorem b_mul2 {k k' : Kd} {i j : Int} (h : -18446744073709551616 < i) (h2 : i < 18446744073709551616) : bopW .mul ⟨k, .d (.int i)⟩ ⟨k', .d (.int j)⟩ = some ⟨.sh, .d (.int (i * j))⟩ := c_bop (c_mul2 h h2)
theorem b_pow {k k' : Kd} {i j : Int} (h0 : 0 ≤ j) (h1 : j ≤ 1000000) (h : -18446744073709551616 < i) (h2 : i < 18446744073709551616) : bopW .pow ⟨k, .d (.int i)⟩ ⟨k', .d (.int j)⟩ = some ⟨.sh, .d (.int (i ^ j.toNat))⟩ := c_bop (c_pow h0 h1 h h2)
theorem b_fdiv {k k' : Kd} {i j : Int} (h : 0 < j) (h2 : j < 1073741824) : bopW .fdiv ⟨k, .d (.int i)⟩ ⟨k', .d (.int j)⟩ = some ⟨.sh, .d (.int (i / j))⟩ := c_bop (c_fdiv h h2)
theorem f_lens {k : Kd} {s : List Nat} : b1W .len ⟨k, (.d (.str s))⟩ = some ⟨.sh, .d (.int s.length)⟩ := c_b1 (c_lens)
theorem f_lenl {k : Kd} {s : List D} : b1W .len ⟨k, (.d (.lst s))⟩ = some ⟨.sh, .d (.int s.length)⟩ := c_b1 (c_lenl)
theorem f_lent {k : Kd} {s : List D} : b1W .len ⟨k, (.d (.tup s))⟩ = some ⟨.sh, .d (.int s.length)⟩ := c_b1 (c_lent)
theorem f_tupl {k : Kd} {s : List D} : b1W .tuple ⟨k, (.d (.lst s))⟩ = some ⟨.sh, .d (.tup s)⟩ := c_b1 (c_tupl)
theorem f_lstt {k : Kd} {s : List D} : b1W .list ⟨k, (.d (.tup s))⟩ = some ⟨.fr, .d (.lst s)⟩ := c_b1 (c_lstt)
theorem f_intb {k : Kd} {b : Bool} : b1W .int ⟨k, (.d (.bl b))⟩ = some ⟨.sh, .d (.int (if b then 1 else 0))⟩ := c_b1 (c_intb)
theorem t_nm {i : Nat} {d : D} {ρ : Env} : bindT (.nm i) d ρ = some (ρ.set i (some (false, .d d))) := by rw [bindT]
theorem t_2 {i j : Nat} {x y : D} {ρ : Env} : bindT (.tp [.nm i, .nm j]) (.tup [x, y]) ρ = some ((ρ.set i (some (false, .d x))).set j (some (false, .d y))) := by simp [bindT]
theorem t_4 {i j k l : Nat} {x y z u : D} {ρ : Env} : bindT (.tp [.nm i, .nm j, .nm k, .nm l]) (.tup [x, y, z, u]) ρ = some ((((ρ.set i (some (false, .d x))).set j (some (false, .d y))).set k (some (false, .d z))).set l (some (false, .d u))) := by simp [bindT]
/-- the end of a comprehension -/
theorem c_comp {cl : Nat → List Xv → R W} {ρ : Env} {tg : Tg} {it : CI} {c e : CE} {xs ys : List D} (h : evi cl ρ it = .ok xs) (h2 : compL (compF tg ρ (fun ρ' => ev cl ρ' c) (fun ρ' => ev cl ρ' e)) xs = .ok ys) (h3 : ys.length ≤ 1000000) : ev cl ρ (.comp tg it c e) = .ok ⟨.fr, .d (.lst ys)⟩ := by
  rw [ev, h]
  show (compL _ xs >>= fun ys => _) = _
  rw [h2]
  simp [isize, h3, mk]
/-- one turn -/
theorem c_turn {tg : Tg} {ρ ρ' : Env} {c e : Env → R W} {x : D} {t : Bool} {w wc : W} {d : D} (h : bindT tg x ρ = some ρ') (h1 : c ρ' = .ok wc) (h2 : wc.tru = some t) (h3 : t = true → e ρ' = .ok w ∧ w.st = some d) : compF tg ρ c e x = .ok (if t then some d else none) := by
  simp only [compF, h, h1, R.ok_bind, h2, R.of_some]
  cases t with
  | false => rfl
  | true => obtain ⟨a, b⟩ := h3 rfl; simp [a, b]
end Q7.P
end

section
set_option maxRecDepth 100000
set_option Elab.async false
set_option linter.all false
namespace Q7
def F_is_part : Fn := ⟨1, 2, (.cons (.ifs (.cmp .eq (.var 0) (.con (.str [42, 42])))
(.cons (.ret (.con (.bl true)))
.nil)
.nil)
(.cons (.ret (.and (.cmp .ne (.var 0) (.con (.str []))) (.and (.cmp .notin (.con (.str [42, 42])) (.var 0)) (.not (.comp (.nm 1) (.val (.var 0)) (.cmp .notin (.var 1) (.bop .add (.con (.str [97, 98, 99, 100, 101, 102, 103, 104, 105, 106, 107, 108, 109, 110, 111, 112, 113, 114, 115, 116, 117, 118, 119, 120, 121, 122])) (.con (.str [63, 42])))) (.var 1))))))
.nil))⟩
def F_is_pattern : Fn := ⟨1, 2, (.cons (.ifs (.or (.not (.isi (.var 0) .str)) (.cmp .gt (.b1 .len (.var 0)) (.con (.int 8))))
(.cons (.ret (.con (.bl false)))
.nil)
.nil)
(.cons (.ret (.not (.comp (.nm 1) (.val (.split (.var 0) (.con (.str [47])))) (.not (.call 2 (.cons (.var 1) .nil))) (.var 1))))
.nil))⟩
def F_letters_of : Fn := ⟨1, 5, (.cons (.asg (.nm 1) (.lst .nil))
(.cons (.for_ (.tp [(.nm 2), (.nm 3)]) (.val (.var 0))
(.cons (.extend 1 (.comp (.nm 4) (.val (.var 3)) (.cmp .isin (.var 4) (.con (.str [97, 98, 99, 100, 101, 102, 103, 104, 105, 106, 107, 108, 109, 110, 111, 112, 113, 114, 115, 116, 117, 118, 119, 120, 121, 122]))) (.var 4)))
.nil))
(.cons (.ret (.b1 .sortedset (.var 1)))
.nil)))⟩
def F_is_row : Fn := ⟨1, 1, (.cons (.ifs (.or (.not (.isi (.var 0) .tuple)) (.or (.cmp .ne (.b1 .len (.var 0)) (.con (.int 2))) (.not (.isi (.idx (.var 0) (.con (.int 0))) .str))))
(.cons (.ret (.con (.bl false)))
.nil)
.nil)
(.cons (.ret (.and (.cmp .isin (.idx (.var 0) (.con (.int 0))) (.tup (.cons (.con (.str [43])) (.cons (.con (.str [45])) .nil)))) (.call 3 (.cons (.idx (.var 0) (.con (.int 1))) .nil))))
.nil))⟩
def F_is_rows : Fn := ⟨1, 2, (.cons (.ifs (.or (.not (.isi (.var 0) .tuple)) (.or (.cmp .gt (.b1 .len (.var 0)) (.con (.int 5))) (.comp (.nm 1) (.val (.var 0)) (.not (.call 5 (.cons (.var 1) .nil))) (.var 1))))
(.cons (.ret (.con (.bl false)))
.nil)
.nil)
(.cons (.ret (.cmp .le (.b1 .len (.call 4 (.cons (.var 0) .nil))) (.con (.int 6))))
.nil))⟩
def F_look : Fn := ⟨1, 1, (.cons (.ifs (.not (.call 6 (.cons (.var 0) .nil)))
(.cons (.raise 1)
.nil)
.nil)
.nil)⟩
def F_shown : Fn := ⟨1, 3, (.cons (.ex (.call 7 (.cons (.var 0) .nil)))
(.cons (.ret (.join (.con (.str [10])) (.comp (.tp [(.nm 1), (.nm 2)]) (.val (.var 0)) (.con (.bl true)) (.bop .add (.var 1) (.var 2)))))
.nil))⟩
def F_read : Fn := ⟨1, 3, (.cons (.ifs (.not (.isi (.var 0) .str))
(.cons (.raise 9)
.nil)
.nil)
(.cons (.asg (.nm 1) (.tup .nil))
(.cons (.ifs (.cmp .ne (.var 0) (.con (.str [])))
(.cons (.asg (.nm 1) (.b1 .tuple (.comp (.nm 2) (.val (.split (.var 0) (.con (.str [10])))) (.con (.bl true)) (.tup (.cons (.slice (.var 2) .omit (.con (.int 1))) (.cons (.slice (.var 2) (.con (.int 1)) .omit) .nil))))))
.nil)
.nil)
(.cons (.ifs (.not (.call 6 (.cons (.var 1) .nil)))
(.cons (.raise 9)
.nil)
.nil)
(.cons (.ret (.var 1))
.nil)))))⟩
def F_law_cell : Fn := ⟨2, 2, (.cons (.ifs (.cmp .lt (.var 1) (.b1 .len (.var 0)))
(.cons (.ret (.idx (.var 0) (.var 1)))
.nil)
.nil)
(.cons (.ret (.con (.int 0)))
.nil))⟩
def F_law_mix : Fn := ⟨3, 3, (.cons (.ret (.bop .mod (.bop .mod (.bop .pow (.bop .mod (.bop .mul (.var 0) (.con (.int 48271))) (.var 1)) (.con (.int 3))) (.var 1)) (.var 2)))
.nil)⟩
def F_law_seed : Fn := ⟨2, 2, (.cons (.ret (.bop .mod (.bop .pow (.bop .mod (.bop .add (.bop .add (.bop .mul (.var 0) (.con (.int 1103515245))) (.bop .mul (.con (.int 7919)) (.var 1))) (.con (.int 12345))) (.con (.int 2147483647))) (.con (.int 5))) (.con (.int 2147483647))))
.nil)⟩
def F_law_pick : Fn := ⟨2, 2, (.cons (.ret (.bop .mod (.bop .fdiv (.var 0) (.con (.int 97))) (.var 1)))
.nil)⟩
def F_law_part : Fn := ⟨3, 7, (.cons (.asg (.nm 3) (.con (.str [])))
(.cons (.ifs (.and (.cmp .gt (.var 2) (.con (.int 1))) (.cmp .eq (.bop .mod (.bop .fdiv (.var 0) (.con (.int 5))) (.con (.int 4))) (.con (.int 0))))
(.cons (.ret (.con (.str [42, 42])))
.nil)
.nil)
(.cons (.for_ (.nm 4) (.rng1 (.bop .add (.con (.int 1)) (.bop .mod (.bop .fdiv (.var 0) (.con (.int 7))) (.min2 (.var 2) (.con (.int 4))))))
(.cons (.asg (.nm 5) (.call 14 (.cons (.var 0) (.cons (.var 4) .nil))))
(.cons (.freeze 5)
(.cons (.asg (.nm 6) (.idx (.bop .add (.var 1) (.con (.str [63, 42, 42]))) (.call 15 (.cons (.var 5) (.cons (.bop .add (.b1 .len (.var 1)) (.con (.int 3))) .nil)))))
(.cons (.ifs (.or (.cmp .ne (.var 6) (.con (.str [42]))) (.cmp .ne (.slice (.var 3) (.neg (.con (.int 1))) .omit) (.con (.str [42]))))
(.cons (.asg (.nm 3) (.bop .add (.var 3) (.var 6)))
.nil)
.nil)
.nil)))))
(.cons (.ret (.var 3))
.nil))))⟩
def F_law_pattern : Fn := ⟨2, 5, (.cons (.asg (.nm 2) (.call 16 (.cons (.call 14 (.cons (.var 0) (.cons (.con (.int 1)) .nil))) (.cons (.var 1) (.cons (.con (.int 4)) .nil)))))
(.cons (.for_ (.nm 3) (.rng1 (.bop .mod (.bop .fdiv (.var 0) (.con (.int 3))) (.con (.int 3))))
(.cons (.asg (.nm 4) (.bop .sub (.con (.int 7)) (.b1 .len (.var 2))))
(.cons (.ifs (.cmp .gt (.var 4) (.con (.int 0)))
(.cons (.asg (.nm 2) (.bop .add (.bop .add (.var 2) (.con (.str [47]))) (.call 16 (.cons (.call 14 (.cons (.var 0) (.cons (.bop .add (.con (.int 2)) (.var 3)) .nil))) (.cons (.var 1) (.cons (.var 4) .nil))))))
.nil)
.nil)
.nil)))
(.cons (.ret (.var 2))
.nil)))⟩
def F_law_rows : Fn := ⟨2, 6, (.cons (.asg (.nm 2) (.idx (.lst (.cons (.con (.str [97, 98])) (.cons (.con (.str [97, 98, 99])) (.cons (.con (.str [97])) (.cons (.con (.str [120, 121, 122])) (.cons (.con (.str [97, 98, 99, 100, 101, 102])) .nil)))))) (.bop .mod (.bop .fdiv (.var 0) (.con (.int 11))) (.con (.int 5)))))
(.cons (.asg (.nm 3) (.lst .nil))
(.cons (.for_ (.nm 4) (.rng1 (.idx (.lst (.cons (.var 1) (.cons (.var 1) (.cons (.bop .mod (.bop .fdiv (.var 0) (.con (.int 7))) (.bop .add (.var 1) (.con (.int 1)))) .nil)))) (.bop .mod (.bop .fdiv (.var 0) (.con (.int 13))) (.con (.int 3)))))
(.cons (.asg (.nm 5) (.call 14 (.cons (.var 0) (.cons (.bop .add (.con (.int 20)) (.var 4)) .nil))))
(.cons (.freeze 5)
(.cons (.append 3 (.tup (.cons (.idx (.lst (.cons (.con (.str [43])) (.cons (.con (.str [45])) (.cons (.con (.str [43])) .nil)))) (.bop .mod (.bop .fdiv (.var 5) (.con (.int 5))) (.con (.int 3)))) (.cons (.call 17 (.cons (.var 5) (.cons (.var 2) .nil))) .nil))))
.nil))))
(.cons (.ret (.b1 .tuple (.var 3)))
.nil))))⟩
def F_law_is_pattern : Fn := ⟨1, 3, (.cons (.ifs (.or (.not (.isi (.var 0) .str)) (.cmp .gt (.b1 .len (.var 0)) (.con (.int 8))))
(.cons (.ret (.con (.bl false)))
.nil)
.nil)
(.cons (.for_ (.nm 1) (.val (.split (.var 0) (.con (.str [47]))))
(.cons (.ifs (.or (.cmp .eq (.var 1) (.con (.str []))) (.and (.cmp .ne (.var 1) (.con (.str [42, 42]))) (.cmp .isin (.con (.str [42, 42])) (.var 1))))
(.cons (.ret (.con (.bl false)))
.nil)
.nil)
(.cons (.ifs (.cmp .ne (.comp (.nm 2) (.val (.var 1)) (.cmp .notin (.var 2) (.con (.str [97, 98, 99, 100, 101, 102, 103, 104, 105, 106, 107, 108, 109, 110, 111, 112, 113, 114, 115, 116, 117, 118, 119, 120, 121, 122, 63, 42]))) (.var 2)) (.lst .nil))
(.cons (.ret (.con (.bl false)))
.nil)
.nil)
.nil)))
(.cons (.ret (.con (.bl true)))
.nil)))⟩
def F_law_are_rows : Fn := ⟨1, 4, (.cons (.ifs (.or (.not (.isi (.var 0) .tuple)) (.cmp .gt (.b1 .len (.var 0)) (.con (.int 5))))
(.cons (.ret (.con (.bl false)))
.nil)
.nil)
(.cons (.asg (.nm 1) (.con (.str [])))
(.cons (.for_ (.nm 2) (.val (.var 0))
(.cons (.ifs (.or (.not (.isi (.var 2) .tuple)) (.or (.cmp .ne (.b1 .len (.var 2)) (.con (.int 2))) (.or (.not (.isi (.idx (.var 2) (.con (.int 0))) .str)) (.cmp .notin (.idx (.var 2) (.con (.int 0))) (.tup (.cons (.con (.str [43])) (.cons (.con (.str [45])) .nil)))))))
(.cons (.ret (.con (.bl false)))
.nil)
.nil)
(.cons (.ifs (.not (.call 22 (.cons (.idx (.var 2) (.con (.int 1))) .nil)))
(.cons (.ret (.con (.bl false)))
.nil)
.nil)
(.cons (.asg (.nm 1) (.bop .add (.var 1) (.idx (.var 2) (.con (.int 1)))))
.nil))))
(.cons (.ret (.cmp .lt (.b1 .len (.comp (.nm 3) (.val (.con (.str [97, 98, 99, 100, 101, 102, 103, 104, 105, 106, 107, 108, 109, 110, 111, 112, 113, 114, 115, 116, 117, 118, 119, 120, 121, 122]))) (.cmp .isin (.var 3) (.var 1)) (.var 3))) (.con (.int 7))))
.nil))))⟩
def F_law_k22 : Fn := ⟨1, 12, (.cons (.asg (.nm 1) (.call 18 (.cons (.call 14 (.cons (.call 12 (.cons (.var 0) (.cons (.con (.int 0)) .nil))) (.cons (.con (.int 0)) .nil))) (.cons (.con (.int 5)) .nil))))
(.cons (.freeze 1)
(.cons (.asg (.nm 2) (.join (.con (.str [10])) (.comp (.tp [(.nm 3), (.nm 4)]) (.val (.var 1)) (.con (.bl true)) (.bop .add (.var 3) (.var 4)))))
(.cons (.freeze 1)
(.cons (.ifs (.or (.cmp .ne (.call 157 (.cons (.var 1) .nil)) (.var 2)) (.cmp .ne (.call 158 (.cons (.var 2) .nil)) (.var 1)))
(.cons (.ret (.con (.bl false)))
.nil)
.nil)
(.cons (.asg (.nm 5) (.call 13 (.cons (.call 12 (.cons (.var 0) (.cons (.con (.int 1)) .nil))) (.cons (.con (.int 9949)) (.cons (.bop .add (.b1 .len (.var 2)) (.con (.int 1))) .nil)))))
(.cons (.asg (.nm 3) (.idx (.con (.str [97, 98, 99, 100, 101, 102, 103, 104, 105, 106, 107, 108, 109, 110, 111, 112, 113, 114, 115, 116, 117, 118, 119, 120, 121, 122, 63, 42, 47, 43, 45, 32, 10])) (.bop .mod (.call 12 (.cons (.var 0) (.cons (.con (.int 2)) .nil))) (.con (.int 33)))))
(.cons (.asg (.nm 6) (.bop .mod (.call 12 (.cons (.var 0) (.cons (.con (.int 3)) .nil))) (.con (.int 3))))
(.cons (.asg (.nm 7) (.bop .add (.bop .add (.slice (.var 2) .omit (.var 5)) (.idx (.lst (.cons (.var 3) (.cons (.con (.str [])) (.cons (.var 3) .nil)))) (.var 6))) (.slice (.var 2) (.bop .add (.var 5) (.idx (.lst (.cons (.con (.int 0)) (.cons (.con (.int 1)) (.cons (.con (.int 1)) .nil)))) (.var 6))) .omit)))
(.cons (.asg (.nm 8) (.ite (.cmp .ne (.var 7) (.con (.str []))) (.b1 .tuple (.comp (.nm 9) (.val (.split (.var 7) (.con (.str [10])))) (.con (.bl true)) (.tup (.cons (.slice (.var 9) .omit (.con (.int 1))) (.cons (.slice (.var 9) (.con (.int 1)) .omit) .nil))))) (.tup .nil)))
(.cons (.asg (.nm 10) (.con (.non)))
(.cons (.tr (.cons (.freeze 7)
(.cons (.asg (.nm 10) (.call 158 (.cons (.var 7) .nil)))
.nil)) [(9, (.asg (.nm 10) (.con (.non))))])
(.cons (.ifs (.cmp .ne (.var 10) (.ite (.call 23 (.cons (.var 8) .nil)) (.var 8) (.con (.non))))
(.cons (.ret (.con (.bl false)))
.nil)
.nil)
(.cons (.asg (.nm 11) (.lst .nil))
(.cons (.for_ (.nm 6) (.rng1 (.con (.int 3)))
(.cons (.tr (.cons (.ifs (.cmp .lt (.var 6) (.con (.int 2)))
(.cons (.ex (.call 158 (.cons (.idx (.lst (.cons (.con (.non)) (.cons (.con (.int 7)) (.cons (.tup (.cons (.con (.str [43])) (.cons (.con (.str [97])) .nil))) (.cons (.con (.str [10])) (.cons (.con (.str [43, 97, 10])) (.cons (.con (.str [97])) (.cons (.con (.str [32, 43, 97])) (.cons (.con (.str [43, 43, 97])) .nil))))))))) (.bop .mod (.call 12 (.cons (.var 0) (.cons (.bop .add (.con (.int 4)) (.var 6)) .nil))) (.con (.int 8)))) .nil)))
.nil)
(.cons (.ex (.call 157 (.cons (.idx (.lst (.cons (.con (.non)) (.cons (.b1 .list (.var 1)) (.cons (.tup (.cons (.tup (.cons (.con (.str [43])) .nil)) .nil)) (.cons (.tup (.cons (.tup (.cons (.con (.str [42])) (.cons (.con (.str [97])) .nil))) .nil)) .nil))))) (.bop .mod (.call 12 (.cons (.var 0) (.cons (.con (.int 6)) .nil))) (.con (.int 4)))) .nil)))
.nil))
.nil) [(9, (.append 11 (.con (.str [116, 101, 120, 116])))), (1, (.append 11 (.con (.str [114, 111, 119, 115]))))])
.nil))
(.cons (.ret (.cmp .eq (.var 11) (.lst (.cons (.con (.str [116, 101, 120, 116])) (.cons (.con (.str [116, 101, 120, 116])) (.cons (.con (.str [114, 111, 119, 115])) .nil))))))
.nil))))))))))))))))⟩
def F_is_path : Fn := ⟨1, 4, (.cons (.ifs (.or (.not (.isi (.var 0) .str)) (.cmp .gt (.b1 .len (.var 0)) (.con (.int 40))))
(.cons (.ret (.con (.bl false)))
.nil)
.nil)
(.cons (.asg (.nm 1) (.split (.var 0) (.con (.str [47]))))
(.cons (.freeze 1)
(.cons (.ret (.not (.comp (.nm 2) (.val (.var 1)) (.or (.not (.var 2)) (.comp (.nm 3) (.val (.var 2)) (.cmp .notin (.var 3) (.con (.str [97, 98, 99, 100, 101, 102, 103, 104, 105, 106, 107, 108, 109, 110, 111, 112, 113, 114, 115, 116, 117, 118, 119, 120, 121, 122]))) (.var 3))) (.var 2))))
.nil))))⟩
def F_look_path : Fn := ⟨1, 1, (.cons (.ifs (.not (.call 0 (.cons (.var 0) .nil)))
(.cons (.raise 3)
.nil)
.nil)
.nil)⟩
def F_name_fits : Fn := ⟨2, 2, (.cons (.ifs (.cmp .eq (.var 0) (.con (.str [])))
(.cons (.ret (.cmp .eq (.var 1) (.con (.str []))))
.nil)
.nil)
(.cons (.ifs (.cmp .eq (.idx (.var 0) (.con (.int 0))) (.con (.str [42])))
(.cons (.ret (.or (.call 8 (.cons (.slice (.var 0) (.con (.int 1)) .omit) (.cons (.var 1) .nil))) (.and (.cmp .ne (.var 1) (.con (.str []))) (.call 8 (.cons (.var 0) (.cons (.slice (.var 1) (.con (.int 1)) .omit) .nil))))))
.nil)
.nil)
(.cons (.ret (.and (.cmp .ne (.var 1) (.con (.str []))) (.and (.cmp .isin (.idx (.var 0) (.con (.int 0))) (.tup (.cons (.con (.str [63])) (.cons (.idx (.var 1) (.con (.int 0))) .nil)))) (.call 8 (.cons (.slice (.var 0) (.con (.int 1)) .omit) (.cons (.slice (.var 1) (.con (.int 1)) .omit) .nil))))))
.nil)))⟩
def F_names_fit : Fn := ⟨2, 2, (.cons (.ifs (.not (.var 0))
(.cons (.ret (.not (.var 1)))
.nil)
.nil)
(.cons (.ifs (.cmp .eq (.idx (.var 0) (.con (.int 0))) (.con (.str [42, 42])))
(.cons (.ret (.or (.call 9 (.cons (.slice (.var 0) (.con (.int 1)) .omit) (.cons (.var 1) .nil))) (.and (.b1 .bool (.var 1)) (.call 9 (.cons (.var 0) (.cons (.slice (.var 1) (.con (.int 1)) .omit) .nil))))))
.nil)
.nil)
(.cons (.ret (.and (.b1 .bool (.var 1)) (.and (.call 8 (.cons (.idx (.var 0) (.con (.int 0))) (.cons (.idx (.var 1) (.con (.int 0))) .nil))) (.call 9 (.cons (.slice (.var 0) (.con (.int 1)) .omit) (.cons (.slice (.var 1) (.con (.int 1)) .omit) .nil))))))
.nil)))⟩
def F_fits : Fn := ⟨2, 2, (.cons (.ifs (.not (.call 3 (.cons (.var 0) .nil)))
(.cons (.raise 2)
.nil)
.nil)
(.cons (.ex (.call 1 (.cons (.var 1) .nil)))
(.cons (.ret (.call 9 (.cons (.split (.var 0) (.con (.str [47]))) (.cons (.split (.var 1) (.con (.str [47]))) .nil))))
.nil)))⟩
def F_has : Fn := ⟨2, 5, (.cons (.ex (.call 7 (.cons (.var 0) .nil)))
(.cons (.ex (.call 1 (.cons (.var 1) .nil)))
(.cons (.asg (.nm 2) (.comp (.tp [(.nm 3), (.nm 4)]) (.val (.var 0)) (.call 9 (.cons (.split (.var 4) (.con (.str [47]))) (.cons (.split (.var 1) (.con (.str [47]))) .nil))) (.var 3)))
(.cons (.ret (.cmp .eq (.slice (.var 2) (.neg (.con (.int 1))) .omit) (.lst (.cons (.con (.str [43])) .nil))))
.nil))))⟩
def F_law_near : Fn := ⟨2, 9, (.cons (.asg (.nm 2) (.con (.str [97, 98, 99, 100, 101, 120, 121, 122])))
(.cons (.ifs (.or (.cmp .eq (.var 1) (.tup .nil)) (.cmp .eq (.bop .mod (.bop .fdiv (.var 0) (.con (.int 5))) (.con (.int 5))) (.con (.int 0))))
(.cons (.asg (.nm 3) (.comp (.nm 4) (.rng1 (.bop .add (.con (.int 1)) (.bop .mod (.bop .fdiv (.var 0) (.con (.int 7))) (.con (.int 6))))) (.con (.bl true)) (.idx (.var 2) (.call 15 (.cons (.call 14 (.cons (.var 0) (.cons (.var 4) .nil))) (.cons (.con (.int 8)) .nil))))))
(.cons (.ret (.bop .add (.bop .add (.join (.con (.str [])) (.var 3)) (.bop .mul (.con (.str [47])) (.b1 .int (.cmp .eq (.bop .mod (.bop .fdiv (.var 0) (.con (.int 11))) (.con (.int 2))) (.con (.int 0)))))) (.bop .mul (.con (.str [97])) (.b1 .int (.cmp .eq (.bop .mod (.bop .fdiv (.var 0) (.con (.int 11))) (.con (.int 2))) (.con (.int 0)))))))
.nil))
.nil)
(.cons (.asg (.nm 5) (.lst .nil))
(.cons (.for_ (.tp [(.nm 4), (.nm 6)]) (.enum (.split (.idx (.idx (.var 1) (.bop .mod (.bop .fdiv (.var 0) (.con (.int 13))) (.b1 .len (.var 1)))) (.con (.int 1))) (.con (.str [47]))))
(.cons (.asg (.nm 7) (.call 14 (.cons (.var 0) (.cons (.bop .add (.con (.int 30)) (.var 4)) .nil))))
(.cons (.ifs (.cmp .eq (.var 6) (.con (.str [42, 42])))
(.cons (.asg (.nm 5) (.bop .add (.var 5) (.slice (.lst (.cons (.con (.str [98])) (.cons (.con (.str [122, 97])) .nil))) .omit (.bop .mod (.bop .fdiv (.var 7) (.con (.int 7))) (.con (.int 3))))))
.nil)
(.cons (.freeze 7)
(.cons (.append 5 (.call 20 (.cons (.var 7) (.cons (.var 6) .nil))))
.nil)))
.nil)))
(.cons (.freeze 5)
(.cons (.ret (.or (.join (.con (.str [47])) (.comp (.nm 8) (.val (.var 5)) (.cmp .ne (.var 8) (.con (.str []))) (.var 8))) (.con (.str [97]))))
.nil))))))⟩
def F_law_name : Fn := ⟨2, 6, (.cons (.asg (.nm 2) (.con (.str [])))
(.cons (.for_ (.tp [(.nm 3), (.nm 4)]) (.enum (.var 1))
(.cons (.asg (.nm 5) (.call 14 (.cons (.var 0) (.cons (.var 3) .nil))))
(.cons (.ifs (.cmp .eq (.var 4) (.con (.str [63])))
(.cons (.freeze 5)
(.cons (.asg (.nm 2) (.bop .add (.var 2) (.idx (.con (.str [97, 98, 99, 120, 122])) (.call 15 (.cons (.var 5) (.cons (.con (.int 5)) .nil))))))
.nil))
(.cons (.ifs (.cmp .eq (.var 4) (.con (.str [42])))
(.cons (.freeze 5)
(.cons (.asg (.nm 2) (.bop .add (.var 2) (.idx (.lst (.cons (.con (.str [])) (.cons (.con (.str [97])) (.cons (.con (.str [98, 122])) (.cons (.con (.str [99, 97, 98])) .nil))))) (.call 15 (.cons (.var 5) (.cons (.con (.int 4)) .nil))))))
.nil))
(.cons (.asg (.nm 2) (.bop .add (.var 2) (.ite (.cmp .gt (.bop .mod (.bop .fdiv (.var 5) (.con (.int 7))) (.con (.int 9))) (.con (.int 0))) (.var 4) (.con (.str [122])))))
.nil))
.nil))
.nil)))
(.cons (.ret (.var 2))
.nil)))⟩
def F_law_is_path : Fn := ⟨1, 3, (.cons (.ifs (.or (.not (.isi (.var 0) .str)) (.cmp .gt (.b1 .len (.var 0)) (.con (.int 40))))
(.cons (.ret (.con (.bl false)))
.nil)
.nil)
(.cons (.asg (.nm 1) (.con (.str [47])))
(.cons (.for_ (.nm 2) (.val (.bop .add (.var 0) (.con (.str [47]))))
(.cons (.ifs (.or (.cmp .notin (.var 2) (.con (.str [97, 98, 99, 100, 101, 102, 103, 104, 105, 106, 107, 108, 109, 110, 111, 112, 113, 114, 115, 116, 117, 118, 119, 120, 121, 122, 47]))) (.and (.cmp .eq (.var 2) (.con (.str [47]))) (.cmp .eq (.var 1) (.con (.str [47])))))
(.cons (.ret (.con (.bl false)))
.nil)
.nil)
(.cons (.asg (.nm 1) (.var 2))
.nil)))
(.cons (.ret (.con (.bl true)))
.nil))))⟩
def F_law_as : Fn := ⟨2, 2, (.cons (.ret (.and (.isi (.var 0) .bool) (.cmp .eq (.var 0) (.var 1))))
.nil)⟩
def F_law_spoilt_rows : Fn := ⟨2, 13, (.cons (.asg (.nm 2) (.con (.str [97, 98, 99, 100, 101, 102, 103, 104, 105, 106, 107, 108, 109, 110, 111, 112, 113, 114, 115, 116, 117, 118, 119, 120, 121, 122])))
(.cons (.asg (.nm 3) (.idx (.bop .add (.var 2) (.con (.str [63, 42, 47, 43, 45, 32, 65]))) (.bop .mod (.call 12 (.cons (.var 0) (.cons (.con (.int 1)) .nil))) (.con (.int 33)))))
(.cons (.ifs (.cmp .ne (.var 1) (.tup .nil))
(.cons (.asg (.nm 4) (.bop .mod (.call 12 (.cons (.var 0) (.cons (.con (.int 2)) .nil))) (.b1 .len (.var 1))))
(.cons (.asg (.tp [(.nm 9), (.nm 10)]) (.idx (.var 1) (.var 4)))
(.cons (.asg (.nm 5) (.call 13 (.cons (.call 12 (.cons (.var 0) (.cons (.con (.int 3)) .nil))) (.cons (.con (.int 9949)) (.cons (.bop .add (.b1 .len (.var 10)) (.con (.int 1))) .nil)))))
(.cons (.asg (.nm 6) (.bop .mod (.call 12 (.cons (.var 0) (.cons (.con (.int 4)) .nil))) (.con (.int 4))))
(.cons (.asg (.nm 7) (.tup (.cons (.var 9) (.cons (.bop .add (.bop .add (.slice (.var 10) .omit (.var 5)) (.idx (.lst (.cons (.var 3) (.cons (.con (.str [])) (.cons (.var 3) (.cons (.con (.str [42, 42])) .nil))))) (.var 6))) (.slice (.var 10) (.bop .add (.var 5) (.idx (.lst (.cons (.con (.int 0)) (.cons (.con (.int 1)) (.cons (.con (.int 1)) (.cons (.con (.int 0)) .nil))))) (.var 6))) .omit)) .nil))))
(.cons (.asg (.nm 8) (.idx (.lst (.cons (.var 7) (.cons (.var 7) (.cons (.tup (.cons (.var 3) (.cons (.var 10) .nil))) (.cons (.b1 .list (.var 7)) (.cons (.con (.non)) (.cons (.tup (.cons (.var 9) (.cons (.con (.non)) .nil))) (.cons (.tup (.cons (.var 9) .nil)) .nil)))))))) (.bop .mod (.call 12 (.cons (.var 0) (.cons (.con (.int 5)) .nil))) (.con (.int 7)))))
(.cons (.asg (.nm 1) (.bop .add (.bop .add (.slice (.var 1) .omit (.var 4)) (.tup (.cons (.var 8) .nil))) (.slice (.var 1) (.bop .add (.var 4) (.con (.int 1))) .omit)))
.nil)))))))
.nil)
(.cons (.ifs (.cmp .eq (.bop .mod (.call 12 (.cons (.var 0) (.cons (.con (.int 6)) .nil))) (.con (.int 5))) (.con (.int 0)))
(.cons (.asg (.nm 11) (.comp (.nm 12) (.rng1 (.con (.int 5))) (.con (.bl true)) (.tup (.cons (.con (.str [43])) (.cons (.idx (.var 2) (.bop .mod (.bop .add (.bop .mul (.var 12) (.con (.int 5))) (.call 12 (.cons (.var 0) (.cons (.con (.int 7)) .nil)))) (.con (.int 26)))) .nil)))))
(.cons (.asg (.nm 1) (.bop .add (.var 1) (.b1 .tuple (.slice (.var 11) .omit (.bop .mod (.call 12 (.cons (.var 0) (.cons (.con (.int 7)) .nil))) (.con (.int 6)))))))
.nil))
.nil)
(.cons (.ret (.var 1))
.nil)))))⟩
def F_law_k01 : Fn := ⟨1, 10, (.cons (.asg (.nm 1) (.call 25 (.cons (.var 0) (.cons (.call 18 (.cons (.call 14 (.cons (.call 12 (.cons (.var 0) (.cons (.con (.int 0)) .nil))) (.cons (.con (.int 0)) .nil))) (.cons (.con (.int 5)) .nil))) .nil))))
(.cons (.freeze 1)
(.cons (.asg (.nm 2) (.call 23 (.cons (.var 1) .nil)))
(.cons (.freeze 1)
(.cons (.asg (.nm 3) (.call 19 (.cons (.call 14 (.cons (.call 12 (.cons (.var 0) (.cons (.con (.int 8)) .nil))) (.cons (.con (.int 0)) .nil))) (.cons (.ite (.var 2) (.var 1) (.tup .nil)) .nil))))
(.cons (.asg (.nm 4) (.call 13 (.cons (.call 12 (.cons (.var 0) (.cons (.con (.int 9)) .nil))) (.cons (.con (.int 9941)) (.cons (.bop .add (.b1 .len (.var 3)) (.con (.int 1))) .nil)))))
(.cons (.asg (.nm 5) (.idx (.con (.str [97, 98, 99, 100, 101, 102, 103, 104, 105, 106, 107, 108, 109, 110, 111, 112, 113, 114, 115, 116, 117, 118, 119, 120, 121, 122, 63, 42, 47, 43, 45, 32, 65])) (.bop .mod (.call 12 (.cons (.var 0) (.cons (.con (.int 1)) .nil))) (.con (.int 33)))))
(.cons (.asg (.nm 6) (.bop .add (.bop .add (.slice (.var 3) .omit (.var 4)) (.var 5)) (.slice (.var 3) (.bop .add (.var 4) (.bop .mod (.call 12 (.cons (.var 0) (.cons (.con (.int 10)) .nil))) (.con (.int 2)))) .omit)))
(.cons (.asg (.nm 6) (.bop .add (.var 6) (.slice (.idx (.lst (.cons (.con (.str [])) (.cons (.con (.str [])) (.cons (.bop .add (.con (.str [47])) (.bop .mul (.con (.str [97, 98])) (.con (.int 22)))) .nil)))) (.bop .mod (.call 12 (.cons (.var 0) (.cons (.con (.int 11)) .nil))) (.con (.int 3)))) .omit (.bop .mod (.call 12 (.cons (.var 0) (.cons (.con (.int 11)) .nil))) (.con (.int 43))))))
(.cons (.freeze 1)
(.cons (.freeze 2)
(.cons (.freeze 3)
(.cons (.ifs (.or (.not (.call 24 (.cons (.call 6 (.cons (.var 1) .nil)) (.cons (.var 2) .nil)))) (.not (.call 24 (.cons (.call 0 (.cons (.var 3) .nil)) (.cons (.con (.bl true)) .nil)))))
(.cons (.ret (.con (.bl false)))
.nil)
.nil)
(.cons (.freeze 6)
(.cons (.ifs (.or (.not (.call 24 (.cons (.call 0 (.cons (.var 6) .nil)) (.cons (.call 21 (.cons (.var 6) .nil)) .nil)))) (.cmp .isnot (.call 0 (.cons (.con (.non)) .nil)) (.con (.bl false))))
(.cons (.ret (.con (.bl false)))
.nil)
.nil)
(.cons (.ifs (.cmp .isnot (.call 6 (.cons (.lst (.cons (.tup (.cons (.con (.str [43])) (.cons (.con (.str [97])) .nil))) .nil)) .nil)) (.con (.bl false)))
(.cons (.ret (.con (.bl false)))
.nil)
.nil)
(.cons (.freeze 6)
(.cons (.for_ (.nm 7) (.val (.tup (.cons (.var 6) (.cons (.slice (.var 6) .omit (.con (.int 8))) (.cons (.slice (.var 3) .omit (.con (.int 8))) (.cons (.var 5) (.cons (.con (.non)) (.cons (.con (.int 7)) .nil))))))))
(.cons (.ifs (.not (.call 24 (.cons (.call 3 (.cons (.var 7) .nil)) (.cons (.call 22 (.cons (.var 7) .nil)) .nil))))
(.cons (.ret (.con (.bl false)))
.nil)
.nil)
.nil))
(.cons (.asg (.nm 8) (.lst .nil))
(.cons (.for_ (.nm 9) (.rng1 (.con (.int 3)))
(.cons (.tr (.cons (.ifs (.cmp .eq (.var 9) (.con (.int 0)))
(.cons (.freeze 1)
(.cons (.ex (.call 11 (.cons (.ite (.var 2) (.con (.non)) (.var 1)) (.cons (.con (.non)) .nil))))
.nil))
(.cons (.ifs (.cmp .eq (.var 9) (.con (.int 1)))
(.cons (.ex (.call 10 (.cons (.bop .add (.bop .mul (.var 5) (.con (.int 2))) (.con (.str [65]))) (.cons (.con (.non)) .nil))))
.nil)
(.cons (.freeze 6)
(.cons (.ex (.call 10 (.cons (.con (.str [97])) (.cons (.ite (.call 21 (.cons (.var 6) .nil)) (.con (.int 7)) (.var 6)) .nil))))
.nil)))
.nil))
.nil) [(1, (.append 8 (.con (.str [114, 111, 119, 115])))), (2, (.append 8 (.con (.str [112, 97, 116, 116, 101, 114, 110])))), (3, (.append 8 (.con (.str [112, 97, 116, 104]))))])
.nil))
(.cons (.ret (.cmp .eq (.var 8) (.lst (.cons (.con (.str [114, 111, 119, 115])) (.cons (.con (.str [112, 97, 116, 116, 101, 114, 110])) (.cons (.con (.str [112, 97, 116, 104])) .nil))))))
.nil)))))))))))))))))))))⟩
def F_law_name_fits : Fn := ⟨2, 6, (.cons (.asg (.nm 2) (.lst (.cons (.con (.int 0)) .nil)))
(.cons (.for_ (.nm 3) (.val (.bop .add (.var 1) (.con (.str [47]))))
(.cons (.asg (.nm 4) (.lst .nil))
(.cons (.freeze 2)
(.cons (.for_ (.nm 5) (.val (.var 2))
(.cons (.append 4 (.var 5))
(.cons (.whl (.cmp .eq (.slice (.var 0) (.var 5) (.bop .add (.var 5) (.con (.int 1)))) (.con (.str [42])))
(.cons (.aug 5 .add (.con (.int 1)))
(.cons (.append 4 (.var 5))
.nil)))
.nil)))
(.cons (.ifs (.cmp .eq (.var 3) (.con (.str [47])))
(.cons (.ret (.cmp .isin (.b1 .len (.var 0)) (.var 4)))
.nil)
.nil)
(.cons (.freeze 4)
(.cons (.asg (.nm 2) (.comp (.nm 5) (.val (.var 4)) (.cmp .eq (.slice (.var 0) (.var 5) (.bop .add (.var 5) (.con (.int 1)))) (.con (.str [42]))) (.var 5)))
(.cons (.freeze 4)
(.cons (.asg (.nm 2) (.bop .add (.var 2) (.comp (.nm 5) (.val (.var 4)) (.cmp .isin (.slice (.var 0) (.var 5) (.bop .add (.var 5) (.con (.int 1)))) (.tup (.cons (.con (.str [63])) (.cons (.var 3) .nil)))) (.bop .add (.var 5) (.con (.int 1))))))
.nil)))))))))
(.cons (.ret (.con (.bl false)))
.nil)))⟩
def F_law_fits : Fn := ⟨2, 7, (.cons (.asg (.nm 2) (.split (.var 0) (.con (.str [47]))))
(.cons (.asg (.nm 3) (.lst (.cons (.con (.int 0)) .nil)))
(.cons (.for_ (.nm 4) (.val (.split (.var 1) (.con (.str [47]))))
(.cons (.freeze 2)
(.cons (.freeze 3)
(.cons (.asg (.nm 3) (.call 29 (.cons (.var 2) (.cons (.var 3) .nil))))
(.cons (.asg (.nm 5) (.lst .nil))
(.cons (.freeze 3)
(.cons (.for_ (.nm 6) (.val (.comp (.nm 6) (.val (.var 3)) (.cmp .lt (.var 6) (.b1 .len (.var 2))) (.var 6)))
(.cons (.ifs (.cmp .eq (.idx (.var 2) (.var 6)) (.con (.str [42, 42])))
(.cons (.append 5 (.var 6))
.nil)
(.cons (.ifs (.call 27 (.cons (.idx (.var 2) (.var 6)) (.cons (.var 4) .nil)))
(.cons (.append 5 (.bop .add (.var 6) (.con (.int 1))))
.nil)
.nil)
.nil))
.nil))
(.cons (.freeze 5)
(.cons (.asg (.nm 3) (.var 5))
.nil)))))))))
(.cons (.freeze 2)
(.cons (.freeze 3)
(.cons (.ret (.cmp .isin (.b1 .len (.var 2)) (.call 29 (.cons (.var 2) (.cons (.var 3) .nil)))))
.nil))))))⟩
def F_law_skipped : Fn := ⟨2, 4, (.cons (.asg (.nm 2) (.lst .nil))
(.cons (.for_ (.nm 3) (.val (.var 1))
(.cons (.append 2 (.var 3))
(.cons (.whl (.and (.cmp .lt (.var 3) (.b1 .len (.var 0))) (.cmp .eq (.idx (.var 0) (.var 3)) (.con (.str [42, 42]))))
(.cons (.aug 3 .add (.con (.int 1)))
(.cons (.append 2 (.var 3))
.nil)))
.nil)))
(.cons (.ret (.b1 .sortedset (.var 2)))
.nil)))⟩
def F_law_has : Fn := ⟨2, 5, (.cons (.asg (.nm 2) (.con (.str [45])))
(.cons (.for_ (.tp [(.nm 3), (.nm 4)]) (.val (.var 0))
(.cons (.ifs (.call 28 (.cons (.var 4) (.cons (.var 1) .nil)))
(.cons (.asg (.nm 2) (.var 3))
.nil)
.nil)
.nil))
(.cons (.ret (.cmp .eq (.var 2) (.con (.str [43]))))
.nil)))⟩
def F_law_k02 : Fn := ⟨1, 6, (.cons (.asg (.nm 1) (.call 18 (.cons (.call 14 (.cons (.call 12 (.cons (.var 0) (.cons (.con (.int 0)) .nil))) (.cons (.con (.int 0)) .nil))) (.cons (.con (.int 5)) .nil))))
(.cons (.for_ (.nm 2) (.rng1 (.con (.int 12)))
(.cons (.freeze 1)
(.cons (.asg (.nm 3) (.call 19 (.cons (.call 14 (.cons (.bop .add (.call 12 (.cons (.var 0) (.cons (.bop .add (.con (.int 1)) (.bop .mod (.var 2) (.con (.int 6)))) .nil))) (.bop .mul (.con (.int 17)) (.var 2))) (.cons (.var 2) .nil))) (.cons (.var 1) .nil))))
(.cons (.freeze 1)
(.cons (.freeze 3)
(.cons (.ifs (.not (.call 24 (.cons (.call 11 (.cons (.var 1) (.cons (.var 3) .nil))) (.cons (.call 30 (.cons (.var 1) (.cons (.var 3) .nil))) .nil))))
(.cons (.ret (.con (.bl false)))
.nil)
.nil)
(.cons (.freeze 1)
(.cons (.for_ (.tp [(.nm 4), (.nm 5)]) (.val (.var 1))
(.cons (.freeze 3)
(.cons (.ifs (.not (.call 24 (.cons (.call 10 (.cons (.var 5) (.cons (.var 3) .nil))) (.cons (.call 28 (.cons (.var 5) (.cons (.var 3) .nil))) .nil))))
(.cons (.ret (.con (.bl false)))
.nil)
.nil)
.nil)))
.nil))))))))
(.cons (.ret (.and (.cmp .is (.call 11 (.cons (.tup .nil) (.cons (.con (.str [97])) .nil))) (.con (.bl false))) (.and (.cmp .is (.call 10 (.cons (.con (.str [42, 42])) (.cons (.con (.str [97, 47, 98])) .nil))) (.con (.bl true))) (.cmp .is (.call 10 (.cons (.con (.str [97, 47, 42, 42])) (.cons (.con (.str [97])) .nil))) (.con (.bl true))))))
.nil)))⟩
end Q7
end

section
set_option autoImplicit false
set_option Elab.async false
set_option linter.all false
set_option maxRecDepth 100000
namespace Q7.P
section
variable (cl : Nat → List Xv → R W) (sup : Nat → Nat → Option Bool) (fuel : Nat)
theorem compL_filter {f : D → R (Option D)} {p : Nat → Bool} (h : ∀ c, f (.str [c]) = .ok (if p c then some (.str [c]) else none)) : ∀ s : List Nat, compL f (s.map fun c => .str [c]) = .ok ((s.filter p).map fun c => .str [c])
  | [] => rfl
  | c :: r => by
    rw [List.map_cons, compL, h c]
    have := compL_filter h r
    cases hp : p c <;> simp [this, List.filter_cons, hp]
def small : List Nat := [97, 98, 99, 100, 101, 102, 103, 104, 105, 106, 107, 108, 109, 110, 111, 112, 113, 114, 115, 116, 117, 118, 119, 120, 121, 122]
def isPart (s : List Nat) : Bool := s == [42, 42] || (!(s == []) && (!isInfix [42, 42] s && ((s.filter fun c => !isInfix [c] (small ++ [63, 42])).map fun c => D.str [c]).isEmpty))
theorem p_is_part (s : List Nat) (hs : s.length ≤ 1000) : fin (xss cl sup fuel (start F_is_part.ns [.d (.str s)]) F_is_part.body) = okv (.bl (isPart s)) := by
  have h : xss cl sup fuel (start F_is_part.ns [.d (.str s)]) F_is_part.body = .ok (.ret (sv (.bl (isPart s)))) := by
    unfold isPart
    apply x_ifb
    · (repeat' first | exact e_vs rfl | exact e_vo rfl | exact e_con | exact e_omit | exact e_nil | apply e_and | apply e_or | apply e_notb | apply e_notl | apply e_bop | apply e_cmp | apply e_neg | apply e_ite | apply e_idx | apply e_slice | apply e_b1 | apply e_isi | apply e_min2 | apply e_max2 | apply e_split | apply e_join | apply e_starts | apply e_tup | apply e_lst | apply e_call | apply e_cons | apply e_val | apply e_rng1 | apply e_rng2 | apply e_enum | apply e_zip | exact k_eqs | exact k_nes | exact k_eqi | exact k_nei | exact k_lti | exact k_gti | exact k_lei | exact k_gei | exact k_ins | exact k_nins | (refine k_nel ?_ <;> (first | omega | (simp only [List.length_append, List.length_cons, List.length_nil]; omega) | (simp; done) | (simp; omega) | decide)) | (refine k_eql ?_ <;> (first | omega | (simp only [List.length_append, List.length_cons, List.length_nil]; omega) | (simp; done) | (simp; omega) | decide)) | (refine k_net ?_ <;> (first | omega | (simp only [List.length_append, List.length_cons, List.length_nil]; omega) | (simp; done) | (simp; omega) | decide)) | (refine k_eqt ?_ <;> (first | omega | (simp only [List.length_append, List.length_cons, List.length_nil]; omega) | (simp; done) | (simp; omega) | decide)) | exact k_int | exact k_nint | exact b_addi | exact b_subi | (refine b_adds ?_ <;> (first | omega | (simp only [List.length_append, List.length_cons, List.length_nil]; omega) | (simp; done) | (simp; omega) | decide)) | (refine b_addl ?_ <;> (first | omega | (simp only [List.length_append, List.length_cons, List.length_nil]; omega) | (simp; done) | (simp; omega) | decide)) | (refine b_addt ?_ <;> (first | omega | (simp only [List.length_append, List.length_cons, List.length_nil]; omega) | (simp; done) | (simp; omega) | decide)) | (refine b_mod ?_ <;> (first | omega | (simp only [List.length_append, List.length_cons, List.length_nil]; omega) | (simp; done) | (simp; omega) | decide)) | (refine b_mul1 ?_ ?_ <;> (first | omega | (simp only [List.length_append, List.length_cons, List.length_nil]; omega) | (simp; done) | (simp; omega) | decide)) | (refine b_mul2 ?_ ?_ <;> (first | omega | (simp only [List.length_append, List.length_cons, List.length_nil]; omega) | (simp; done) | (simp; omega) | decide)) | (refine b_pow ?_ ?_ ?_ ?_ <;> (first | omega | (simp only [List.length_append, List.length_cons, List.length_nil]; omega) | (simp; done) | (simp; omega) | decide)) | (refine b_fdiv ?_ ?_ <;> (first | omega | (simp only [List.length_append, List.length_cons, List.length_nil]; omega) | (simp; done) | (simp; omega) | decide)) | exact f_lens | exact f_lenl | exact f_lent | exact f_tupl | exact f_lstt | exact f_intb | exact c_args | exact c_argf | exact c_isi | exact c_neg | exact c_min2 | exact c_max2 | exact c_split | exact c_strO | exact c_opti | exact c_opto | exact c_vals | exact c_valt | exact c_vall | exact c_valf | exact c_sts | exact c_stf | exact c_tru | intro _)
    · intro hp
      rw [hp]
      rfl
    · intro hp
      rw [hp]
      refine s_n ?_
      refine x_ret ?_ (by simp)
      (repeat' first | exact e_vs rfl | exact e_vo rfl | exact e_con | exact e_omit | exact e_nil | apply e_and | apply e_or | apply e_notb | apply e_notl | apply e_bop | apply e_cmp | apply e_neg | apply e_ite | apply e_idx | apply e_slice | apply e_b1 | apply e_isi | apply e_min2 | apply e_max2 | apply e_split | apply e_join | apply e_starts | apply e_tup | apply e_lst | apply e_call | apply e_cons | apply e_val | apply e_rng1 | apply e_rng2 | apply e_enum | apply e_zip | exact k_eqs | exact k_nes | exact k_eqi | exact k_nei | exact k_lti | exact k_gti | exact k_lei | exact k_gei | exact k_ins | exact k_nins | (refine k_nel ?_ <;> (first | omega | (simp only [List.length_append, List.length_cons, List.length_nil]; omega) | (simp; done) | (simp; omega) | decide)) | (refine k_eql ?_ <;> (first | omega | (simp only [List.length_append, List.length_cons, List.length_nil]; omega) | (simp; done) | (simp; omega) | decide)) | (refine k_net ?_ <;> (first | omega | (simp only [List.length_append, List.length_cons, List.length_nil]; omega) | (simp; done) | (simp; omega) | decide)) | (refine k_eqt ?_ <;> (first | omega | (simp only [List.length_append, List.length_cons, List.length_nil]; omega) | (simp; done) | (simp; omega) | decide)) | exact k_int | exact k_nint | exact b_addi | exact b_subi | (refine b_adds ?_ <;> (first | omega | (simp only [List.length_append, List.length_cons, List.length_nil]; omega) | (simp; done) | (simp; omega) | decide)) | (refine b_addl ?_ <;> (first | omega | (simp only [List.length_append, List.length_cons, List.length_nil]; omega) | (simp; done) | (simp; omega) | decide)) | (refine b_addt ?_ <;> (first | omega | (simp only [List.length_append, List.length_cons, List.length_nil]; omega) | (simp; done) | (simp; omega) | decide)) | (refine b_mod ?_ <;> (first | omega | (simp only [List.length_append, List.length_cons, List.length_nil]; omega) | (simp; done) | (simp; omega) | decide)) | (refine b_mul1 ?_ ?_ <;> (first | omega | (simp only [List.length_append, List.length_cons, List.length_nil]; omega) | (simp; done) | (simp; omega) | decide)) | (refine b_mul2 ?_ ?_ <;> (first | omega | (simp only [List.length_append, List.length_cons, List.length_nil]; omega) | (simp; done) | (simp; omega) | decide)) | (refine b_pow ?_ ?_ ?_ ?_ <;> (first | omega | (simp only [List.length_append, List.length_cons, List.length_nil]; omega) | (simp; done) | (simp; omega) | decide)) | (refine b_fdiv ?_ ?_ <;> (first | omega | (simp only [List.length_append, List.length_cons, List.length_nil]; omega) | (simp; done) | (simp; omega) | decide)) | exact f_lens | exact f_lenl | exact f_lent | exact f_tupl | exact f_lstt | exact f_intb | exact c_args | exact c_argf | exact c_isi | exact c_neg | exact c_min2 | exact c_max2 | exact c_split | exact c_strO | exact c_opti | exact c_opto | exact c_vals | exact c_valt | exact c_vall | exact c_valf | exact c_sts | exact c_stf | exact c_tru | intro _)
      apply c_comp
      · (repeat' first | exact e_vs rfl | exact e_vo rfl | exact e_con | exact e_omit | exact e_nil | apply e_and | apply e_or | apply e_notb | apply e_notl | apply e_bop | apply e_cmp | apply e_neg | apply e_ite | apply e_idx | apply e_slice | apply e_b1 | apply e_isi | apply e_min2 | apply e_max2 | apply e_split | apply e_join | apply e_starts | apply e_tup | apply e_lst | apply e_call | apply e_cons | apply e_val | apply e_rng1 | apply e_rng2 | apply e_enum | apply e_zip | exact k_eqs | exact k_nes | exact k_eqi | exact k_nei | exact k_lti | exact k_gti | exact k_lei | exact k_gei | exact k_ins | exact k_nins | (refine k_nel ?_ <;> (first | omega | (simp only [List.length_append, List.length_cons, List.length_nil]; omega) | (simp; done) | (simp; omega) | decide)) | (refine k_eql ?_ <;> (first | omega | (simp only [List.length_append, List.length_cons, List.length_nil]; omega) | (simp; done) | (simp; omega) | decide)) | (refine k_net ?_ <;> (first | omega | (simp only [List.length_append, List.length_cons, List.length_nil]; omega) | (simp; done) | (simp; omega) | decide)) | (refine k_eqt ?_ <;> (first | omega | (simp only [List.length_append, List.length_cons, List.length_nil]; omega) | (simp; done) | (simp; omega) | decide)) | exact k_int | exact k_nint | exact b_addi | exact b_subi | (refine b_adds ?_ <;> (first | omega | (simp only [List.length_append, List.length_cons, List.length_nil]; omega) | (simp; done) | (simp; omega) | decide)) | (refine b_addl ?_ <;> (first | omega | (simp only [List.length_append, List.length_cons, List.length_nil]; omega) | (simp; done) | (simp; omega) | decide)) | (refine b_addt ?_ <;> (first | omega | (simp only [List.length_append, List.length_cons, List.length_nil]; omega) | (simp; done) | (simp; omega) | decide)) | (refine b_mod ?_ <;> (first | omega | (simp only [List.length_append, List.length_cons, List.length_nil]; omega) | (simp; done) | (simp; omega) | decide)) | (refine b_mul1 ?_ ?_ <;> (first | omega | (simp only [List.length_append, List.length_cons, List.length_nil]; omega) | (simp; done) | (simp; omega) | decide)) | (refine b_mul2 ?_ ?_ <;> (first | omega | (simp only [List.length_append, List.length_cons, List.length_nil]; omega) | (simp; done) | (simp; omega) | decide)) | (refine b_pow ?_ ?_ ?_ ?_ <;> (first | omega | (simp only [List.length_append, List.length_cons, List.length_nil]; omega) | (simp; done) | (simp; omega) | decide)) | (refine b_fdiv ?_ ?_ <;> (first | omega | (simp only [List.length_append, List.length_cons, List.length_nil]; omega) | (simp; done) | (simp; omega) | decide)) | exact f_lens | exact f_lenl | exact f_lent | exact f_tupl | exact f_lstt | exact f_intb | exact c_args | exact c_argf | exact c_isi | exact c_neg | exact c_min2 | exact c_max2 | exact c_split | exact c_strO | exact c_opti | exact c_opto | exact c_vals | exact c_valt | exact c_vall | exact c_valf | exact c_sts | exact c_stf | exact c_tru | intro _)
      · refine compL_filter (p := fun c => !isInfix [c] (small ++ [63, 42])) (fun c => ?_) s
        refine c_turn (w := sv (.str [c])) t_nm (wc := sv (.bl (!isInfix [c] (small ++ [63, 42])))) ?_ rfl fun _ => ⟨e_vs rfl, rfl⟩
        (repeat' first | exact e_vs rfl | exact e_vo rfl | exact e_con | exact e_omit | exact e_nil | apply e_and | apply e_or | apply e_notb | apply e_notl | apply e_bop | apply e_cmp | apply e_neg | apply e_ite | apply e_idx | apply e_slice | apply e_b1 | apply e_isi | apply e_min2 | apply e_max2 | apply e_split | apply e_join | apply e_starts | apply e_tup | apply e_lst | apply e_call | apply e_cons | apply e_val | apply e_rng1 | apply e_rng2 | apply e_enum | apply e_zip | exact k_eqs | exact k_nes | exact k_eqi | exact k_nei | exact k_lti | exact k_gti | exact k_lei | exact k_gei | exact k_ins | exact k_nins | (refine k_nel ?_ <;> (first | omega | (simp only [List.length_append, List.length_cons, List.length_nil]; omega) | (simp; done) | (simp; omega) | decide)) | (refine k_eql ?_ <;> (first | omega | (simp only [List.length_append, List.length_cons, List.length_nil]; omega) | (simp; done) | (simp; omega) | decide)) | (refine k_net ?_ <;> (first | omega | (simp only [List.length_append, List.length_cons, List.length_nil]; omega) | (simp; done) | (simp; omega) | decide)) | (refine k_eqt ?_ <;> (first | omega | (simp only [List.length_append, List.length_cons, List.length_nil]; omega) | (simp; done) | (simp; omega) | decide)) | exact k_int | exact k_nint | exact b_addi | exact b_subi | (refine b_adds ?_ <;> (first | omega | (simp only [List.length_append, List.length_cons, List.length_nil]; omega) | (simp; done) | (simp; omega) | decide)) | (refine b_addl ?_ <;> (first | omega | (simp only [List.length_append, List.length_cons, List.length_nil]; omega) | (simp; done) | (simp; omega) | decide)) | (refine b_addt ?_ <;> (first | omega | (simp only [List.length_append, List.length_cons, List.length_nil]; omega) | (simp; done) | (simp; omega) | decide)) | (refine b_mod ?_ <;> (first | omega | (simp only [List.length_append, List.length_cons, List.length_nil]; omega) | (simp; done) | (simp; omega) | decide)) | (refine b_mul1 ?_ ?_ <;> (first | omega | (simp only [List.length_append, List.length_cons, List.length_nil]; omega) | (simp; done) | (simp; omega) | decide)) | (refine b_mul2 ?_ ?_ <;> (first | omega | (simp only [List.length_append, List.length_cons, List.length_nil]; omega) | (simp; done) | (simp; omega) | decide)) | (refine b_pow ?_ ?_ ?_ ?_ <;> (first | omega | (simp only [List.length_append, List.length_cons, List.length_nil]; omega) | (simp; done) | (simp; omega) | decide)) | (refine b_fdiv ?_ ?_ <;> (first | omega | (simp only [List.length_append, List.length_cons, List.length_nil]; omega) | (simp; done) | (simp; omega) | decide)) | exact f_lens | exact f_lenl | exact f_lent | exact f_tupl | exact f_lstt | exact f_intb | exact c_args | exact c_argf | exact c_isi | exact c_neg | exact c_min2 | exact c_max2 | exact c_split | exact c_strO | exact c_opti | exact c_opto | exact c_vals | exact c_valt | exact c_vall | exact c_valf | exact c_sts | exact c_stf | exact c_tru | intro _)
      · rw [List.length_map]; exact Nat.le_trans (List.length_filter_le ..) (by omega)
  rw [h]; rfl
theorem start2 (a b : Xv) : start 2 [a, b] = [some (false, a), some (false, b)] := rfl
def pick (s m : Int) : Int := s / 97 % m
theorem p_pick (s m : Int) (hm : 0 < m) : fin (xss cl sup fuel (start F_law_pick.ns [.d (.int s), .d (.int m)]) F_law_pick.body) = okv (.int (pick s m)) := by
  have h : xss cl sup fuel (start F_law_pick.ns [.d (.int s), .d (.int m)]) F_law_pick.body = .ok (.ret (sv (.int (pick s m)))) := by
    refine x_ret ?_ (by simp)
    (repeat' first | exact e_vs rfl | exact e_vo rfl | exact e_con | exact e_omit | exact e_nil | apply e_and | apply e_or | apply e_notb | apply e_notl | apply e_bop | apply e_cmp | apply e_neg | apply e_ite | apply e_idx | apply e_slice | apply e_b1 | apply e_isi | apply e_min2 | apply e_max2 | apply e_split | apply e_join | apply e_starts | apply e_tup | apply e_lst | apply e_call | apply e_cons | apply e_val | apply e_rng1 | apply e_rng2 | apply e_enum | apply e_zip | exact k_eqs | exact k_nes | exact k_eqi | exact k_nei | exact k_lti | exact k_gti | exact k_lei | exact k_gei | exact k_ins | exact k_nins | (refine k_nel ?_ <;> (first | omega | (simp only [List.length_append, List.length_cons, List.length_nil]; omega) | (simp; done) | (simp; omega) | decide)) | (refine k_eql ?_ <;> (first | omega | (simp only [List.length_append, List.length_cons, List.length_nil]; omega) | (simp; done) | (simp; omega) | decide)) | (refine k_net ?_ <;> (first | omega | (simp only [List.length_append, List.length_cons, List.length_nil]; omega) | (simp; done) | (simp; omega) | decide)) | (refine k_eqt ?_ <;> (first | omega | (simp only [List.length_append, List.length_cons, List.length_nil]; omega) | (simp; done) | (simp; omega) | decide)) | exact k_int | exact k_nint | exact b_addi | exact b_subi | (refine b_adds ?_ <;> (first | omega | (simp only [List.length_append, List.length_cons, List.length_nil]; omega) | (simp; done) | (simp; omega) | decide)) | (refine b_addl ?_ <;> (first | omega | (simp only [List.length_append, List.length_cons, List.length_nil]; omega) | (simp; done) | (simp; omega) | decide)) | (refine b_addt ?_ <;> (first | omega | (simp only [List.length_append, List.length_cons, List.length_nil]; omega) | (simp; done) | (simp; omega) | decide)) | (refine b_mod ?_ <;> (first | omega | (simp only [List.length_append, List.length_cons, List.length_nil]; omega) | (simp; done) | (simp; omega) | decide)) | (refine b_mul1 ?_ ?_ <;> (first | omega | (simp only [List.length_append, List.length_cons, List.length_nil]; omega) | (simp; done) | (simp; omega) | decide)) | (refine b_mul2 ?_ ?_ <;> (first | omega | (simp only [List.length_append, List.length_cons, List.length_nil]; omega) | (simp; done) | (simp; omega) | decide)) | (refine b_pow ?_ ?_ ?_ ?_ <;> (first | omega | (simp only [List.length_append, List.length_cons, List.length_nil]; omega) | (simp; done) | (simp; omega) | decide)) | (refine b_fdiv ?_ ?_ <;> (first | omega | (simp only [List.length_append, List.length_cons, List.length_nil]; omega) | (simp; done) | (simp; omega) | decide)) | exact f_lens | exact f_lenl | exact f_lent | exact f_tupl | exact f_lstt | exact f_intb | exact c_args | exact c_argf | exact c_isi | exact c_neg | exact c_min2 | exact c_max2 | exact c_split | exact c_strO | exact c_opti | exact c_opto | exact c_vals | exact c_valt | exact c_vall | exact c_valf | exact c_sts | exact c_stf | exact c_tru | intro _)
  rw [h]; rfl
theorem mod_lo (a : Int) (m : Int) (h : 0 < m) : 0 ≤ a % m ∧ a % m < m := ⟨Int.emod_nonneg _ (by omega), Int.emod_lt_of_pos _ h⟩
def seed (s k : Int) : Int := ((s * 1103515245 + 7919 * k + 12345) % 2147483647) ^ 5 % 2147483647
theorem p_seed (s k : Int) : fin (xss cl sup fuel (start F_law_seed.ns [.d (.int s), .d (.int k)]) F_law_seed.body) = okv (.int (seed s k)) := by
  have h : xss cl sup fuel (start F_law_seed.ns [.d (.int s), .d (.int k)]) F_law_seed.body = .ok (.ret (sv (.int (seed s k)))) := by
    refine x_ret ?_ (by simp)
    (repeat' first | exact e_vs rfl | exact e_vo rfl | exact e_con | exact e_omit | exact e_nil | apply e_and | apply e_or | apply e_notb | apply e_notl | apply e_bop | apply e_cmp | apply e_neg | apply e_ite | apply e_idx | apply e_slice | apply e_b1 | apply e_isi | apply e_min2 | apply e_max2 | apply e_split | apply e_join | apply e_starts | apply e_tup | apply e_lst | apply e_call | apply e_cons | apply e_val | apply e_rng1 | apply e_rng2 | apply e_enum | apply e_zip | exact k_eqs | exact k_nes | exact k_eqi | exact k_nei | exact k_lti | exact k_gti | exact k_lei | exact k_gei | exact k_ins | exact k_nins | (refine k_nel ?_ <;> (first | omega | (simp only [List.length_append, List.length_cons, List.length_nil]; omega) | (simp; done) | (simp; omega) | decide)) | (refine k_eql ?_ <;> (first | omega | (simp only [List.length_append, List.length_cons, List.length_nil]; omega) | (simp; done) | (simp; omega) | decide)) | (refine k_net ?_ <;> (first | omega | (simp only [List.length_append, List.length_cons, List.length_nil]; omega) | (simp; done) | (simp; omega) | decide)) | (refine k_eqt ?_ <;> (first | omega | (simp only [List.length_append, List.length_cons, List.length_nil]; omega) | (simp; done) | (simp; omega) | decide)) | exact k_int | exact k_nint | exact b_addi | exact b_subi | (refine b_adds ?_ <;> (first | omega | (simp only [List.length_append, List.length_cons, List.length_nil]; omega) | (simp; done) | (simp; omega) | decide)) | (refine b_addl ?_ <;> (first | omega | (simp only [List.length_append, List.length_cons, List.length_nil]; omega) | (simp; done) | (simp; omega) | decide)) | (refine b_addt ?_ <;> (first | omega | (simp only [List.length_append, List.length_cons, List.length_nil]; omega) | (simp; done) | (simp; omega) | decide)) | (refine b_mod ?_ <;> (first | omega | (simp only [List.length_append, List.length_cons, List.length_nil]; omega) | (simp; done) | (simp; omega) | decide)) | (refine b_mul1 ?_ ?_ <;> (first | omega | (simp only [List.length_append, List.length_cons, List.length_nil]; omega) | (simp; done) | (simp; omega) | decide)) | (refine b_mul2 ?_ ?_ <;> (first | omega | (simp only [List.length_append, List.length_cons, List.length_nil]; omega) | (simp; done) | (simp; omega) | decide)) | (refine b_pow ?_ ?_ ?_ ?_ <;> (first | omega | (simp only [List.length_append, List.length_cons, List.length_nil]; omega) | (simp; done) | (simp; omega) | decide)) | (refine b_fdiv ?_ ?_ <;> (first | omega | (simp only [List.length_append, List.length_cons, List.length_nil]; omega) | (simp; done) | (simp; omega) | decide)) | exact f_lens | exact f_lenl | exact f_lent | exact f_tupl | exact f_lstt | exact f_intb | exact c_args | exact c_argf | exact c_isi | exact c_neg | exact c_min2 | exact c_max2 | exact c_split | exact c_strO | exact c_opti | exact c_opto | exact c_vals | exact c_valt | exact c_vall | exact c_valf | exact c_sts | exact c_stf | exact c_tru | intro _)
  rw [h]; rfl
end
end Q7.P
end

section
set_option autoImplicit false
set_option Elab.async false
set_option linter.all false
set_option maxRecDepth 100000
namespace Q7.P
section
variable {cl : Nat → List Xv → R W} {sup : Nat → Nat → Option Bool} {fuel : Nat}
theorem compL_map {α : Type} {f : D → R (Option D)} {g h : α → D} {p : α → Bool} : ∀ l : List α, (∀ a ∈ l, f (g a) = .ok (if p a then some (h a) else none)) → compL f (l.map g) = .ok ((l.filter p).map h)
  | [], _ => rfl
  | a :: r, H => by
    rw [List.map_cons, compL, H a (List.mem_cons_self ..)]
    have := compL_map r fun b hb => H b (List.mem_cons_of_mem _ hb)
    cases hp : p a <;> simp [this, List.filter_cons, hp]
theorem splitC_len (c : Nat) : ∀ s : List Nat, (splitC c s).length ≤ s.length + 1
  | [] => by simp [splitC]
  | x :: r => by
    have := splitC_len c r
    unfold splitC
    split
    · simp; omega
    · split <;> simp_all; omega
theorem splitC_le (c : Nat) : ∀ (s x : List Nat), x ∈ splitC c s → x.length ≤ s.length
  | [], x, h => by simp [splitC] at h; subst h; simp
  | y :: r, x, h => by
    unfold splitC at h
    split at h
    · rcases List.mem_cons.mp h with rfl | h
      · simp
      · have := splitC_le c r x h
        simp; omega
    · split at h
      · rcases List.mem_cons.mp h with rfl | h
        · simp
        · cases h
      · rename_i a t e
        rcases List.mem_cons.mp h with rfl | h
        · have := splitC_le c r a (by rw [e]; exact List.mem_cons_self ..)
          simp; omega
        · have := splitC_le c r x (by rw [e]; exact List.mem_cons_of_mem _ h)
          simp; omega
def isPattern (s : List Nat) : Bool := !(decide (8 < s.length)) && (splitC 47 s).all isPart
theorem isEmpty_filter {α β : Type} (g : α → β) (p : α → Bool) (l : List α) : ((l.filter fun a => !p a).map g).isEmpty = l.all p := by
  induction l with
  | nil => rfl
  | cons a r ih => cases hp : p a <;> simp_all
theorem p_is_pattern (hc : ∀ s : List Nat, s.length ≤ 1000 → cl 2 [.d (.str s)] = okv (.bl (isPart s))) (s : List Nat) : fin (xss cl sup fuel (start F_is_pattern.ns [.d (.str s)]) F_is_pattern.body) = okv (.bl (isPattern s)) := by
  have h : xss cl sup fuel (start F_is_pattern.ns [.d (.str s)]) F_is_pattern.body = .ok (.ret (sv (.bl (isPattern s)))) := by
    unfold isPattern
    refine x_ifb (p := decide (8 < s.length)) ?_ ?_ ?_
    · have e : ev cl (start F_is_pattern.ns [.d (.str s)]) (.or (.not (.isi (.var 0) .str)) (.cmp .gt (.b1 .len (.var 0)) (.con (.int 8)))) = okv (.bl (!true || decide ((8 : Int) < s.length))) := by
        (repeat' first | exact e_vs rfl | exact e_vo rfl | exact e_con | exact e_omit | exact e_nil | apply e_and | apply e_or | apply e_notb | apply e_notl | apply e_bop | apply e_cmp | apply e_neg | apply e_ite | apply e_idx | apply e_slice | apply e_b1 | apply e_isi | apply e_min2 | apply e_max2 | apply e_split | apply e_join | apply e_starts | apply e_tup | apply e_lst | apply e_call | apply e_cons | apply e_val | apply e_rng1 | apply e_rng2 | apply e_enum | apply e_zip | exact k_eqs | exact k_nes | exact k_eqi | exact k_nei | exact k_lti | exact k_gti | exact k_lei | exact k_gei | exact k_ins | exact k_nins | (refine k_nel ?_ <;> (first | omega | (simp only [List.length_append, List.length_cons, List.length_nil]; omega) | (simp; done) | (simp; omega) | decide)) | (refine k_eql ?_ <;> (first | omega | (simp only [List.length_append, List.length_cons, List.length_nil]; omega) | (simp; done) | (simp; omega) | decide)) | (refine k_net ?_ <;> (first | omega | (simp only [List.length_append, List.length_cons, List.length_nil]; omega) | (simp; done) | (simp; omega) | decide)) | (refine k_eqt ?_ <;> (first | omega | (simp only [List.length_append, List.length_cons, List.length_nil]; omega) | (simp; done) | (simp; omega) | decide)) | exact k_int | exact k_nint | exact b_addi | exact b_subi | (refine b_adds ?_ <;> (first | omega | (simp only [List.length_append, List.length_cons, List.length_nil]; omega) | (simp; done) | (simp; omega) | decide)) | (refine b_addl ?_ <;> (first | omega | (simp only [List.length_append, List.length_cons, List.length_nil]; omega) | (simp; done) | (simp; omega) | decide)) | (refine b_addt ?_ <;> (first | omega | (simp only [List.length_append, List.length_cons, List.length_nil]; omega) | (simp; done) | (simp; omega) | decide)) | (refine b_mod ?_ <;> (first | omega | (simp only [List.length_append, List.length_cons, List.length_nil]; omega) | (simp; done) | (simp; omega) | decide)) | (refine b_mul1 ?_ ?_ <;> (first | omega | (simp only [List.length_append, List.length_cons, List.length_nil]; omega) | (simp; done) | (simp; omega) | decide)) | (refine b_mul2 ?_ ?_ <;> (first | omega | (simp only [List.length_append, List.length_cons, List.length_nil]; omega) | (simp; done) | (simp; omega) | decide)) | (refine b_pow ?_ ?_ ?_ ?_ <;> (first | omega | (simp only [List.length_append, List.length_cons, List.length_nil]; omega) | (simp; done) | (simp; omega) | decide)) | (refine b_fdiv ?_ ?_ <;> (first | omega | (simp only [List.length_append, List.length_cons, List.length_nil]; omega) | (simp; done) | (simp; omega) | decide)) | exact f_lens | exact f_lenl | exact f_lent | exact f_tupl | exact f_lstt | exact f_intb | exact c_args | exact c_argf | exact c_isi | exact c_neg | exact c_min2 | exact c_max2 | exact c_split | exact c_strO | exact c_opti | exact c_opto | exact c_vals | exact c_valt | exact c_vall | exact c_valf | exact c_sts | exact c_stf | exact c_tru | intro _)
      rw [show decide (8 < s.length) = (!true || decide ((8 : Int) < s.length)) by simp; omega]
      exact e
    · intro hp
      rw [hp]
      rfl
    · intro hp
      rw [hp]
      have hl : s.length ≤ 8 := by simpa using hp
      refine s_n (x_ret ?_ (by simp))
      rw [Bool.not_false, Bool.true_and, ← isEmpty_filter (fun x => D.str x) isPart]
      apply e_notl
      apply c_comp
      · (repeat' first | exact e_vs rfl | exact e_vo rfl | exact e_con | exact e_omit | exact e_nil | apply e_and | apply e_or | apply e_notb | apply e_notl | apply e_bop | apply e_cmp | apply e_neg | apply e_ite | apply e_idx | apply e_slice | apply e_b1 | apply e_isi | apply e_min2 | apply e_max2 | apply e_split | apply e_join | apply e_starts | apply e_tup | apply e_lst | apply e_call | apply e_cons | apply e_val | apply e_rng1 | apply e_rng2 | apply e_enum | apply e_zip | exact k_eqs | exact k_nes | exact k_eqi | exact k_nei | exact k_lti | exact k_gti | exact k_lei | exact k_gei | exact k_ins | exact k_nins | (refine k_nel ?_ <;> (first | omega | (simp only [List.length_append, List.length_cons, List.length_nil]; omega) | (simp; done) | (simp; omega) | decide)) | (refine k_eql ?_ <;> (first | omega | (simp only [List.length_append, List.length_cons, List.length_nil]; omega) | (simp; done) | (simp; omega) | decide)) | (refine k_net ?_ <;> (first | omega | (simp only [List.length_append, List.length_cons, List.length_nil]; omega) | (simp; done) | (simp; omega) | decide)) | (refine k_eqt ?_ <;> (first | omega | (simp only [List.length_append, List.length_cons, List.length_nil]; omega) | (simp; done) | (simp; omega) | decide)) | exact k_int | exact k_nint | exact b_addi | exact b_subi | (refine b_adds ?_ <;> (first | omega | (simp only [List.length_append, List.length_cons, List.length_nil]; omega) | (simp; done) | (simp; omega) | decide)) | (refine b_addl ?_ <;> (first | omega | (simp only [List.length_append, List.length_cons, List.length_nil]; omega) | (simp; done) | (simp; omega) | decide)) | (refine b_addt ?_ <;> (first | omega | (simp only [List.length_append, List.length_cons, List.length_nil]; omega) | (simp; done) | (simp; omega) | decide)) | (refine b_mod ?_ <;> (first | omega | (simp only [List.length_append, List.length_cons, List.length_nil]; omega) | (simp; done) | (simp; omega) | decide)) | (refine b_mul1 ?_ ?_ <;> (first | omega | (simp only [List.length_append, List.length_cons, List.length_nil]; omega) | (simp; done) | (simp; omega) | decide)) | (refine b_mul2 ?_ ?_ <;> (first | omega | (simp only [List.length_append, List.length_cons, List.length_nil]; omega) | (simp; done) | (simp; omega) | decide)) | (refine b_pow ?_ ?_ ?_ ?_ <;> (first | omega | (simp only [List.length_append, List.length_cons, List.length_nil]; omega) | (simp; done) | (simp; omega) | decide)) | (refine b_fdiv ?_ ?_ <;> (first | omega | (simp only [List.length_append, List.length_cons, List.length_nil]; omega) | (simp; done) | (simp; omega) | decide)) | exact f_lens | exact f_lenl | exact f_lent | exact f_tupl | exact f_lstt | exact f_intb | exact c_args | exact c_argf | exact c_isi | exact c_neg | exact c_min2 | exact c_max2 | exact c_split | exact c_strO | exact c_opti | exact c_opto | exact c_vals | exact c_valt | exact c_vall | exact c_valf | exact c_sts | exact c_stf | exact c_tru | intro _)
      · refine compL_map (p := fun x => !isPart x) (splitC 47 s) fun x hx => ?_
        have hxl := splitC_le 47 s x hx
        refine c_turn (w := sv (.str x)) t_nm (wc := sv (.bl (!isPart x))) ?_ rfl fun _ => ⟨e_vs rfl, rfl⟩
        apply e_notb
        apply e_call
        · (repeat' first | exact e_vs rfl | exact e_vo rfl | exact e_con | exact e_omit | exact e_nil | apply e_and | apply e_or | apply e_notb | apply e_notl | apply e_bop | apply e_cmp | apply e_neg | apply e_ite | apply e_idx | apply e_slice | apply e_b1 | apply e_isi | apply e_min2 | apply e_max2 | apply e_split | apply e_join | apply e_starts | apply e_tup | apply e_lst | apply e_call | apply e_cons | apply e_val | apply e_rng1 | apply e_rng2 | apply e_enum | apply e_zip | exact k_eqs | exact k_nes | exact k_eqi | exact k_nei | exact k_lti | exact k_gti | exact k_lei | exact k_gei | exact k_ins | exact k_nins | (refine k_nel ?_ <;> (first | omega | (simp only [List.length_append, List.length_cons, List.length_nil]; omega) | (simp; done) | (simp; omega) | decide)) | (refine k_eql ?_ <;> (first | omega | (simp only [List.length_append, List.length_cons, List.length_nil]; omega) | (simp; done) | (simp; omega) | decide)) | (refine k_net ?_ <;> (first | omega | (simp only [List.length_append, List.length_cons, List.length_nil]; omega) | (simp; done) | (simp; omega) | decide)) | (refine k_eqt ?_ <;> (first | omega | (simp only [List.length_append, List.length_cons, List.length_nil]; omega) | (simp; done) | (simp; omega) | decide)) | exact k_int | exact k_nint | exact b_addi | exact b_subi | (refine b_adds ?_ <;> (first | omega | (simp only [List.length_append, List.length_cons, List.length_nil]; omega) | (simp; done) | (simp; omega) | decide)) | (refine b_addl ?_ <;> (first | omega | (simp only [List.length_append, List.length_cons, List.length_nil]; omega) | (simp; done) | (simp; omega) | decide)) | (refine b_addt ?_ <;> (first | omega | (simp only [List.length_append, List.length_cons, List.length_nil]; omega) | (simp; done) | (simp; omega) | decide)) | (refine b_mod ?_ <;> (first | omega | (simp only [List.length_append, List.length_cons, List.length_nil]; omega) | (simp; done) | (simp; omega) | decide)) | (refine b_mul1 ?_ ?_ <;> (first | omega | (simp only [List.length_append, List.length_cons, List.length_nil]; omega) | (simp; done) | (simp; omega) | decide)) | (refine b_mul2 ?_ ?_ <;> (first | omega | (simp only [List.length_append, List.length_cons, List.length_nil]; omega) | (simp; done) | (simp; omega) | decide)) | (refine b_pow ?_ ?_ ?_ ?_ <;> (first | omega | (simp only [List.length_append, List.length_cons, List.length_nil]; omega) | (simp; done) | (simp; omega) | decide)) | (refine b_fdiv ?_ ?_ <;> (first | omega | (simp only [List.length_append, List.length_cons, List.length_nil]; omega) | (simp; done) | (simp; omega) | decide)) | exact f_lens | exact f_lenl | exact f_lent | exact f_tupl | exact f_lstt | exact f_intb | exact c_args | exact c_argf | exact c_isi | exact c_neg | exact c_min2 | exact c_max2 | exact c_split | exact c_strO | exact c_opti | exact c_opto | exact c_vals | exact c_valt | exact c_vall | exact c_valf | exact c_sts | exact c_stf | exact c_tru | intro _)
        · exact hc x (by omega)
      · have := splitC_len 47 s
        rw [List.length_map]
        exact Nat.le_trans (List.length_filter_le ..) (by omega)
  rw [h]; rfl
end
end Q7.P
end

section
set_option autoImplicit false
set_option Elab.async false
set_option linter.all false
set_option maxRecDepth 100000
namespace Q7.P
section
variable {cl : Nat → List Xv → R W} {sup : Nat → Nat → Option Bool} {fuel : Nat}
def stops : RS → Bool
  | .ok (.ret _) => true
  | .exc _ _ => true
  | _ => false
/-- a loop by what holds ahead of each turn -/
theorem x_loop {tg : Tg} {it : CI} {b r : CSs} {ρ : Env} {ds : List D} {o : RS} (I : List D → Env → Prop) (h : evi cl ρ it = .ok ds) (h0 : I ds ρ)
    (hs : ∀ d r ρ, I (d :: r) ρ → (∃ ρ', turn cl sup fuel tg b d ρ = .ok (.nx ρ') ∧ I r ρ') ∨ (turn cl sup fuel tg b d ρ = o ∧ stops o = true)) (he : ∀ ρ', I [] ρ' → xss cl sup fuel ρ' r = o) :
    xss cl sup fuel ρ (.cons (.for_ tg it b) r) = o := by
  refine x_for h rfl ?_
  clear h
  induction ds generalizing ρ with
  | nil => exact he ρ h0
  | cons d l ih =>
    rcases hs d l ρ h0 with ⟨ρ', e, h1⟩ | ⟨e, hst⟩
    · rw [forL, e]
      exact ih h1
    · rw [forL, e]
      cases o with
      | ok v => cases v <;> first | rfl | cases hst
      | exc c σ => rfl
      | stuck => cases hst
abbrev Row := List Nat × List Nat
def rowD (r : Row) : D := .tup [.str r.1, .str r.2]
def lets (s : List Nat) : List Nat := s.filter fun c => isInfix [c] small
def letters (rs : List Row) : List Nat := rs.flatMap fun r => lets r.2
def chD (s : List Nat) : List D := s.map fun c => .str [c]
theorem chD_append (s t : List Nat) : chD (s ++ t) = chD s ++ chD t := by simp [chD]
theorem lets_len (s : List Nat) : (lets s).length ≤ s.length := List.length_filter_le ..
theorem c_sset {k : Kd} {xs : List D} (h : setable xs = true) : b1W .sortedset ⟨k, .d (.lst xs)⟩ = some ⟨.fr, .d (.lst (isort (dedup xs)))⟩ := by simp [b1W, b1, h, mk]
theorem setable_ch {s : List Nat} (h : s.length ≤ 4000) : setable (chD s) = true := by
  simp [setable, chD, h]
theorem p_letters_of (rs : List Row) (hl : (letters rs).length ≤ 4000) : fin (xss cl sup fuel (start F_letters_of.ns [.d (.tup (rs.map rowD))]) F_letters_of.body) = okf (.lst (isort (dedup (chD (letters rs))))) := by
  have h : xss cl sup fuel (start F_letters_of.ns [.d (.tup (rs.map rowD))]) F_letters_of.body = .ok (.ret ⟨.fr, .d (.lst (isort (dedup (chD (letters rs)))))⟩) := by
    refine x_asg (w := ⟨.fr, .d (.lst [])⟩) (e_lst e_nil rfl) c_putf ?_
    refine x_loop (fun r ρ => ∃ (done : List Nat) (todo : List Row) (a b c : Option (Bool × Xv)), r = todo.map rowD ∧ ρ = [some (false, .d (.tup (rs.map rowD))), some (true, .d (.lst (chD done))), a, b, c] ∧ done ++ letters todo = letters rs) (e_val (e_vs rfl) c_valt) ⟨[], rs, none, none, none, rfl, rfl, rfl⟩ ?_ ?_
    · rintro d r ρ ⟨done, todo, a, b, c, e1, rfl, e3⟩
      cases todo with
      | nil => cases e1
      | cons t todo =>
        rw [List.map_cons, List.cons.injEq] at e1
        obtain ⟨rfl, rfl⟩ := e1
        have e4 : done ++ (lets t.2 ++ letters todo) = letters rs := by rw [← e3]; rfl
        have hlen : done.length + (lets t.2).length ≤ 4000 := by
          have := congrArg List.length e4
          simp only [List.length_append] at this
          omega
        refine .inl ⟨_, (turn_eq t_2).trans (x_ext (us := chD (lets t.2)) (w := ⟨.fr, .d (.lst (chD (lets t.2)))⟩) rfl ?_ rfl ?_ x_nil), done ++ lets t.2, todo, _, _, _, rfl, by rw [chD_append]; rfl, by rw [← e4, List.append_assoc]⟩
        · apply c_comp
          · (repeat' first | exact e_vs rfl | exact e_vo rfl | exact e_con | exact e_omit | exact e_nil | apply e_and | apply e_or | apply e_notb | apply e_notl | apply e_bop | apply e_cmp | apply e_neg | apply e_ite | apply e_idx | apply e_slice | apply e_b1 | apply e_isi | apply e_min2 | apply e_max2 | apply e_split | apply e_join | apply e_starts | apply e_tup | apply e_lst | apply e_call | apply e_cons | apply e_val | apply e_rng1 | apply e_rng2 | apply e_enum | apply e_zip | exact k_eqs | exact k_nes | exact k_eqi | exact k_nei | exact k_lti | exact k_gti | exact k_lei | exact k_gei | exact k_ins | exact k_nins | (refine k_nel ?_ <;> (first | omega | (simp only [List.length_append, List.length_cons, List.length_nil]; omega) | (simp; done) | (simp; omega) | decide)) | (refine k_eql ?_ <;> (first | omega | (simp only [List.length_append, List.length_cons, List.length_nil]; omega) | (simp; done) | (simp; omega) | decide)) | (refine k_net ?_ <;> (first | omega | (simp only [List.length_append, List.length_cons, List.length_nil]; omega) | (simp; done) | (simp; omega) | decide)) | (refine k_eqt ?_ <;> (first | omega | (simp only [List.length_append, List.length_cons, List.length_nil]; omega) | (simp; done) | (simp; omega) | decide)) | exact k_int | exact k_nint | exact b_addi | exact b_subi | (refine b_adds ?_ <;> (first | omega | (simp only [List.length_append, List.length_cons, List.length_nil]; omega) | (simp; done) | (simp; omega) | decide)) | (refine b_addl ?_ <;> (first | omega | (simp only [List.length_append, List.length_cons, List.length_nil]; omega) | (simp; done) | (simp; omega) | decide)) | (refine b_addt ?_ <;> (first | omega | (simp only [List.length_append, List.length_cons, List.length_nil]; omega) | (simp; done) | (simp; omega) | decide)) | (refine b_mod ?_ <;> (first | omega | (simp only [List.length_append, List.length_cons, List.length_nil]; omega) | (simp; done) | (simp; omega) | decide)) | (refine b_mul1 ?_ ?_ <;> (first | omega | (simp only [List.length_append, List.length_cons, List.length_nil]; omega) | (simp; done) | (simp; omega) | decide)) | (refine b_mul2 ?_ ?_ <;> (first | omega | (simp only [List.length_append, List.length_cons, List.length_nil]; omega) | (simp; done) | (simp; omega) | decide)) | (refine b_pow ?_ ?_ ?_ ?_ <;> (first | omega | (simp only [List.length_append, List.length_cons, List.length_nil]; omega) | (simp; done) | (simp; omega) | decide)) | (refine b_fdiv ?_ ?_ <;> (first | omega | (simp only [List.length_append, List.length_cons, List.length_nil]; omega) | (simp; done) | (simp; omega) | decide)) | exact f_lens | exact f_lenl | exact f_lent | exact f_tupl | exact f_lstt | exact f_intb | exact c_args | exact c_argf | exact c_isi | exact c_neg | exact c_min2 | exact c_max2 | exact c_split | exact c_strO | exact c_opti | exact c_opto | exact c_vals | exact c_valt | exact c_vall | exact c_valf | exact c_sts | exact c_stf | exact c_tru | intro _)
          · refine compL_map (p := fun c => isInfix [c] small) t.2 fun x hx => ?_
            refine c_turn (w := sv (.str [x])) t_nm (wc := sv (.bl (isInfix [x] small))) ?_ rfl fun _ => ⟨e_vs rfl, rfl⟩
            (repeat' first | exact e_vs rfl | exact e_vo rfl | exact e_con | exact e_omit | exact e_nil | apply e_and | apply e_or | apply e_notb | apply e_notl | apply e_bop | apply e_cmp | apply e_neg | apply e_ite | apply e_idx | apply e_slice | apply e_b1 | apply e_isi | apply e_min2 | apply e_max2 | apply e_split | apply e_join | apply e_starts | apply e_tup | apply e_lst | apply e_call | apply e_cons | apply e_val | apply e_rng1 | apply e_rng2 | apply e_enum | apply e_zip | exact k_eqs | exact k_nes | exact k_eqi | exact k_nei | exact k_lti | exact k_gti | exact k_lei | exact k_gei | exact k_ins | exact k_nins | (refine k_nel ?_ <;> (first | omega | (simp only [List.length_append, List.length_cons, List.length_nil]; omega) | (simp; done) | (simp; omega) | decide)) | (refine k_eql ?_ <;> (first | omega | (simp only [List.length_append, List.length_cons, List.length_nil]; omega) | (simp; done) | (simp; omega) | decide)) | (refine k_net ?_ <;> (first | omega | (simp only [List.length_append, List.length_cons, List.length_nil]; omega) | (simp; done) | (simp; omega) | decide)) | (refine k_eqt ?_ <;> (first | omega | (simp only [List.length_append, List.length_cons, List.length_nil]; omega) | (simp; done) | (simp; omega) | decide)) | exact k_int | exact k_nint | exact b_addi | exact b_subi | (refine b_adds ?_ <;> (first | omega | (simp only [List.length_append, List.length_cons, List.length_nil]; omega) | (simp; done) | (simp; omega) | decide)) | (refine b_addl ?_ <;> (first | omega | (simp only [List.length_append, List.length_cons, List.length_nil]; omega) | (simp; done) | (simp; omega) | decide)) | (refine b_addt ?_ <;> (first | omega | (simp only [List.length_append, List.length_cons, List.length_nil]; omega) | (simp; done) | (simp; omega) | decide)) | (refine b_mod ?_ <;> (first | omega | (simp only [List.length_append, List.length_cons, List.length_nil]; omega) | (simp; done) | (simp; omega) | decide)) | (refine b_mul1 ?_ ?_ <;> (first | omega | (simp only [List.length_append, List.length_cons, List.length_nil]; omega) | (simp; done) | (simp; omega) | decide)) | (refine b_mul2 ?_ ?_ <;> (first | omega | (simp only [List.length_append, List.length_cons, List.length_nil]; omega) | (simp; done) | (simp; omega) | decide)) | (refine b_pow ?_ ?_ ?_ ?_ <;> (first | omega | (simp only [List.length_append, List.length_cons, List.length_nil]; omega) | (simp; done) | (simp; omega) | decide)) | (refine b_fdiv ?_ ?_ <;> (first | omega | (simp only [List.length_append, List.length_cons, List.length_nil]; omega) | (simp; done) | (simp; omega) | decide)) | exact f_lens | exact f_lenl | exact f_lent | exact f_tupl | exact f_lstt | exact f_intb | exact c_args | exact c_argf | exact c_isi | exact c_neg | exact c_min2 | exact c_max2 | exact c_split | exact c_strO | exact c_opti | exact c_opto | exact c_vals | exact c_valt | exact c_vall | exact c_valf | exact c_sts | exact c_stf | exact c_tru | intro _)
          · rw [chD, List.length_map]; omega
        · simp only [chD, List.length_map]; omega
    · rintro ρ ⟨done, todo, a, b, c, e1, rfl, e3⟩
      have : todo = [] := by cases todo with | nil => rfl | cons t l => cases e1
      subst this
      have e4 : done = letters rs := by rw [← e3]; simp [letters]
      subst e4
      exact x_ret (e_b1 (e_vo rfl) (c_sset (setable_ch hl))) (by simp)
  rw [h]; rfl
/-- any data: a row -/
def isRowD : D → Bool
  | .tup [.str a, .str b] => ([43] == a || [45] == a) && isPattern b
  | _ => false
theorem p_is_row2 (hc : ∀ s : List Nat, cl 3 [.d (.str s)] = okv (.bl (isPattern s))) (a b : List Nat) : fin (xss cl sup fuel (start F_is_row.ns [.d (rowD (a, b))]) F_is_row.body) = okv (.bl (isRowD (rowD (a, b)))) := by
  have h : xss cl sup fuel (start F_is_row.ns [.d (rowD (a, b))]) F_is_row.body = .ok (.ret (sv (.bl (isRowD (rowD (a, b)))))) := by
    refine x_iff ?_ (s_n (x_ret ?_ (by simp)))
    · have e : ev cl (start F_is_row.ns [.d (rowD (a, b))]) (.or (.not (.isi (.var 0) .tuple)) (.or (.cmp .ne (.b1 .len (.var 0)) (.con (.int 2))) (.not (.isi (.idx (.var 0) (.con (.int 0))) .str)))) = okv (.bl (!true || (!(((2 : Nat) : Int) == 2) || !true))) := by
        apply e_or
        · apply e_notb
          exact e_isi (e_vs rfl) c_isi
        · intro _
          apply e_or
          · exact e_cmp (e_b1 (e_vs rfl) f_lent) e_con k_nei
          · intro _
            apply e_notb
            exact e_isi (e_idx (e_vs rfl) e_con (c_idx (c_ixt rfl))) c_isi
      exact e
    · have e : ev cl (start F_is_row.ns [.d (rowD (a, b))]) (.and (.cmp .isin (.idx (.var 0) (.con (.int 0))) (.tup (.cons (.con (.str [43])) (.cons (.con (.str [45])) .nil)))) (.call 3 (.cons (.idx (.var 0) (.con (.int 1))) .nil))) = okv (.bl (([D.str [43], .str [45]].any fun y => eqv y (.str a)) && isPattern b)) := by
        apply e_and
        · exact e_cmp (e_idx (e_vs rfl) e_con (c_idx (c_ixt rfl))) (e_tup (e_cons e_con rfl (e_cons e_con rfl e_nil)) rfl) k_int
        · intro _
          exact e_call (e_cons (e_idx (e_vs rfl) e_con (c_idx (c_ixt rfl))) rfl e_nil) (hc b)
      have e2 : isRowD (rowD (a, b)) = (([D.str [43], .str [45]].any fun y => eqv y (.str a)) && isPattern b) := by
        simp only [isRowD, rowD, List.any_cons, List.any_nil, eqv, Bool.or_false]
      rw [e2]
      exact e
  rw [h]; rfl
def isRows (rs : List Row) : Bool := decide (rs.length ≤ 5) && (rs.all (fun r => isRowD (rowD r)) && decide ((dedup (chD (letters rs))).length ≤ 6))
theorem ins_len (x : D) : ∀ l : List D, (ins x l).length = l.length + 1
  | [] => rfl
  | y :: r => by unfold ins; split <;> simp [ins_len x r]
theorem isort_len : ∀ l : List D, (isort l).length = l.length
  | [] => rfl
  | x :: r => by rw [isort, ins_len, isort_len r]; rfl
theorem pat_len {s : List Nat} (h : isPattern s = true) : s.length ≤ 8 := by
  simp [isPattern] at h; omega
theorem row_pat {r : Row} (h : isRowD (rowD r) = true) : isPattern r.2 = true := by
  simp [isRowD, rowD] at h; exact h.2
theorem letters_len (rs : List Row) (h : ∀ r ∈ rs, r.2.length ≤ 8) : (letters rs).length ≤ 8 * rs.length := by
  induction rs with
  | nil => simp [letters]
  | cons r l ih =>
    have h1 := ih fun r hr => h r (List.mem_cons_of_mem _ hr)
    have h2 := h r (List.mem_cons_self ..)
    have h3 := lets_len r.2
    have e : letters (r :: l) = lets r.2 ++ letters l := rfl
    rw [e, List.length_append, List.length_cons]
    omega
theorem p_is_rows (h5 : ∀ a b : List Nat, cl 5 [.d (rowD (a, b))] = okv (.bl (isRowD (rowD (a, b))))) (h4 : ∀ rs : List Row, (letters rs).length ≤ 4000 → cl 4 [.d (.tup (rs.map rowD))] = okf (.lst (isort (dedup (chD (letters rs)))))) (rs : List Row) :
    fin (xss cl sup fuel (start F_is_rows.ns [.d (.tup (rs.map rowD))]) F_is_rows.body) = okv (.bl (isRows rs)) := by
  have h : xss cl sup fuel (start F_is_rows.ns [.d (.tup (rs.map rowD))]) F_is_rows.body = .ok (.ret (sv (.bl (isRows rs)))) := by
    have g : ev cl (start F_is_rows.ns [.d (.tup (rs.map rowD))]) (.not (.isi (.var 0) .tuple)) = okv (.bl false) := e_notb (p := true) (e_isi (e_vs rfl) rfl)
    have g2 : ev cl (start F_is_rows.ns [.d (.tup (rs.map rowD))]) (.cmp .gt (.b1 .len (.var 0)) (.con (.int 5))) = okv (.bl (decide ((5 : Int) < (rs.map rowD).length))) := e_cmp (e_b1 (e_vs rfl) f_lent) e_con k_gti
    by_cases hl : rs.length ≤ 5
    · have hd : decide ((5 : Int) < (rs.map rowD).length) = false := by rw [List.length_map]; simp; omega
      rw [hd] at g2
      have g3 : ev cl (start F_is_rows.ns [.d (.tup (rs.map rowD))]) (.comp (.nm 1) (.val (.var 0)) (.not (.call 5 (.cons (.var 1) .nil))) (.var 1)) = .ok ⟨.fr, .d (.lst ((rs.filter fun r => !isRowD (rowD r)).map rowD))⟩ := by
        apply c_comp
        · exact e_val (e_vs rfl) c_valt
        · refine compL_map (p := fun r => !isRowD (rowD r)) rs fun r hr => ?_
          exact c_turn (w := sv (rowD r)) t_nm (wc := sv (.bl (!isRowD (rowD r)))) (e_notb (e_call (e_cons (e_vs rfl) rfl e_nil) (h5 r.1 r.2))) rfl fun _ => ⟨e_vs rfl, rfl⟩
        · rw [List.length_map]; exact Nat.le_trans (List.length_filter_le ..) (by omega)
      refine x_ifs (e_or0 g (e_or0 g2 g3)) rfl ?_
      rw [c_trul, isEmpty_filter]
      unfold isRows
      rw [decide_eq_true hl, Bool.true_and]
      cases ha : rs.all (fun r => isRowD (rowD r)) with
      | false => rfl
      | true =>
        have hn : (letters rs).length ≤ 40 := by
          have := letters_len rs fun r hr => pat_len (row_pat (List.all_eq_true.mp ha r hr))
          omega
        refine s_n (x_ret ?_ (by simp))
        have e := e_cmp (cl := cl) (ρ := start F_is_rows.ns [.d (.tup (rs.map rowD))]) (e_b1 (e_call (f := 4) (e_cons (a := .var 0) (e_vs rfl) rfl e_nil) (h4 rs (by omega))) f_lenl) (e_con (d := .int 6)) k_lei
        rw [show decide ((dedup (chD (letters rs))).length ≤ 6) = !decide ((6 : Int) < ((isort (dedup (chD (letters rs)))).length : Nat)) by rw [isort_len]; generalize (dedup (chD (letters rs))).length = n; by_cases hh : n ≤ 6 <;> simp [hh] <;> omega]
        exact e
    · have hd : decide ((5 : Int) < (rs.map rowD).length) = true := by rw [List.length_map]; simp; omega
      rw [hd] at g2
      refine x_ift (e_or0 g (e_or1 g2)) ?_
      unfold isRows
      rw [decide_eq_false hl]
      rfl
  rw [h]; rfl
theorem p_look (h6 : ∀ rs : List Row, cl 6 [.d (.tup (rs.map rowD))] = okv (.bl (isRows rs))) (rs : List Row) : fin (xss cl sup fuel (start F_look.ns [.d (.tup (rs.map rowD))]) F_look.body) = if isRows rs then okv .non else .exc 1 := by
  have g : ev cl (start F_look.ns [.d (.tup (rs.map rowD))]) (.not (.call 6 (.cons (.var 0) .nil))) = okv (.bl (!isRows rs)) := e_notb (e_call (e_cons (e_vs rfl) rfl e_nil) (h6 rs))
  cases hr : isRows rs with
  | true =>
    rw [hr] at g
    have h : xss cl sup fuel (start F_look.ns [.d (.tup (rs.map rowD))]) F_look.body = _ := x_iff g (s_n x_nil)
    rw [h]; rfl
  | false =>
    rw [hr] at g
    have h : xss cl sup fuel (start F_look.ns [.d (.tup (rs.map rowD))]) F_look.body = _ := x_ift g (by rw [x_raise]; first | done | exact s_e)
    rw [h]; rfl
def rowT (r : Row) : List Nat := r.1 ++ r.2
theorem joinL_len (s : List Nat) (n : Nat) : ∀ l : List (List Nat), (∀ x ∈ l, x.length ≤ n) → (joinL s l).length ≤ (n + s.length) * l.length
  | [], _ => by simp [joinL]
  | [x], h => by
    have := h x (List.mem_cons_self ..)
    simp [joinL]; omega
  | x :: y :: r, h => by
    have h1 := joinL_len s n (y :: r) fun z hz => h z (List.mem_cons_of_mem _ hz)
    have h2 := h x (List.mem_cons_self ..)
    simp only [joinL, List.length_append, List.length_cons] at h1 ⊢
    rw [Nat.mul_succ]
    omega
theorem texts_str : ∀ l : List (List Nat), texts (l.map .str) = some l
  | [] => rfl
  | x :: r => by simp [texts, texts_str r]
theorem c_join {k k' : Kd} {s : List Nat} {l : List (List Nat)} (h : (joinL s l).length ≤ 1000000) : joinW ⟨k, .d (.str s)⟩ ⟨k', .d (.lst (l.map .str))⟩ = some ⟨.sh, .d (.str (joinL s l))⟩ := by
  simp [joinW, W.dat, texts_str, isize, h]
theorem sign_len {r : Row} (h : isRowD (rowD r) = true) : r.1.length = 1 := by
  simp [isRowD, rowD] at h
  rcases h.1 with e | e <;> rw [← e] <;> rfl
theorem rows_all {rs : List Row} (h : isRows rs = true) : rs.length ≤ 5 ∧ ∀ r ∈ rs, isRowD (rowD r) = true := by
  simp only [isRows, Bool.and_eq_true, decide_eq_true_eq, List.all_eq_true] at h
  exact ⟨h.1, h.2.1⟩
def textOf (rs : List Row) : List Nat := joinL [10] (rs.map rowT)
theorem p_shown (h7 : ∀ rs : List Row, cl 7 [.d (.tup (rs.map rowD))] = if isRows rs then okv .non else .exc 1) (rs : List Row) (hr : isRows rs = true) : fin (xss cl sup fuel (start F_shown.ns [.d (.tup (rs.map rowD))]) F_shown.body) = okv (.str (textOf rs)) := by
  have g : ev cl (start F_shown.ns [.d (.tup (rs.map rowD))]) (.call 7 (.cons (.var 0) .nil)) = okv .non := e_call (e_cons (e_vs rfl) rfl e_nil) (by rw [h7, hr]; rfl)
  obtain ⟨hl, ha⟩ := rows_all hr
  have hrow : ∀ r ∈ rs, (rowT r).length ≤ 9 := fun r hm => by
    have h1 := pat_len (row_pat (ha r hm))
    have h2 := sign_len (ha r hm)
    simp only [rowT, List.length_append]; omega
  have h : xss cl sup fuel (start F_shown.ns [.d (.tup (rs.map rowD))]) F_shown.body = .ok (.ret (sv (.str (textOf rs)))) := by
    refine x_ex g (x_ret (e_join e_con rfl (y := ⟨.fr, .d (.lst ((rs.map rowT).map .str))⟩) ?_ (c_join ?_)) (by simp))
    · apply c_comp
      · exact e_val (e_vs rfl) c_valt
      · have e := compL_map (f := compF (.tp [.nm 1, .nm 2]) (start F_shown.ns [.d (.tup (rs.map rowD))]) (fun ρ' => ev cl ρ' (.con (.bl true))) (fun ρ' => ev cl ρ' (.bop .add (.var 1) (.var 2)))) (g := rowD) (h := fun r => D.str (rowT r)) (p := fun _ => true) rs fun r hm => by
          have h9 := hrow r hm
          refine c_turn (w := sv (.str (rowT r))) t_2 (wc := sv (.bl true)) e_con rfl fun _ => ⟨e_bop (e_vs rfl) (e_vs rfl) (b_adds ?_), rfl⟩
          simp only [rowT, List.length_append] at h9
          omega
        rw [List.filter_eq_self.mpr fun _ _ => rfl] at e
        rw [List.map_map]
        exact e
      · rw [List.length_map, List.length_map]; omega
    · have := joinL_len [10] 9 (rs.map rowT) fun x hx => by
        obtain ⟨r, hm, rfl⟩ := List.mem_map.mp hx
        exact hrow r hm
      rw [List.length_map] at this
      simp only [List.length_cons, List.length_nil] at this
      omega
  rw [h]; rfl
end
end Q7.P
end

section
set_option autoImplicit false
set_option Elab.async false
set_option linter.all false
set_option maxRecDepth 100000
namespace Q7.P
section
variable {cl : Nat → List Xv → R W} {sup : Nat → Nat → Option Bool} {fuel : Nat}
theorem cut_t1 {α : Type} (l : List α) : cut l none (some 1) = l.take 1 := by
  cases l with
  | nil => rfl
  | cons x r => simp [cut, sIx]
theorem cut_d1 {α : Type} (l : List α) : cut l (some 1) none = l.drop 1 := by
  cases l with
  | nil => rfl
  | cons x r =>
    simp only [cut, sIx]
    rw [if_neg (by decide), show min (Int.toNat 1) (x :: r).length = 1 by simp]
    simp
def lineR (l : List Nat) : Row := (l.take 1, l.drop 1)
def linesOf (s : List Nat) : List Row := if s = [] then [] else (splitC 10 s).map lineR
theorem lines_comp (s : List Nat) (hs : s.length ≤ 1000) {ρ : Env} {i j : Nat} (hi : ρ[i]? = some (some (false, .d (.str s)))) (hj : j < ρ.length) :
    ev cl ρ (.b1 .tuple (.comp (.nm j) (.val (.split (.var i) (.con (.str [10])))) (.con (.bl true)) (.tup (.cons (.slice (.var j) .omit (.con (.int 1))) (.cons (.slice (.var j) (.con (.int 1)) .omit) .nil))))) = okv (.tup (((splitC 10 s).map lineR).map rowD)) := by
  refine e_b1 (x := ⟨.fr, .d (.lst (((splitC 10 s).map lineR).map rowD))⟩) ?_ f_tupl
  apply c_comp
  · exact e_val (e_split (e_vs hi) rfl e_con c_split) c_valf
  · have e := compL_map (f := compF (.nm j) ρ (fun ρ' => ev cl ρ' (.con (.bl true))) (fun ρ' => ev cl ρ' (.tup (.cons (.slice (.var j) .omit (.con (.int 1))) (.cons (.slice (.var j) (.con (.int 1)) .omit) .nil))))) (g := fun l => D.str l) (h := fun l => rowD (lineR l)) (p := fun _ => true) (splitC 10 s) fun l hm => by
      have hv : (ρ.set j (some (false, .d (.str l))))[j]? = some (some (false, .d (.str l))) := by simp [hj]
      refine c_turn (w := sv (rowD (lineR l))) t_nm (wc := sv (.bl true)) e_con rfl fun _ => ⟨?_, rfl⟩
      have e := e_tup (z := sv (rowD (lineR l))) (e_cons (e_slice (cl := cl) (e_vs hv) e_omit rfl (e_con (d := .int 1)) rfl (w := sv (.str (cut l none (some 1)))) rfl) rfl (e_cons (e_slice (e_vs hv) (e_con (d := .int 1)) rfl e_omit rfl (w := sv (.str (cut l (some 1) none))) rfl) rfl e_nil)) (by rw [cut_t1, cut_d1]; rfl)
      exact e
    rw [List.filter_eq_self.mpr fun _ _ => rfl] at e
    rw [List.map_map]
    exact e
  · have := splitC_len 10 s
    rw [List.length_map, List.length_map]; omega
theorem p_read (h6 : ∀ rs : List Row, cl 6 [.d (.tup (rs.map rowD))] = okv (.bl (isRows rs))) (s : List Nat) (hs : s.length ≤ 1000) : fin (xss cl sup fuel (start F_read.ns [.d (.str s)]) F_read.body) = if isRows (linesOf s) then okv (.tup ((linesOf s).map rowD)) else .exc 9 := by
  have main : ∀ ρ : Env, ρ[1]? = some (some (false, .d (.tup ((linesOf s).map rowD)))) → xss cl sup fuel ρ (.cons (.ifs (.not (.call 6 (.cons (.var 1) .nil))) (.cons (.raise 9) .nil) .nil) (.cons (.ret (.var 1)) .nil)) = if isRows (linesOf s) then .ok (.ret (sv (.tup ((linesOf s).map rowD)))) else .exc 9 ρ := by
    intro ρ h1
    have g : ev cl ρ (.not (.call 6 (.cons (.var 1) .nil))) = okv (.bl (!isRows (linesOf s))) := e_notb (e_call (e_cons (e_vs h1) rfl e_nil) (h6 _))
    cases hr : isRows (linesOf s) with
    | true => rw [hr] at g; exact x_iff g (s_n (x_ret (e_vs h1) (by simp)))
    | false => rw [hr] at g; exact x_ift g (by rw [x_raise]; first | done | exact s_e)
  have g0 : ev cl (start F_read.ns [.d (.str s)]) (.not (.isi (.var 0) .str)) = okv (.bl false) := e_notb (p := true) (e_isi (e_vs rfl) rfl)
  have g1 : ∀ ρ : Env, ρ[0]? = some (some (false, .d (.str s))) → ev cl ρ (.cmp .ne (.var 0) (.con (.str []))) = okv (.bl (!(s == []))) := fun ρ h => e_cmp (e_vs h) e_con k_nes
  have h : ∃ ρ, xss cl sup fuel (start F_read.ns [.d (.str s)]) F_read.body = if isRows (linesOf s) then .ok (.ret (sv (.tup ((linesOf s).map rowD)))) else .exc 9 ρ := by
    by_cases he : s = []
    · refine ⟨_, x_iff g0 (s_n (x_asg (e_tup e_nil rfl) c_puts (x_iff ((g1 _ rfl).trans (by rw [he]; rfl)) (s_n (main _ ?_)))))⟩
      rw [linesOf, if_pos he]; rfl
    · refine ⟨[some (false, .d (.str s)), some (false, .d (.tup (((splitC 10 s).map lineR).map rowD))), none], x_iff g0 (s_n (x_asg (e_tup e_nil rfl) c_puts (x_ift ((g1 _ rfl).trans (by rw [beq_eq_false_iff_ne.mpr he]; rfl)) ?_)))⟩
      rw [x_asg (lines_comp s hs rfl (Nat.lt_succ_self 2)) c_puts x_nil]
      refine s_n (main _ ?_)
      rw [linesOf, if_neg he]; rfl
  obtain ⟨ρ, h⟩ := h
  rw [h]
  cases isRows (linesOf s) <;> rfl
end
end Q7.P
end

section
set_option autoImplicit false
set_option Elab.async false
set_option linter.all false
set_option maxRecDepth 100000
namespace Q7.P
section
variable {cl : Nat → List Xv → R W} {sup : Nat → Nat → Option Bool} {fuel : Nat}
/-- a loop, where only something of the end is told -/
theorem x_loopQ {tg : Tg} {it : CI} {b r : CSs} {ρ : Env} {ds : List D} {Q : RS → Prop} (I : List D → Env → Prop) (h : evi cl ρ it = .ok ds) (h0 : I ds ρ)
    (hs : ∀ d r ρ, I (d :: r) ρ → (∃ ρ', turn cl sup fuel tg b d ρ = .ok (.nx ρ') ∧ I r ρ') ∨ ∃ o, turn cl sup fuel tg b d ρ = o ∧ stops o = true ∧ Q o) (he : ∀ ρ', I [] ρ' → Q (xss cl sup fuel ρ' r)) :
    Q (xss cl sup fuel ρ (.cons (.for_ tg it b) r)) := by
  rw [x_for h rfl rfl]
  clear h
  induction ds generalizing ρ with
  | nil => exact he ρ h0
  | cons d l ih =>
    rcases hs d l ρ h0 with ⟨ρ', e, h1⟩ | ⟨o, e, hst, hq⟩
    · rw [forL, e]
      exact ih h1
    · rw [forL, e]
      cases o with
      | ok v => cases v <;> first | exact hq | cases hst
      | exc c σ => exact hq
      | stuck => cases hst
theorem mem_infix (c : Nat) : ∀ l : List Nat, isInfix [c] l = true ↔ c ∈ l
  | [] => by simp [isInfix]
  | x :: r => by
    unfold isInfix
    rw [Bool.or_eq_true, mem_infix c r, List.mem_cons]
    simp [List.isPrefixOf]
def cell (ns : List Int) (k : Nat) : Int := ns.getD k 0
theorem p_cell (ns : List Int) (k : Nat) : fin (xss cl sup fuel (start F_law_cell.ns [.d (.lst (ns.map .int)), .d (.int k)]) F_law_cell.body) = okv (.int (cell ns k)) := by
  have g : ev cl (start F_law_cell.ns [.d (.lst (ns.map .int)), .d (.int k)]) (.cmp .lt (.var 1) (.b1 .len (.var 0))) = okv (.bl (decide ((k : Int) < (ns.map D.int).length))) := e_cmp (e_vs rfl) (e_b1 (e_vs rfl) f_lenl) k_lti
  have h : xss cl sup fuel (start F_law_cell.ns [.d (.lst (ns.map .int)), .d (.int k)]) F_law_cell.body = .ok (.ret (sv (.int (cell ns k)))) := by
    by_cases hk : k < ns.length
    · have e : decide ((k : Int) < (ns.map D.int).length) = true := by rw [List.length_map]; simp; omega
      rw [e] at g
      refine x_ift g ?_
      rw [x_ret (w := sv (.int (cell ns k))) (e_idx (e_vs rfl) (e_vs rfl) (c_idx (c_ixl ?_))) (by simp)]
      · rfl
      · simp [at?, cell, List.getD, hk]
    · have e : decide ((k : Int) < (ns.map D.int).length) = false := by rw [List.length_map]; simp; omega
      rw [e] at g
      refine x_iff g (s_n (x_ret ?_ (by simp)))
      have : cell ns k = 0 := by simp [cell, List.getD, List.getElem?_eq_none (Nat.le_of_not_lt hk)]
      rw [this]
      exact e_con
  rw [h]; rfl
def mix (c prime many : Int) : Int := (c * 48271 % prime) ^ 3 % prime % many
theorem p_mix (c prime many : Int) (h1 : 0 < prime) (h2 : prime < 100000) (h3 : 0 < many) : fin (xss cl sup fuel (start F_law_mix.ns [.d (.int c), .d (.int prime), .d (.int many)]) F_law_mix.body) = okv (.int (mix c prime many)) := by
  have hm := mod_lo (c * 48271) prime h1
  have h : xss cl sup fuel (start F_law_mix.ns [.d (.int c), .d (.int prime), .d (.int many)]) F_law_mix.body = .ok (.ret (sv (.int (mix c prime many)))) := by
    refine x_ret ?_ (by simp)
    (repeat' first | exact e_vs rfl | exact e_vo rfl | exact e_con | exact e_omit | exact e_nil | apply e_and | apply e_or | apply e_notb | apply e_notl | apply e_bop | apply e_cmp | apply e_neg | apply e_ite | apply e_idx | apply e_slice | apply e_b1 | apply e_isi | apply e_min2 | apply e_max2 | apply e_split | apply e_join | apply e_starts | apply e_tup | apply e_lst | apply e_call | apply e_cons | apply e_val | apply e_rng1 | apply e_rng2 | apply e_enum | apply e_zip | exact k_eqs | exact k_nes | exact k_eqi | exact k_nei | exact k_lti | exact k_gti | exact k_lei | exact k_gei | exact k_ins | exact k_nins | (refine k_nel ?_ <;> (first | omega | (simp only [List.length_append, List.length_cons, List.length_nil]; omega) | (simp; done) | (simp; omega) | decide)) | (refine k_eql ?_ <;> (first | omega | (simp only [List.length_append, List.length_cons, List.length_nil]; omega) | (simp; done) | (simp; omega) | decide)) | (refine k_net ?_ <;> (first | omega | (simp only [List.length_append, List.length_cons, List.length_nil]; omega) | (simp; done) | (simp; omega) | decide)) | (refine k_eqt ?_ <;> (first | omega | (simp only [List.length_append, List.length_cons, List.length_nil]; omega) | (simp; done) | (simp; omega) | decide)) | exact k_int | exact k_nint | exact b_addi | exact b_subi | (refine b_adds ?_ <;> (first | omega | (simp only [List.length_append, List.length_cons, List.length_nil]; omega) | (simp; done) | (simp; omega) | decide)) | (refine b_addl ?_ <;> (first | omega | (simp only [List.length_append, List.length_cons, List.length_nil]; omega) | (simp; done) | (simp; omega) | decide)) | (refine b_addt ?_ <;> (first | omega | (simp only [List.length_append, List.length_cons, List.length_nil]; omega) | (simp; done) | (simp; omega) | decide)) | (refine b_mod ?_ <;> (first | omega | (simp only [List.length_append, List.length_cons, List.length_nil]; omega) | (simp; done) | (simp; omega) | decide)) | (refine b_mul1 ?_ ?_ <;> (first | omega | (simp only [List.length_append, List.length_cons, List.length_nil]; omega) | (simp; done) | (simp; omega) | decide)) | (refine b_mul2 ?_ ?_ <;> (first | omega | (simp only [List.length_append, List.length_cons, List.length_nil]; omega) | (simp; done) | (simp; omega) | decide)) | (refine b_pow ?_ ?_ ?_ ?_ <;> (first | omega | (simp only [List.length_append, List.length_cons, List.length_nil]; omega) | (simp; done) | (simp; omega) | decide)) | (refine b_fdiv ?_ ?_ <;> (first | omega | (simp only [List.length_append, List.length_cons, List.length_nil]; omega) | (simp; done) | (simp; omega) | decide)) | exact f_lens | exact f_lenl | exact f_lent | exact f_tupl | exact f_lstt | exact f_intb | exact c_args | exact c_argf | exact c_isi | exact c_neg | exact c_min2 | exact c_max2 | exact c_split | exact c_strO | exact c_opti | exact c_opto | exact c_vals | exact c_valt | exact c_vall | exact c_valf | exact c_sts | exact c_stf | exact c_tru | intro _)
  rw [h]; rfl
/-- a part as the laws make it -/
structure GoodPart (L : List Nat) (left : Nat) (s : List Nat) : Prop where
  part : isPart s = true
  len : s.length ≤ left
  ch : ∀ c ∈ s, c ∈ L ∨ c = 63 ∨ c = 42
end
end Q7.P
end

section
set_option autoImplicit false
set_option Elab.async false
set_option linter.all false
set_option maxRecDepth 100000
namespace Q7.P
section
variable {cl : Nat → List Xv → R W} {sup : Nat → Nat → Option Bool} {fuel : Nat}
theorem s_q {x o1 o : RS} {f : Env → RS} (h : x = o1) (h2 : o1.seq f = o) : x.seq f = o := by rw [h]; exact h2
theorem infix_app (c : Nat) : ∀ f : List Nat, isInfix [42, 42] (f ++ [c]) = true → isInfix [42, 42] f = true ∨ (c = 42 ∧ f.drop (f.length - 1) = [42])
  | [], h => by simp [isInfix, List.isPrefixOf] at h
  | [x], h => by
    simp [isInfix, List.isPrefixOf] at h
    exact .inr ⟨h.2.symm, by simp [h.1]⟩
  | x :: y :: r, h => by
    have e : x :: y :: r ++ [c] = x :: (y :: r ++ [c]) := rfl
    rw [e, isInfix, Bool.or_eq_true] at h
    rcases h with h | h
    · refine .inl ?_
      rw [isInfix, Bool.or_eq_true]
      refine .inl ?_
      simp [List.isPrefixOf] at h ⊢
      exact h
    · rcases infix_app c (y :: r) h with h | ⟨h1, h2⟩
      · refine .inl ?_
        rw [isInfix, Bool.or_eq_true]
        exact .inr h
      · refine .inr ⟨h1, ?_⟩
        simpa using h2
theorem cut_m1 {α : Type} (l : List α) : cut l (some (-1)) none = l.drop (l.length - 1) := by
  simp only [cut, sIx]
  rw [if_pos (by decide)]
  have : (-1 + (l.length : Int)).toNat = l.length - 1 := by omega
  rw [this]
  apply List.take_of_length_le
  simp
theorem good_of {L : List Nat} {left : Nat} {s : List Nat} (h0 : s ≠ []) (h1 : isInfix [42, 42] s = false) (h2 : s.length ≤ left) (hL : ∀ c ∈ L, c ∈ small) (h3 : ∀ c ∈ s, c ∈ L ∨ c = 63 ∨ c = 42) : GoodPart L left s := by
  refine ⟨?_, h2, h3⟩
  unfold isPart
  rw [isEmpty_filter (fun c => D.str [c]) (fun c => isInfix [c] (small ++ [63, 42]))]
  rw [h1, Bool.or_eq_true]
  refine .inr ?_
  rw [beq_eq_false_iff_ne.mpr h0]
  simp only [Bool.not_false, Bool.true_and, List.all_eq_true]
  intro c hc
  rw [mem_infix, List.mem_append]
  rcases h3 c hc with h | h | h
  · exact .inl (hL c h)
  · subst h; exact .inr (by simp)
  · subst h; exact .inr (by simp)
theorem p_part (h14 : ∀ s k : Int, cl 14 [.d (.int s), .d (.int k)] = okv (.int (seed s k))) (h15 : ∀ s m : Int, 0 < m → cl 15 [.d (.int s), .d (.int m)] = okv (.int (pick s m)))
    (sd : Int) (L : List Nat) (left : Nat) (hl : 1 ≤ left) (hl2 : left ≤ 1000) (hL : ∀ c ∈ L, c ∈ small) (hL2 : L.length ≤ 1000) : ∃ s, fin (xss cl sup fuel (start F_law_part.ns [.d (.int sd), .d (.str L), .d (.int left)]) F_law_part.body) = okv (.str s) ∧ GoodPart L left s := by
  have hq : ∀ (cnt : Nat), (cnt : Int) = 1 + sd / 7 % (if (4 : Int) < (left : Int) then (4 : Int) else (left : Int)) → 1 ≤ cnt ∧ cnt ≤ left := by
    intro cnt h
    have := mod_lo (sd / 7) (if (4 : Int) < (left : Int) then (4 : Int) else (left : Int)) (by split <;> omega)
    split at h <;> split at this <;> omega
  obtain ⟨cnt, hcnt⟩ : ∃ cnt : Nat, (cnt : Int) = 1 + sd / 7 % (if (4 : Int) < (left : Int) then (4 : Int) else (left : Int)) := by
    have := mod_lo (sd / 7) (if (4 : Int) < (left : Int) then (4 : Int) else (left : Int)) (by split <;> omega)
    exact ⟨(1 + sd / 7 % (if (4 : Int) < (left : Int) then (4 : Int) else (left : Int))).toNat, by omega⟩
  have hc := hq cnt hcnt
  show (fun o => ∃ s, fin o = okv (.str s) ∧ GoodPart L left s) (xss cl sup fuel (start F_law_part.ns [.d (.int sd), .d (.str L), .d (.int left)]) F_law_part.body)
  unfold F_law_part
  rw [x_asg e_con c_puts rfl]
  have g : ev cl ((start 7 [.d (.int sd), .d (.str L), .d (.int left)]).set 3 (some (false, .d (.str [])))) (.and (.cmp .gt (.var 2) (.con (.int 1))) (.cmp .eq (.bop .mod (.bop .fdiv (.var 0) (.con (.int 5))) (.con (.int 4))) (.con (.int 0)))) = okv (.bl (decide ((1 : Int) < left) && (sd / 5 % 4 == 0))) := by
    (repeat' first | exact e_vs rfl | exact e_vo rfl | exact e_con | exact e_omit | exact e_nil | apply e_and | apply e_or | apply e_notb | apply e_notl | apply e_bop | apply e_cmp | apply e_neg | apply e_ite | apply e_idx | apply e_slice | apply e_b1 | apply e_isi | apply e_min2 | apply e_max2 | apply e_split | apply e_join | apply e_starts | apply e_tup | apply e_lst | apply e_call | apply e_cons | apply e_val | apply e_rng1 | apply e_rng2 | apply e_enum | apply e_zip | exact k_eqs | exact k_nes | exact k_eqi | exact k_nei | exact k_lti | exact k_gti | exact k_lei | exact k_gei | exact k_ins | exact k_nins | (refine k_nel ?_ <;> (first | omega | (simp only [List.length_append, List.length_cons, List.length_nil]; omega) | (simp; done) | (simp; omega) | decide)) | (refine k_eql ?_ <;> (first | omega | (simp only [List.length_append, List.length_cons, List.length_nil]; omega) | (simp; done) | (simp; omega) | decide)) | (refine k_net ?_ <;> (first | omega | (simp only [List.length_append, List.length_cons, List.length_nil]; omega) | (simp; done) | (simp; omega) | decide)) | (refine k_eqt ?_ <;> (first | omega | (simp only [List.length_append, List.length_cons, List.length_nil]; omega) | (simp; done) | (simp; omega) | decide)) | exact k_int | exact k_nint | exact b_addi | exact b_subi | (refine b_adds ?_ <;> (first | omega | (simp only [List.length_append, List.length_cons, List.length_nil]; omega) | (simp; done) | (simp; omega) | decide)) | (refine b_addl ?_ <;> (first | omega | (simp only [List.length_append, List.length_cons, List.length_nil]; omega) | (simp; done) | (simp; omega) | decide)) | (refine b_addt ?_ <;> (first | omega | (simp only [List.length_append, List.length_cons, List.length_nil]; omega) | (simp; done) | (simp; omega) | decide)) | (refine b_mod ?_ <;> (first | omega | (simp only [List.length_append, List.length_cons, List.length_nil]; omega) | (simp; done) | (simp; omega) | decide)) | (refine b_mul1 ?_ ?_ <;> (first | omega | (simp only [List.length_append, List.length_cons, List.length_nil]; omega) | (simp; done) | (simp; omega) | decide)) | (refine b_mul2 ?_ ?_ <;> (first | omega | (simp only [List.length_append, List.length_cons, List.length_nil]; omega) | (simp; done) | (simp; omega) | decide)) | (refine b_pow ?_ ?_ ?_ ?_ <;> (first | omega | (simp only [List.length_append, List.length_cons, List.length_nil]; omega) | (simp; done) | (simp; omega) | decide)) | (refine b_fdiv ?_ ?_ <;> (first | omega | (simp only [List.length_append, List.length_cons, List.length_nil]; omega) | (simp; done) | (simp; omega) | decide)) | exact f_lens | exact f_lenl | exact f_lent | exact f_tupl | exact f_lstt | exact f_intb | exact c_args | exact c_argf | exact c_isi | exact c_neg | exact c_min2 | exact c_max2 | exact c_split | exact c_strO | exact c_opti | exact c_opto | exact c_vals | exact c_valt | exact c_vall | exact c_valf | exact c_sts | exact c_stf | exact c_tru | intro _)
  cases hp : (decide ((1 : Int) < left) && (sd / 5 % 4 == 0)) with
  | true =>
    rw [hp] at g
    rw [x_ift g (s_q (x_ret e_con (by simp)) s_r)]
    refine ⟨[42, 42], rfl, rfl, ?_, by simp⟩
    simp at hp
    simp; omega
  | false =>
    rw [hp] at g
    rw [x_iff g (s_q x_nil (s_n rfl))]
    refine x_loopQ (fun r ρ => (∀ d ∈ r, ∃ i : Int, d = .int i) ∧ ∃ (f : List Nat) (a b c : Option (Bool × Xv)), ρ = [some (false, .d (.int sd)), some (false, .d (.str L)), some (false, .d (.int left)), some (false, .d (.str f)), a, b, c] ∧ f.length + r.length ≤ cnt ∧ (r.length < cnt → f ≠ []) ∧ isInfix [42, 42] f = false ∧ ∀ c ∈ f, c ∈ L ∨ c = 63 ∨ c = 42)
      (ds := rngL 0 cnt) ?_ ?_ ?_ ?_
    · have e : evi cl ((start 7 [.d (.int sd), .d (.str L), .d (.int left)]).set 3 (some (false, .d (.str [])))) (.rng1 (.bop .add (.con (.int 1)) (.bop .mod (.bop .fdiv (.var 0) (.con (.int 7))) (.min2 (.var 2) (.con (.int 4)))))) = .ok (rngL 0 cnt) := by
        refine e_rng1 (x := sv (.int cnt)) ?_ (c_rng1 (by omega) (by omega))
        rw [hcnt]
        refine e_bop e_con (e_bop (e_bop (e_vs rfl) e_con (b_fdiv (by omega) (by omega))) (e_min2 (e_vs rfl) e_con c_min2) (b_mod (by split <;> omega))) b_addi
      exact e
    · refine ⟨fun d hd => ?_, [], none, none, none, rfl, ?_, ?_, rfl, by simp⟩
      · simp [rngL] at hd
        obtain ⟨i, _, e⟩ := hd
        exact ⟨i, e.symm⟩
      · simp [rngL]
      · simp [rngL]
    · rintro d r ρ ⟨hd, f, a, b, c, rfl, h1, h2, h3, h4⟩
      refine .inl ?_
      obtain ⟨i, rfl⟩ := hd d (List.mem_cons_self ..)
      have hpk := mod_lo (seed sd i / 97) (L.length + 3) (by omega)
      have hpk : 0 ≤ pick (seed sd i) ((L.length : Nat) + 3) ∧ pick (seed sd i) ((L.length : Nat) + 3) < (L.length : Nat) + 3 := hpk
      obtain ⟨ch, hch, hin⟩ : ∃ ch, atS? (L ++ [63, 42, 42]) (pick (seed sd i) ((L.length : Nat) + 3)) = some ch ∧ (ch ∈ L ∨ ch = 63 ∨ ch = 42) := by
        have hlt : (pick (seed sd i) ((L.length : Nat) + 3)).toNat < (L ++ [63, 42, 42]).length := by simp; omega
        refine ⟨(L ++ [63, 42, 42])[(pick (seed sd i) ((L.length : Nat) + 3)).toNat], ?_, ?_⟩
        · rw [atS?, if_pos hpk.1]; exact List.getElem?_eq_getElem hlt
        · have := List.getElem_mem hlt
          rw [List.mem_append] at this
          simpa using this
      have hlen : f.length ≤ 1000 := by simp at h1; omega
      rw [turn_eq t_nm]
      rw [x_asg (e_call (e_cons (e_vs rfl) rfl (e_cons (e_vs rfl) rfl e_nil)) (h14 sd i)) c_puts (x_frz rfl rfl)]
      simp only [List.set_cons_succ, List.set_cons_zero]
      have e1 : ev cl [some (false, .d (.int sd)), some (false, .d (.str L)), some (false, .d (.int left)), some (false, .d (.str f)), some (false, .d (.int i)), some (false, .d (.int (seed sd i))), c] (.idx (.bop .add (.var 1) (.con (.str [63, 42, 42]))) (.call 15 (.cons (.var 5) (.cons (.bop .add (.b1 .len (.var 1)) (.con (.int 3))) .nil)))) = okv (.str [ch]) :=
        e_idx (e_bop (e_vs rfl) e_con (b_adds (by simp; omega))) (e_call (e_cons (e_vs rfl) rfl (e_cons (e_bop (e_b1 (e_vs rfl) f_lens) e_con b_addi) rfl e_nil)) (h15 _ _ (by omega))) (c_idx (c_ixs hch))
      rw [x_asg (w := sv (.str [ch])) e1 c_puts rfl]
      simp only [List.set_cons_succ, List.set_cons_zero]
      have e2 : ev cl [some (false, .d (.int sd)), some (false, .d (.str L)), some (false, .d (.int left)), some (false, .d (.str f)), some (false, .d (.int i)), some (false, .d (.int (seed sd i))), some (false, .d (.str [ch]))] (.or (.cmp .ne (.var 6) (.con (.str [42]))) (.cmp .ne (.slice (.var 3) (.neg (.con (.int 1))) .omit) (.con (.str [42])))) = okv (.bl (!([ch] == [42]) || !(cut f (some (-1)) none == [42]))) := by
        apply e_or
        · exact e_cmp (e_vs rfl) e_con k_nes
        · intro _
          exact e_cmp (e_slice (w := sv (.str (cut f (some (-1)) none))) (e_vs rfl) (e_neg e_con c_neg) rfl e_omit rfl rfl) e_con k_nes
      rw [cut_m1] at e2
      cases hb : (!([ch] == [42]) || !(f.drop (f.length - 1) == [42])) with
      | true =>
        rw [hb] at e2
        refine ⟨[some (false, .d (.int sd)), some (false, .d (.str L)), some (false, .d (.int left)), some (false, .d (.str (f ++ [ch]))), some (false, .d (.int i)), some (false, .d (.int (seed sd i))), some (false, .d (.str [ch]))], ?_, fun d hd' => hd d (List.mem_cons_of_mem _ hd'), f ++ [ch], _, _, _, rfl, ?_, by simp, ?_, ?_⟩
        · refine x_ift e2 ?_
          rw [x_asg (e_bop (e_vs rfl) (e_vs rfl) (b_adds (by simp; omega))) c_puts x_nil]
          exact s_n x_nil
        · simp at h1 ⊢; omega
        · cases hx : isInfix [42, 42] (f ++ [ch]) with
          | false => rfl
          | true =>
            rcases infix_app ch f hx with h | ⟨h, h'⟩
            · rw [h3] at h; cases h
            · rw [h, h'] at hb; simp at hb
        · intro c hc
          rcases List.mem_append.mp hc with hc | hc
          · exact h4 c hc
          · rw [List.mem_singleton.mp hc]; exact hin
      | false =>
        rw [hb] at e2
        have hne : f ≠ [] := by
          intro hf
          subst hf
          simp at hb
        refine ⟨[some (false, .d (.int sd)), some (false, .d (.str L)), some (false, .d (.int left)), some (false, .d (.str f)), some (false, .d (.int i)), some (false, .d (.int (seed sd i))), some (false, .d (.str [ch]))], ?_, fun d hd' => hd d (List.mem_cons_of_mem _ hd'), f, _, _, _, rfl, ?_, fun _ => hne, h3, h4⟩
        · exact x_iff e2 (s_n x_nil)
        · simp at h1; omega
    · rintro ρ ⟨hd, f, a, b, c, rfl, h1, h2, h3, h4⟩
      refine ⟨f, ?_, good_of (h2 (by simp; omega)) h3 (by simp at h1; omega) hL h4⟩
      rw [x_ret (e_vs rfl) (by simp)]
      rfl
end
end Q7.P
end

section
set_option autoImplicit false
set_option Elab.async false
set_option linter.all false
set_option maxRecDepth 100000
namespace Q7.P
section
variable {cl : Nat → List Xv → R W} {sup : Nat → Nat → Option Bool} {fuel : Nat}
theorem splitC_none (c : Nat) : ∀ s : List Nat, c ∉ s → splitC c s = [s]
  | [], _ => rfl
  | x :: r, h => by
    rw [List.mem_cons, not_or] at h
    rw [splitC, if_neg (fun e => h.1 e.symm), splitC_none c r h.2]
theorem splitC_mid (c : Nat) (g : List Nat) : ∀ f : List Nat, splitC c (f ++ c :: g) = splitC c f ++ splitC c g
  | [] => by simp [splitC]
  | x :: r => by
    rw [List.cons_append, splitC, splitC]
    have ih := splitC_mid c g r
    split
    · rw [ih]; rfl
    · rw [ih]
      cases h : splitC c r with
      | nil =>
        exfalso
        cases r with
        | nil => simp [splitC] at h
        | cons y t => rw [splitC] at h; split at h <;> (try split at h) <;> cases h
      | cons a b => rfl
structure GoodPat (L : List Nat) (s : List Nat) : Prop where
  len : s.length ≤ 8
  parts : ∀ p ∈ splitC 47 s, isPart p = true
  ch : ∀ c ∈ s, c ∈ L ∨ c = 63 ∨ c = 42 ∨ c = 47
theorem GoodPat.pat {L s : List Nat} (h : GoodPat L s) : isPattern s = true := by
  unfold isPattern
  rw [decide_eq_false (by have := h.len; omega)]
  simp only [Bool.not_false, Bool.true_and, List.all_eq_true]
  exact h.parts
theorem GoodPart.no47 {L : List Nat} {n : Nat} {s : List Nat} (hL : ∀ c ∈ L, c ∈ small) (h : GoodPart L n s) : 47 ∉ s := fun hm => by
  rcases h.ch 47 hm with h | h | h
  · exact absurd (hL 47 h) (by decide)
  · cases h
  · cases h
theorem p_pattern (h14 : ∀ s k : Int, cl 14 [.d (.int s), .d (.int k)] = okv (.int (seed s k)))
    (L : List Nat) (hL : ∀ c ∈ L, c ∈ small) (h16 : ∀ (sd : Int) (left : Nat), 1 ≤ left → left ≤ 1000 → ∃ s, cl 16 [.d (.int sd), .d (.str L), .d (.int left)] = okv (.str s) ∧ GoodPart L left s)
    (sd : Int) : ∃ s, fin (xss cl sup fuel (start F_law_pattern.ns [.d (.int sd), .d (.str L)]) F_law_pattern.body) = okv (.str s) ∧ GoodPat L s := by
  obtain ⟨s0, e0, g0⟩ := h16 (seed sd 1) 4 (by omega) (by omega)
  have e0 : cl 16 [.d (.int (seed sd 1)), .d (.str L), .d (.int 4)] = okv (.str s0) := e0
  show (fun o => ∃ s, fin o = okv (.str s) ∧ GoodPat L s) (xss cl sup fuel (start F_law_pattern.ns [.d (.int sd), .d (.str L)]) F_law_pattern.body)
  unfold F_law_pattern
  rw [x_asg (e_call (e_cons (e_call (e_cons (e_vs rfl) rfl (e_cons e_con rfl e_nil)) (h14 sd 1)) rfl (e_cons (e_vs rfl) rfl (e_cons e_con rfl e_nil))) e0) c_puts rfl]
  have hm := mod_lo (sd / 3) 3 (by omega)
  refine x_loopQ (fun r ρ => (∀ d ∈ r, ∃ i : Int, d = .int i) ∧ ∃ (f : List Nat) (a b : Option (Bool × Xv)), ρ = [some (false, .d (.int sd)), some (false, .d (.str L)), some (false, .d (.str f)), a, b] ∧ GoodPat L f)
      (ds := rngL 0 (sd / 3 % 3).toNat) ?_ ?_ ?_ ?_
  · exact e_rng1 (e_bop (e_bop (e_vs rfl) e_con (b_fdiv (by omega) (by omega))) e_con (b_mod (by omega))) (c_rng1 (by omega) (by omega))
  · refine ⟨fun d hd => ?_, s0, none, none, rfl, ⟨by have := g0.len; omega, ?_, fun c hc => ?_⟩⟩
    · simp [rngL] at hd
      obtain ⟨i, _, e⟩ := hd
      exact ⟨i, e.symm⟩
    · rw [splitC_none 47 s0 (g0.no47 hL)]
      intro p hp
      rw [List.mem_singleton.mp hp]
      exact g0.part
    · rcases g0.ch c hc with h | h | h
      · exact .inl h
      · exact .inr (.inl h)
      · exact .inr (.inr (.inl h))
  · rintro d r ρ ⟨hd, f, a, b, rfl, gf⟩
    refine .inl ?_
    obtain ⟨i, rfl⟩ := hd d (List.mem_cons_self ..)
    rw [turn_eq t_nm]
    rw [x_asg (e_bop e_con (e_b1 (e_vs rfl) f_lens) b_subi) c_puts rfl]
    simp only [List.set_cons_succ, List.set_cons_zero]
    have g : ev cl [some (false, .d (.int sd)), some (false, .d (.str L)), some (false, .d (.str f)), some (false, .d (.int i)), some (false, .d (.int (7 - (f.length : Nat))))] (.cmp .gt (.var 4) (.con (.int 0))) = okv (.bl (decide ((0 : Int) < 7 - (f.length : Nat)))) := e_cmp (e_vs rfl) e_con k_gti
    by_cases hf : f.length < 7
    · rw [decide_eq_true (by omega)] at g
      obtain ⟨p, e1, gp⟩ := h16 (seed sd (2 + i)) (7 - f.length) (by omega) (by omega)
      have e7 : (((7 - f.length : Nat)) : Int) = 7 - (f.length : Nat) := by omega
      rw [e7] at e1
      have hp := gp.len
      refine ⟨[some (false, .d (.int sd)), some (false, .d (.str L)), some (false, .d (.str (f ++ [47] ++ p))), some (false, .d (.int i)), some (false, .d (.int (7 - (f.length : Nat))))], ?_, fun d hd' => hd d (List.mem_cons_of_mem _ hd'), f ++ [47] ++ p, _, _, rfl, ?_, ?_, ?_⟩
      · refine x_ift g (s_q (x_asg (e_bop (e_bop (e_vs rfl) e_con (b_adds (by simp; omega))) (e_call (e_cons (e_call (e_cons (e_vs rfl) rfl (e_cons (e_bop e_con (e_vs rfl) b_addi) rfl e_nil)) (h14 sd (2 + i))) rfl (e_cons (e_vs rfl) rfl (e_cons (e_vs rfl) rfl e_nil))) e1) (b_adds (by simp; omega))) c_puts x_nil) (s_n x_nil))
      · simp; omega
      · rw [List.append_assoc]
        show ∀ q ∈ splitC 47 (f ++ 47 :: p), _
        rw [splitC_mid, splitC_none 47 p (gp.no47 hL)]
        intro q hq
        rcases List.mem_append.mp hq with h | h
        · exact gf.parts q h
        · rw [List.mem_singleton.mp h]; exact gp.part
      · intro c hc
        rw [List.mem_append, List.mem_append] at hc
        rcases hc with (h | h) | h
        · exact gf.ch c h
        · exact .inr (.inr (.inr (List.mem_singleton.mp h)))
        · rcases gp.ch c h with h | h | h
          · exact .inl h
          · exact .inr (.inl h)
          · exact .inr (.inr (.inl h))
    · rw [decide_eq_false (by omega)] at g
      exact ⟨_, x_iff g (s_q x_nil (s_n x_nil)), fun d hd' => hd d (List.mem_cons_of_mem _ hd'), f, _, _, rfl, gf⟩
  · rintro ρ ⟨hd, f, a, b, rfl, gf⟩
    refine ⟨f, ?_, gf⟩
    rw [x_ret (e_vs rfl) (by simp)]
    rfl
end
end Q7.P
end

section
set_option autoImplicit false
set_option Elab.async false
set_option linter.all false
set_option maxRecDepth 100000
namespace Q7.P
section
variable {cl : Nat → List Xv → R W} {sup : Nat → Nat → Option Bool} {fuel : Nat}
theorem at_lt {α : Type} (xs : List D) (i : Int) (h0 : 0 ≤ i) (h1 : i < xs.length) : ∃ d, at? xs i = some d ∧ d ∈ xs := by
  have hlt : i.toNat < xs.length := by omega
  exact ⟨xs[i.toNat], by rw [at?, if_pos h0]; exact List.getElem?_eq_getElem hlt, List.getElem_mem hlt⟩
structure GoodRows (rs : List Row) (most : Nat) (L : List Nat) : Prop where
  sub : ∀ c ∈ L, c ∈ small
  six : L.length ≤ 6
  len : rs.length ≤ most
  row : ∀ r ∈ rs, (r.1 = [43] ∨ r.1 = [45]) ∧ GoodPat L r.2
theorem p_rows (h14 : ∀ s k : Int, cl 14 [.d (.int s), .d (.int k)] = okv (.int (seed s k)))
    (h17 : ∀ L : List Nat, (∀ c ∈ L, c ∈ small) → L.length ≤ 6 → ∀ sd : Int, ∃ s, cl 17 [.d (.int sd), .d (.str L)] = okv (.str s) ∧ GoodPat L s)
    (sd : Int) (most : Nat) (hmo : most ≤ 1000) : ∃ rs L, fin (xss cl sup fuel (start F_law_rows.ns [.d (.int sd), .d (.int most)]) F_law_rows.body) = okv (.tup (rs.map rowD)) ∧ GoodRows rs most L := by
  show (fun o => ∃ rs L, fin o = okv (.tup (rs.map rowD)) ∧ GoodRows rs most L) (xss cl sup fuel (start F_law_rows.ns [.d (.int sd), .d (.int most)]) F_law_rows.body)
  unfold F_law_rows
  have hm5 := mod_lo (sd / 11) 5 (by omega)
  have hm3 := mod_lo (sd / 13) 3 (by omega)
  have hmm := mod_lo (sd / 7) (most + 1) (by omega)
  obtain ⟨dL, eL, mL⟩ := at_lt (α := Nat) [D.str [97, 98], .str [97, 98, 99], .str [97], .str [120, 121, 122], .str [97, 98, 99, 100, 101, 102]] (sd / 11 % 5) hm5.1 (by simp; omega)
  obtain ⟨L, rfl, hL, hL6⟩ : ∃ L, dL = .str L ∧ (∀ c ∈ L, c ∈ small) ∧ L.length ≤ 6 := by
    simp only [List.mem_cons, List.not_mem_nil, or_false] at mL
    rcases mL with rfl | rfl | rfl | rfl | rfl <;> exact ⟨_, rfl, by decide, by decide⟩
  obtain ⟨dn, en, mn⟩ := at_lt (α := Nat) [D.int most, .int most, .int (sd / 7 % (most + 1))] (sd / 13 % 3) hm3.1 (by simp; omega)
  obtain ⟨n, rfl, hn⟩ : ∃ n : Nat, dn = .int n ∧ n ≤ most := by
    simp only [List.mem_cons, List.not_mem_nil, or_false] at mn
    rcases mn with rfl | rfl | rfl
    · exact ⟨most, rfl, Nat.le_refl _⟩
    · exact ⟨most, rfl, Nat.le_refl _⟩
    · exact ⟨(sd / 7 % (most + 1)).toNat, by rw [Int.toNat_of_nonneg hmm.1], by omega⟩
  rw [x_asg (w := sv (.str L)) (e_idx (e_lst (e_cons e_con rfl (e_cons e_con rfl (e_cons e_con rfl (e_cons e_con rfl (e_cons e_con rfl e_nil))))) rfl) (e_bop (e_bop (e_vs rfl) e_con (b_fdiv (by omega) (by omega))) e_con (b_mod (by omega))) (c_idx (c_ixl eL))) c_puts rfl]
  rw [x_asg (e_lst e_nil rfl) c_putf rfl]
  refine x_loopQ (fun r ρ => (∀ d ∈ r, ∃ i : Int, d = .int i) ∧ ∃ (rs : List Row) (a b : Option (Bool × Xv)), ρ = [some (false, .d (.int sd)), some (false, .d (.int most)), some (false, .d (.str L)), some (true, .d (.lst (rs.map rowD))), a, b] ∧ rs.length + r.length ≤ most ∧ ∀ r ∈ rs, (r.1 = [43] ∨ r.1 = [45]) ∧ GoodPat L r.2)
      (ds := rngL 0 n) ?_ ?_ ?_ ?_
  · exact e_rng1 (x := sv (.int n)) (e_idx (e_lst (e_cons (e_vs rfl) rfl (e_cons (e_vs rfl) rfl (e_cons (e_bop (e_bop (e_vs rfl) e_con (b_fdiv (by omega) (by omega))) (e_bop (e_vs rfl) e_con b_addi) (b_mod (by omega))) rfl e_nil))) rfl) (e_bop (e_bop (e_vs rfl) e_con (b_fdiv (by omega) (by omega))) e_con (b_mod (by omega))) (c_idx (c_ixl en))) (c_rng1 (by omega) (by omega))
  · refine ⟨fun d hd => ?_, [], none, none, rfl, ?_, by simp⟩
    · simp [rngL] at hd
      obtain ⟨i, _, e⟩ := hd
      exact ⟨i, e.symm⟩
    · simp [rngL]; exact hn
  · rintro d r ρ ⟨hd, rs, a, b, rfl, h1, h2⟩
    refine .inl ?_
    obtain ⟨i, rfl⟩ := hd d (List.mem_cons_self ..)
    rw [turn_eq t_nm]
    rw [x_asg (e_call (e_cons (e_vs rfl) rfl (e_cons (e_bop e_con (e_vs rfl) b_addi) rfl e_nil)) (h14 sd (20 + i))) c_puts (x_frz rfl rfl)]
    simp only [List.set_cons_succ, List.set_cons_zero]
    have hs3 := mod_lo (seed sd (20 + i) / 5) 3 (by omega)
    obtain ⟨ds, es, ms⟩ := at_lt (α := Nat) [D.str [43], .str [45], .str [43]] (seed sd (20 + i) / 5 % 3) hs3.1 (by simp; omega)
    obtain ⟨sg, rfl, hsg⟩ : ∃ sg, ds = .str sg ∧ (sg = [43] ∨ sg = [45]) := by
      simp only [List.mem_cons, List.not_mem_nil, or_false] at ms
      rcases ms with rfl | rfl | rfl
      · exact ⟨_, rfl, .inl rfl⟩
      · exact ⟨_, rfl, .inr rfl⟩
      · exact ⟨_, rfl, .inl rfl⟩
    obtain ⟨p, ep, gp⟩ := h17 L hL hL6 (seed sd (20 + i))
    have hlen : rs.length < 1000000 := by simp at h1; omega
    refine ⟨[some (false, .d (.int sd)), some (false, .d (.int most)), some (false, .d (.str L)), some (true, .d (.lst (rs.map rowD ++ [rowD (sg, p)]))), some (false, .d (.int i)), some (false, .d (.int (seed sd (20 + i))))], ?_, fun d hd' => hd d (List.mem_cons_of_mem _ hd'), rs ++ [(sg, p)], _, _, by rw [List.map_append]; rfl, ?_, ?_⟩
    · exact x_app (w := sv (rowD (sg, p))) rfl (e_tup (e_cons (e_idx (e_lst (e_cons e_con rfl (e_cons e_con rfl (e_cons e_con rfl e_nil))) rfl) (e_bop (e_bop (e_vs rfl) e_con (b_fdiv (by omega) (by omega))) e_con (b_mod (by omega))) (c_idx (c_ixl es))) rfl (e_cons (e_call (e_cons (e_vs rfl) rfl (e_cons (e_vs rfl) rfl e_nil)) ep) rfl e_nil)) rfl) rfl (by rw [List.length_map]; exact hlen) x_nil
    · simp at h1 ⊢; omega
    · intro r hr
      rcases List.mem_append.mp hr with h | h
      · exact h2 r h
      · rw [List.mem_singleton.mp h]; exact ⟨hsg, gp⟩
  · rintro ρ ⟨hd, rs, a, b, rfl, h1, h2⟩
    refine ⟨rs, L, ?_, hL, hL6, by simpa using h1, h2⟩
    rw [x_ret (e_b1 (e_vo rfl) f_tupl) (by simp)]
    rfl
end
end Q7.P
end

section
set_option autoImplicit false
set_option Elab.async false
set_option linter.all false
set_option maxRecDepth 100000
namespace Q7.P
section
variable {cl : Nat → List Xv → R W} {sup : Nat → Nat → Option Bool} {fuel : Nat}
abbrev signs28 : List Nat := [97, 98, 99, 100, 101, 102, 103, 104, 105, 106, 107, 108, 109, 110, 111, 112, 113, 114, 115, 116, 117, 118, 119, 120, 121, 122, 63, 42]
theorem depths_ch : ∀ l : List Nat, depths (l.map fun c => D.str [c]) = 0
  | [] => rfl
  | x :: r => by simp only [List.map_cons, depths, depth, depths_ch r]; rfl
theorem eqvs_nil (l : List D) : eqvs l [] = l.isEmpty := by cases l <;> simp [eqvs]
theorem part_law (p : List Nat) : isPart p = (!(p == [] || (!(p == [42, 42]) && isInfix [42, 42] p)) && (p.filter fun c => !isInfix [c] signs28).isEmpty) := by
  unfold isPart
  have e : small ++ [63, 42] = signs28 := rfl
  rw [e]
  have e2 : ((p.filter fun c => !isInfix [c] signs28).map fun c => D.str [c]).isEmpty = (p.filter fun c => !isInfix [c] signs28).isEmpty := by simp
  rw [e2]
  by_cases h : p = [42, 42]
  · subst h; rfl
  · rw [beq_eq_false_iff_ne.mpr h]
    cases p == [] <;> cases isInfix [42, 42] p <;> simp
theorem p_lis_pattern (s : List Nat) : fin (xss cl sup fuel (start F_law_is_pattern.ns [.d (.str s)]) F_law_is_pattern.body) = okv (.bl (isPattern s)) := by
  have g0 : ev cl (start F_law_is_pattern.ns [.d (.str s)]) (.not (.isi (.var 0) .str)) = okv (.bl false) := e_notb (p := true) (e_isi (e_vs rfl) rfl)
  have g1 : ev cl (start F_law_is_pattern.ns [.d (.str s)]) (.cmp .gt (.b1 .len (.var 0)) (.con (.int 8))) = okv (.bl (decide ((8 : Int) < s.length))) := e_cmp (e_b1 (e_vs rfl) f_lens) e_con k_gti
  have h : xss cl sup fuel (start F_law_is_pattern.ns [.d (.str s)]) F_law_is_pattern.body = .ok (.ret (sv (.bl (isPattern s)))) := by
    by_cases hl : s.length ≤ 8
    · rw [decide_eq_false (by omega)] at g1
      refine x_iff (e_or0 g0 g1) (s_n ?_)
      have hp : isPattern s = (splitC 47 s).all isPart := by unfold isPattern; rw [decide_eq_false (by omega)]; rfl
      refine x_loop (fun r ρ => ∃ (todo : List (List Nat)) (a b : Option (Bool × Xv)), r = todo.map .str ∧ ρ = [some (false, .d (.str s)), a, b] ∧ isPattern s = todo.all isPart ∧ ∀ p ∈ todo, p.length ≤ 8) (e_val (e_split (e_vs rfl) rfl e_con c_split) c_valf) ⟨_, none, none, rfl, rfl, hp, fun p hm => Nat.le_trans (splitC_le 47 s p hm) hl⟩ ?_ ?_
      · rintro d r ρ ⟨todo, a, b, e1, rfl, e3, e4⟩
        cases todo with
        | nil => cases e1
        | cons p todo =>
          rw [List.map_cons, List.cons.injEq] at e1
          obtain ⟨rfl, rfl⟩ := e1
          have hpl := e4 p (List.mem_cons_self ..)
          rw [turn_eq t_nm]
          simp only [List.set_cons_succ, List.set_cons_zero]
          have g2 : ev cl [some (false, .d (.str s)), some (false, .d (.str p)), b] (.or (.cmp .eq (.var 1) (.con (.str []))) (.and (.cmp .ne (.var 1) (.con (.str [42, 42]))) (.cmp .isin (.con (.str [42, 42])) (.var 1)))) = okv (.bl (p == [] || (!(p == [42, 42]) && isInfix [42, 42] p))) := by
            apply e_or
            · exact e_cmp (e_vs rfl) e_con k_eqs
            · intro _
              apply e_and
              · exact e_cmp (e_vs rfl) e_con k_nes
              · intro _
                exact e_cmp e_con (e_vs rfl) k_ins
          have g3 : ev cl [some (false, .d (.str s)), some (false, .d (.str p)), b] (.cmp .ne (.comp (.nm 2) (.val (.var 1)) (.cmp .notin (.var 2) (.con (.str signs28))) (.var 2)) (.lst .nil)) = okv (.bl (!(p.filter fun c => !isInfix [c] signs28).isEmpty)) := by
            have e := e_cmp (cl := cl) (ρ := [some (false, .d (.str s)), some (false, .d (.str p)), b]) (o := .ne) (a := .comp (.nm 2) (.val (.var 1)) (.cmp .notin (.var 2) (.con (.str signs28))) (.var 2)) (x := ⟨.fr, .d (.lst ((p.filter fun c => !isInfix [c] signs28).map fun c => D.str [c]))⟩) ?_ (e_lst e_nil rfl) (k_nel (by rw [depths_ch]; omega))
            · rw [e, eqvs_nil]; simp
            · apply c_comp
              · exact e_val (e_vs rfl) c_vals
              · refine compL_map (p := fun c => !isInfix [c] signs28) p fun c hc => ?_
                exact c_turn (w := sv (.str [c])) t_nm (wc := sv (.bl (!isInfix [c] signs28))) (e_cmp (e_vs rfl) e_con k_nins) rfl fun _ => ⟨e_vs rfl, rfl⟩
              · rw [List.length_map]; exact Nat.le_trans (List.length_filter_le ..) (by omega)
          have hpart := part_law p
          cases hb : (p == [] || (!(p == [42, 42]) && isInfix [42, 42] p)) with
          | true =>
            rw [hb] at g2 hpart
            refine .inr ⟨?_, rfl⟩
            rw [e3, List.all_cons, hpart]
            exact x_ift g2 (s_q (x_ret e_con (by simp)) s_r)
          | false =>
            rw [hb] at g2 hpart
            cases hf : (p.filter fun c => !isInfix [c] signs28).isEmpty with
            | false =>
              rw [hf] at g3 hpart
              refine .inr ⟨?_, rfl⟩
              rw [e3, List.all_cons, hpart]
              exact x_iff g2 (s_n (x_ift g3 (s_q (x_ret e_con (by simp)) s_r)))
            | true =>
              rw [hf] at g3 hpart
              refine .inl ⟨_, x_iff g2 (s_n (x_iff g3 (s_n x_nil))), todo, _, _, rfl, rfl, ?_, fun q hq => e4 q (List.mem_cons_of_mem _ hq)⟩
              rw [e3, List.all_cons, hpart]; rfl
      · rintro ρ ⟨todo, a, b, e1, rfl, e3, e4⟩
        have : todo = [] := by cases todo with | nil => rfl | cons t l => cases e1
        subst this
        rw [e3]
        exact x_ret e_con (by simp)
    · rw [decide_eq_true (by omega)] at g1
      have hp : isPattern s = false := by unfold isPattern; rw [decide_eq_true (by omega)]; rfl
      rw [hp]
      exact x_ift (e_or0 g0 g1) (s_q (x_ret e_con (by simp)) s_r)
  rw [h]; rfl
end
end Q7.P
end

section
set_option autoImplicit false
set_option Elab.async false
set_option linter.all false
set_option maxRecDepth 100000
namespace Q7.P
section
variable {cl : Nat → List Xv → R W} {sup : Nat → Nat → Option Bool} {fuel : Nat}
def nub : List Nat → List Nat
  | [] => []
  | x :: r => x :: (nub r).filter fun y => !(x == y)
theorem dedup_ch : ∀ l : List Nat, dedup (chD l) = chD (nub l)
  | [] => rfl
  | x :: r => by
    have ih := dedup_ch r
    simp only [chD, List.map_cons, dedup, nub] at ih ⊢
    rw [ih, List.filter_map]
    congr 2
    apply List.filter_congr
    intro y _
    simp [eqv]
theorem nub_mem (a : Nat) : ∀ l : List Nat, a ∈ nub l ↔ a ∈ l
  | [] => Iff.rfl
  | x :: r => by
    rw [nub, List.mem_cons, List.mem_cons, List.mem_filter, nub_mem a r]
    constructor
    · rintro (h | h)
      · exact .inl h
      · exact .inr h.1
    · rintro (h | h)
      · exact .inl h
      · by_cases e : a = x
        · exact .inl e
        · exact .inr ⟨h, by simpa using fun z => e z.symm⟩
theorem nub_nodup : ∀ l : List Nat, (nub l).Nodup
  | [] => .nil
  | x :: r => by
    rw [nub, List.nodup_cons]
    refine ⟨fun h => ?_, (nub_nodup r).sublist List.filter_sublist⟩
    have := (List.mem_filter.mp h).2
    simp at this
theorem same_len : ∀ {xs ys : List Nat}, xs.Nodup → ys.Nodup → (∀ a, a ∈ xs ↔ a ∈ ys) → xs.length = ys.length
  | [], ys, _, _, h => by
    cases ys with
    | nil => rfl
    | cons y r => exact absurd ((h y).mpr (List.mem_cons_self ..)) (by simp)
  | x :: xs, ys, hx, hy, h => by
    obtain ⟨l1, l2, rfl⟩ := List.append_of_mem ((h x).mp (List.mem_cons_self ..))
    rw [List.nodup_cons] at hx
    have hy' : (x :: (l1 ++ l2)).Nodup := (List.perm_middle.nodup_iff).mp hy
    rw [List.nodup_cons] at hy'
    have : xs.length = (l1 ++ l2).length := same_len hx.2 hy'.2 fun a => by
      constructor
      · intro ha
        have := (h a).mp (List.mem_cons_of_mem _ ha)
        rw [List.mem_append, List.mem_cons] at this
        rw [List.mem_append]
        rcases this with z | z | z
        · exact .inl z
        · subst z; exact absurd ha hx.1
        · exact .inr z
      · intro ha
        have hm : a ∈ l1 ++ x :: l2 := by
          rw [List.mem_append] at ha
          rw [List.mem_append, List.mem_cons]
          exact ha.imp id .inr
        rcases List.mem_cons.mp ((h a).mpr hm) with z | z
        · subst z; exact absurd ha hy'.1
        · exact z
    simp only [List.length_cons, List.length_append] at this ⊢
    omega
def concat (rs : List Row) : List Nat := rs.flatMap (·.2)
theorem letters_mem (rs : List Row) (c : Nat) : c ∈ letters rs ↔ c ∈ concat rs ∧ c ∈ small := by
  simp only [letters, concat, lets, List.mem_flatMap, List.mem_filter, mem_infix]
  constructor
  · rintro ⟨r, hr, h1, h2⟩
    exact ⟨⟨r, hr, h1⟩, h2⟩
  · rintro ⟨⟨r, hr, h1⟩, h2⟩
    exact ⟨r, hr, h1, h2⟩
theorem count_eq (rs : List Row) : (small.filter fun c => isInfix [c] (concat rs)).length = (dedup (chD (letters rs))).length := by
  rw [dedup_ch, chD, List.length_map]
  refine same_len ((by decide : small.Nodup).sublist List.filter_sublist) (nub_nodup _) fun a => ?_
  rw [List.mem_filter, nub_mem, letters_mem, mem_infix]
  exact And.comm
theorem concat_len (rs : List Row) (h : ∀ r ∈ rs, r.2.length ≤ 8) : (concat rs).length ≤ 8 * rs.length := by
  induction rs with
  | nil => simp [concat]
  | cons r l ih =>
    have h1 := ih fun r hr => h r (List.mem_cons_of_mem _ hr)
    have h2 := h r (List.mem_cons_self ..)
    have e : concat (r :: l) = r.2 ++ concat l := rfl
    rw [e, List.length_append, List.length_cons]
    omega
theorem p_lare_rows (h22 : ∀ s : List Nat, cl 22 [.d (.str s)] = okv (.bl (isPattern s))) (rs : List Row) : fin (xss cl sup fuel (start F_law_are_rows.ns [.d (.tup (rs.map rowD))]) F_law_are_rows.body) = okv (.bl (isRows rs)) := by
  have g0 : ev cl (start F_law_are_rows.ns [.d (.tup (rs.map rowD))]) (.not (.isi (.var 0) .tuple)) = okv (.bl false) := e_notb (p := true) (e_isi (e_vs rfl) rfl)
  have g1 : ev cl (start F_law_are_rows.ns [.d (.tup (rs.map rowD))]) (.cmp .gt (.b1 .len (.var 0)) (.con (.int 5))) = okv (.bl (decide ((5 : Int) < (rs.map rowD).length))) := e_cmp (e_b1 (e_vs rfl) f_lent) e_con k_gti
  rw [List.length_map] at g1
  have h : xss cl sup fuel (start F_law_are_rows.ns [.d (.tup (rs.map rowD))]) F_law_are_rows.body = .ok (.ret (sv (.bl (isRows rs)))) := by
    by_cases hl : rs.length ≤ 5
    · rw [decide_eq_false (by omega)] at g1
      refine x_iff (e_or0 g0 g1) (s_n (x_asg e_con c_puts ?_))
      refine x_loop (fun r ρ => ∃ (done todo : List Row) (b c : Option (Bool × Xv)), r = todo.map rowD ∧ ρ = [some (false, .d (.tup (rs.map rowD))), some (false, .d (.str (concat done))), b, c] ∧ done ++ todo = rs ∧ ∀ r ∈ done, isRowD (rowD r) = true) (e_val (e_vs rfl) c_valt) ⟨[], rs, none, none, rfl, rfl, rfl, by simp⟩ ?_ ?_
      · rintro d r ρ ⟨done, todo, b, c, e1, rfl, e3, e4⟩
        cases todo with
        | nil => cases e1
        | cons p todo =>
          rw [List.map_cons, List.cons.injEq] at e1
          obtain ⟨rfl, rfl⟩ := e1
          have hdl : done.length ≤ 5 := by
            have := congrArg List.length e3
            simp at this; omega
          have hcl := concat_len done fun r hr => pat_len (row_pat (e4 r hr))
          have hbad : isRowD (rowD p) = false → isRows rs = false := fun hb => by
            have : rs.all (fun r => isRowD (rowD r)) = false := by
              rw [← e3, List.all_append, List.all_cons, hb]; simp
            unfold isRows
            rw [this]; simp
          rw [turn_eq t_nm]
          simp only [List.set_cons_succ, List.set_cons_zero]
          have g2 : ev cl [some (false, .d (.tup (rs.map rowD))), some (false, .d (.str (concat done))), some (false, .d (rowD p)), c] (.or (.not (.isi (.var 2) .tuple)) (.or (.cmp .ne (.b1 .len (.var 2)) (.con (.int 2))) (.or (.not (.isi (.idx (.var 2) (.con (.int 0))) .str)) (.cmp .notin (.idx (.var 2) (.con (.int 0))) (.tup (.cons (.con (.str [43])) (.cons (.con (.str [45])) .nil))))))) = okv (.bl (!([D.str [43], .str [45]].any fun y => eqv y (.str p.1)))) := by
            refine e_or0 (e_notb (p := true) (e_isi (e_vs rfl) rfl)) (e_or0 (e_cmp (e_b1 (e_vs rfl) f_lent) e_con k_nei) (e_or0 (e_notb (p := true) (e_isi (e_idx (e_vs rfl) e_con (c_idx (c_ixt rfl))) rfl)) ?_))
            exact e_cmp (e_idx (e_vs rfl) e_con (c_idx (c_ixt rfl))) (e_tup (e_cons e_con rfl (e_cons e_con rfl e_nil)) rfl) k_nint
          have e2 : ([D.str [43], .str [45]].any fun y => eqv y (.str p.1)) = ([43] == p.1 || [45] == p.1) := by simp [eqv]
          rw [e2] at g2
          have g3 : ev cl [some (false, .d (.tup (rs.map rowD))), some (false, .d (.str (concat done))), some (false, .d (rowD p)), c] (.not (.call 22 (.cons (.idx (.var 2) (.con (.int 1))) .nil))) = okv (.bl (!isPattern p.2)) := e_notb (e_call (e_cons (e_idx (e_vs rfl) e_con (c_idx (c_ixt rfl))) rfl e_nil) (h22 p.2))
          have er : isRowD (rowD p) = (([43] == p.1 || [45] == p.1) && isPattern p.2) := rfl
          cases hb : ([43] == p.1 || [45] == p.1) with
          | false =>
            rw [hb] at g2 er
            refine .inr ⟨?_, rfl⟩
            rw [hbad (by rw [er]; rfl)]
            exact x_ift g2 (s_q (x_ret e_con (by simp)) s_r)
          | true =>
            rw [hb] at g2 er
            cases hf : isPattern p.2 with
            | false =>
              rw [hf] at g3 er
              refine .inr ⟨?_, rfl⟩
              rw [hbad (by rw [er]; rfl)]
              exact x_iff g2 (s_n (x_ift g3 (s_q (x_ret e_con (by simp)) s_r)))
            | true =>
              have hp8 := pat_len hf
              rw [hf] at g3 er
              refine .inl ⟨[some (false, .d (.tup (rs.map rowD))), some (false, .d (.str (concat done ++ p.2))), some (false, .d (rowD p)), c], x_iff g2 (s_n (x_iff g3 (s_n (x_asg (e_bop (e_vs rfl) (e_idx (e_vs rfl) e_con (c_idx (c_ixt rfl))) (b_adds (by omega))) c_puts x_nil)))), done ++ [p], todo, some (false, .d (rowD p)), c, rfl, ?_, by rw [← e3, List.append_assoc]; rfl, fun q hq => ?_⟩
              · have : concat (done ++ [p]) = concat done ++ p.2 := by simp [concat]
                rw [this]
              · rcases List.mem_append.mp hq with h | h
                · exact e4 q h
                · rw [List.mem_singleton.mp h, er]; rfl
      · rintro ρ ⟨done, todo, b, c, e1, rfl, e3, e4⟩
        have : todo = [] := by cases todo with | nil => rfl | cons t l => cases e1
        subst this
        rw [List.append_nil] at e3
        subst e3
        have hall : done.all (fun r => isRowD (rowD r)) = true := List.all_eq_true.mpr e4
        have hc : ev cl [some (false, .d (.tup (done.map rowD))), some (false, .d (.str (concat done))), b, c] (.comp (.nm 3) (.val (.con (.str small))) (.cmp .isin (.var 3) (.var 1)) (.var 3)) = .ok ⟨.fr, .d (.lst ((small.filter fun c => isInfix [c] (concat done)).map fun c => D.str [c]))⟩ := by
          apply c_comp
          · exact e_val e_con c_vals
          · refine compL_map (p := fun c => isInfix [c] (concat done)) small fun c hc => ?_
            exact c_turn (w := sv (.str [c])) t_nm (wc := sv (.bl (isInfix [c] (concat done)))) (e_cmp (e_vs rfl) (e_vs rfl) k_ins) rfl fun _ => ⟨e_vs rfl, rfl⟩
          · rw [List.length_map]; exact Nat.le_trans (List.length_filter_le ..) (by decide)
        have e := e_cmp (e_b1 hc f_lenl) (e_con (d := .int 7)) (k_lti (k := .sh) (k' := .sh))
        rw [List.length_map, count_eq] at e
        have : isRows done = decide ((((dedup (chD (letters done))).length : Nat) : Int) < 7) := by
          unfold isRows
          rw [hall, decide_eq_true hl, Bool.true_and, Bool.true_and]
          generalize (dedup (chD (letters done))).length = n
          by_cases hn : n ≤ 6 <;> simp [hn] <;> omega
        rw [this]
        exact x_ret e (by simp)
    · rw [decide_eq_true (by omega)] at g1
      have hp : isRows rs = false := by unfold isRows; rw [decide_eq_false hl]; rfl
      rw [hp]
      exact x_ift (e_or0 g0 g1) (s_q (x_ret e_con (by simp)) s_r)
  rw [h]; rfl
end
end Q7.P
end

section
set_option autoImplicit false
set_option Elab.async false
set_option linter.all false
set_option maxRecDepth 100000
namespace Q7.P
section
variable {cl : Nat → List Xv → R W} {sup : Nat → Nat → Option Bool} {fuel : Nat} {ρ ρ' ρ'' : Env} {b r : CSs} {hs : List (Nat × CS)} {o : RS}
theorem x_tro (h : xss cl sup fuel ρ b = .ok (.nx ρ')) (h2 : xss cl sup fuel ρ' r = o) : xss cl sup fuel ρ (.cons (.tr b hs) r) = o := by
  rw [xss, xs, h]; exact h2
theorem x_tre {c : Nat} (h : xss cl sup fuel ρ b = .exc c ρ') (h1 : handle sup c ρ' hs = .ok (.nx ρ'')) (h2 : xss cl sup fuel ρ'' r = o) : xss cl sup fuel ρ (.cons (.tr b hs) r) = o := by
  rw [xss, xs, h]
  show (handle sup c ρ' hs).seq _ = o
  rw [h1]; exact h2
theorem h_yes {c k : Nat} {s : CS} (h : sup c k = some true) (h2 : suite ρ s = o) : handle sup c ρ ((k, s) :: hs) = o := by
  rw [handle, h]; exact h2
theorem h_no {c k : Nat} {s : CS} (h : sup c k = some false) (h2 : handle sup c ρ hs = o) : handle sup c ρ ((k, s) :: hs) = o := by
  rw [handle, h]; exact h2
/-! odd things -/
theorem p_read_odd (x : D) (hx : hasTy (.d x) .str = false) : fin (xss cl sup fuel (start F_read.ns [.d x]) F_read.body) = .exc 9 := by
  have h : xss cl sup fuel (start F_read.ns [.d x]) F_read.body = _ := x_ift (e_notb (p := false) (e_isi (e_vs rfl) (by rw [c_isi, hx]))) (by rw [x_raise]; first | done | exact s_e)
  rw [h]; rfl
theorem p_rows_odd (x : D) (hx : hasTy (.d x) .tuple = false) : fin (xss cl sup fuel (start F_is_rows.ns [.d x]) F_is_rows.body) = okv (.bl false) := by
  have h : xss cl sup fuel (start F_is_rows.ns [.d x]) F_is_rows.body = _ := x_ift (e_or1 (e_notb (p := false) (e_isi (e_vs rfl) (by rw [c_isi, hx])))) (s_q (x_ret e_con (by simp)) s_r)
  rw [h]; rfl
theorem p_row_odd (x : List D) (hx : x.length ≠ 2) : fin (xss cl sup fuel (start F_is_row.ns [.d (.tup x)]) F_is_row.body) = okv (.bl false) := by
  have h : xss cl sup fuel (start F_is_row.ns [.d (.tup x)]) F_is_row.body = _ := x_ift (e_or0 (e_notb (p := true) (e_isi (e_vs rfl) rfl)) (e_or1 ((e_cmp (e_b1 (e_vs rfl) f_lent) e_con k_nei).trans (by
    have : (((x.length : Nat) : Int) == 2) = false := by rw [beq_eq_false_iff_ne]; omega
    rw [this]; rfl)))) (s_q (x_ret e_con (by simp)) s_r)
  rw [h]; rfl
theorem p_rows_odd1 (x : D) (h5 : cl 5 [.d x] = okv (.bl false)) : fin (xss cl sup fuel (start F_is_rows.ns [.d (.tup [x])]) F_is_rows.body) = okv (.bl false) := by
  have hc : ev cl (start F_is_rows.ns [.d (.tup [x])]) (.comp (.nm 1) (.val (.var 0)) (.not (.call 5 (.cons (.var 1) .nil))) (.var 1)) = .ok ⟨.fr, .d (.lst [x])⟩ := by
    apply c_comp
    · exact e_val (e_vs rfl) c_valt
    · have e : compF (.nm 1) (start F_is_rows.ns [.d (.tup [x])]) (fun ρ' => ev cl ρ' (.not (.call 5 (.cons (.var 1) .nil)))) (fun ρ' => ev cl ρ' (.var 1)) x = .ok (some x) :=
        c_turn (w := sv x) t_nm (wc := sv (.bl true)) (e_notb (p := false) (e_call (e_cons (e_vs rfl) rfl e_nil) h5)) rfl fun _ => ⟨e_vs rfl, rfl⟩
      rw [compL, e]; rfl
    · simp
  have h : xss cl sup fuel (start F_is_rows.ns [.d (.tup [x])]) F_is_rows.body = _ := x_ifs (p := true) (e_or0 (e_notb (p := true) (e_isi (e_vs rfl) rfl)) (e_or0 (e_cmp (e_b1 (e_vs rfl) f_lent) e_con k_gti) hc)) rfl (s_q (x_ret e_con (by simp)) s_r)
  rw [h]; rfl
theorem p_look_odd (x : D) (h6 : cl 6 [.d x] = okv (.bl false)) : fin (xss cl sup fuel (start F_look.ns [.d x]) F_look.body) = .exc 1 := by
  have h : xss cl sup fuel (start F_look.ns [.d x]) F_look.body = _ := x_ift (e_notb (p := false) (e_call (e_cons (e_vs rfl) rfl e_nil) h6)) (by rw [x_raise]; first | done | exact s_e)
  rw [h]; rfl
theorem p_shown_odd (x : D) (h7 : cl 7 [.d x] = .exc 1) : fin (xss cl sup fuel (start F_shown.ns [.d x]) F_shown.body) = .exc 1 := by
  have h : xss cl sup fuel (start F_shown.ns [.d x]) F_shown.body = _ := x_exe (e_call (e_cons (e_vs rfl) rfl e_nil) h7)
  rw [h]; rfl
end
/-! rows as the laws make them -/
theorem nub_sub_len {xs ys : List Nat} (h : ∀ a ∈ xs, a ∈ ys) (hx : xs.Nodup) : xs.length ≤ ys.length := by
  induction xs generalizing ys with
  | nil => simp
  | cons x xs ih =>
    obtain ⟨l1, l2, rfl⟩ := List.append_of_mem (h x (List.mem_cons_self ..))
    rw [List.nodup_cons] at hx
    have := ih (ys := l1 ++ l2) (fun a ha => by
      have hm := h a (List.mem_cons_of_mem _ ha)
      rw [List.mem_append, List.mem_cons] at hm
      rw [List.mem_append]
      rcases hm with z | z | z
      · exact .inl z
      · subst z; exact absurd ha hx.1
      · exact .inr z) hx.2
    simp only [List.length_cons, List.length_append] at this ⊢
    omega
theorem GoodRows.rowOk {rs : List Row} {n : Nat} {L : List Nat} (h : GoodRows rs n L) : ∀ r ∈ rs, isRowD (rowD r) = true := fun r hr => by
  obtain ⟨h1, h2⟩ := h.row r hr
  have e : isRowD (rowD r) = (([43] == r.1 || [45] == r.1) && isPattern r.2) := rfl
  rw [e, h2.pat]
  rcases h1 with h1 | h1 <;> rw [h1] <;> rfl
theorem GoodRows.rows {rs : List Row} {n : Nat} {L : List Nat} (h : GoodRows rs n L) (hn : n ≤ 5) : isRows rs = true := by
  unfold isRows
  rw [decide_eq_true (Nat.le_trans h.len hn), List.all_eq_true.mpr h.rowOk, Bool.true_and, Bool.true_and, decide_eq_true_eq, dedup_ch, chD, List.length_map]
  refine Nat.le_trans (nub_sub_len (ys := L) (fun a ha => ?_) (nub_nodup _)) h.six
  rw [nub_mem, letters_mem] at ha
  obtain ⟨h1, h2⟩ := ha
  rw [concat, List.mem_flatMap] at h1
  obtain ⟨r, hr, hc⟩ := h1
  rcases (h.row r hr).2.ch a hc with z | z | z | z
  · exact z
  all_goals subst z; exact absurd h2 (by decide)
theorem split_join (c : Nat) : ∀ l : List (List Nat), l ≠ [] → (∀ x ∈ l, c ∉ x) → splitC c (joinL [c] l) = l
  | [], h, _ => absurd rfl h
  | [x], _, h => splitC_none c x (h x (List.mem_cons_self ..))
  | x :: y :: r, _, h => by
    have h1 := split_join c (y :: r) (by simp) fun z hz => h z (List.mem_cons_of_mem _ hz)
    rw [joinL, List.singleton_append, splitC_mid, splitC_none c x (h x (List.mem_cons_self ..)), h1]; rfl
theorem part_ch {s : List Nat} (h : isPart s = true) (c : Nat) (hc : c ∈ s) : c ∈ small ++ [63, 42] := by
  rw [isPart, isEmpty_filter] at h
  simp only [Bool.or_eq_true, Bool.and_eq_true, beq_iff_eq, List.all_eq_true] at h
  rcases h with h | ⟨_, _, h⟩
  · subst h
    simp at hc
    subst hc; decide
  · exact (mem_infix c _).mp (h c hc)
theorem splitC_cov (c d : Nat) (hcd : d ≠ c) : ∀ s : List Nat, d ∈ s → ∃ p ∈ splitC c s, d ∈ p
  | [], h => by cases h
  | x :: r, h => by
    rw [splitC]
    rcases List.mem_cons.mp h with e | h
    · subst e
      rw [if_neg hcd]
      split
      · exact ⟨[d], by simp, by simp⟩
      · rename_i a t e
        exact ⟨d :: a, by simp, by simp⟩
    · obtain ⟨p, hp, hd⟩ := splitC_cov c d hcd r h
      split
      · exact ⟨p, List.mem_cons_of_mem _ hp, hd⟩
      · split
        · rename_i e; rw [e] at hp; cases hp
        · rename_i a t e
          rw [e] at hp
          rcases List.mem_cons.mp hp with z | z
          · subst z
            exact ⟨x :: p, by simp, List.mem_cons_of_mem _ hd⟩
          · exact ⟨p, List.mem_cons_of_mem _ z, hd⟩
theorem pat_no10 {s : List Nat} (h : isPattern s = true) : (10 : Nat) ∉ s := fun hm => by
  simp only [isPattern, Bool.and_eq_true, List.all_eq_true] at h
  obtain ⟨p, hp, hd⟩ := splitC_cov 47 10 (by decide) s hm
  exact absurd (part_ch (h.2 p hp) 10 hd) (by decide)
theorem lines_text {rs : List Row} (h : isRows rs = true) : linesOf (textOf rs) = rs := by
  obtain ⟨hl, ha⟩ := rows_all h
  cases rs with
  | nil => rfl
  | cons r l =>
    have hno : ∀ x ∈ (r :: l).map rowT, (10 : Nat) ∉ x := fun x hx hm => by
      obtain ⟨q, hq, rfl⟩ := List.mem_map.mp hx
      have hrow := ha q hq
      rw [rowT, List.mem_append] at hm
      rcases hm with hm | hm
      · simp [isRowD, rowD] at hrow
        rcases hrow.1 with e | e <;> rw [← e] at hm <;> simp at hm
      · exact pat_no10 (row_pat hrow) hm
    have hne : textOf (r :: l) ≠ [] := fun e => by
      have hs := sign_len (ha r (List.mem_cons_self ..))
      have : rowT r = [] := by
        rw [textOf, List.map_cons] at e
        cases l with
        | nil => exact e
        | cons q l =>
          rw [List.map_cons, joinL, List.append_eq_nil_iff] at e
          exact e.1
      rw [rowT, List.append_eq_nil_iff] at this
      rw [this.1] at hs
      cases hs
    rw [linesOf, if_neg hne, textOf, split_join 10 _ (by simp) hno, List.map_map]
    conv => rhs; rw [← List.map_id (r :: l)]
    refine List.map_congr_left fun q hq => ?_
    have hs := sign_len (ha q hq)
    obtain ⟨a, b⟩ := q
    show lineR (a ++ b) = (a, b)
    match a, hs with
    | [c], _ => rfl
end Q7.P
end

section
set_option autoImplicit false
set_option Elab.async false
set_option linter.all false
set_option maxRecDepth 100000
namespace Q7.P
section
variable {cl : Nat → List Xv → R W} {sup : Nat → Nat → Option Bool} {fuel : Nat}
theorem cut_len {α : Type} (l : List α) (a b : Option Int) : (cut l a b).length ≤ l.length := by
  unfold cut
  rw [List.length_take, List.length_drop]; omega
theorem text_len {rs : List Row} (h : isRows rs = true) : (textOf rs).length ≤ 50 := by
  obtain ⟨hl, ha⟩ := rows_all h
  have := joinL_len [10] 9 (rs.map rowT) fun x hx => by
    obtain ⟨r, hm, rfl⟩ := List.mem_map.mp hx
    have h1 := pat_len (row_pat (ha r hm))
    have h2 := sign_len (ha r hm)
    simp only [rowT, List.length_append]; omega
  rw [List.length_map] at this
  simp only [List.length_cons, List.length_nil] at this
  unfold textOf
  omega
theorem text_comp {rs : List Row} (h : isRows rs = true) {ρ : Env} {i a b : Nat} (hi : ρ[i]? = some (some (false, .d (.tup (rs.map rowD))))) (ha : a < ρ.length) (hb : b < ρ.length) (hab : a ≠ b) : ev cl ρ (.join (.con (.str [10])) (.comp (.tp [(.nm a), (.nm b)]) (.val (.var i)) (.con (.bl true)) (.bop .add (.var a) (.var b)))) = okv (.str (textOf rs)) := by
  obtain ⟨hl, hall⟩ := rows_all h
  have hrow : ∀ r ∈ rs, (rowT r).length ≤ 9 := fun r hm => by
    have h1 := pat_len (row_pat (hall r hm))
    have h2 := sign_len (hall r hm)
    simp only [rowT, List.length_append]; omega
  refine e_join e_con rfl (y := ⟨.fr, .d (.lst ((rs.map rowT).map .str))⟩) ?_ (c_join (by have := text_len h; unfold textOf at this; omega))
  apply c_comp
  · exact e_val (e_vs hi) c_valt
  · have e := compL_map (f := compF (.tp [.nm a, .nm b]) ρ (fun ρ' => ev cl ρ' (.con (.bl true))) (fun ρ' => ev cl ρ' (.bop .add (.var a) (.var b)))) (g := rowD) (h := fun r => D.str (rowT r)) (p := fun _ => true) rs fun r hm => by
      have h9 := hrow r hm
      refine c_turn (w := sv (.str (rowT r))) t_2 (wc := sv (.bl true)) e_con rfl fun _ => ⟨e_bop (e_vs (v := .d (.str r.1)) ?_) (e_vs (v := .d (.str r.2)) ?_) (b_adds ?_), rfl⟩
      · rw [List.getElem?_set_ne (fun e => hab e.symm), List.getElem?_set_self ha]
      · rw [List.getElem?_set_self (by rw [List.length_set]; exact hb)]
      · simp only [rowT, List.length_append] at h9
        omega
    rw [List.filter_eq_self.mpr fun _ _ => rfl] at e
    rw [List.map_map]
    exact e
  · rw [List.length_map, List.length_map]; omega
mutual
theorem eqv_refl : ∀ d : D, eqv d d = true
  | .non => rfl
  | .bl b => by simp [eqv]
  | .int i => by simp [eqv]
  | .str s => by simp [eqv]
  | .tup xs => by rw [eqv]; exact eqvs_refl xs
  | .lst xs => by rw [eqv]; exact eqvs_refl xs
theorem eqvs_refl : ∀ ds : List D, eqvs ds ds = true
  | [] => rfl
  | x :: r => by rw [eqvs, eqv_refl x, eqvs_refl r]; rfl
end
theorem depths_rows (rs : List Row) : depths (rs.map rowD) ≤ 1 := by
  induction rs with
  | nil => simp [depths]
  | cons r l ih =>
    rw [List.map_cons, depths]
    have : depth (rowD r) = 1 := by simp [rowD, depth, depths]
    omega
theorem x_turn3 {tg : Tg} {it : CI} {b r : CSs} {ρ ρ1 ρ2 ρ3 : Env} {a0 a1 a2 : D} {o : RS} (h : evi cl ρ it = .ok [a0, a1, a2]) (h1 : turn cl sup fuel tg b a0 ρ = .ok (.nx ρ1)) (h2 : turn cl sup fuel tg b a1 ρ1 = .ok (.nx ρ2)) (h3 : turn cl sup fuel tg b a2 ρ2 = .ok (.nx ρ3)) (h4 : xss cl sup fuel ρ3 r = o) : xss cl sup fuel ρ (.cons (.for_ tg it b) r) = o := by
  refine x_for h rfl ?_
  rw [forL, h1]
  show RS.seq (forL (turn cl sup fuel tg b) [a1, a2] ρ1) _ = o
  rw [forL, h2]
  show RS.seq (forL (turn cl sup fuel tg b) [a2] ρ2) _ = o
  rw [forL, h3]
  exact h4
theorem x_trv {b r : CSs} {hs : List (Nat × CS)} {ρ ρ' : Env} {o : RS} (h : xss cl sup fuel ρ b = .ok (.nx ρ') ∨ ∃ c ρ1, xss cl sup fuel ρ b = .exc c ρ1 ∧ handle sup c ρ1 hs = .ok (.nx ρ')) (h2 : xss cl sup fuel ρ' r = o) : xss cl sup fuel ρ (.cons (.tr b hs) r) = o := by
  rcases h with h | ⟨c, ρ1, h, h1⟩
  · exact x_tro h h2
  · exact x_tre h h1 h2
theorem w_ne {ρ : Env} {a b : CE} {x : Xv} {y : W} (h1 : ev cl ρ a = .ok ⟨.sh, x⟩) (h2 : ev cl ρ b = .ok y) (h3 : cmpW .ne ⟨.sh, x⟩ y = some ⟨.sh, .d (.bl false)⟩) : ev cl ρ (.cmp .ne a b) = okv (.bl false) := e_cmp h1 h2 h3
theorem p_k22 (ns : List Int)
    (h12 : ∀ k : Nat, cl 12 [.d (.lst (ns.map .int)), .d (.int k)] = okv (.int (cell ns k)))
    (h13 : ∀ c prime many : Int, 0 < prime → prime < 100000 → 0 < many → cl 13 [.d (.int c), .d (.int prime), .d (.int many)] = okv (.int (mix c prime many)))
    (h14 : ∀ s k : Int, cl 14 [.d (.int s), .d (.int k)] = okv (.int (seed s k)))
    (h18 : ∀ (sd : Int) (most : Nat), most ≤ 1000 → ∃ rs L, cl 18 [.d (.int sd), .d (.int most)] = okv (.tup (rs.map rowD)) ∧ GoodRows rs most L)
    (h23 : ∀ rs : List Row, cl 23 [.d (.tup (rs.map rowD))] = okv (.bl (isRows rs)))
    (h157 : ∀ rs : List Row, isRows rs = true → cl 157 [.d (.tup (rs.map rowD))] = okv (.str (textOf rs)))
    (h158 : ∀ s : List Nat, s.length ≤ 1000 → cl 158 [.d (.str s)] = if isRows (linesOf s) then okv (.tup ((linesOf s).map rowD)) else .exc 9)
    (h158o : ∀ x : D, hasTy (.d x) .str = false → cl 158 [.d x] = .exc 9)
    (h157o : ∀ x : D, hasTy (.d x) .tuple = false → cl 157 [.d x] = .exc 1)
    (h157a : cl 157 [.d (.tup [.tup [.str [43]]])] = .exc 1)
    (h157b : cl 157 [.d (.tup [.tup [.str [42], .str [97]]])] = .exc 1)
    (s99 : sup 9 9 = some true) (s19 : sup 1 9 = some false) (s11 : sup 1 1 = some true) :
    fin (xss cl sup fuel (start F_law_k22.ns [.d (.lst (ns.map .int))]) F_law_k22.body) = okv (.bl true) := by
  obtain ⟨rs, L, er, gr⟩ := h18 (seed (cell ns 0) 0) 5 (by decide)
  have er : cl 18 [.d (.int (seed (cell ns 0) 0)), .d (.int 5)] = okv (.tup (rs.map rowD)) := er
  have hr := gr.rows (Nat.le_refl 5)
  have hlt := lines_text hr
  have htl := text_len hr
  generalize hT : textOf rs = T at htl hlt
  -- the other text
  have h0 : cl 12 [.d (.lst (ns.map .int)), .d (.int 0)] = okv (.int (cell ns 0)) := h12 0
  have h1 : cl 12 [.d (.lst (ns.map .int)), .d (.int 1)] = okv (.int (cell ns 1)) := h12 1
  have h2 : cl 12 [.d (.lst (ns.map .int)), .d (.int 2)] = okv (.int (cell ns 2)) := h12 2
  have h3 : cl 12 [.d (.lst (ns.map .int)), .d (.int 3)] = okv (.int (cell ns 3)) := h12 3
  have h6 : cl 12 [.d (.lst (ns.map .int)), .d (.int 6)] = okv (.int (cell ns 6)) := h12 6
  have hm33 := mod_lo (cell ns 2) 33 (by omega)
  have hm3 := mod_lo (cell ns 3) 3 (by omega)
  have hm4 := mod_lo (cell ns 6) 4 (by omega)
  obtain ⟨ch, ech⟩ : ∃ c, atS? [97, 98, 99, 100, 101, 102, 103, 104, 105, 106, 107, 108, 109, 110, 111, 112, 113, 114, 115, 116, 117, 118, 119, 120, 121, 122, 63, 42, 47, 43, 45, 32, 10] (cell ns 2 % 33) = some c :=
    ⟨_, by rw [atS?, if_pos hm33.1]; exact List.getElem?_eq_getElem (by simp; omega)⟩
  obtain ⟨dm, em, mm⟩ := at_lt (α := Nat) [D.str [ch], .str [], .str [ch]] (cell ns 3 % 3) hm3.1 (by simp; omega)
  obtain ⟨md, rfl, hmd⟩ : ∃ md, dm = .str md ∧ md.length ≤ 1 := by
    simp only [List.mem_cons, List.not_mem_nil, or_false] at mm
    rcases mm with rfl | rfl | rfl <;> exact ⟨_, rfl, by simp⟩
  obtain ⟨dj, ej, mj⟩ := at_lt (α := Nat) [D.int 0, .int 1, .int 1] (cell ns 3 % 3) hm3.1 (by simp; omega)
  obtain ⟨j, rfl⟩ : ∃ j, dj = .int j := by
    simp only [List.mem_cons, List.not_mem_nil, or_false] at mj
    rcases mj with rfl | rfl | rfl <;> exact ⟨_, rfl⟩
  have hgoal : xss cl sup fuel (start F_law_k22.ns [.d (.lst (ns.map .int))]) F_law_k22.body = .ok (.ret (sv (.bl true))) := by
    unfold F_law_k22
    refine x_asg (e_call (e_cons (e_call (e_cons (e_call (e_cons (e_vs rfl) rfl (e_cons e_con rfl e_nil)) h0) rfl (e_cons e_con rfl e_nil)) (h14 _ _)) rfl (e_cons e_con rfl e_nil)) er) c_puts (x_frz rfl ?_)
    refine x_asg (text_comp hr rfl (Nat.le_of_ble_eq_true rfl) (Nat.le_of_ble_eq_true rfl) (by decide)) c_puts (x_frz rfl ?_)
    rw [hT]
    refine x_iff (e_or0 ((e_cmp (e_call (e_cons (e_vs rfl) rfl e_nil) ((h157 rs hr).trans (by rw [hT]))) (e_vs rfl) k_nes).trans (by simp)) ((e_cmp (e_call (e_cons (e_vs rfl) rfl e_nil) ((h158 T (by omega)).trans (by rw [hlt, hr]; rfl))) (e_vs rfl) (k_net (by have := depths_rows rs; omega))).trans (by rw [eqvs_refl]; rfl))) (s_n ?_)
    refine x_asg (e_call (e_cons (e_call (e_cons (e_vs rfl) rfl (e_cons e_con rfl e_nil)) h1) rfl (e_cons e_con rfl (e_cons (e_bop (e_b1 (e_vs rfl) f_lens) e_con b_addi) rfl e_nil))) (h13 _ _ _ (by decide) (by decide) (by omega))) c_puts ?_
    generalize mix (cell ns 1) 9949 (T.length + 1) = at_
    refine x_asg (e_idx e_con (e_bop (e_call (e_cons (e_vs rfl) rfl (e_cons e_con rfl e_nil)) h2) e_con (b_mod (by decide))) (c_idx (c_ixs ech))) c_puts ?_
    refine x_asg (e_bop (e_call (e_cons (e_vs rfl) rfl (e_cons e_con rfl e_nil)) h3) e_con (b_mod (by decide))) c_puts ?_
    have l1 := cut_len T none (some at_)
    have l2 := cut_len T (some (at_ + j)) none
    refine x_asg (e_bop (e_bop (e_slice (e_vs rfl) e_omit rfl (e_vs rfl) rfl (c_slice c_sls)) (e_idx (e_lst (e_cons (e_vs rfl) rfl (e_cons e_con rfl (e_cons (e_vs rfl) rfl e_nil))) rfl) (e_vs rfl) (c_idx (c_ixl em))) (b_adds (by omega))) (e_slice (e_vs rfl) (e_bop (e_vs rfl) (e_idx (e_lst (e_cons e_con rfl (e_cons e_con rfl (e_cons e_con rfl e_nil))) rfl) (e_vs rfl) (c_idx (c_ixl ej))) b_addi) rfl e_omit rfl (c_slice c_sls)) (b_adds (by rw [List.length_append]; omega))) c_puts ?_
    have hol : (cut T none (some at_) ++ md ++ cut T (some (at_ + j)) none).length ≤ 1000 := by
      rw [List.length_append, List.length_append]; omega
    generalize cut T none (some at_) ++ md ++ cut T (some (at_ + j)) none = U at hol
    refine x_asg (w := sv (.tup ((linesOf U).map rowD))) ?_ c_puts (x_asg e_con c_puts ?_)
    · by_cases hU : U = []
      · subst hU
        exact e_ite (p := false) (y := sv .non) (z := sv (.tup [])) (e_cmp (e_vs rfl) e_con k_nes) rfl (fun h => by cases h) (fun _ => e_tup e_nil rfl)
      · have e : (!(U == [])) = true := by rw [beq_eq_false_iff_ne.mpr hU]; rfl
        rw [linesOf, if_neg hU]
        exact e_ite (p := true) (y := sv (.tup (((splitC 10 U).map lineR).map rowD))) (z := sv .non) ((e_cmp (e_vs rfl) e_con k_nes).trans (by rw [e])) rfl (fun _ => lines_comp U hol rfl (Nat.le_of_ble_eq_true rfl)) (fun h => by cases h)
    have hd := depths_rows (linesOf U)
    obtain ⟨v, hv⟩ : ∃ v, v = Xv.d (if isRows (linesOf U) then .tup ((linesOf U).map rowD) else .non) := ⟨_, rfl⟩
    refine x_trv (ρ' := [some (false, .d (.lst (ns.map .int))), some (false, .d (.tup (rs.map rowD))), some (false, .d (.str T)), some (false, .d (.str [ch])), none, some (false, .d (.int at_)), some (false, .d (.int (cell ns 3 % 3))), some (false, .d (.str U)), some (false, .d (.tup ((linesOf U).map rowD))), none, some (false, v), none]) ?_ ?_
    · cases hU : isRows (linesOf U) with
      | true =>
        rw [hU] at hv; subst hv
        exact .inl (x_frz rfl (x_asg (e_call (e_cons (e_vs rfl) rfl e_nil) ((h158 U hol).trans (by rw [hU]; rfl))) c_puts x_nil))
      | false =>
        rw [hU] at hv; subst hv
        exact .inr ⟨9, _, x_frz rfl (x_asge (e_call (e_cons (e_vs rfl) rfl e_nil) ((h158 U hol).trans (by rw [hU]; rfl)))), h_yes s99 rfl⟩
    refine x_iff (w_ne (x := v) (e_vs rfl) (e_ite (p := isRows (linesOf U)) (y := sv (.tup ((linesOf U).map rowD))) (z := sv .non) (e_call (e_cons (e_vs rfl) rfl e_nil) (h23 _)) rfl (fun _ => e_vs rfl) (fun _ => e_con)) (by
      subst hv
      cases isRows (linesOf U) with
      | true => exact (k_net (by omega)).trans (by rw [eqvs_refl]; rfl)
      | false => rfl)) (s_n ?_)
    refine x_asg (e_lst e_nil rfl) c_putf ?_
    simp only [List.set_cons_succ, List.set_cons_zero]
    have hread : ∀ k : Nat, ∃ d, at? [D.non, .int 7, .tup [.str [43], .str [97]], .str [10], .str [43, 97, 10], .str [97], .str [32, 43, 97], .str [43, 43, 97]] (cell ns k % 8) = some d ∧ cl 158 [.d d] = .exc 9 := fun k => by
      have hm8 := mod_lo (cell ns k) 8 (by omega)
      obtain ⟨d, e, m⟩ := at_lt (α := Nat) [D.non, .int 7, .tup [.str [43], .str [97]], .str [10], .str [43, 97, 10], .str [97], .str [32, 43, 97], .str [43, 43, 97]] (cell ns k % 8) hm8.1 (by simp; omega)
      refine ⟨d, e, ?_⟩
      simp only [List.mem_cons, List.not_mem_nil, or_false] at m
      rcases m with rfl | rfl | rfl | rfl | rfl | rfl | rfl | rfl
      · exact h158o _ rfl
      · exact h158o _ rfl
      · exact h158o _ rfl
      all_goals exact (h158 _ (by simp)).trans rfl
    have hshow : ∃ d, at? [D.non, .lst (rs.map rowD), .tup [.tup [.str [43]]], .tup [.tup [.str [42], .str [97]]]] (cell ns 6 % 4) = some d ∧ cl 157 [.d d] = .exc 1 := by
      obtain ⟨d, e, m⟩ := at_lt (α := Nat) [D.non, .lst (rs.map rowD), .tup [.tup [.str [43]]], .tup [.tup [.str [42], .str [97]]]] (cell ns 6 % 4) hm4.1 (by simp; omega)
      refine ⟨d, e, ?_⟩
      simp only [List.mem_cons, List.not_mem_nil, or_false] at m
      rcases m with rfl | rfl | rfl | rfl
      · exact h157o _ rfl
      · exact h157o _ rfl
      · exact h157a
      · exact h157b
    obtain ⟨d4, e4, x4⟩ := hread 4
    obtain ⟨d5, e5, x5⟩ := hread 5
    obtain ⟨d6, e6, x6⟩ := hshow
    have h4 : cl 12 [.d (.lst (ns.map .int)), .d (.int (4 + 0))] = okv (.int (cell ns 4)) := h12 4
    have h5 : cl 12 [.d (.lst (ns.map .int)), .d (.int (4 + 1))] = okv (.int (cell ns 5)) := h12 5
    refine x_turn3 (a0 := .int 0) (a1 := .int 1) (a2 := .int 2) (e_rng1 e_con (c_rng1 (by decide) (by decide))) (ρ1 := [some (false, .d (.lst (ns.map .int))), some (false, .d (.tup (rs.map rowD))), some (false, .d (.str T)), some (false, .d (.str [ch])), none, some (false, .d (.int at_)), some (false, .d (.int 0)), some (false, .d (.str U)), some (false, .d (.tup ((linesOf U).map rowD))), none, some (false, v), some (true, .d (.lst [.str [116, 101, 120, 116]]))]) (ρ2 := [some (false, .d (.lst (ns.map .int))), some (false, .d (.tup (rs.map rowD))), some (false, .d (.str T)), some (false, .d (.str [ch])), none, some (false, .d (.int at_)), some (false, .d (.int 1)), some (false, .d (.str U)), some (false, .d (.tup ((linesOf U).map rowD))), none, some (false, v), some (true, .d (.lst [.str [116, 101, 120, 116], .str [116, 101, 120, 116]]))]) (ρ3 := [some (false, .d (.lst (ns.map .int))), some (false, .d (.tup (rs.map rowD))), some (false, .d (.str T)), some (false, .d (.str [ch])), none, some (false, .d (.int at_)), some (false, .d (.int 2)), some (false, .d (.str U)), some (false, .d (.tup ((linesOf U).map rowD))), none, some (false, v), some (true, .d (.lst [.str [116, 101, 120, 116], .str [116, 101, 120, 116], .str [114, 111, 119, 115]]))]) ?_ ?_ ?_ ?_
    · refine (turn_eq t_nm).trans (x_tre (c := 9) (x_ift (e_cmp (e_vs rfl) e_con k_lti) (s_q (x_exe (e_call (e_cons (e_idx (e_lst (e_cons e_con rfl (e_cons e_con rfl (e_cons (e_tup (e_cons e_con rfl (e_cons e_con rfl e_nil)) rfl) rfl (e_cons e_con rfl (e_cons e_con rfl (e_cons e_con rfl (e_cons e_con rfl (e_cons e_con rfl e_nil)))))))) rfl) (e_bop (e_call (e_cons (e_vs rfl) rfl (e_cons (e_bop e_con (e_vs rfl) b_addi) rfl e_nil)) h4) e_con (b_mod (by decide))) (c_idx (c_ixl e4))) rfl e_nil) x4)) s_e)) (h_yes s99 rfl) x_nil)
    · refine (turn_eq t_nm).trans (x_tre (c := 9) (x_ift (e_cmp (e_vs rfl) e_con k_lti) (s_q (x_exe (e_call (e_cons (e_idx (e_lst (e_cons e_con rfl (e_cons e_con rfl (e_cons (e_tup (e_cons e_con rfl (e_cons e_con rfl e_nil)) rfl) rfl (e_cons e_con rfl (e_cons e_con rfl (e_cons e_con rfl (e_cons e_con rfl (e_cons e_con rfl e_nil)))))))) rfl) (e_bop (e_call (e_cons (e_vs rfl) rfl (e_cons (e_bop e_con (e_vs rfl) b_addi) rfl e_nil)) h5) e_con (b_mod (by decide))) (c_idx (c_ixl e5))) rfl e_nil) x5)) s_e)) (h_yes s99 rfl) x_nil)
    · refine (turn_eq t_nm).trans (x_tre (c := 1) (x_iff (e_cmp (e_vs rfl) e_con k_lti) (s_q (x_exe (e_call (e_cons (e_idx (e_lst (e_cons e_con rfl (e_cons (e_b1 (e_vs rfl) f_lstt) rfl (e_cons (e_tup (e_cons (e_tup (e_cons e_con rfl e_nil) rfl) rfl e_nil) rfl) rfl (e_cons (e_tup (e_cons (e_tup (e_cons e_con rfl (e_cons e_con rfl e_nil)) rfl) rfl e_nil) rfl) rfl e_nil)))) rfl) (e_bop (e_call (e_cons (e_vs rfl) rfl (e_cons e_con rfl e_nil)) h6) e_con (b_mod (by decide))) (c_idx (c_ixl e6))) rfl e_nil) x6)) s_e)) (h_no s19 (h_yes s11 rfl)) x_nil)
    · exact x_ret ((e_cmp (e_vo rfl) (e_lst (e_cons e_con rfl (e_cons e_con rfl (e_cons e_con rfl e_nil))) rfl) (k_eql (by simp [depths, depth]))).trans (by rw [eqvs_refl])) (by simp)
  rw [hgoal]; rfl
end
end Q7.P
end

section
set_option autoImplicit false
set_option Elab.async false
set_option linter.all false
set_option maxRecDepth 100000
namespace Q7.P
/-- the functions that most laws share -/
structure Base (T : Nat → Option Fn) : Prop where
  t2 : T 2 = some F_is_part
  t3 : T 3 = some F_is_pattern
  t4 : T 4 = some F_letters_of
  t5 : T 5 = some F_is_row
  t6 : T 6 = some F_is_rows
  t7 : T 7 = some F_look
  t12 : T 12 = some F_law_cell
  t14 : T 14 = some F_law_seed
  t15 : T 15 = some F_law_pick
  t16 : T 16 = some F_law_part
  t17 : T 17 = some F_law_pattern
  t18 : T 18 = some F_law_rows
section
variable {T : Nat → Option Fn} {sup : Nat → Nat → Option Bool} {fuel : Nat}
theorem r2 (B : Base T) (k : Nat) (s : List Nat) (hs : s.length ≤ 1000) : run T sup fuel (k + 1) 2 [.d (.str s)] = okv (.bl (isPart s)) := (run_eq B.t2 rfl (by decide)).trans (p_is_part _ _ _ s hs)
theorem r3 (B : Base T) (k : Nat) (s : List Nat) : run T sup fuel (k + 2) 3 [.d (.str s)] = okv (.bl (isPattern s)) := (run_eq B.t3 rfl (by decide)).trans (p_is_pattern (r2 B k) s)
theorem r4 (B : Base T) (k : Nat) (rs : List Row) (hl : (letters rs).length ≤ 4000) : run T sup fuel (k + 1) 4 [.d (.tup (rs.map rowD))] = okf (.lst (isort (dedup (chD (letters rs))))) := (run_eq B.t4 rfl (by decide)).trans (p_letters_of rs hl)
theorem r5 (B : Base T) (k : Nat) (a b : List Nat) : run T sup fuel (k + 3) 5 [.d (rowD (a, b))] = okv (.bl (isRowD (rowD (a, b)))) := (run_eq B.t5 rfl (by decide)).trans (p_is_row2 (r3 B k) a b)
theorem r6 (B : Base T) (k : Nat) (rs : List Row) : run T sup fuel (k + 4) 6 [.d (.tup (rs.map rowD))] = okv (.bl (isRows rs)) := (run_eq B.t6 rfl (by decide)).trans (p_is_rows (r5 B k) (r4 B (k + 2)) rs)
theorem r7 (B : Base T) (k : Nat) (rs : List Row) : run T sup fuel (k + 5) 7 [.d (.tup (rs.map rowD))] = if isRows rs then okv .non else .exc 1 := (run_eq B.t7 rfl (by decide)).trans (p_look (r6 B k) rs)
theorem r157 (B : Base T) (t157 : T 157 = some F_shown) (k : Nat) (rs : List Row) (hr : isRows rs = true) : run T sup fuel (k + 6) 157 [.d (.tup (rs.map rowD))] = okv (.str (textOf rs)) := (run_eq t157 rfl (by decide)).trans (p_shown (r7 B k) rs hr)
theorem r158 (B : Base T) (t158 : T 158 = some F_read) (k : Nat) (s : List Nat) (hs : s.length ≤ 1000) : run T sup fuel (k + 5) 158 [.d (.str s)] = if isRows (linesOf s) then okv (.tup ((linesOf s).map rowD)) else .exc 9 := (run_eq t158 rfl (by decide)).trans (p_read (r6 B k) s hs)
theorem r158o (B : Base T) (t158 : T 158 = some F_read) (k : Nat) (x : D) (hx : hasTy (.d x) .str = false) : run T sup fuel (k + 1) 158 [.d x] = .exc 9 := (run_eq t158 rfl (by decide)).trans (p_read_odd x hx)
theorem r6o (B : Base T) (k : Nat) (x : D) (hx : hasTy (.d x) .tuple = false) : run T sup fuel (k + 1) 6 [.d x] = okv (.bl false) := (run_eq B.t6 rfl (by decide)).trans (p_rows_odd x hx)
theorem r157o (B : Base T) (t157 : T 157 = some F_shown) (k : Nat) (x : D) (hx : hasTy (.d x) .tuple = false) : run T sup fuel (k + 3) 157 [.d x] = .exc 1 := (run_eq t157 rfl (by decide)).trans (p_shown_odd x ((run_eq B.t7 rfl (by decide)).trans (p_look_odd x (r6o B k x hx))))
theorem r157a (B : Base T) (t157 : T 157 = some F_shown) (k : Nat) (x : List D) (hx : x.length ≠ 2) : run T sup fuel (k + 4) 157 [.d (.tup [.tup x])] = .exc 1 := (run_eq t157 rfl (by decide)).trans (p_shown_odd _ ((run_eq B.t7 rfl (by decide)).trans (p_look_odd _ ((run_eq B.t6 rfl (by decide)).trans (p_rows_odd1 _ ((run_eq B.t5 rfl (by decide)).trans (p_row_odd x hx)))))))
theorem r157b (B : Base T) (t157 : T 157 = some F_shown) (k : Nat) (rs : List Row) (hr : isRows rs = false) : run T sup fuel (k + 6) 157 [.d (.tup (rs.map rowD))] = .exc 1 := (run_eq t157 rfl (by decide)).trans (p_shown_odd _ ((r7 B k rs).trans (by rw [hr]; rfl)))
theorem r12 (B : Base T) (k : Nat) (ns : List Int) (i : Nat) : run T sup fuel (k + 1) 12 [.d (.lst (ns.map .int)), .d (.int i)] = okv (.int (cell ns i)) := (run_eq B.t12 rfl (by decide)).trans (p_cell ns i)
theorem r13 (B : Base T) (t13 : T 13 = some F_law_mix) (k : Nat) (c prime many : Int) (h1 : 0 < prime) (h2 : prime < 100000) (h3 : 0 < many) : run T sup fuel (k + 1) 13 [.d (.int c), .d (.int prime), .d (.int many)] = okv (.int (mix c prime many)) := (run_eq t13 rfl (by decide)).trans (p_mix c prime many h1 h2 h3)
theorem r14 (B : Base T) (k : Nat) (s i : Int) : run T sup fuel (k + 1) 14 [.d (.int s), .d (.int i)] = okv (.int (seed s i)) := (run_eq B.t14 rfl (by decide)).trans (p_seed _ _ _ s i)
theorem r15 (B : Base T) (k : Nat) (s m : Int) (h : 0 < m) : run T sup fuel (k + 1) 15 [.d (.int s), .d (.int m)] = okv (.int (pick s m)) := (run_eq B.t15 rfl (by decide)).trans (p_pick _ _ _ s m h)
theorem r16 (B : Base T) (k : Nat) (sd : Int) (L : List Nat) (left : Nat) (hl : 1 ≤ left) (hl2 : left ≤ 1000) (hL : ∀ c ∈ L, c ∈ small) (hL2 : L.length ≤ 1000) : ∃ s, run T sup fuel (k + 2) 16 [.d (.int sd), .d (.str L), .d (.int left)] = okv (.str s) ∧ GoodPart L left s := by
  obtain ⟨s, h, g⟩ := p_part (sup := sup) (fuel := fuel) (r14 (sup := sup) (fuel := fuel) B k) (r15 (sup := sup) (fuel := fuel) B k) sd L left hl hl2 hL hL2
  exact ⟨s, (run_eq B.t16 rfl (by decide)).trans h, g⟩
theorem r17 (B : Base T) (k : Nat) (L : List Nat) (hL : ∀ c ∈ L, c ∈ small) (hL6 : L.length ≤ 6) (sd : Int) : ∃ s, run T sup fuel (k + 3) 17 [.d (.int sd), .d (.str L)] = okv (.str s) ∧ GoodPat L s := by
  obtain ⟨s, h, g⟩ := p_pattern (sup := sup) (fuel := fuel) (r14 (sup := sup) (fuel := fuel) B (k + 1)) L hL (fun sd left h1 h2 => r16 (sup := sup) (fuel := fuel) B k sd L left h1 h2 hL (by omega)) sd
  exact ⟨s, (run_eq B.t17 rfl (by decide)).trans h, g⟩
theorem r18 (B : Base T) (k : Nat) (sd : Int) (most : Nat) (hm : most ≤ 1000) : ∃ rs L, run T sup fuel (k + 4) 18 [.d (.int sd), .d (.int most)] = okv (.tup (rs.map rowD)) ∧ GoodRows rs most L := by
  obtain ⟨rs, L, h, g⟩ := p_rows (sup := sup) (fuel := fuel) (r14 (sup := sup) (fuel := fuel) B (k + 2)) (r17 (sup := sup) (fuel := fuel) B k) sd most hm
  exact ⟨rs, L, (run_eq B.t18 rfl (by decide)).trans h, g⟩
theorem r22 (B : Base T) (t22 : T 22 = some F_law_is_pattern) (k : Nat) (s : List Nat) : run T sup fuel (k + 1) 22 [.d (.str s)] = okv (.bl (isPattern s)) := (run_eq t22 rfl (by decide)).trans (p_lis_pattern s)
theorem r23 (B : Base T) (t23 : T 23 = some F_law_are_rows) (t22 : T 22 = some F_law_is_pattern) (k : Nat) (rs : List Row) : run T sup fuel (k + 2) 23 [.d (.tup (rs.map rowD))] = okv (.bl (isRows rs)) := (run_eq t23 rfl (by decide)).trans (p_lare_rows (r22 B t22 k) rs)
end
end Q7.P
end

section
set_option autoImplicit false
set_option Elab.async false
set_option linter.all false
set_option maxRecDepth 100000
namespace Q7.P
section
variable {cl : Nat → List Xv → R W} {sup : Nat → Nat → Option Bool} {fuel : Nat}
def isName (x : List Nat) : Bool := !x.isEmpty && x.all fun c => isInfix [c] small
def isPath (s : List Nat) : Bool := !(decide (40 < s.length)) && (splitC 47 s).all isName
theorem p_is_path (s : List Nat) : fin (xss cl sup fuel (start F_is_path.ns [.d (.str s)]) F_is_path.body) = okv (.bl (isPath s)) := by
  have h : xss cl sup fuel (start F_is_path.ns [.d (.str s)]) F_is_path.body = .ok (.ret (sv (.bl (isPath s)))) := by
    unfold isPath F_is_path
    refine x_ifb (p := decide (40 < s.length)) ?_ ?_ ?_
    · refine e_or0 (e_notb (p := true) (e_isi (e_vs rfl) rfl)) ((e_cmp (e_b1 (e_vs rfl) f_lens) e_con k_gti).trans ?_)
      rw [show decide (40 < s.length) = decide ((40 : Int) < s.length) by simp; omega]
    · intro hp
      rw [hp]
      rfl
    · intro hp
      rw [hp]
      have hl : s.length ≤ 40 := by simpa using hp
      refine s_n (x_asg (e_split (e_vs rfl) rfl e_con c_split) c_putf (x_frzo rfl ?_))
      refine x_ret ?_ (by simp)
      rw [Bool.not_false, Bool.true_and, ← isEmpty_filter (fun x => D.str x) isName]
      apply e_notl
      apply c_comp
      · exact e_val (e_vs rfl) c_vall
      · refine compL_map (p := fun x => !isName x) (splitC 47 s) fun x hx => ?_
        have hxl := splitC_le 47 s x hx
        have hn : ∀ ρ : Env, ρ[2]? = some (some (false, .d (.str x))) → ev cl ρ (.not (.var 2)) = okv (.bl x.isEmpty) := fun ρ h => by
          rw [e_not (e_vs h) rfl, c_trus, Bool.not_not]
        cases hx0 : x.isEmpty with
        | true =>
          have : isName x = false := by rw [isName, hx0]; rfl
          rw [this]
          exact c_turn (w := sv (.str x)) t_nm (wc := sv (.bl true)) (e_or1 ((hn _ rfl).trans (by rw [hx0]))) rfl fun _ => ⟨e_vs rfl, rfl⟩
        | false =>
          have : isName x = x.all fun c => isInfix [c] small := by rw [isName, hx0]; rfl
          rw [this, ← isEmpty_filter (fun c => D.str [c])]
          refine c_turn (w := sv (.str x)) t_nm (wc := ⟨.fr, .d (.lst ((x.filter fun c => !isInfix [c] small).map fun c => .str [c]))⟩) (e_or0 ((hn _ rfl).trans (by rw [hx0])) ?_) rfl fun _ => ⟨e_vs rfl, rfl⟩
          apply c_comp
          · exact e_val (e_vs rfl) c_vals
          · refine compL_map (p := fun c => !isInfix [c] small) x fun c hc => ?_
            exact c_turn (w := sv (.str [c])) t_nm (wc := sv (.bl (!isInfix [c] small))) (e_cmp (e_vs rfl) e_con k_nins) rfl fun _ => ⟨e_vs rfl, rfl⟩
          · rw [List.length_map]; exact Nat.le_trans (List.length_filter_le ..) (by omega)
      · have := splitC_len 47 s
        rw [List.length_map]
        exact Nat.le_trans (List.length_filter_le ..) (by omega)
  rw [h]; rfl
theorem p_is_path_odd (x : D) (hx : hasTy (.d x) .str = false) : fin (xss cl sup fuel (start F_is_path.ns [.d x]) F_is_path.body) = okv (.bl false) := by
  have h : xss cl sup fuel (start F_is_path.ns [.d x]) F_is_path.body = _ := x_ift (e_or1 (e_notb (p := false) (e_isi (e_vs rfl) (by rw [c_isi, hx])))) (s_q (x_ret e_con (by simp)) s_r)
  rw [h]; rfl
def isPathD : D → Bool
  | .str s => isPath s
  | _ => false
theorem p_is_pathD (x : D) : fin (xss cl sup fuel (start F_is_path.ns [.d x]) F_is_path.body) = okv (.bl (isPathD x)) := by
  cases x with
  | str s => exact p_is_path s
  | _ => exact p_is_path_odd _ rfl
theorem p_look_path (h0 : ∀ x : D, cl 0 [.d x] = okv (.bl (isPathD x))) (x : D) : fin (xss cl sup fuel (start F_look_path.ns [.d x]) F_look_path.body) = if isPathD x then okv .non else .exc 3 := by
  have g : ev cl (start F_look_path.ns [.d x]) (.not (.call 0 (.cons (.var 0) .nil))) = okv (.bl (!isPathD x)) := e_notb (e_call (e_cons (e_vs rfl) rfl e_nil) (h0 x))
  cases hr : isPathD x with
  | true =>
    rw [hr] at g
    have h : xss cl sup fuel (start F_look_path.ns [.d x]) F_look_path.body = _ := x_iff g (s_n x_nil)
    rw [h]; rfl
  | false =>
    rw [hr] at g
    have h : xss cl sup fuel (start F_look_path.ns [.d x]) F_look_path.body = _ := x_ift g (by rw [x_raise]; first | done | exact s_e)
    rw [h]; rfl
/-! the law's own is_path -/
def lp (last : Nat) : List Nat → Bool
  | [] => true
  | c :: r => (isInfix [c] (small ++ [47]) && !(c == 47 && last == 47)) && lp c r
theorem infix_app1 (c d : Nat) (h : c ≠ d) (l : List Nat) : isInfix [c] (l ++ [d]) = isInfix [c] l := by
  rw [Bool.eq_iff_iff, mem_infix, mem_infix, List.mem_append]
  simp [h]
theorem splitC_cons (c : Nat) : ∀ s : List Nat, ∃ h t, splitC c s = h :: t
  | [] => ⟨[], [], rfl⟩
  | x :: r => by
    rw [splitC]
    split
    · exact ⟨_, _, rfl⟩
    · split
      · exact ⟨_, _, rfl⟩
      · exact ⟨_, _, rfl⟩
theorem lp_eq : ∀ (s : List Nat) (last : Nat), lp last (s ++ [47]) = match splitC 47 s with | [] => false | h :: t => ((h.all fun c => isInfix [c] small) && (!(last == 47) || !h.isEmpty)) && t.all isName
  | [], last => by
    have : isInfix [47] (small ++ [47]) = true := by decide
    simp [lp, splitC, this]
  | c :: r, last => by
    obtain ⟨h, t, e⟩ := splitC_cons 47 r
    have ih := lp_eq r c
    rw [e] at ih
    rw [List.cons_append, lp, ih, splitC, e]
    by_cases hc : c = 47
    · subst hc
      have : isInfix [47] (small ++ [47]) = true := by decide
      rw [if_pos rfl, this]
      simp [isName, Bool.and_comm]
    · have hcb : (c == 47) = false := beq_eq_false_iff_ne.mpr hc
      rw [if_neg hc, infix_app1 c 47 hc]
      simp [hcb, Bool.and_assoc]
theorem lp_path (s : List Nat) : lp 47 (s ++ [47]) = (splitC 47 s).all isName := by
  obtain ⟨h, t, e⟩ := splitC_cons 47 s
  rw [lp_eq, e]
  simp [isName, Bool.and_comm]
theorem p_lis_path (s : List Nat) : fin (xss cl sup fuel (start F_law_is_path.ns [.d (.str s)]) F_law_is_path.body) = okv (.bl (isPath s)) := by
  have h : xss cl sup fuel (start F_law_is_path.ns [.d (.str s)]) F_law_is_path.body = .ok (.ret (sv (.bl (isPath s)))) := by
    unfold isPath F_law_is_path
    refine x_ifb (p := decide (40 < s.length)) ?_ ?_ ?_
    · refine e_or0 (e_notb (p := true) (e_isi (e_vs rfl) rfl)) ((e_cmp (e_b1 (e_vs rfl) f_lens) e_con k_gti).trans ?_)
      rw [show decide (40 < s.length) = decide ((40 : Int) < s.length) by simp; omega]
    · intro hp
      rw [hp]
      rfl
    · intro hp
      rw [hp]
      have hl : s.length ≤ 40 := by simpa using hp
      rw [← lp_path, Bool.not_false, Bool.true_and]
      refine s_n (x_asg e_con c_puts ?_)
      refine x_loop (fun r ρ => ∃ (last : Nat) (todo : List Nat) (a : Option (Bool × Xv)), r = chD todo ∧ ρ = [some (false, .d (.str s)), some (false, .d (.str [last])), a] ∧ lp last todo = lp 47 (s ++ [47])) (e_val (e_bop (e_vs rfl) e_con (b_adds (by simp; omega))) c_vals) ⟨47, s ++ [47], none, rfl, rfl, rfl⟩ ?_ ?_
      · rintro d r ρ ⟨last, todo, a, e1, rfl, e3⟩
        cases todo with
        | nil => cases e1
        | cons c todo =>
          rw [chD, List.map_cons, List.cons.injEq] at e1
          obtain ⟨rfl, rfl⟩ := e1
          rw [turn_eq t_nm]
          simp only [List.set_cons_succ, List.set_cons_zero]
          have g : ev cl [some (false, .d (.str s)), some (false, .d (.str [last])), some (false, .d (.str [c]))] (.or (.cmp .notin (.var 2) (.con (.str (small ++ [47])))) (.and (.cmp .eq (.var 2) (.con (.str [47]))) (.cmp .eq (.var 1) (.con (.str [47]))))) = okv (.bl (!isInfix [c] (small ++ [47]) || ([c] == [47] && [last] == [47]))) :=
            e_or (e_cmp (e_vs rfl) e_con k_nins) fun _ => e_and (e_cmp (e_vs rfl) e_con k_eqs) fun _ => e_cmp (e_vs rfl) e_con k_eqs
          have e4 : (!isInfix [c] (small ++ [47]) || ([c] == [47] && [last] == [47])) = !(isInfix [c] (small ++ [47]) && !(c == 47 && last == 47)) := by
            have q : ∀ x : Nat, ([x] == [47]) = (x == 47) := fun x => by rw [Bool.eq_iff_iff]; simp
            rw [q, q]
            cases isInfix [c] (small ++ [47]) <;> simp
          rw [e4] at g
          rw [lp] at e3
          cases hb : (isInfix [c] (small ++ [47]) && !(c == 47 && last == 47)) with
          | false =>
            rw [hb] at g e3
            refine .inr ⟨?_, rfl⟩
            rw [← e3]
            exact x_ift g (s_q (x_ret e_con (by simp)) s_r)
          | true =>
            rw [hb] at g e3
            exact .inl ⟨_, x_iff g (s_n (x_asg (e_vs rfl) c_puts x_nil)), c, todo, _, rfl, rfl, by rw [← e3]; rfl⟩
      · rintro ρ ⟨last, todo, a, e1, rfl, e3⟩
        have : todo = [] := by cases todo with | nil => rfl | cons t l => cases e1
        subst this
        rw [← e3]
        exact x_ret e_con (by simp)
  rw [h]; rfl
theorem p_as (a b : Bool) : fin (xss cl sup fuel (start F_law_as.ns [.d (.bl a), .d (.bl b)]) F_law_as.body) = okv (.bl (a == b)) := by
  have h : xss cl sup fuel (start F_law_as.ns [.d (.bl a), .d (.bl b)]) F_law_as.body = .ok (.ret (sv (.bl (a == b)))) := by
    refine x_ret (e_and1 (e_isi (e_vs rfl) rfl) (e_cmp (e_vs rfl) (e_vs rfl) ?_)) (by simp)
    cases a <;> cases b <;> rfl
  rw [h]; rfl
/-! things of other kinds -/
def isPatD : D → Bool
  | .str s => isPattern s
  | _ => false
theorem p_is_patternD (hc : ∀ s : List Nat, s.length ≤ 1000 → cl 2 [.d (.str s)] = okv (.bl (isPart s))) (x : D) : fin (xss cl sup fuel (start F_is_pattern.ns [.d x]) F_is_pattern.body) = okv (.bl (isPatD x)) := by
  have odd : ∀ x : D, hasTy (.d x) .str = false → fin (xss cl sup fuel (start F_is_pattern.ns [.d x]) F_is_pattern.body) = okv (.bl false) := fun x hx => by
    have h : xss cl sup fuel (start F_is_pattern.ns [.d x]) F_is_pattern.body = _ := x_ift (e_or1 (e_notb (p := false) (e_isi (e_vs rfl) (by rw [c_isi, hx])))) (s_q (x_ret e_con (by simp)) s_r)
    rw [h]; rfl
  cases x with
  | str s => exact p_is_pattern hc s
  | _ => exact odd _ rfl
theorem p_lis_patternD (x : D) : fin (xss cl sup fuel (start F_law_is_pattern.ns [.d x]) F_law_is_pattern.body) = okv (.bl (isPatD x)) := by
  have odd : ∀ x : D, hasTy (.d x) .str = false → fin (xss cl sup fuel (start F_law_is_pattern.ns [.d x]) F_law_is_pattern.body) = okv (.bl false) := fun x hx => by
    have h : xss cl sup fuel (start F_law_is_pattern.ns [.d x]) F_law_is_pattern.body = _ := x_ift (e_or1 (e_notb (p := false) (e_isi (e_vs rfl) (by rw [c_isi, hx])))) (s_q (x_ret e_con (by simp)) s_r)
    rw [h]; rfl
  cases x with
  | str s => exact p_lis_pattern s
  | _ => exact odd _ rfl
end
end Q7.P
end

section
set_option autoImplicit false
set_option Elab.async false
set_option linter.all false
set_option maxRecDepth 100000
namespace Q7.P
section
variable {cl : Nat → List Xv → R W} {sup : Nat → Nat → Option Bool} {fuel : Nat}
theorem isRowD_pair (a : List Nat) (y : D) : isRowD (.tup [.str a, y]) = (([43] == a || [45] == a) && isPatD y) := by
  cases y <;> first | rfl | (simp [isRowD, isPatD])
theorem p_is_rowD (hc : ∀ x : D, cl 3 [.d x] = okv (.bl (isPatD x))) (x : D) : fin (xss cl sup fuel (start F_is_row.ns [.d x]) F_is_row.body) = okv (.bl (isRowD x)) := by
  have odd : ∀ x : D, hasTy (.d x) .tuple = false → fin (xss cl sup fuel (start F_is_row.ns [.d x]) F_is_row.body) = okv (.bl false) := fun x hx => by
    have h : xss cl sup fuel (start F_is_row.ns [.d x]) F_is_row.body = _ := x_ift (e_or1 (e_notb (p := false) (e_isi (e_vs rfl) (by rw [c_isi, hx])))) (s_q (x_ret e_con (by simp)) s_r)
    rw [h]; rfl
  cases x with
  | tup xs =>
    match xs with
    | [] => exact p_row_odd [] (by simp)
    | [a] =>
      have : isRowD (.tup [a]) = false := by simp [isRowD]
      rw [this]
      exact p_row_odd [a] (by simp)
    | a :: b :: c :: r =>
      have : isRowD (.tup (a :: b :: c :: r)) = false := by simp [isRowD]
      rw [this]
      exact p_row_odd _ (by simp)
    | [x, y] =>
      have first : ∀ x : D, ev cl (start F_is_row.ns [.d (.tup [x, y])]) (.or (.not (.isi (.var 0) .tuple)) (.or (.cmp .ne (.b1 .len (.var 0)) (.con (.int 2))) (.not (.isi (.idx (.var 0) (.con (.int 0))) .str)))) = okv (.bl (!hasTy (.d x) .str)) := fun x => by
        refine e_or0 (e_notb (p := true) (e_isi (e_vs rfl) rfl)) (e_or0 (e_cmp (e_b1 (e_vs rfl) f_lent) e_con k_nei) (e_notb (e_isi (e_idx (e_vs rfl) e_con (c_idx (c_ixt rfl))) c_isi)))
      have nstr : ∀ x : D, hasTy (.d x) .str = false → fin (xss cl sup fuel (start F_is_row.ns [.d (.tup [x, y])]) F_is_row.body) = okv (.bl false) := fun x hx => by
        have h : xss cl sup fuel (start F_is_row.ns [.d (.tup [x, y])]) F_is_row.body = _ := x_ift ((first x).trans (by rw [hx]; rfl)) (s_q (x_ret e_con (by simp)) s_r)
        rw [h]; rfl
      cases x with
      | str a =>
        rw [isRowD_pair]
        have h : xss cl sup fuel (start F_is_row.ns [.d (.tup [.str a, y])]) F_is_row.body = .ok (.ret (sv (.bl (([D.str [43], .str [45]].any fun y => eqv y (.str a)) && isPatD y)))) := by
          refine x_iff (first _) (s_n (x_ret (e_and ?_ fun _ => ?_) (by simp)))
          · exact e_cmp (e_idx (e_vs rfl) e_con (c_idx (c_ixt rfl))) (e_tup (e_cons e_con rfl (e_cons e_con rfl e_nil)) rfl) k_int
          · exact e_call (e_cons (e_idx (e_vs rfl) e_con (c_idx (c_ixt rfl))) rfl e_nil) (hc y)
        have e2 : (([D.str [43], .str [45]].any fun y => eqv y (.str a)) && isPatD y) = (([43] == a || [45] == a) && isPatD y) := by
          simp only [List.any_cons, List.any_nil, eqv, Bool.or_false]
        rw [h, e2]; rfl
      | _ => exact nstr _ rfl
  | _ => exact odd _ rfl
theorem p_is_rows_bad (h5 : ∀ x : D, cl 5 [.d x] = okv (.bl (isRowD x))) (ds : List D) (hb : ∃ d ∈ ds, isRowD d = false) : fin (xss cl sup fuel (start F_is_rows.ns [.d (.tup ds)]) F_is_rows.body) = okv (.bl false) := by
  have g : ev cl (start F_is_rows.ns [.d (.tup ds)]) (.not (.isi (.var 0) .tuple)) = okv (.bl false) := e_notb (p := true) (e_isi (e_vs rfl) rfl)
  have g2 : ev cl (start F_is_rows.ns [.d (.tup ds)]) (.cmp .gt (.b1 .len (.var 0)) (.con (.int 5))) = okv (.bl (decide ((5 : Int) < ds.length))) := e_cmp (e_b1 (e_vs rfl) f_lent) e_con k_gti
  have h : xss cl sup fuel (start F_is_rows.ns [.d (.tup ds)]) F_is_rows.body = .ok (.ret (sv (.bl false))) := by
    by_cases hl : ds.length ≤ 5
    · rw [decide_eq_false (by omega)] at g2
      have g3 : ev cl (start F_is_rows.ns [.d (.tup ds)]) (.comp (.nm 1) (.val (.var 0)) (.not (.call 5 (.cons (.var 1) .nil))) (.var 1)) = .ok ⟨.fr, .d (.lst ((ds.filter fun r => !isRowD r).map id))⟩ := by
        apply c_comp (xs := ds.map id)
        · rw [List.map_id]; exact e_val (e_vs rfl) c_valt
        · refine compL_map (p := fun r => !isRowD r) ds fun r hr => ?_
          exact c_turn (w := sv r) t_nm (wc := sv (.bl (!isRowD r))) (e_notb (e_call (e_cons (e_vs rfl) rfl e_nil) (h5 r))) rfl fun _ => ⟨e_vs rfl, rfl⟩
        · rw [List.length_map]; exact Nat.le_trans (List.length_filter_le ..) (by omega)
      refine x_ifs (p := true) (e_or0 g (e_or0 g2 g3)) ?_ (s_q (x_ret e_con (by simp)) s_r)
      rw [c_tru, c_trul, isEmpty_filter]
      obtain ⟨d, hd, hf⟩ := hb
      have : ds.all isRowD = false := by
        rw [List.all_eq_false]
        exact ⟨d, hd, by rw [hf]; simp⟩
      rw [this]; rfl
    · rw [decide_eq_true (by omega)] at g2
      exact x_ift (e_or0 g (e_or1 g2)) (s_q (x_ret e_con (by simp)) s_r)
  rw [h]; rfl
/-- one bad row: the law's own are_rows says no -/
theorem p_lare_bad (h22 : ∀ x : D, cl 22 [.d x] = okv (.bl (isPatD x))) (ds : List D) (hb : ∃ d ∈ ds, isRowD d = false) : fin (xss cl sup fuel (start F_law_are_rows.ns [.d (.tup ds)]) F_law_are_rows.body) = okv (.bl false) := by
  have g0 : ev cl (start F_law_are_rows.ns [.d (.tup ds)]) (.not (.isi (.var 0) .tuple)) = okv (.bl false) := e_notb (p := true) (e_isi (e_vs rfl) rfl)
  have g1 : ev cl (start F_law_are_rows.ns [.d (.tup ds)]) (.cmp .gt (.b1 .len (.var 0)) (.con (.int 5))) = okv (.bl (decide ((5 : Int) < ds.length))) := e_cmp (e_b1 (e_vs rfl) f_lent) e_con k_gti
  have h : xss cl sup fuel (start F_law_are_rows.ns [.d (.tup ds)]) F_law_are_rows.body = .ok (.ret (sv (.bl false))) := by
    unfold F_law_are_rows at g0 g1 ⊢
    by_cases hl : ds.length ≤ 5
    · rw [decide_eq_false (by omega)] at g1
      refine x_iff (e_or0 g0 g1) (s_n (x_asg e_con c_puts ?_))
      refine x_loop (fun r ρ => ∃ (s : List Nat) (b c : Option (Bool × Xv)), ρ = [some (false, .d (.tup ds)), some (false, .d (.str s)), b, c] ∧ s.length + 8 * r.length ≤ 40 ∧ ∃ d ∈ r, isRowD d = false) (e_val (e_vs rfl) c_valt) ⟨[], none, none, rfl, by simp; omega, hb⟩ ?_ ?_
      · rintro d r ρ ⟨s, b, c, rfl, hs, hbad⟩
        rw [turn_eq t_nm]
        simp only [List.set_cons_succ, List.set_cons_zero]
        have rej : ∀ (o : CSs) (ρ : Env), ev cl ρ (.or (.not (.isi (.var 2) .tuple)) (.or (.cmp .ne (.b1 .len (.var 2)) (.con (.int 2))) (.or (.not (.isi (.idx (.var 2) (.con (.int 0))) .str)) (.cmp .notin (.idx (.var 2) (.con (.int 0))) (.tup (.cons (.con (.str [43])) (.cons (.con (.str [45])) .nil))))))) = okv (.bl true) → xss cl sup fuel ρ (.cons (.ifs (.or (.not (.isi (.var 2) .tuple)) (.or (.cmp .ne (.b1 .len (.var 2)) (.con (.int 2))) (.or (.not (.isi (.idx (.var 2) (.con (.int 0))) .str)) (.cmp .notin (.idx (.var 2) (.con (.int 0))) (.tup (.cons (.con (.str [43])) (.cons (.con (.str [45])) .nil))))))) (.cons (.ret (.con (.bl false))) .nil) .nil) o) = .ok (.ret (sv (.bl false))) := fun o ρ h => x_ift h (s_q (x_ret e_con (by simp)) s_r)
        have odd : ∀ x : D, hasTy (.d x) .tuple = false → ev cl [some (false, .d (.tup ds)), some (false, .d (.str s)), some (false, .d x), c] (.or (.not (.isi (.var 2) .tuple)) (.or (.cmp .ne (.b1 .len (.var 2)) (.con (.int 2))) (.or (.not (.isi (.idx (.var 2) (.con (.int 0))) .str)) (.cmp .notin (.idx (.var 2) (.con (.int 0))) (.tup (.cons (.con (.str [43])) (.cons (.con (.str [45])) .nil))))))) = okv (.bl true) := fun x hx => e_or1 (e_notb (p := false) (e_isi (e_vs rfl) (by rw [c_isi, hx])))
        cases d with
        | tup xs =>
          have t0 : ∀ xs, ev cl [some (false, .d (.tup ds)), some (false, .d (.str s)), some (false, .d (.tup xs)), c] (.not (.isi (.var 2) .tuple)) = okv (.bl false) := fun xs => e_notb (p := true) (e_isi (e_vs rfl) rfl)
          have t1 : ∀ xs, ev cl [some (false, .d (.tup ds)), some (false, .d (.str s)), some (false, .d (.tup xs)), c] (.cmp .ne (.b1 .len (.var 2)) (.con (.int 2))) = okv (.bl (!(((xs.length : Nat) : Int) == 2))) := fun xs => e_cmp (e_b1 (e_vs rfl) f_lent) e_con k_nei
          match xs with
          | [] => exact .inr ⟨rej _ _ (e_or0 (t0 []) (e_or1 (t1 []))), rfl⟩
          | [a] => exact .inr ⟨rej _ _ (e_or0 (t0 [a]) (e_or1 (t1 [a]))), rfl⟩
          | x :: y :: z :: w => exact .inr ⟨rej _ _ (e_or0 (t0 _) (e_or1 ((t1 _).trans (by
              have : ((((x :: y :: z :: w).length : Nat) : Int) == 2) = false := by rw [beq_eq_false_iff_ne]; simp only [List.length_cons]; omega
              rw [this]; rfl)))), rfl⟩
          | [x, y] =>
            have t2 : ∀ x : D, ev cl [some (false, .d (.tup ds)), some (false, .d (.str s)), some (false, .d (.tup [x, y])), c] (.not (.isi (.idx (.var 2) (.con (.int 0))) .str)) = okv (.bl (!hasTy (.d x) .str)) := fun x => e_notb (e_isi (e_idx (e_vs rfl) e_con (c_idx (c_ixt rfl))) c_isi)
            have nstr : ∀ x : D, hasTy (.d x) .str = false → ev cl [some (false, .d (.tup ds)), some (false, .d (.str s)), some (false, .d (.tup [x, y])), c] (.or (.not (.isi (.var 2) .tuple)) (.or (.cmp .ne (.b1 .len (.var 2)) (.con (.int 2))) (.or (.not (.isi (.idx (.var 2) (.con (.int 0))) .str)) (.cmp .notin (.idx (.var 2) (.con (.int 0))) (.tup (.cons (.con (.str [43])) (.cons (.con (.str [45])) .nil))))))) = okv (.bl true) := fun x hx => e_or0 (t0 _) (e_or0 (t1 _) (e_or1 ((t2 x).trans (by rw [hx]; rfl))))
            cases x with
            | str a =>
              have t3 : ev cl [some (false, .d (.tup ds)), some (false, .d (.str s)), some (false, .d (.tup [.str a, y])), c] (.cmp .notin (.idx (.var 2) (.con (.int 0))) (.tup (.cons (.con (.str [43])) (.cons (.con (.str [45])) .nil)))) = okv (.bl (!([43] == a || [45] == a))) := by
                have := e_cmp (e_idx (e_vs rfl) e_con (c_idx (c_ixt rfl))) (e_tup (e_cons e_con rfl (e_cons e_con rfl e_nil)) rfl) (k_nint (k := .sh) (k' := .sh)) (cl := cl) (ρ := [some (false, .d (.tup ds)), some (false, .d (.str s)), some (false, .d (.tup [.str a, y])), c]) (a := .idx (.var 2) (.con (.int 0))) (b := .tup (.cons (.con (.str [43])) (.cons (.con (.str [45])) .nil)))
                rw [show ([D.str [43], .str [45]].any fun y => eqv y (.str a)) = ([43] == a || [45] == a) by simp [eqv]] at this
                exact this
              have t4 : ev cl [some (false, .d (.tup ds)), some (false, .d (.str s)), some (false, .d (.tup [.str a, y])), c] (.not (.call 22 (.cons (.idx (.var 2) (.con (.int 1))) .nil))) = okv (.bl (!isPatD y)) := e_notb (e_call (e_cons (e_idx (e_vs rfl) e_con (c_idx (c_ixt rfl))) rfl e_nil) (h22 y))
              cases ha : ([43] == a || [45] == a) with
              | false =>
                rw [ha] at t3
                exact .inr ⟨rej _ _ (e_or0 (t0 _) (e_or0 (t1 _) (e_or0 (t2 _) t3))), rfl⟩
              | true =>
                rw [ha] at t3
                cases hy : isPatD y with
                | false =>
                  rw [hy] at t4
                  exact .inr ⟨x_iff (e_or0 (t0 _) (e_or0 (t1 _) (e_or0 (t2 _) t3))) (s_n (x_ift t4 (s_q (x_ret e_con (by simp)) s_r))), rfl⟩
                | true =>
                  rw [hy] at t4
                  obtain ⟨q, rfl⟩ : ∃ q, y = .str q := by cases y <;> first | exact ⟨_, rfl⟩ | cases hy
                  have hq := pat_len hy
                  simp only [List.length_cons] at hs
                  refine .inl ⟨_, x_iff (e_or0 (t0 _) (e_or0 (t1 _) (e_or0 (t2 _) t3))) (s_n (x_iff t4 (s_n (x_asg (e_bop (e_vs rfl) (e_idx (e_vs rfl) e_con (c_idx (c_ixt rfl))) (b_adds (by omega))) c_puts x_nil)))), s ++ q, _, _, rfl, by rw [List.length_append]; omega, ?_⟩
                  obtain ⟨d, hd, hf⟩ := hbad
                  rcases List.mem_cons.mp hd with z | z
                  · subst z
                    rw [isRowD_pair, ha, hy] at hf
                    cases hf
                  · exact ⟨d, z, hf⟩
            | _ => exact .inr ⟨rej _ _ (nstr _ rfl), rfl⟩
        | _ => exact .inr ⟨rej _ _ (odd _ rfl), rfl⟩
      · rintro ρ ⟨s, b, c, rfl, hs, d, hd, _⟩
        cases hd
    · rw [decide_eq_true (by omega)] at g1
      exact x_ift (e_or0 g0 (g1)) (s_q (x_ret e_con (by simp)) s_r)
  rw [h]; rfl
end
end Q7.P
end

section
set_option autoImplicit false
set_option Elab.async false
set_option linter.all false
set_option maxRecDepth 100000
namespace Q7.P
section
variable {cl : Nat → List Xv → R W} {sup : Nat → Nat → Option Bool} {fuel : Nat}
theorem e_orv {ρ : Env} {a b : CE} {x y : W} {p : Bool} (h1 : ev cl ρ a = .ok x) (h2 : x.tru = some p) (h3 : p = false → ev cl ρ b = .ok y) : ev cl ρ (.or a b) = .ok (if p then x else y) := by
  rw [ev, h1, R.ok_bind, h2]
  cases p with
  | true => rfl
  | false => exact h3 rfl
theorem atS_lt (xs : List Nat) (i : Int) (h0 : 0 ≤ i) (h1 : i < xs.length) : ∃ c, atS? xs i = some c ∧ c ∈ xs := by
  have hlt : i.toNat < xs.length := by omega
  exact ⟨xs[i.toNat], by rw [atS?, if_pos h0]; exact List.getElem?_eq_getElem hlt, List.getElem_mem hlt⟩
theorem pick_lo (s m : Int) (h : 0 < m) : 0 ≤ pick s m ∧ pick s m < m := mod_lo _ m h
theorem c_enums {s : List Nat} : enumI ⟨.sh, .d (.str s)⟩ = some (enumL 0 (chD s)) := rfl
theorem c_enumf {s : List D} : enumI ⟨.fr, .d (.lst s)⟩ = some (enumL 0 s) := rfl
theorem c_enuml {s : List D} : enumI ⟨.sh, .d (.lst s)⟩ = some (enumL 0 s) := rfl
/-- a name that the laws make -/
theorem p_name (h14 : ∀ s k : Int, cl 14 [.d (.int s), .d (.int k)] = okv (.int (seed s k))) (h15 : ∀ s m : Int, 0 < m → cl 15 [.d (.int s), .d (.int m)] = okv (.int (pick s m)))
    (sd : Int) (p : List Nat) (hp : ∀ c ∈ p, c ∈ small ∨ c = 63 ∨ c = 42) (hpl : p.length ≤ 1000) : ∃ s, fin (xss cl sup fuel (start F_law_name.ns [.d (.int sd), .d (.str p)]) F_law_name.body) = okv (.str s) ∧ s.length ≤ 3 * p.length ∧ ∀ c ∈ s, c ∈ small := by
  show (fun o => ∃ s, fin o = okv (.str s) ∧ s.length ≤ 3 * p.length ∧ ∀ c ∈ s, c ∈ small) (xss cl sup fuel (start F_law_name.ns [.d (.int sd), .d (.str p)]) F_law_name.body)
  unfold F_law_name
  rw [x_asg e_con c_puts rfl]
  refine x_loopQ (fun r ρ => ∃ (i : Nat) (todo f : List Nat) (a b c : Option (Bool × Xv)), r = enumL i (chD todo) ∧ ρ = [some (false, .d (.int sd)), some (false, .d (.str p)), some (false, .d (.str f)), a, b, c] ∧ (∀ c ∈ todo, c ∈ p) ∧ f.length + 3 * todo.length ≤ 3 * p.length ∧ ∀ c ∈ f, c ∈ small) (Q := fun o => ∃ s, fin o = okv (.str s) ∧ s.length ≤ 3 * p.length ∧ ∀ c ∈ s, c ∈ small) (ds := enumL 0 (chD p)) ?_ ?_ ?_ ?_
  · exact e_enum (e_vs rfl) c_enums
  · exact ⟨0, p, [], none, none, none, rfl, rfl, fun c h => h, by simp, by simp⟩
  · rintro d r ρ ⟨i, todo, f, a, b, c, e1, rfl, h1, h2, h3⟩
    cases todo with
    | nil => cases e1
    | cons t todo =>
      rw [chD, List.map_cons, enumL, List.cons.injEq] at e1
      obtain ⟨rfl, rfl⟩ := e1
      refine .inl ?_
      rw [turn_eq t_2]
      simp only [List.set_cons_succ, List.set_cons_zero]
      rw [x_asg (e_call (e_cons (e_vs rfl) rfl (e_cons (e_vs rfl) rfl e_nil)) (h14 sd i)) c_puts rfl]
      simp only [List.set_cons_succ, List.set_cons_zero]
      simp only [List.length_cons] at h2
      have fin3 : ∀ g : List Nat, g.length ≤ 3 → (∀ c ∈ g, c ∈ small) → ∃ ρ', RS.ok (.nx [some (false, .d (.int sd)), some (false, .d (.str p)), some (false, .d (.str (f ++ g))), some (false, .d (.int i)), some (false, .d (.str [t])), some (false, .d (.int (seed sd i)))]) = .ok (.nx ρ') ∧ ∃ (i_1 : Nat) (todo_1 f : List Nat) (a b c : Option (Bool × Xv)), enumL (i + 1) (List.map (fun c => D.str [c]) todo) = enumL i_1 (chD todo_1) ∧ ρ' = [some (false, .d (.int sd)), some (false, .d (.str p)), some (false, .d (.str f)), a, b, c] ∧ (∀ c ∈ todo_1, c ∈ p) ∧ f.length + 3 * todo_1.length ≤ 3 * p.length ∧ ∀ c ∈ f, c ∈ small := fun g hg hs => ⟨_, rfl, i + 1, todo, f ++ g, _, _, _, rfl, rfl, fun c hc => h1 c (List.mem_cons_of_mem _ hc), by rw [List.length_append]; omega, fun c hc => by
        rcases List.mem_append.mp hc with z | z
        · exact h3 c z
        · exact hs c z⟩
      by_cases ht : t = 63
      · subst ht
        have hk := pick_lo (seed sd i) 5 (by omega)
        obtain ⟨g, eg, mg⟩ := atS_lt [97, 98, 99, 120, 122] (pick (seed sd i) 5) hk.1 (by simp; omega)
        rw [x_ift (e_cmp (e_vs rfl) e_con k_eqs) (s_q (x_frz rfl (x_asg (e_bop (e_vs rfl) (e_idx e_con (e_call (e_cons (e_vs rfl) rfl (e_cons e_con rfl e_nil)) (h15 _ 5 (by omega))) (c_idx (c_ixs eg))) (b_adds (by simp; omega))) c_puts x_nil)) (s_n x_nil))]
        refine fin3 [g] (by simp) fun c hc => ?_
        rw [List.mem_singleton.mp hc]
        exact (by decide : ∀ g ∈ [97, 98, 99, 120, 122], g ∈ small) g mg
      · have ne63 : ([t] == [63]) = false := by rw [beq_eq_false_iff_ne]; simp [ht]
        rw [x_iff ((e_cmp (e_vs rfl) e_con k_eqs).trans (by rw [ne63])) rfl]
        by_cases hs : t = 42
        · subst hs
          have hk := pick_lo (seed sd i) 4 (by omega)
          obtain ⟨dg, eg, mg⟩ := at_lt (α := Nat) [D.str [], .str [97], .str [98, 122], .str [99, 97, 98]] (pick (seed sd i) 4) hk.1 (by simp; omega)
          obtain ⟨g, rfl, hg, hgs⟩ : ∃ g, dg = .str g ∧ g.length ≤ 3 ∧ ∀ c ∈ g, c ∈ small := by
            simp only [List.mem_cons, List.not_mem_nil, or_false] at mg
            rcases mg with rfl | rfl | rfl | rfl <;> exact ⟨_, rfl, by decide, by decide⟩
          rw [x_ift (e_cmp (e_vs rfl) e_con k_eqs) (s_q (x_frz rfl (x_asg (e_bop (e_vs rfl) (e_idx (e_lst (e_cons e_con rfl (e_cons e_con rfl (e_cons e_con rfl (e_cons e_con rfl e_nil)))) rfl) (e_call (e_cons (e_vs rfl) rfl (e_cons e_con rfl e_nil)) (h15 _ 4 (by omega))) (c_idx (c_ixl eg))) (b_adds (by omega))) c_puts x_nil)) (s_n x_nil))]
          exact fin3 g hg hgs
        · have ne42 : ([t] == [42]) = false := by rw [beq_eq_false_iff_ne]; simp [hs]
          have htm : t ∈ small := by
            rcases hp t (h1 t (List.mem_cons_self ..)) with z | z | z
            · exact z
            · exact absurd z ht
            · exact absurd z hs
          obtain ⟨g, eg, hg⟩ : ∃ g, ev cl [some (false, .d (.int sd)), some (false, .d (.str p)), some (false, .d (.str f)), some (false, .d (.int i)), some (false, .d (.str [t])), some (false, .d (.int (seed sd i)))] (.ite (.cmp .gt (.bop .mod (.bop .fdiv (.var 5) (.con (.int 7))) (.con (.int 9))) (.con (.int 0))) (.var 4) (.con (.str [122]))) = okv (.str [g]) ∧ g ∈ small := by
            have e := e_ite (cl := cl) (e_cmp (e_bop (e_bop (e_vs (i := 5) (ρ := [some (false, .d (.int sd)), some (false, .d (.str p)), some (false, .d (.str f)), some (false, .d (.int i)), some (false, .d (.str [t])), some (false, .d (.int (seed sd i)))]) rfl) (e_con (d := .int 7)) (b_fdiv (by omega) (by omega))) (e_con (d := .int 9)) (b_mod (by omega))) (e_con (d := .int 0)) k_gti) rfl (fun _ => e_vs (i := 4) rfl) (fun _ => e_con (d := .str [122]))
            cases hd : decide ((0 : Int) < seed sd i / 7 % 9) with
            | true => exact ⟨t, e.trans (by rw [c_trub, hd]; rfl), htm⟩
            | false => exact ⟨122, e.trans (by rw [c_trub, hd]; rfl), by decide⟩
          rw [x_iff ((e_cmp (e_vs rfl) e_con k_eqs).trans (by rw [ne42])) (s_q (x_asg (e_bop (e_vs rfl) eg (b_adds (by simp; omega))) c_puts x_nil) (s_n x_nil))]
          refine fin3 [g] (by simp) fun c hc => ?_
          rw [List.mem_singleton.mp hc]
          exact hg
  · rintro ρ ⟨i, todo, f, a, b, c, e1, rfl, h1, h2, h3⟩
    refine ⟨f, ?_, by omega, h3⟩
    rw [x_ret (e_vs rfl) (by simp)]
    rfl
end
end Q7.P
end

section
set_option autoImplicit false
set_option Elab.async false
set_option linter.all false
set_option maxRecDepth 100000
namespace Q7.P
section
variable {cl : Nat → List Xv → R W} {sup : Nat → Nat → Option Bool} {fuel : Nat}
theorem compL_ex {f : D → R (Option D)} {P : D → Prop} : ∀ l : List D, (∀ d ∈ l, ∃ y, f d = .ok (some y) ∧ P y) → ∃ ys, compL f l = .ok ys ∧ ys.length = l.length ∧ ∀ y ∈ ys, P y
  | [], _ => ⟨[], rfl, rfl, by simp⟩
  | x :: r, h => by
    obtain ⟨y, e, p⟩ := h x (List.mem_cons_self ..)
    obtain ⟨ys, e2, l2, p2⟩ := compL_ex r fun d hd => h d (List.mem_cons_of_mem _ hd)
    refine ⟨y :: ys, by rw [compL, e, e2], by simp [l2], fun z hz => ?_⟩
    rcases List.mem_cons.mp hz with w | w
    · subst w; exact p
    · exact p2 z w
theorem chars_of : ∀ (ys : List D), (∀ y ∈ ys, ∃ c ∈ small, y = D.str [c]) → ∃ cs : List Nat, ys = (cs.map fun c => [c]).map .str ∧ cs.length = ys.length ∧ ∀ c ∈ cs, c ∈ small
  | [], _ => ⟨[], rfl, rfl, by simp⟩
  | y :: r, h => by
    obtain ⟨c, hc, rfl⟩ := h y (List.mem_cons_self ..)
    obtain ⟨cs, rfl, l, p⟩ := chars_of r fun z hz => h z (List.mem_cons_of_mem _ hz)
    refine ⟨c :: cs, rfl, by simp, fun z hz => ?_⟩
    rcases List.mem_cons.mp hz with w | w
    · subst w; exact hc
    · exact p z w
theorem joinL_nil : ∀ cs : List Nat, joinL [] (cs.map fun c => [c]) = cs
  | [] => rfl
  | [c] => rfl
  | c :: d :: r => by
    have := joinL_nil (d :: r)
    simp only [List.map_cons] at this ⊢
    rw [joinL, this]; rfl
theorem isName_of {cs : List Nat} (h0 : cs ≠ []) (h : ∀ c ∈ cs, c ∈ small) : isName cs = true := by
  cases cs with
  | nil => exact absurd rfl h0
  | cons x r =>
    rw [isName, Bool.and_eq_true]
    exact ⟨rfl, List.all_eq_true.mpr fun c hc => (mem_infix c small).mpr (h c hc)⟩
theorem small_no47 {cs : List Nat} (h : ∀ c ∈ cs, c ∈ small) : 47 ∉ cs := fun hm => absurd (h 47 hm) (by decide)
def wt (l : List (List Nat)) : Nat := (l.map fun x => x.length + 1).sum
theorem wt_app (a b : List (List Nat)) : wt (a ++ b) = wt a + wt b := by simp [wt]
theorem wt_cons (a : List Nat) (b : List (List Nat)) : wt (a :: b) = a.length + 1 + wt b := by simp [wt]
theorem wt_split (c : Nat) : ∀ s : List Nat, wt (splitC c s) = s.length + 1
  | [] => rfl
  | x :: r => by
    have ih := wt_split c r
    rw [splitC]
    split
    · rw [wt_cons, ih]; simp; omega
    · split
      · rename_i e; rw [e] at ih; simp [wt] at ih
      · rename_i h t e
        rw [e, wt_cons] at ih
        rw [wt_cons]; simp; omega
theorem wt_filter (p : List Nat → Bool) (l : List (List Nat)) : wt (l.filter p) ≤ wt l := by
  induction l with
  | nil => simp
  | cons a r ih =>
    rw [List.filter_cons]
    split
    · rw [wt_cons, wt_cons]; omega
    · rw [wt_cons]; omega
theorem joinL_wt (c : Nat) : ∀ l : List (List Nat), (joinL [c] l).length ≤ wt l
  | [] => by simp [joinL]
  | [x] => by simp [joinL, wt]
  | x :: y :: r => by
    have := joinL_wt c (y :: r)
    rw [joinL, wt_cons, List.length_append, List.length_append]
    simp only [List.length_cons, List.length_nil]
    omega
/-- the end: names put together -/
theorem path_of {nm : List (List Nat)} (h : ∀ x ∈ nm, ∀ c ∈ x, c ∈ small) (hw : wt nm ≤ 40) : isPath (if !(joinL [47] (nm.filter fun x => !(x == []))).isEmpty then joinL [47] (nm.filter fun x => !(x == [])) else [97]) = true := by
  have hf : ∀ x ∈ nm.filter (fun x => !(x == [])), x ≠ [] ∧ ∀ c ∈ x, c ∈ small := fun x hx => by
    rw [List.mem_filter] at hx
    exact ⟨by simpa using hx.2, h x hx.1⟩
  have hl := Nat.le_trans (Nat.le_trans (joinL_wt 47 (nm.filter fun x => !(x == []))) (wt_filter _ nm)) hw
  generalize nm.filter (fun x => !(x == [])) = l at hf hl
  cases l with
  | nil => decide
  | cons x r =>
    split
    · rw [isPath, decide_eq_false (by omega), split_join 47 _ (by simp) fun y hy => small_no47 (hf y hy).2, Bool.not_false, Bool.true_and, List.all_eq_true]
      exact fun y hy => isName_of (hf y hy).1 (hf y hy).2
    · decide
theorem eqvs_nil2 (rs : List Row) : eqvs (rs.map rowD) [] = rs.isEmpty := by cases rs <;> simp [eqvs]
theorem b_muls {k k' : Kd} {x : List Nat} {j : Int} (h : -1000000 ≤ j) (h2 : j ≤ 1000000) (h3 : x.length * j.toNat ≤ 1000000) : bopW .mul ⟨k, .d (.str x)⟩ ⟨k', .d (.int j)⟩ = some ⟨.sh, .d (.str (List.replicate j.toNat x).flatten)⟩ := c_bop (z := .str (List.replicate j.toNat x).flatten) (by simp [binop, h, h2, isize, h3])
/-- any data of a range -/
theorem rng_mem {n : Nat} {d : D} (h : d ∈ rngL 0 n) : ∃ i : Int, d = .int i := by
  simp [rngL] at h
  obtain ⟨i, _, e⟩ := h
  exact ⟨i, e.symm⟩
theorem p_near (h14 : ∀ s k : Int, cl 14 [.d (.int s), .d (.int k)] = okv (.int (seed s k))) (h15 : ∀ s m : Int, 0 < m → cl 15 [.d (.int s), .d (.int m)] = okv (.int (pick s m)))
    (h20 : ∀ (sd : Int) (p : List Nat), (∀ c ∈ p, c ∈ small ∨ c = 63 ∨ c = 42) → p.length ≤ 1000 → ∃ s, cl 20 [.d (.int sd), .d (.str p)] = okv (.str s) ∧ s.length ≤ 3 * p.length ∧ ∀ c ∈ s, c ∈ small)
    (sd : Int) (rs : List Row) (hr : isRows rs = true) : ∃ s, fin (xss cl sup fuel (start F_law_near.ns [.d (.int sd), .d (.tup (rs.map rowD))]) F_law_near.body) = okv (.str s) ∧ isPath s = true := by
  obtain ⟨hlen, hall⟩ := rows_all hr
  show (fun o => ∃ s, fin o = okv (.str s) ∧ isPath s = true) (xss cl sup fuel (start F_law_near.ns [.d (.int sd), .d (.tup (rs.map rowD))]) F_law_near.body)
  unfold F_law_near
  rw [x_asg e_con c_puts rfl]
  have hdep := depths_rows rs
  have g : ∀ ρ : Env, ρ[0]? = some (some (false, .d (.int sd))) → ρ[1]? = some (some (false, .d (.tup (rs.map rowD)))) → ev cl ρ (.or (.cmp .eq (.var 1) (.tup .nil)) (.cmp .eq (.bop .mod (.bop .fdiv (.var 0) (.con (.int 5))) (.con (.int 5))) (.con (.int 0)))) = okv (.bl (rs.isEmpty || sd / 5 % 5 == 0)) := fun ρ e0 e1 => e_or ((e_cmp (e_vs e1) (e_tup e_nil rfl) (k_eqt (by omega))).trans (by rw [eqvs_nil2])) fun _ => e_cmp (e_bop (e_bop (e_vs e0) e_con (b_fdiv (by omega) (by omega))) e_con (b_mod (by omega))) e_con k_eqi
  cases hb : (rs.isEmpty || sd / 5 % 5 == 0) with
  | true =>
    rw [x_ift ((g _ rfl rfl).trans (by rw [hb])) rfl]
    have hm := mod_lo (sd / 7) 6 (by omega)
    have hm2 := mod_lo (sd / 11) 2 (by omega)
    obtain ⟨ys, ey, ly, py⟩ := compL_ex (f := compF (.nm 4) (List.set (start 9 [Xv.d (.int sd), .d (.tup (rs.map rowD))]) 2 (some (false, .d (.str [97, 98, 99, 100, 101, 120, 121, 122])))) (fun ρ' => ev cl ρ' (.con (.bl true))) (fun ρ' => ev cl ρ' (.idx (.var 2) (.call 15 (.cons (.call 14 (.cons (.var 0) (.cons (.var 4) .nil))) (.cons (.con (.int 8)) .nil)))))) (P := fun y => ∃ c ∈ small, y = D.str [c]) (rngL 0 (1 + sd / 7 % 6).toNat) fun d hd => by
      obtain ⟨i, rfl⟩ := rng_mem hd
      have hk := pick_lo (seed sd i) 8 (by omega)
      obtain ⟨c, ec, mc⟩ := atS_lt [97, 98, 99, 100, 101, 120, 121, 122] (pick (seed sd i) 8) hk.1 (by simp; omega)
      refine ⟨.str [c], ?_, c, (by decide : ∀ c ∈ [97, 98, 99, 100, 101, 120, 121, 122], c ∈ small) c mc, rfl⟩
      exact c_turn (w := sv (.str [c])) t_nm (wc := sv (.bl true)) e_con rfl fun _ => ⟨e_idx (e_vs rfl) (e_call (e_cons (e_call (e_cons (e_vs rfl) rfl (e_cons (e_vs rfl) rfl e_nil)) (h14 sd i)) rfl (e_cons e_con rfl e_nil)) (h15 _ 8 (by omega))) (c_idx (c_ixs ec)), rfl⟩
    obtain ⟨cs, rfl, lc, sc⟩ := chars_of ys py
    have ln : cs.length = (1 + sd / 7 % 6).toNat := by rw [lc, ly]; simp [rngL]
    have hcs : cs ≠ [] := fun e => by rw [e] at ln; simp at ln; omega
    have hj : (joinL [] (cs.map fun c => [c])).length ≤ 1000000 := by rw [joinL_nil]; omega
    rw [x_asg (c_comp (e_rng1 (e_bop e_con (e_bop (e_bop (e_vs rfl) e_con (b_fdiv (by omega) (by omega))) e_con (b_mod (by omega))) b_addi) (c_rng1 (by omega) (by omega))) ey (by rw [List.length_map, List.length_map]; omega)) c_putf rfl]
    have key : ∀ j : Nat, j ≤ 1 → (if (sd / 11 % 2 == 0) = true then (1 : Int) else 0) = j → ∃ s, fin (RS.seq (.ok (.ret (sv (.str ((joinL [] (cs.map fun c => [c])) ++ (List.replicate (if (sd / 11 % 2 == 0) = true then (1 : Int) else 0).toNat [47]).flatten ++ (List.replicate (if (sd / 11 % 2 == 0) = true then (1 : Int) else 0).toNat [97]).flatten))))) (fun _ => RS.stuck)) = okv (.str s) ∧ isPath s = true := fun j hj ej => by
      refine ⟨_, rfl, ?_⟩
      rw [ej, joinL_nil]
      match j, hj with
      | 0, _ =>
        simp only [Int.toNat_natCast, List.replicate_zero, List.flatten_nil, List.append_nil]
        rw [isPath, decide_eq_false (by omega), splitC_none 47 cs (small_no47 sc)]
        simp [isName_of hcs sc]
      | 1, _ =>
        simp only [Int.toNat_natCast, List.replicate_one, List.flatten_cons, List.flatten_nil, List.append_nil, List.append_assoc, List.singleton_append]
        rw [isPath, decide_eq_false (by rw [List.length_append]; simp; omega), splitC_mid, splitC_none 47 cs (small_no47 sc)]
        have : splitC 47 [97] = [[97]] := by decide
        rw [this]
        simp [isName_of hcs sc]
        decide
    have e3 : (if (sd / 11 % 2 == 0) = true then (1 : Int) else 0) = 0 ∨ (if (sd / 11 % 2 == 0) = true then (1 : Int) else 0) = 1 := by split <;> simp
    have e4 : ∃ j : Nat, j ≤ 1 ∧ (if (sd / 11 % 2 == 0) = true then (1 : Int) else 0) = j := by
      rcases e3 with h | h
      · exact ⟨0, by omega, h⟩
      · exact ⟨1, by omega, h⟩
    obtain ⟨j, hj1, ej⟩ := e4
    have hjl : (joinL [] (cs.map fun c => [c])).length ≤ 10 := by rw [joinL_nil]; omega
    have hrl : ∀ c : Nat, (List.replicate (if (sd / 11 % 2 == 0) = true then (1 : Int) else 0).toNat [c]).flatten.length ≤ 1 := fun c => by rw [ej]; simp; omega
    have h47 := hrl 47
    have h97 := hrl 97
    have hint : ∀ ρ : Env, ρ[0]? = some (some (false, .d (.int sd))) → ev cl ρ (.b1 .int (.cmp .eq (.bop .mod (.bop .fdiv (.var 0) (.con (.int 11))) (.con (.int 2))) (.con (.int 0)))) = okv (.int (if (sd / 11 % 2 == 0) = true then (1 : Int) else 0)) := fun ρ e0 => e_b1 (e_cmp (e_bop (e_bop (e_vs e0) e_con (b_fdiv (by omega) (by omega))) e_con (b_mod (by omega))) e_con k_eqi) f_intb
    rw [x_ret (w := sv (.str ((joinL [] (cs.map fun c => [c])) ++ (List.replicate (if (sd / 11 % 2 == 0) = true then (1 : Int) else 0).toNat [47]).flatten ++ (List.replicate (if (sd / 11 % 2 == 0) = true then (1 : Int) else 0).toNat [97]).flatten))) (e_bop (e_bop (e_join e_con rfl (e_vo rfl) (c_join hj)) (e_bop e_con (hint _ rfl) (b_muls (by omega) (by omega) (by rw [ej]; simp; omega))) (b_adds (by omega))) (e_bop e_con (hint _ rfl) (b_muls (by omega) (by omega) (by rw [ej]; simp; omega))) (b_adds (by rw [List.length_append]; omega))) (by simp)]
    exact key j hj1 ej
  | false =>
    rw [x_iff ((g _ rfl rfl).trans (by rw [hb])) rfl]
    rw [x_nil]
    have hne : rs ≠ [] := fun e => by subst e; cases hb
    have hlp : 0 < rs.length := by cases rs with | nil => exact absurd rfl hne | cons => simp
    have hm := mod_lo (sd / 13) rs.length (by omega)
    obtain ⟨r, er, mr⟩ : ∃ r, at? (rs.map rowD) (sd / 13 % rs.length) = some (rowD r) ∧ r ∈ rs := by
      obtain ⟨d, ed, md⟩ := at_lt (α := Nat) (rs.map rowD) (sd / 13 % rs.length) hm.1 (by rw [List.length_map]; omega)
      obtain ⟨r, mr, rfl⟩ := List.mem_map.mp md
      exact ⟨r, ed, mr⟩
    have hpat := row_pat (hall r mr)
    have hp8 := pat_len hpat
    have hw := wt_split 47 r.2
    have hch : ∀ x ∈ splitC 47 r.2, ∀ c ∈ x, c ∈ small ∨ c = 63 ∨ c = 42 := fun x hx c hc => by
      simp only [isPattern, Bool.and_eq_true, List.all_eq_true] at hpat
      have := part_ch (hpat.2 x hx) c hc
      rw [List.mem_append] at this
      rcases this with z | z
      · exact .inl z
      · simp at z; exact .inr z
    rw [s_n (x_asg (e_lst e_nil rfl) c_putf rfl)]
    refine x_loopQ (fun q ρ => ∃ (i : Nat) (todo nm : List (List Nat)) (a b c : Option (Bool × Xv)), q = enumL i (todo.map .str) ∧ ρ = [some (false, .d (.int sd)), some (false, .d (.tup (rs.map rowD))), some (false, .d (.str [97, 98, 99, 100, 101, 120, 121, 122])), none, a, some (true, .d (.lst (nm.map .str))), b, c, none] ∧ (∀ x ∈ todo, x ∈ splitC 47 r.2) ∧ wt nm + 3 * wt todo ≤ 27 ∧ ∀ x ∈ nm, ∀ c ∈ x, c ∈ small) (Q := fun o => ∃ s, fin o = okv (.str s) ∧ isPath s = true) (ds := enumL 0 ((splitC 47 r.2).map .str)) ?_ ?_ ?_ ?_
    · exact e_enum (e_split (e_idx (e_idx (e_vs rfl) (e_bop (e_bop (e_vs rfl) e_con (b_fdiv (by omega) (by omega))) (e_b1 (e_vs rfl) f_lent) (b_mod (by rw [List.length_map]; omega))) (c_idx (c_ixt (by rw [List.length_map]; exact er)))) e_con (c_idx (c_ixt rfl))) rfl e_con c_split) c_enumf
    · exact ⟨0, splitC 47 r.2, [], none, none, none, rfl, rfl, fun x h => h, by rw [hw]; simp [wt]; omega, by simp⟩
    · rintro d q ρ ⟨i, todo, nm, a, b, c, e1, rfl, h1, h2, h3⟩
      cases todo with
      | nil => cases e1
      | cons t todo =>
        rw [List.map_cons, enumL, List.cons.injEq] at e1
        obtain ⟨rfl, rfl⟩ := e1
        refine .inl ?_
        rw [wt_cons] at h2
        have hnl : nm.length ≤ 27 := by
          have : ∀ l : List (List Nat), l.length ≤ wt l := fun l => by
            induction l with
            | nil => simp
            | cons x r ih => rw [wt_cons, List.length_cons]; omega
          have := this nm
          omega
        rw [turn_eq t_2]
        simp only [List.set_cons_succ, List.set_cons_zero]
        rw [x_asg (e_call (e_cons (e_vs rfl) rfl (e_cons (e_bop e_con (e_vs rfl) b_addi) rfl e_nil)) (h14 sd (30 + i))) c_puts rfl]
        simp only [List.set_cons_succ, List.set_cons_zero]
        have nxt : ∀ (v : List (List Nat)), wt v ≤ 3 * t.length + 1 → (∀ x ∈ v, ∀ c ∈ x, c ∈ small) → ∃ ρ', RS.ok (.nx [some (false, .d (.int sd)), some (false, .d (.tup (rs.map rowD))), some (false, .d (.str [97, 98, 99, 100, 101, 120, 121, 122])), none, some (false, .d (.int i)), some (true, .d (.lst (nm.map .str ++ v.map .str))), some (false, .d (.str t)), some (false, .d (.int (seed sd (30 + i)))), none]) = .ok (.nx ρ') ∧ ∃ (i_1 : Nat) (todo_1 nm : List (List Nat)) (a b c : Option (Bool × Xv)), enumL (i + 1) (todo.map .str) = enumL i_1 (todo_1.map .str) ∧ ρ' = [some (false, .d (.int sd)), some (false, .d (.tup (rs.map rowD))), some (false, .d (.str [97, 98, 99, 100, 101, 120, 121, 122])), none, a, some (true, .d (.lst (nm.map .str))), b, c, none] ∧ (∀ x ∈ todo_1, x ∈ splitC 47 r.2) ∧ wt nm + 3 * wt todo_1 ≤ 27 ∧ ∀ x ∈ nm, ∀ c ∈ x, c ∈ small := fun v hv hs => ⟨_, rfl, i + 1, todo, nm ++ v, _, _, _, rfl, by rw [List.map_append], fun x hx => h1 x (List.mem_cons_of_mem _ hx), by rw [wt_app]; omega, fun x hx => by
          rcases List.mem_append.mp hx with z | z
          · exact h3 x z
          · exact hs x z⟩
        by_cases ht : t = [42, 42]
        · subst ht
          have hm3 := mod_lo (seed sd (30 + i) / 7) 3 (by omega)
          obtain ⟨v, ev', hv, hvs⟩ : ∃ v : List (List Nat), cut [D.str [98], .str [122, 97]] none (some (seed sd (30 + i) / 7 % 3)) = v.map .str ∧ wt v ≤ 5 ∧ ∀ x ∈ v, ∀ c ∈ x, c ∈ small := by
            have h012 : seed sd (30 + i) / 7 % 3 = 0 ∨ seed sd (30 + i) / 7 % 3 = 1 ∨ seed sd (30 + i) / 7 % 3 = 2 := by omega
            rcases h012 with h | h | h <;> rw [h]
            · exact ⟨[], rfl, by decide, by decide⟩
            · exact ⟨[[98]], rfl, by decide, by decide⟩
            · exact ⟨[[98], [122, 97]], rfl, by decide, by decide⟩
          have hvl : v.length ≤ 5 := by
            have : ∀ l : List (List Nat), l.length ≤ wt l := fun l => by
              induction l with
              | nil => simp
              | cons x r ih => rw [wt_cons, List.length_cons]; omega
            have := this v
            omega
          have hcat : (nm.map D.str).length + (v.map D.str).length ≤ 1000000 := by rw [List.length_map, List.length_map]; omega
          rw [x_ift (e_cmp (e_vs rfl) e_con k_eqs) (s_q (x_asg (w := ⟨.fr, .d (.lst (nm.map .str ++ v.map .str))⟩) (e_bop (e_vo rfl) (e_slice (e_lst (e_cons e_con rfl (e_cons e_con rfl e_nil)) rfl) e_omit rfl (e_bop (e_bop (e_vs rfl) e_con (b_fdiv (by omega) (by omega))) e_con (b_mod (by omega))) rfl (c_slice (c_sll.trans (by rw [ev'])))) (b_addl hcat)) c_putf x_nil) (s_n x_nil))]
          exact nxt v (by simp; omega) hvs
        · have ne : (t == [42, 42]) = false := beq_eq_false_iff_ne.mpr ht
          have htl : t.length ≤ 1000 := by
            have := splitC_le 47 r.2 t (h1 t (List.mem_cons_self ..))
            omega
          obtain ⟨s, es, ls, ss⟩ := h20 (seed sd (30 + i)) t (hch t (h1 t (List.mem_cons_self ..))) htl
          rw [x_iff ((e_cmp (e_vs rfl) e_con k_eqs).trans (by rw [ne])) (s_q (x_frz rfl (x_app (d := .str s) rfl (e_call (e_cons (e_vs rfl) rfl (e_cons (e_vs rfl) rfl e_nil)) es) rfl (by rw [List.length_map]; omega) x_nil)) (s_n x_nil))]
          exact nxt [s] (by simp [wt]; omega) fun x hx => by rw [List.mem_singleton.mp hx]; exact ss
    · rintro ρ ⟨i, todo, nm, a, b, c, e1, rfl, h1, h2, h3⟩
      have hwn : wt nm ≤ 40 := by omega
      have hnl : nm.length ≤ 27 := by
        have : ∀ l : List (List Nat), l.length ≤ wt l := fun l => by
          induction l with
          | nil => simp
          | cons x r ih => rw [wt_cons, List.length_cons]; omega
        have := this nm
        omega
      refine ⟨_, ?_, path_of h3 hwn⟩
      have hjn := Nat.le_trans (joinL_wt 47 (nm.filter fun x => !(x == []))) (wt_filter _ nm)
      rw [x_frzo rfl (x_ret (e_orv (x := sv (.str (joinL [47] (nm.filter fun x => !(x == []))))) (y := sv (.str [97])) (e_join e_con rfl (y := ⟨.fr, .d (.lst ((nm.filter fun x => !(x == [])).map .str))⟩) (c_comp (e_val (e_vs rfl) c_vall) (compL_map (p := fun x => !(x == [])) nm fun x hx => c_turn (w := sv (.str x)) t_nm (wc := sv (.bl (!(x == [])))) (e_cmp (e_vs rfl) e_con k_nes) rfl fun _ => ⟨e_vs rfl, rfl⟩) (by rw [List.length_map]; exact Nat.le_trans (List.length_filter_le ..) (by omega))) (c_join (by omega))) rfl fun _ => e_con) (by split <;> simp))]
      rw [c_trus]
      split <;> rfl
end
end Q7.P
end

section
set_option autoImplicit false
set_option Elab.async false
set_option linter.all false
set_option maxRecDepth 100000
namespace Q7.P
section
variable {cl : Nat → List Xv → R W} {sup : Nat → Nat → Option Bool} {fuel : Nat}
theorem cut_map {α β : Type} (f : α → β) (l : List α) (a b : Option Int) : cut (l.map f) a b = (cut l a b).map f := by
  simp only [cut, List.length_map, List.map_take, List.map_drop]
/-- rows, or things of which one is no row -/
def Sp (ds : List D) : Prop := (∃ rs : List Row, ds = rs.map rowD) ∨ ∃ d ∈ ds, isRowD d = false
theorem Sp.app {ds : List D} (h : Sp ds) (rs : List Row) : Sp (ds ++ rs.map rowD) := by
  rcases h with ⟨q, rfl⟩ | ⟨d, hd, hf⟩
  · exact .inl ⟨q ++ rs, by rw [List.map_append]⟩
  · exact .inr ⟨d, List.mem_append_left _ hd, hf⟩
theorem t_21 {i j : Nat} {x y : D} {ρ : Env} : asg ρ (.tp [.nm i, .nm j]) ⟨.sh, .d (.tup [x, y])⟩ = some ((ρ.set i (some (false, .d x))).set j (some (false, .d y))) := c_asgt.trans t_2
theorem rows_of (ys : List D) (h : ∀ y ∈ ys, ∃ r : Row, y = rowD r) : ∃ rs : List Row, ys = rs.map rowD := by
  induction ys with
  | nil => exact ⟨[], rfl⟩
  | cons y l ih =>
    obtain ⟨r, rfl⟩ := h y (List.mem_cons_self ..)
    obtain ⟨rs, rfl⟩ := ih fun z hz => h z (List.mem_cons_of_mem _ hz)
    exact ⟨r :: rs, rfl⟩
theorem p_spoilt (ns : List Int) (h12 : ∀ k : Nat, cl 12 [.d (.lst (ns.map .int)), .d (.int k)] = okv (.int (cell ns k)))
    (h13 : ∀ c prime many : Int, 0 < prime → prime < 100000 → 0 < many → cl 13 [.d (.int c), .d (.int prime), .d (.int many)] = okv (.int (mix c prime many)))
    (rs : List Row) (hr : isRows rs = true) : ∃ ds, fin (xss cl sup fuel (start F_law_spoilt_rows.ns [.d (.lst (ns.map .int)), .d (.tup (rs.map rowD))]) F_law_spoilt_rows.body) = okv (.tup ds) ∧ Sp ds := by
  obtain ⟨hlen, hall⟩ := rows_all hr
  have h1 : cl 12 [.d (.lst (ns.map .int)), .d (.int 1)] = okv (.int (cell ns 1)) := h12 1
  have h2 : cl 12 [.d (.lst (ns.map .int)), .d (.int 2)] = okv (.int (cell ns 2)) := h12 2
  have h3 : cl 12 [.d (.lst (ns.map .int)), .d (.int 3)] = okv (.int (cell ns 3)) := h12 3
  have h4 : cl 12 [.d (.lst (ns.map .int)), .d (.int 4)] = okv (.int (cell ns 4)) := h12 4
  have h5 : cl 12 [.d (.lst (ns.map .int)), .d (.int 5)] = okv (.int (cell ns 5)) := h12 5
  have h6 : cl 12 [.d (.lst (ns.map .int)), .d (.int 6)] = okv (.int (cell ns 6)) := h12 6
  have h7 : cl 12 [.d (.lst (ns.map .int)), .d (.int 7)] = okv (.int (cell ns 7)) := h12 7
  have hm33 := mod_lo (cell ns 1) 33 (by omega)
  obtain ⟨ch, ech, _⟩ := atS_lt [97, 98, 99, 100, 101, 102, 103, 104, 105, 106, 107, 108, 109, 110, 111, 112, 113, 114, 115, 116, 117, 118, 119, 120, 121, 122, 63, 42, 47, 43, 45, 32, 65] (cell ns 1 % 33) hm33.1 (by simp; omega)
  have hdep := depths_rows rs
  show (fun o => ∃ ds, fin o = okv (.tup ds) ∧ Sp ds) (xss cl sup fuel (start F_law_spoilt_rows.ns [.d (.lst (ns.map .int)), .d (.tup (rs.map rowD))]) F_law_spoilt_rows.body)
  -- the second half
  have half : ∀ (ds : List D) (hds : ds.length ≤ 100) (hsp : Sp ds) (a b c d e f g : Option (Bool × Xv)), (fun o => ∃ ds, fin o = okv (.tup ds) ∧ Sp ds) (xss cl sup fuel [some (false, .d (.lst (ns.map .int))), some (false, .d (.tup ds)), some (false, .d (.str small)), some (false, .d (.str [ch])), a, b, c, d, e, f, g, none, none] (.cons (.ifs (.cmp .eq (.bop .mod (.call 12 (.cons (.var 0) (.cons (.con (.int 6)) .nil))) (.con (.int 5))) (.con (.int 0)))
(.cons (.asg (.nm 11) (.comp (.nm 12) (.rng1 (.con (.int 5))) (.con (.bl true)) (.tup (.cons (.con (.str [43])) (.cons (.idx (.var 2) (.bop .mod (.bop .add (.bop .mul (.var 12) (.con (.int 5))) (.call 12 (.cons (.var 0) (.cons (.con (.int 7)) .nil)))) (.con (.int 26)))) .nil)))))
(.cons (.asg (.nm 1) (.bop .add (.var 1) (.b1 .tuple (.slice (.var 11) .omit (.bop .mod (.call 12 (.cons (.var 0) (.cons (.con (.int 7)) .nil))) (.con (.int 6)))))))
.nil))
.nil)
(.cons (.ret (.var 1))
.nil))) := fun ds hds hsp a b c d e f g => by
    have gc : ∀ ρ : Env, ρ[0]? = some (some (false, .d (.lst (ns.map .int)))) → ev cl ρ (.cmp .eq (.bop .mod (.call 12 (.cons (.var 0) (.cons (.con (.int 6)) .nil))) (.con (.int 5))) (.con (.int 0))) = okv (.bl (cell ns 6 % 5 == 0)) := fun ρ e0 => e_cmp (e_bop (e_call (e_cons (e_vs e0) rfl (e_cons e_con rfl e_nil)) h6) e_con (b_mod (by omega))) e_con k_eqi
    cases hb : (cell ns 6 % 5 == 0) with
    | false =>
      rw [x_iff ((gc _ rfl).trans (by rw [hb])) (s_q x_nil (s_n (x_ret (e_vs rfl) (by simp))))]
      exact ⟨ds, rfl, hsp⟩
    | true =>
      obtain ⟨ys, ey, ly, py⟩ := compL_ex (f := compF (.nm 12) [some (false, Xv.d (.lst (ns.map .int))), some (false, .d (.tup ds)), some (false, .d (.str small)), some (false, .d (.str [ch])), a, b, c, d, e, f, g, none, none] (fun ρ' => ev cl ρ' (.con (.bl true))) (fun ρ' => ev cl ρ' (.tup (.cons (.con (.str [43])) (.cons (.idx (.var 2) (.bop .mod (.bop .add (.bop .mul (.var 12) (.con (.int 5))) (.call 12 (.cons (.var 0) (.cons (.con (.int 7)) .nil)))) (.con (.int 26)))) .nil))))) (P := fun y => ∃ r : Row, y = rowD r) (rngL 0 5) fun d hd => by
        obtain ⟨i, rfl⟩ := rng_mem hd
        have hk := mod_lo (i * 5 + cell ns 7) 26 (by omega)
        obtain ⟨c, ec, mc⟩ := atS_lt small (((i * 5 + cell ns 7) % 26)) hk.1 (by simp [small]; omega)
        refine ⟨rowD ([43], [c]), ?_, ([43], [c]), rfl⟩
        exact c_turn (w := sv (rowD ([43], [c]))) t_nm (wc := sv (.bl true)) e_con rfl fun _ => ⟨e_tup (e_cons e_con rfl (e_cons (e_idx (e_vs rfl) (e_bop (e_bop (e_bop (e_vs rfl) e_con (b_mul1 (by omega) (by omega))) (e_call (e_cons (e_vs rfl) rfl (e_cons e_con rfl e_nil)) h7) b_addi) e_con (b_mod (by omega))) (c_idx (c_ixs ec))) rfl e_nil)) rfl, rfl⟩
      obtain ⟨qs, rfl⟩ := rows_of ys py
      have lq : (qs.map rowD).length = 5 := ly
      have lc := cut_len (qs.map rowD) none (some (cell ns 7 % 6))
      rw [x_ift ((gc _ rfl).trans (by rw [hb])) (s_q (x_asg (c_comp (e_rng1 e_con (c_rng1 (by decide) (by decide))) ey (by omega)) c_putf (x_asg (e_bop (e_vs rfl) (e_b1 (e_slice (e_vo rfl) e_omit rfl (e_bop (e_call (e_cons (e_vs rfl) rfl (e_cons e_con rfl e_nil)) h7) e_con (b_mod (by omega))) rfl (c_slice c_sll)) f_tupl) (b_addt (by omega))) c_puts x_nil)) (s_n (x_ret (e_vs rfl) (by simp))))]
      rw [cut_map]
      exact ⟨_, rfl, hsp.app _⟩
  unfold F_law_spoilt_rows
  rw [x_asg e_con c_puts (x_asg (e_idx (e_bop (e_vs rfl) e_con (b_adds (by simp))) (e_bop (e_call (e_cons (e_vs rfl) rfl (e_cons e_con rfl e_nil)) h1) e_con (b_mod (by omega))) (c_idx (c_ixs ech))) c_puts rfl)]
  have gn : ∀ ρ : Env, ρ[1]? = some (some (false, .d (.tup (rs.map rowD)))) → ev cl ρ (.cmp .ne (.var 1) (.tup .nil)) = okv (.bl (!rs.isEmpty)) := fun ρ e1 => (e_cmp (e_vs e1) (e_tup e_nil rfl) (k_net (by omega))).trans (by rw [eqvs_nil2])
  by_cases hne : rs = []
  · have hb : (!rs.isEmpty) = false := by subst hne; rfl
    rw [x_iff ((gn _ rfl).trans (by rw [hb])) (s_q x_nil (s_n rfl))]
    exact half _ (by rw [List.length_map]; omega) (.inl ⟨rs, rfl⟩) none none none none none none none
  · have hb : (!rs.isEmpty) = true := by cases rs with | nil => exact absurd rfl hne | cons => rfl
    have hlp : 0 < rs.length := by cases rs with | nil => exact absurd rfl hne | cons => simp
    have hm := mod_lo (cell ns 2) rs.length (by omega)
    have hm4 := mod_lo (cell ns 4) 4 (by omega)
    have hm7 := mod_lo (cell ns 5) 7 (by omega)
    obtain ⟨r, er, mr⟩ : ∃ r, at? (rs.map rowD) (cell ns 2 % rs.length) = some (rowD r) ∧ r ∈ rs := by
      obtain ⟨d, ed, md⟩ := at_lt (α := Nat) (rs.map rowD) (cell ns 2 % rs.length) hm.1 (by rw [List.length_map]; omega)
      obtain ⟨r, mr, rfl⟩ := List.mem_map.mp md
      exact ⟨r, ed, mr⟩
    obtain ⟨w, p⟩ := r
    have hp8 := pat_len (row_pat (hall (w, p) mr))
    simp only at hp8
    obtain ⟨dm, em, mm⟩ := at_lt (α := Nat) [D.str [ch], .str [], .str [ch], .str [42, 42]] (cell ns 4 % 4) hm4.1 (by simp; omega)
    obtain ⟨md, rfl, hmd⟩ : ∃ md, dm = .str md ∧ md.length ≤ 2 := by
      simp only [List.mem_cons, List.not_mem_nil, or_false] at mm
      rcases mm with rfl | rfl | rfl | rfl <;> exact ⟨_, rfl, by simp⟩
    obtain ⟨dj, ej, mj⟩ := at_lt (α := Nat) [D.int 0, .int 1, .int 1, .int 0] (cell ns 4 % 4) hm4.1 (by simp; omega)
    obtain ⟨j, rfl⟩ : ∃ j, dj = .int j := by
      simp only [List.mem_cons, List.not_mem_nil, or_false] at mj
      rcases mj with rfl | rfl | rfl | rfl <;> exact ⟨_, rfl⟩
    rw [x_ift ((gn _ rfl).trans (by rw [hb])) rfl]
    rw [x_asg (e_bop (e_call (e_cons (e_vs rfl) rfl (e_cons e_con rfl e_nil)) h2) (e_b1 (e_vs rfl) f_lent) (b_mod (by rw [List.length_map]; omega))) c_puts rfl]
    rw [List.length_map]
    rw [x_asg (e_idx (e_vs rfl) (e_vs rfl) (c_idx (c_ixt er))) t_21 rfl]
    rw [x_asg (e_call (e_cons (e_call (e_cons (e_vs rfl) rfl (e_cons e_con rfl e_nil)) h3) rfl (e_cons e_con rfl (e_cons (e_bop (e_b1 (e_vs rfl) f_lens) e_con b_addi) rfl e_nil))) (h13 _ _ _ (by decide) (by decide) (by omega))) c_puts rfl]
    generalize mix (cell ns 3) 9949 (p.length + 1) = pl
    have l1 := cut_len p none (some pl)
    have l2 := cut_len p (some (pl + j)) none
    rw [x_asg (e_bop (e_call (e_cons (e_vs rfl) rfl (e_cons e_con rfl e_nil)) h4) e_con (b_mod (by omega))) c_puts rfl]
    rw [x_asg (w := sv (rowD (w, cut p none (some pl) ++ md ++ cut p (some (pl + j)) none))) (e_tup (e_cons (e_vs rfl) rfl (e_cons (e_bop (e_bop (e_slice (e_vs rfl) e_omit rfl (e_vs rfl) rfl (c_slice c_sls)) (e_idx (e_lst (e_cons (e_vs rfl) rfl (e_cons e_con rfl (e_cons (e_vs rfl) rfl (e_cons e_con rfl e_nil)))) rfl) (e_vs rfl) (c_idx (c_ixl em))) (b_adds (x := cut p none (some pl)) (y := md) (by omega))) (e_slice (e_vs rfl) (e_bop (e_vs rfl) (e_idx (e_lst (e_cons e_con rfl (e_cons e_con rfl (e_cons e_con rfl (e_cons e_con rfl e_nil)))) rfl) (e_vs rfl) (c_idx (c_ixl ej))) b_addi) rfl e_omit rfl (c_slice c_sls)) (b_adds (x := cut p none (some pl) ++ md) (y := cut p (some (pl + j)) none) (by rw [List.length_append]; omega))) rfl e_nil)) rfl) c_puts rfl]
    generalize cut p none (some pl) ++ md ++ cut p (some (pl + j)) none = q
    obtain ⟨dr, edr, mdr⟩ := at_lt (α := Nat) [rowD (w, q), rowD (w, q), rowD ([ch], p), .lst [.str w, .str q], .non, .tup [.str w, .non], .tup [.str w]] (cell ns 5 % 7) hm7.1 (by simp; omega)
    have hdr : (∃ r : Row, dr = rowD r) ∨ isRowD dr = false := by
      simp only [List.mem_cons, List.not_mem_nil, or_false] at mdr
      rcases mdr with rfl | rfl | rfl | rfl | rfl | rfl | rfl
      · exact .inl ⟨_, rfl⟩
      · exact .inl ⟨_, rfl⟩
      · exact .inl ⟨_, rfl⟩
      · exact .inr rfl
      · exact .inr rfl
      · exact .inr rfl
      · exact .inr rfl
    rw [x_asg (e_idx (e_lst (e_cons (e_vs rfl) rfl (e_cons (e_vs rfl) rfl (e_cons (e_tup (e_cons (e_vs rfl) rfl (e_cons (e_vs rfl) rfl e_nil)) rfl) rfl (e_cons (e_b1 (e_vs rfl) f_lstt) rfl (e_cons e_con rfl (e_cons (e_tup (e_cons (e_vs rfl) rfl (e_cons e_con rfl e_nil)) rfl) rfl (e_cons (e_tup (e_cons (e_vs rfl) rfl e_nil) rfl) rfl e_nil))))))) rfl) (e_bop (e_call (e_cons (e_vs rfl) rfl (e_cons e_con rfl e_nil)) h5) e_con (b_mod (by omega))) (c_idx (c_ixl edr))) c_puts rfl]
    have c1 := cut_len (rs.map rowD) none (some (cell ns 2 % rs.length))
    have c2 := cut_len (rs.map rowD) (some (cell ns 2 % rs.length + 1)) none
    rw [List.length_map] at c1 c2
    rw [x_asg (e_bop (e_bop (e_slice (e_vs rfl) e_omit rfl (e_vs rfl) rfl (c_slice c_slt)) (e_tup (e_cons (e_vs rfl) rfl e_nil) rfl) (b_addt (by simp; omega))) (e_slice (e_vs rfl) (e_bop (e_vs rfl) e_con b_addi) rfl e_omit rfl (c_slice c_slt)) (b_addt (by simp; omega))) c_puts x_nil]
    rw [s_n rfl]
    refine half _ (by simp; omega) ?_ _ _ _ _ _ _ _
    rw [cut_map, cut_map]
    rcases hdr with ⟨r', rfl⟩ | hf
    · exact .inl ⟨cut rs none (some (cell ns 2 % rs.length)) ++ [r'] ++ cut rs (some (cell ns 2 % rs.length + 1)) none, by simp⟩
    · exact .inr ⟨dr, by simp, hf⟩
end
end Q7.P
end

section
set_option autoImplicit false
set_option Elab.async false
set_option linter.all false
set_option maxRecDepth 100000
namespace Q7.P
section
variable {cl : Nat → List Xv → R W} {sup : Nat → Nat → Option Bool} {fuel : Nat}
theorem p_fits_pat (x y : D) (h3 : cl 3 [.d x] = okv (.bl false)) : fin (xss cl sup fuel (start F_fits.ns [.d x, .d y]) F_fits.body) = .exc 2 := by
  have h : xss cl sup fuel (start F_fits.ns [.d x, .d y]) F_fits.body = _ := x_ift (e_notb (p := false) (e_call (e_cons (e_vs rfl) rfl e_nil) h3)) (by rw [x_raise]; first | done | exact s_e)
  rw [h]; rfl
theorem p_fits_path (x y : D) (h3 : cl 3 [.d x] = okv (.bl true)) (h1 : cl 1 [.d y] = .exc 3) : fin (xss cl sup fuel (start F_fits.ns [.d x, .d y]) F_fits.body) = .exc 3 := by
  have h : xss cl sup fuel (start F_fits.ns [.d x, .d y]) F_fits.body = _ := x_iff (e_notb (p := true) (e_call (e_cons (e_vs rfl) rfl e_nil) h3)) (s_n (x_exe (e_call (e_cons (e_vs rfl) rfl e_nil) h1)))
  rw [h]; rfl
theorem p_has_bad (x y : D) (h7 : cl 7 [.d x] = .exc 1) : fin (xss cl sup fuel (start F_has.ns [.d x, .d y]) F_has.body) = .exc 1 := by
  have h : xss cl sup fuel (start F_has.ns [.d x, .d y]) F_has.body = _ := x_exe (e_call (e_cons (e_vs rfl) rfl e_nil) h7)
  rw [h]; rfl
theorem pat_no65 (s : List Nat) (h : 65 ∈ s) : isPattern s = false := by
  rw [← Bool.not_eq_true]
  intro hp
  simp only [isPattern, Bool.and_eq_true, List.all_eq_true] at hp
  obtain ⟨p, hm, hd⟩ := splitC_cov 47 65 (by decide) s h
  exact absurd (part_ch (hp.2 p hm) 65 hd) (by decide)
/-- what is no rows -/
def NotRows (x : D) : Prop := hasTy (.d x) .tuple = false ∨ (∃ ds, x = .tup ds ∧ ∃ d ∈ ds, isRowD d = false) ∨ ∃ rs : List Row, x = .tup (rs.map rowD) ∧ isRows rs = false
theorem p_k01 (ns : List Int)
    (h12 : ∀ k : Nat, cl 12 [.d (.lst (ns.map .int)), .d (.int k)] = okv (.int (cell ns k)))
    (h13 : ∀ c prime many : Int, 0 < prime → prime < 100000 → 0 < many → cl 13 [.d (.int c), .d (.int prime), .d (.int many)] = okv (.int (mix c prime many)))
    (h14 : ∀ s k : Int, cl 14 [.d (.int s), .d (.int k)] = okv (.int (seed s k)))
    (h18 : ∀ (sd : Int) (most : Nat), most ≤ 1000 → ∃ rs L, cl 18 [.d (.int sd), .d (.int most)] = okv (.tup (rs.map rowD)) ∧ GoodRows rs most L)
    (h19 : ∀ (sd : Int) (rs : List Row), isRows rs = true → ∃ s, cl 19 [.d (.int sd), .d (.tup (rs.map rowD))] = okv (.str s) ∧ isPath s = true)
    (h25 : ∀ rs : List Row, isRows rs = true → ∃ ds, cl 25 [.d (.lst (ns.map .int)), .d (.tup (rs.map rowD))] = okv (.tup ds) ∧ Sp ds)
    (h23 : ∀ rs : List Row, cl 23 [.d (.tup (rs.map rowD))] = okv (.bl (isRows rs)))
    (h23b : ∀ ds : List D, (∃ d ∈ ds, isRowD d = false) → cl 23 [.d (.tup ds)] = okv (.bl false))
    (h6 : ∀ rs : List Row, cl 6 [.d (.tup (rs.map rowD))] = okv (.bl (isRows rs)))
    (h6b : ∀ ds : List D, (∃ d ∈ ds, isRowD d = false) → cl 6 [.d (.tup ds)] = okv (.bl false))
    (h6o : ∀ x : D, hasTy (.d x) .tuple = false → cl 6 [.d x] = okv (.bl false))
    (h11 : ∀ x : D, NotRows x → cl 11 [.d x, .d .non] = .exc 1)
    (h0 : ∀ x : D, cl 0 [.d x] = okv (.bl (isPathD x)))
    (h21 : ∀ s : List Nat, cl 21 [.d (.str s)] = okv (.bl (isPath s)))
    (h3 : ∀ x : D, cl 3 [.d x] = okv (.bl (isPatD x)))
    (h22 : ∀ x : D, cl 22 [.d x] = okv (.bl (isPatD x)))
    (h24 : ∀ a b : Bool, cl 24 [.d (.bl a), .d (.bl b)] = okv (.bl (a == b)))
    (h10 : ∀ x y : D, isPatD x = false → cl 10 [.d x, .d y] = .exc 2)
    (h10b : ∀ x y : D, isPatD x = true → isPathD y = false → cl 10 [.d x, .d y] = .exc 3)
    (s11 : sup 1 1 = some true) (s21 : sup 2 1 = some false) (s22 : sup 2 2 = some true) (s31 : sup 3 1 = some false) (s32 : sup 3 2 = some false) (s33 : sup 3 3 = some true) :
    fin (xss cl sup fuel (start F_law_k01.ns [.d (.lst (ns.map .int))]) F_law_k01.body) = okv (.bl true) := by
  obtain ⟨rs, L, er, gr⟩ := h18 (seed (cell ns 0) 0) 5 (by decide)
  have er : cl 18 [.d (.int (seed (cell ns 0) 0)), .d (.int 5)] = okv (.tup (rs.map rowD)) := er
  have hr := gr.rows (Nat.le_refl 5)
  obtain ⟨ds, ed, sd⟩ := h25 rs hr
  obtain ⟨g, g23, g6, gt, gf⟩ : ∃ g : Bool, cl 23 [.d (.tup ds)] = okv (.bl g) ∧ cl 6 [.d (.tup ds)] = okv (.bl g) ∧ (g = true → ∃ rs, ds = rs.map rowD ∧ isRows rs = true) ∧ (g = false → NotRows (.tup ds)) := by
    rcases sd with ⟨q, rfl⟩ | hb
    · exact ⟨_, h23 q, h6 q, fun h => ⟨q, rfl, h⟩, fun h => .inr (.inr ⟨q, rfl, h⟩)⟩
    · exact ⟨_, h23b ds hb, h6b ds hb, fun h => (by cases h), fun _ => .inr (.inl ⟨ds, rfl, hb⟩)⟩
  obtain ⟨pa, ep, hpa⟩ : ∃ s, cl 19 [.d (.int (seed (cell ns 8) 0)), if g then .d (.tup ds) else .d (.tup [])] = okv (.str s) ∧ isPath s = true := by
    cases g with
    | true =>
      obtain ⟨q, rfl, hq⟩ := gt rfl
      exact h19 _ q hq
    | false => exact h19 _ [] rfl
  have hpl : pa.length ≤ 40 := by
    simp [isPath] at hpa; omega
  have hm33 := mod_lo (cell ns 1) 33 (by omega)
  have hm2 := mod_lo (cell ns 10) 2 (by omega)
  have hm3 := mod_lo (cell ns 11) 3 (by omega)
  have hm43 := mod_lo (cell ns 11) 43 (by omega)
  obtain ⟨ch, ech, _⟩ := atS_lt [97, 98, 99, 100, 101, 102, 103, 104, 105, 106, 107, 108, 109, 110, 111, 112, 113, 114, 115, 116, 117, 118, 119, 120, 121, 122, 63, 42, 47, 43, 45, 32, 65] (cell ns 1 % 33) hm33.1 (by simp; omega)
  have hab : (List.replicate (22 : Int).toNat [97, 98]).flatten.length = 44 := by decide
  generalize hAB : (List.replicate (22 : Int).toNat [97, 98]).flatten = AB at hab
  obtain ⟨dm, em, mm⟩ := at_lt (α := Nat) [D.str [], .str [], .str ([47] ++ AB)] (cell ns 11 % 3) hm3.1 (by simp; omega)
  obtain ⟨ad, rfl, had⟩ : ∃ md, dm = .str md ∧ md.length ≤ 45 := by
    simp only [List.mem_cons, List.not_mem_nil, or_false] at mm
    rcases mm with rfl | rfl | rfl
    · exact ⟨_, rfl, by simp⟩
    · exact ⟨_, rfl, by simp⟩
    · exact ⟨_, rfl, by simp; omega⟩
  have a0 : cl 12 [.d (.lst (ns.map .int)), .d (.int 0)] = okv (.int (cell ns 0)) := h12 0
  have a1 : cl 12 [.d (.lst (ns.map .int)), .d (.int 1)] = okv (.int (cell ns 1)) := h12 1
  have a8 : cl 12 [.d (.lst (ns.map .int)), .d (.int 8)] = okv (.int (cell ns 8)) := h12 8
  have a9 : cl 12 [.d (.lst (ns.map .int)), .d (.int 9)] = okv (.int (cell ns 9)) := h12 9
  have a10 : cl 12 [.d (.lst (ns.map .int)), .d (.int 10)] = okv (.int (cell ns 10)) := h12 10
  have a11 : cl 12 [.d (.lst (ns.map .int)), .d (.int 11)] = okv (.int (cell ns 11)) := h12 11
  have hgoal : xss cl sup fuel (start F_law_k01.ns [.d (.lst (ns.map .int))]) F_law_k01.body = .ok (.ret (sv (.bl true))) := by
    unfold F_law_k01
    refine x_asg (e_call (e_cons (e_vs rfl) rfl (e_cons (e_call (e_cons (e_call (e_cons (e_call (e_cons (e_vs rfl) rfl (e_cons e_con rfl e_nil)) a0) rfl (e_cons e_con rfl e_nil)) (h14 _ _)) rfl (e_cons e_con rfl e_nil)) er) rfl e_nil)) ed) c_puts (x_frz rfl ?_)
    refine x_asg (e_call (e_cons (e_vs rfl) rfl e_nil) g23) c_puts (x_frz rfl ?_)
    refine x_asg (w := sv (.str pa)) ?_ c_puts ?_
    · refine e_call (vs := [.d (.int (seed (cell ns 8) 0)), if g then .d (.tup ds) else .d (.tup [])]) (e_cons (e_call (e_cons (e_call (e_cons (e_vs rfl) rfl (e_cons e_con rfl e_nil)) a8) rfl (e_cons e_con rfl e_nil)) (h14 _ _)) rfl (e_cons (e_ite (y := sv (.tup ds)) (z := sv (.tup [])) (e_vs rfl) rfl (fun _ => e_vs rfl) (fun _ => e_tup e_nil rfl)) ?_ e_nil)) ep
      cases g <;> rfl
    refine x_asg (e_call (e_cons (e_call (e_cons (e_vs rfl) rfl (e_cons e_con rfl e_nil)) a9) rfl (e_cons e_con rfl (e_cons (e_bop (e_b1 (e_vs rfl) f_lens) e_con b_addi) rfl e_nil))) (h13 _ _ _ (by decide) (by decide) (by omega))) c_puts ?_
    generalize mix (cell ns 9) 9941 (pa.length + 1) = pl
    refine x_asg (e_idx e_con (e_bop (e_call (e_cons (e_vs rfl) rfl (e_cons e_con rfl e_nil)) a1) e_con (b_mod (by decide))) (c_idx (c_ixs ech))) c_puts ?_
    have l1 := cut_len pa none (some pl)
    have l2 := cut_len pa (some (pl + cell ns 10 % 2)) none
    refine x_asg (e_bop (e_bop (e_slice (e_vs rfl) e_omit rfl (e_vs rfl) rfl (c_slice c_sls)) (e_vs rfl) (b_adds (by simp; omega))) (e_slice (e_vs rfl) (e_bop (e_vs rfl) (e_bop (e_call (e_cons (e_vs rfl) rfl (e_cons e_con rfl e_nil)) a10) e_con (b_mod (by decide))) b_addi) rfl e_omit rfl (c_slice c_sls)) (b_adds (by simp; omega))) c_puts ?_
    have hol : (cut pa none (some pl) ++ [ch] ++ cut pa (some (pl + cell ns 10 % 2)) none).length ≤ 81 := by
      rw [List.length_append, List.length_append]; simp; omega
    generalize cut pa none (some pl) ++ [ch] ++ cut pa (some (pl + cell ns 10 % 2)) none = t1 at hol
    have l3 := cut_len ad none (some (cell ns 11 % 43))
    refine x_asg (e_bop (e_vs rfl) (e_slice (e_idx (e_lst (e_cons e_con rfl (e_cons e_con rfl (e_cons (e_bop e_con (e_bop e_con e_con (b_muls (by decide) (by decide) (by decide))) (b_adds (by rw [hAB]; simp; omega))) rfl e_nil))) rfl) (e_bop (e_call (e_cons (e_vs rfl) rfl (e_cons e_con rfl e_nil)) a11) e_con (b_mod (by decide))) (c_idx (c_ixl (by rw [hAB]; exact em)))) e_omit rfl (e_bop (e_call (e_cons (e_vs rfl) rfl (e_cons e_con rfl e_nil)) a11) e_con (b_mod (by decide))) rfl (c_slice c_sls)) (b_adds (by omega))) c_puts ?_
    have hol : (t1 ++ cut ad none (some (cell ns 11 % 43))).length ≤ 1000 := by
      rw [List.length_append]; omega
    generalize t1 ++ cut ad none (some (cell ns 11 % 43)) = tx at hol
    refine x_frz rfl (x_frz rfl (x_frz rfl ?_))
    refine x_iff (e_or0 (e_notb (p := true) ((e_call (e_cons (e_call (e_cons (e_vs rfl) rfl e_nil) g6) rfl (e_cons (e_vs rfl) rfl e_nil)) (h24 g g)).trans (by simp))) (e_notb (p := true) ((e_call (e_cons (e_call (e_cons (e_vs rfl) rfl e_nil) ((h0 _).trans (by rw [isPathD, hpa]))) rfl (e_cons e_con rfl e_nil)) (h24 true true)).trans rfl))) (s_n (x_frz rfl ?_))
    refine x_iff (e_or0 (e_notb (p := true) ((e_call (e_cons (e_call (e_cons (e_vs rfl) rfl e_nil) (h0 _)) rfl (e_cons (e_call (e_cons (e_vs rfl) rfl e_nil) (h21 tx)) rfl e_nil)) (h24 _ _)).trans (by simp [isPathD]))) (e_cmp (e_call (e_cons e_con rfl e_nil) (h0 .non)) e_con rfl)) (s_n ?_)
    refine x_iff (e_cmp (e_call (e_cons (e_lst (e_cons (e_tup (e_cons e_con rfl (e_cons e_con rfl e_nil)) rfl) rfl e_nil) rfl) rfl e_nil) (h6o _ rfl)) e_con rfl) (s_n (x_frz rfl ?_))
    refine x_loop (fun r ρ => ∃ a, ρ = [some (false, .d (.lst (ns.map .int))), some (false, .d (.tup ds)), some (false, .d (.bl g)), some (false, .d (.str pa)), some (false, .d (.int pl)), some (false, .d (.str [ch])), some (false, .d (.str tx)), a, none, none]) (e_val (e_tup (e_cons (e_vs rfl) rfl (e_cons (e_slice (e_vs rfl) e_omit rfl e_con rfl (c_slice c_sls)) rfl (e_cons (e_slice (e_vs rfl) e_omit rfl e_con rfl (c_slice c_sls)) rfl (e_cons (e_vs rfl) rfl (e_cons e_con rfl (e_cons e_con rfl e_nil)))))) rfl) c_valt) ⟨none, rfl⟩ ?_ ?_
    · rintro d r ρ ⟨a, rfl⟩
      refine .inl ⟨_, (turn_eq t_nm).trans (x_iff (e_notb (p := true) ((e_call (e_cons (e_call (e_cons (e_vs rfl) rfl e_nil) (h3 d)) rfl (e_cons (e_call (e_cons (e_vs rfl) rfl e_nil) (h22 d)) rfl e_nil)) (h24 _ _)).trans (by simp))) (s_n x_nil)), some (false, .d d), rfl⟩
    rintro ρ ⟨a, rfl⟩
    refine x_asg (e_lst e_nil rfl) c_putf ?_
    simp only [List.set_cons_succ, List.set_cons_zero]
    have y0 : cl 11 [if g then .d .non else .d (.tup ds), .d .non] = .exc 1 := by
      cases g with
      | true => exact h11 .non (.inl rfl)
      | false => exact h11 _ (gf rfl)
    have y1 : cl 10 [.d (.str ((List.replicate (2 : Int).toNat [ch]).flatten ++ [65])), .d .non] = .exc 2 := h10 _ _ (pat_no65 _ (by simp))
    have y2 : cl 10 [.d (.str [97]), if isPath tx then .d (.int 7) else .d (.str tx)] = .exc 3 := by
      cases ht : isPath tx with
      | true => exact h10b _ _ (by decide) rfl
      | false => exact h10b _ _ (by decide) ht
    refine x_turn3 (a0 := .int 0) (a1 := .int 1) (a2 := .int 2) (e_rng1 e_con (c_rng1 (by decide) (by decide))) (ρ1 := [some (false, .d (.lst (ns.map .int))), some (false, .d (.tup ds)), some (false, .d (.bl g)), some (false, .d (.str pa)), some (false, .d (.int pl)), some (false, .d (.str [ch])), some (false, .d (.str tx)), a, some (true, .d (.lst [.str [114, 111, 119, 115]])), some (false, .d (.int 0))]) (ρ2 := [some (false, .d (.lst (ns.map .int))), some (false, .d (.tup ds)), some (false, .d (.bl g)), some (false, .d (.str pa)), some (false, .d (.int pl)), some (false, .d (.str [ch])), some (false, .d (.str tx)), a, some (true, .d (.lst [.str [114, 111, 119, 115], .str [112, 97, 116, 116, 101, 114, 110]])), some (false, .d (.int 1))]) (ρ3 := [some (false, .d (.lst (ns.map .int))), some (false, .d (.tup ds)), some (false, .d (.bl g)), some (false, .d (.str pa)), some (false, .d (.int pl)), some (false, .d (.str [ch])), some (false, .d (.str tx)), a, some (true, .d (.lst [.str [114, 111, 119, 115], .str [112, 97, 116, 116, 101, 114, 110], .str [112, 97, 116, 104]])), some (false, .d (.int 2))]) ?_ ?_ ?_ ?_
    · refine (turn_eq t_nm).trans (x_tre (c := 1) (x_ift (e_cmp (e_vs rfl) e_con k_eqi) (s_q (x_frz rfl (x_exe (e_call (vs := [if g then .d .non else .d (.tup ds), .d .non]) (e_cons (e_ite (y := sv .non) (z := sv (.tup ds)) (e_vs rfl) rfl (fun _ => e_con) (fun _ => e_vs rfl)) (by cases g <;> rfl) (e_cons e_con rfl e_nil)) y0))) s_e)) (h_yes s11 rfl) x_nil)
    · refine (turn_eq t_nm).trans (x_tre (c := 2) (x_iff (e_cmp (e_vs rfl) e_con k_eqi) (s_q (x_ift (e_cmp (e_vs rfl) e_con k_eqi) (s_q (x_exe (e_call (e_cons (e_bop (e_bop (e_vs rfl) e_con (b_muls (by decide) (by decide) (by simp))) e_con (b_adds (by simp))) rfl (e_cons e_con rfl e_nil)) y1)) s_e)) s_e)) (h_no s21 (h_yes s22 rfl)) x_nil)
    · refine (turn_eq t_nm).trans (x_tre (c := 3) (x_iff (e_cmp (e_vs rfl) e_con k_eqi) (s_q (x_iff (e_cmp (e_vs rfl) e_con k_eqi) (s_q (x_frz rfl (x_exe (e_call (vs := [.d (.str [97]), if isPath tx then .d (.int 7) else .d (.str tx)]) (e_cons e_con rfl (e_cons (e_ite (y := sv (.int 7)) (z := sv (.str tx)) (e_call (e_cons (e_vs rfl) rfl e_nil) (h21 tx)) rfl (fun _ => e_con) (fun _ => e_vs rfl)) (by rw [c_trub]; cases isPath tx <;> rfl) e_nil)) y2))) s_e)) s_e)) (h_no s31 (h_no s32 (h_yes s33 rfl))) x_nil)
    · exact x_ret ((e_cmp (e_vo rfl) (e_lst (e_cons e_con rfl (e_cons e_con rfl (e_cons e_con rfl e_nil))) rfl) (k_eql (by simp [depths, depth]))).trans (by rw [eqvs_refl])) (by simp)
  rw [hgoal]; rfl
end
end Q7.P
end

section
set_option autoImplicit false
set_option Elab.async false
set_option linter.all false
set_option maxRecDepth 100000
namespace Q7.P
/-- the functions of k01 and k02 -/
structure Base2 (T : Nat → Option Fn) : Prop where
  t0 : T 0 = some F_is_path
  t1 : T 1 = some F_look_path
  t8 : T 8 = some F_name_fits
  t9 : T 9 = some F_names_fit
  t10 : T 10 = some F_fits
  t11 : T 11 = some F_has
  t19 : T 19 = some F_law_near
  t20 : T 20 = some F_law_name
  t24 : T 24 = some F_law_as
section
variable {T : Nat → Option Fn} {sup : Nat → Nat → Option Bool} {fuel : Nat}
theorem r0 (C : Base2 T) (k : Nat) (x : D) : run T sup fuel (k + 1) 0 [.d x] = okv (.bl (isPathD x)) := (run_eq C.t0 rfl (by decide)).trans (p_is_pathD x)
theorem r1 (C : Base2 T) (k : Nat) (x : D) : run T sup fuel (k + 2) 1 [.d x] = if isPathD x then okv .non else .exc 3 := (run_eq C.t1 rfl (by decide)).trans (p_look_path (r0 C k) x)
theorem r24 (C : Base2 T) (k : Nat) (a b : Bool) : run T sup fuel (k + 1) 24 [.d (.bl a), .d (.bl b)] = okv (.bl (a == b)) := (run_eq C.t24 rfl (by decide)).trans (p_as a b)
theorem r20 (B : Base T) (C : Base2 T) (k : Nat) (sd : Int) (p : List Nat) (hp : ∀ c ∈ p, c ∈ small ∨ c = 63 ∨ c = 42) (hpl : p.length ≤ 1000) : ∃ s, run T sup fuel (k + 2) 20 [.d (.int sd), .d (.str p)] = okv (.str s) ∧ s.length ≤ 3 * p.length ∧ ∀ c ∈ s, c ∈ small := by
  obtain ⟨s, h, g⟩ := p_name (sup := sup) (fuel := fuel) (r14 (sup := sup) (fuel := fuel) B k) (r15 (sup := sup) (fuel := fuel) B k) sd p hp hpl
  exact ⟨s, (run_eq C.t20 rfl (by decide)).trans h, g⟩
theorem r19 (B : Base T) (C : Base2 T) (k : Nat) (sd : Int) (rs : List Row) (hr : isRows rs = true) : ∃ s, run T sup fuel (k + 3) 19 [.d (.int sd), .d (.tup (rs.map rowD))] = okv (.str s) ∧ isPath s = true := by
  obtain ⟨s, h, g⟩ := p_near (sup := sup) (fuel := fuel) (r14 (sup := sup) (fuel := fuel) B (k + 1)) (r15 (sup := sup) (fuel := fuel) B (k + 1)) (r20 (sup := sup) (fuel := fuel) B C k) sd rs hr
  exact ⟨s, (run_eq C.t19 rfl (by decide)).trans h, g⟩
theorem r3D (B : Base T) (k : Nat) (x : D) : run T sup fuel (k + 2) 3 [.d x] = okv (.bl (isPatD x)) := (run_eq B.t3 rfl (by decide)).trans (p_is_patternD (r2 B k) x)
theorem r5D (B : Base T) (k : Nat) (x : D) : run T sup fuel (k + 3) 5 [.d x] = okv (.bl (isRowD x)) := (run_eq B.t5 rfl (by decide)).trans (p_is_rowD (r3D B k) x)
theorem r6b (B : Base T) (k : Nat) (ds : List D) (hb : ∃ d ∈ ds, isRowD d = false) : run T sup fuel (k + 4) 6 [.d (.tup ds)] = okv (.bl false) := (run_eq B.t6 rfl (by decide)).trans (p_is_rows_bad (r5D B k) ds hb)
theorem run01 (B : Base T) (C : Base2 T) (t13 : T 13 = some F_law_mix) (t21 : T 21 = some F_law_is_path) (t22 : T 22 = some F_law_is_pattern) (t23 : T 23 = some F_law_are_rows) (t25 : T 25 = some F_law_spoilt_rows) (t : T 26 = some F_law_k01) (ns : List Int)
    (s11 : sup 1 1 = some true) (s21 : sup 2 1 = some false) (s22 : sup 2 2 = some true) (s31 : sup 3 1 = some false) (s32 : sup 3 2 = some false) (s33 : sup 3 3 = some true) : run T sup fuel 40 26 [.d (.lst (ns.map .int))] = okv (.bl true) := by
  refine (run_eq (k := 39) t rfl (by decide)).trans (p_k01 ns (r12 B 38 ns) (r13 B t13 38) (r14 B 38) (r18 B 35) (r19 B C 36) (fun rs hr => ?_) (r23 B t23 t22 37) (fun ds hb => ?_) (r6 B 35) (r6b B 35) (r6o B 38) (fun x hx => ?_) (r0 C 38) (fun s => ?_) (r3D B 37) (fun x => ?_) (r24 C 38) (fun x y hx => ?_) (fun x y hx hy => ?_) s11 s21 s22 s31 s32 s33)
  · obtain ⟨ds, h, g⟩ := p_spoilt (sup := sup) (fuel := fuel) ns (r12 (sup := sup) (fuel := fuel) B 37 ns) (r13 (sup := sup) (fuel := fuel) B t13 37) rs hr
    exact ⟨ds, (run_eq (k := 38) t25 rfl (by decide)).trans h, g⟩
  · exact (run_eq (k := 38) t23 rfl (by decide)).trans (p_lare_bad (fun x => (run_eq (k := 37) t22 rfl (by decide)).trans (p_lis_patternD x)) ds hb)
  · have hx' : run T sup fuel 37 6 [.d x] = okv (.bl false) := by
      rcases hx with h | ⟨ds, rfl, h⟩ | ⟨rs, rfl, h⟩
      · exact r6o B 36 x h
      · exact r6b B 33 ds h
      · exact (r6 B 33 rs).trans (by rw [h])
    exact (run_eq (k := 38) C.t11 rfl (by decide)).trans (p_has_bad x .non ((run_eq (k := 37) B.t7 rfl (by decide)).trans (p_look_odd x hx')))
  · exact (run_eq (k := 38) t21 rfl (by decide)).trans (p_lis_path s)
  · exact (run_eq (k := 38) t22 rfl (by decide)).trans (p_lis_patternD x)
  · exact (run_eq (k := 38) C.t10 rfl (by decide)).trans (p_fits_pat x y ((r3D B 36 x).trans (by rw [hx])))
  · exact (run_eq (k := 38) C.t10 rfl (by decide)).trans (p_fits_path x y ((r3D B 36 x).trans (by rw [hx])) ((r1 C 36 y).trans (by rw [hy]; rfl)))
end
end Q7.P
end

section
set_option autoImplicit false
set_option Elab.async false
set_option linter.all false
set_option maxRecDepth 100000
namespace Q7.P
/-- a star: any number of things are skipped -/
def starG {α : Type} (f : List α → Bool) : List α → Bool
  | [] => f []
  | x :: r => f (x :: r) || starG f r
/-- one thing is read -/
def headG {α : Type} (g : α → Bool) (f : List α → Bool) : List α → Bool
  | [] => false
  | d :: r => g d && f r
/-- whether a name fits a part -/
def nf : List Nat → List Nat → Bool
  | [] => fun n => n.isEmpty
  | c :: p => if c = 42 then starG (nf p) else headG (fun d => c == 63 || c == d) (nf p)
/-- whether names fit parts -/
def nsf : List (List Nat) → List (List Nat) → Bool
  | [] => fun n => n.isEmpty
  | c :: p => if c = [42, 42] then starG (nsf p) else headG (nf c) (nsf p)
theorem nf_nil (n : List Nat) : nf [] n = n.isEmpty := by rw [nf]
theorem nsf_nil (n : List (List Nat)) : nsf [] n = n.isEmpty := by rw [nsf]
theorem nf_ch {c : Nat} (h : c ≠ 42) (p n : List Nat) : nf (c :: p) n = headG (fun d => c == 63 || c == d) (nf p) n := by rw [nf, if_neg h]
theorem nsf_ch {c : List Nat} (h : c ≠ [42, 42]) (p n : List (List Nat)) : nsf (c :: p) n = headG (nf c) (nsf p) n := by rw [nsf, if_neg h]
theorem nf_star (p n : List Nat) : nf (42 :: p) n = starG (nf p) n := by rw [nf, if_pos rfl]
theorem nf_star0 (p : List Nat) : nf (42 :: p) [] = nf p [] := nf_star p []
theorem nf_star1 (p : List Nat) (d : Nat) (r : List Nat) : nf (42 :: p) (d :: r) = (nf p (d :: r) || nf (42 :: p) r) := by rw [nf_star, nf_star]; rfl
theorem nsf_star (p n : List (List Nat)) : nsf ([42, 42] :: p) n = starG (nsf p) n := by rw [nsf, if_pos rfl]
theorem nsf_star0 (p : List (List Nat)) : nsf ([42, 42] :: p) [] = nsf p [] := nsf_star p []
theorem nsf_star1 (p : List (List Nat)) (d : List Nat) (r : List (List Nat)) : nsf ([42, 42] :: p) (d :: r) = (nsf p (d :: r) || nsf ([42, 42] :: p) r) := by rw [nsf_star, nsf_star]; rfl
section
variable {cl : Nat → List Xv → R W} {sup : Nat → Nat → Option Bool} {fuel : Nat}
theorem f_booll {k : Kd} {s : List D} : b1W .bool ⟨k, .d (.lst s)⟩ = some ⟨.sh, .d (.bl (!s.isEmpty))⟩ := rfl
theorem any2 (c d : Nat) : ([D.str [63], .str [d]].any fun y => eqv y (.str [c])) = (c == 63 || c == d) := by
  have q : ∀ x : Nat, eqv (.str [x]) (.str [c]) = (c == x) := fun x => by
    rw [eqv, Bool.eq_iff_iff]
    simp only [beq_iff_eq, List.cons.injEq, and_true]
    exact ⟨Eq.symm, Eq.symm⟩
  rw [List.any_cons, List.any_cons, List.any_nil, q, q, Bool.or_false]
theorem p_name_fits (p n : List Nat) (hp : p.length ≤ 1000) (hn : n.length ≤ 1000) (h8 : ∀ p' n' : List Nat, p'.length + n'.length < p.length + n.length → cl 8 [.d (.str p'), .d (.str n')] = okv (.bl (nf p' n'))) : fin (xss cl sup fuel (start F_name_fits.ns [.d (.str p), .d (.str n)]) F_name_fits.body) = okv (.bl (nf p n)) := by
  have h : xss cl sup fuel (start F_name_fits.ns [.d (.str p), .d (.str n)]) F_name_fits.body = .ok (.ret (sv (.bl (nf p n)))) := by
    unfold F_name_fits
    cases p with
    | nil =>
      refine x_ift (e_cmp (e_vs rfl) e_con k_eqs) (s_q (x_ret (e_cmp (e_vs rfl) e_con k_eqs) (by simp)) ?_)
      rw [nf_nil, s_r]
      cases n <;> rfl
    | cons c p =>
      have c0 : ev cl (start 2 [Xv.d (.str (c :: p)), .d (.str n)]) (.cmp .eq (.var 0) (.con (.str []))) = okv (.bl false) := e_cmp (e_vs rfl) e_con k_eqs
      have ci : ev cl (start 2 [Xv.d (.str (c :: p)), .d (.str n)]) (.idx (.var 0) (.con (.int 0))) = okv (.str [c]) := e_idx (e_vs rfl) e_con (c_idx (c_ixs rfl))
      have cs : ev cl (start 2 [Xv.d (.str (c :: p)), .d (.str n)]) (.slice (.var 0) (.con (.int 1)) .omit) = okv (.str p) := e_slice (e_vs rfl) e_con rfl e_omit rfl ((c_slice c_sls).trans (by rw [cut_d1]; rfl))
      have cn : ∀ d r, n = d :: r → ev cl (start 2 [Xv.d (.str (c :: p)), .d (.str n)]) (.slice (.var 1) (.con (.int 1)) .omit) = okv (.str r) := fun d r e => e_slice (e_vs rfl) e_con rfl e_omit rfl ((c_slice c_sls).trans (by rw [cut_d1, e]; rfl))
      refine x_iff c0 (s_n ?_)
      by_cases hc : c = 42
      · subst hc
        refine x_ift (e_cmp ci e_con k_eqs) (s_q (x_ret (w := sv (.bl (nf (42 :: p) n))) ?_ (by simp)) s_r)
        have e1 : ev cl (start 2 [Xv.d (.str (42 :: p)), .d (.str n)]) (.call 8 (.cons (.slice (.var 0) (.con (.int 1)) .omit) (.cons (.var 1) .nil))) = okv (.bl (nf p n)) := e_call (e_cons cs rfl (e_cons (e_vs rfl) rfl e_nil)) (h8 p n (by simp))
        cases n with
        | nil =>
          rw [nf_star0]
          have e2 := e_or e1 fun _ => e_and0 (b := .call 8 (.cons (.var 0) (.cons (.slice (.var 1) (.con (.int 1)) .omit) .nil))) (e_cmp (o := .ne) (e_vs (i := 1) rfl) (e_con (d := .str [])) k_nes)
          rw [Bool.or_false] at e2
          exact e2
        | cons d r =>
          rw [nf_star1]
          exact e_or e1 fun _ => e_and1 (e_cmp (e_vs rfl) e_con k_nes) (e_call (e_cons (e_vs rfl) rfl (e_cons (cn d r rfl) rfl e_nil)) (h8 (42 :: p) r (by simp)))
      · have nc : ([c] == [42]) = false := by rw [beq_eq_false_iff_ne]; simp [hc]
        refine x_iff ((e_cmp ci e_con k_eqs).trans (by rw [nc])) (s_n (x_ret ?_ (by simp)))
        cases n with
        | nil =>
          rw [nf_ch hc]
          exact e_and0 (e_cmp (e_vs rfl) e_con k_nes)
        | cons d r =>
          rw [nf_ch hc]
          refine e_and1 (e_cmp (e_vs rfl) e_con k_nes) (e_and (p := c == 63 || c == d) ((e_cmp ci (e_tup (e_cons e_con rfl (e_cons (e_idx (e_vs rfl) e_con (c_idx (c_ixs rfl))) rfl e_nil)) rfl) k_int).trans ?_) fun _ => e_call (e_cons cs rfl (e_cons (cn d r rfl) rfl e_nil)) (h8 p r (by simp; omega)))
          have : ([D.str [63], .str [d]].any fun y => eqv y (.str [c])) = (c == 63 || c == d) := by
            exact any2 c d
          rw [this]
  rw [h]; rfl
theorem p_names_fit (ps ns : List (List Nat)) (h9 : ∀ p' n' : List (List Nat), p'.length + n'.length < ps.length + ns.length → (∀ x ∈ p', x ∈ ps) → (∀ x ∈ n', x ∈ ns) → cl 9 [.d (.lst (p'.map .str)), .d (.lst (n'.map .str))] = okv (.bl (nsf p' n')))
    (h8 : ∀ p ∈ ps, ∀ n ∈ ns, cl 8 [.d (.str p), .d (.str n)] = okv (.bl (nf p n))) : fin (xss cl sup fuel (start F_names_fit.ns [.d (.lst (ps.map .str)), .d (.lst (ns.map .str))]) F_names_fit.body) = okv (.bl (nsf ps ns)) := by
  have h : xss cl sup fuel (start F_names_fit.ns [.d (.lst (ps.map .str)), .d (.lst (ns.map .str))]) F_names_fit.body = .ok (.ret (sv (.bl (nsf ps ns)))) := by
    unfold F_names_fit
    cases ps with
    | nil =>
      refine x_ift ((e_notl (e_vs rfl)).trans rfl) (s_q (x_ret (e_notl (e_vs rfl)) (by simp)) ?_)
      rw [nsf_nil, s_r]
      cases ns <;> rfl
    | cons c p =>
      have ci : ev cl (start 2 [Xv.d (.lst ((c :: p).map .str)), .d (.lst (ns.map .str))]) (.idx (.var 0) (.con (.int 0))) = okv (.str c) := e_idx (e_vs rfl) e_con (c_idx (c_ixl rfl))
      have cs : ev cl (start 2 [Xv.d (.lst ((c :: p).map .str)), .d (.lst (ns.map .str))]) (.slice (.var 0) (.con (.int 1)) .omit) = okf (.lst (p.map .str)) := e_slice (e_vs rfl) e_con rfl e_omit rfl ((c_slice c_sll).trans (by rw [cut_d1]; rfl))
      have cn : ∀ d r, ns = d :: r → ev cl (start 2 [Xv.d (.lst ((c :: p).map .str)), .d (.lst (ns.map .str))]) (.slice (.var 1) (.con (.int 1)) .omit) = okf (.lst (r.map .str)) := fun d r e => e_slice (e_vs rfl) e_con rfl e_omit rfl ((c_slice c_sll).trans (by rw [cut_d1, e]; rfl))
      refine x_iff ((e_notl (e_vs rfl)).trans rfl) (s_n ?_)
      by_cases hc : c = [42, 42]
      · subst hc
        refine x_ift (e_cmp ci e_con k_eqs) (s_q (x_ret (w := sv (.bl (nsf ([42, 42] :: p) ns))) ?_ (by simp)) s_r)
        have e1 : ev cl (start 2 [Xv.d (.lst (([42, 42] :: p).map .str)), .d (.lst (ns.map .str))]) (.call 9 (.cons (.slice (.var 0) (.con (.int 1)) .omit) (.cons (.var 1) .nil))) = okv (.bl (nsf p ns)) := e_call (e_cons cs rfl (e_cons (e_vs rfl) rfl e_nil)) (h9 p ns (by simp) (fun x h => List.mem_cons_of_mem _ h) (fun x h => h))
        cases ns with
        | nil =>
          rw [nsf_star0]
          have e2 := e_or e1 fun _ => e_and0 (b := .call 9 (.cons (.var 0) (.cons (.slice (.var 1) (.con (.int 1)) .omit) .nil))) (e_b1 (o := .bool) (e_vs (i := 1) rfl) f_booll)
          rw [Bool.or_false] at e2
          exact e2
        | cons d r =>
          rw [nsf_star1]
          exact e_or e1 fun _ => e_and1 (e_b1 (e_vs rfl) f_booll) (e_call (e_cons (e_vs rfl) rfl (e_cons (cn d r rfl) rfl e_nil)) (h9 ([42, 42] :: p) r (by simp) (fun x h => h) (fun x h => List.mem_cons_of_mem _ h)))
      · have nc : (c == [42, 42]) = false := beq_eq_false_iff_ne.mpr hc
        refine x_iff ((e_cmp ci e_con k_eqs).trans (by rw [nc])) (s_n (x_ret ?_ (by simp)))
        cases ns with
        | nil =>
          rw [nsf_ch hc]
          exact e_and0 (e_b1 (e_vs rfl) f_booll)
        | cons d r =>
          rw [nsf_ch hc]
          exact e_and1 (e_b1 (e_vs rfl) f_booll) (e_and (e_call (e_cons ci rfl (e_cons (e_idx (e_vs rfl) e_con (c_idx (c_ixl rfl))) rfl e_nil)) (h8 c (List.mem_cons_self ..) d (List.mem_cons_self ..))) fun _ => e_call (e_cons cs rfl (e_cons (cn d r rfl) rfl e_nil)) (h9 p r (by simp; omega) (fun x h => List.mem_cons_of_mem _ h) (fun x h => List.mem_cons_of_mem _ h)))
  rw [h]; rfl
/-- whether a path fits a pattern -/
def fitsS (p s : List Nat) : Bool := nsf (splitC 47 p) (splitC 47 s)
theorem p_fits (p s : List Nat) (h3 : cl 3 [.d (.str p)] = okv (.bl true)) (h1 : cl 1 [.d (.str s)] = okv .non) (h9 : cl 9 [.d (.lst ((splitC 47 p).map .str)), .d (.lst ((splitC 47 s).map .str))] = okv (.bl (fitsS p s))) : fin (xss cl sup fuel (start F_fits.ns [.d (.str p), .d (.str s)]) F_fits.body) = okv (.bl (fitsS p s)) := by
  have h : xss cl sup fuel (start F_fits.ns [.d (.str p), .d (.str s)]) F_fits.body = _ := x_iff (e_notb (p := true) (e_call (e_cons (e_vs rfl) rfl e_nil) h3)) (s_n (x_ex (e_call (e_cons (e_vs rfl) rfl e_nil) h1) (x_ret (e_call (e_cons (e_split (e_vs rfl) rfl e_con c_split) rfl (e_cons (e_split (e_vs rfl) rfl e_con c_split) rfl e_nil)) h9) (by simp))))
  rw [h]; rfl
/-- whether a path is in the set of rows -/
def told (rs : List Row) (s : List Nat) : List (List Nat) := (rs.filter fun r => fitsS r.2 s).map (·.1)
def hasS (rs : List Row) (s : List Nat) : Bool := (told rs s).getLast? == some [43]
theorem cut_m1s {α : Type} (l : List α) : cut l (some (-1)) none = l.drop (l.length - 1) := cut_m1 l
theorem p_has (rs : List Row) (s : List Nat) (hrl : rs.length ≤ 5) (h7 : cl 7 [.d (.tup (rs.map rowD))] = okv .non) (h1 : cl 1 [.d (.str s)] = okv .non)
    (h9 : ∀ r ∈ rs, cl 9 [.d (.lst ((splitC 47 r.2).map .str)), .d (.lst ((splitC 47 s).map .str))] = okv (.bl (fitsS r.2 s))) : fin (xss cl sup fuel (start F_has.ns [.d (.tup (rs.map rowD)), .d (.str s)]) F_has.body) = okv (.bl (hasS rs s)) := by
  have h : xss cl sup fuel (start F_has.ns [.d (.tup (rs.map rowD)), .d (.str s)]) F_has.body = .ok (.ret (sv (.bl (hasS rs s)))) := by
    unfold F_has
    refine x_ex (e_call (e_cons (e_vs rfl) rfl e_nil) h7) (x_ex (e_call (e_cons (e_vs rfl) rfl e_nil) h1) ?_)
    refine x_asg (w := ⟨.fr, .d (.lst ((told rs s).map .str))⟩) ?_ c_putf ?_
    · rw [told, List.map_map]
      apply c_comp
      · exact e_val (e_vs rfl) c_valt
      · refine compL_map (p := fun r => fitsS r.2 s) rs fun r hm => ?_
        exact c_turn (w := sv (.str r.1)) t_2 (wc := sv (.bl (fitsS r.2 s))) (e_call (e_cons (e_split (e_vs rfl) rfl e_con c_split) rfl (e_cons (e_split (e_vs rfl) rfl e_con c_split) rfl e_nil)) (h9 r hm)) rfl fun _ => ⟨e_vs rfl, rfl⟩
      · rw [List.length_map]; exact Nat.le_trans (List.length_filter_le ..) (by omega)
    · refine x_ret ((e_cmp (e_slice (e_vo rfl) (e_neg e_con c_neg) rfl e_omit rfl (c_slice c_sll)) (e_lst (e_cons e_con rfl e_nil) rfl) (k_eql ?_)).trans ?_) (by simp)
      · rw [cut_map]
        have : ∀ l : List (List Nat), depths (l.map .str) = 0 := fun l => by induction l with | nil => rfl | cons a r ih => rw [List.map_cons, depths, ih]; rfl
        rw [this]; omega
      · rw [cut_m1, hasS]
        generalize told rs s = l
        have : eqvs (List.drop ((l.map D.str).length - 1) (l.map D.str)) [D.str [43]] = (l.getLast? == some [43]) := by
          rw [List.length_map, ← List.map_drop]
          rcases List.eq_nil_or_concat l with e | ⟨l', x, e⟩
          · subst e; rfl
          · subst e
            rw [List.concat_eq_append]
            have : (l' ++ [x]).length - 1 = l'.length := by simp
            rw [this, List.drop_left]
            simp [eqvs, eqv]
        rw [this]
  rw [h]; rfl
end
section
variable {T : Nat → Option Fn} {sup : Nat → Nat → Option Bool} {fuel : Nat}
theorem r8 (C : Base2 T) : ∀ (m : Nat) (p n : List Nat), p.length + n.length ≤ m → m ≤ 1000 → ∀ k, run T sup fuel (k + m + 1) 8 [.d (.str p), .d (.str n)] = okv (.bl (nf p n))
  | 0, p, n, h, hm, k => (run_eq C.t8 rfl (by decide)).trans (p_name_fits p n (by omega) (by omega) fun p' n' h' => by omega)
  | m + 1, p, n, h, hm, k => (run_eq C.t8 rfl (by decide)).trans (p_name_fits p n (by omega) (by omega) fun p' n' h' => r8 C m p' n' (by omega) (by omega) k)
theorem r9 (C : Base2 T) : ∀ (m : Nat) (ps ns : List (List Nat)), ps.length + ns.length ≤ m → (∀ p ∈ ps, p.length ≤ 8) → (∀ n ∈ ns, n.length ≤ 40) → ∀ k, run T sup fuel (k + 49 + m + 1) 9 [.d (.lst (ps.map .str)), .d (.lst (ns.map .str))] = okv (.bl (nsf ps ns))
  | 0, ps, ns, h, hp, hn, k => (run_eq C.t9 rfl (by decide)).trans (p_names_fit ps ns (fun p' n' h' => by omega) fun p h1 n h2 => r8 C 48 p n (by have := hp p h1; have := hn n h2; omega) (by omega) k)
  | m + 1, ps, ns, h, hp, hn, k => (run_eq C.t9 rfl (by decide)).trans (p_names_fit ps ns (fun p' n' h' h1 h2 => r9 C m p' n' (by omega) (fun p hp' => hp p (h1 p hp')) (fun n hn' => hn n (h2 n hn')) k) fun p h1 n h2 => by
      have := r8 (sup := sup) (fuel := fuel) C 48 p n (by have := hp p h1; have := hn n h2; omega) (by omega) (k + (m + 1))
      rw [show k + (m + 1) + 48 + 1 = k + 49 + (m + 1) by omega] at this
      exact this)
theorem r9s (C : Base2 T) (k : Nat) (p s : List Nat) (hp : isPattern p = true) (hs : isPath s = true) : run T sup fuel (k + 100) 9 [.d (.lst ((splitC 47 p).map .str)), .d (.lst ((splitC 47 s).map .str))] = okv (.bl (fitsS p s)) := by
  have hp8 := pat_len hp
  have hs40 : s.length ≤ 40 := by simp [isPath] at hs; omega
  have l1 := splitC_len 47 p
  have l2 := splitC_len 47 s
  exact r9 C 50 _ _ (by omega) (fun x hx => by have := splitC_le 47 p x hx; omega) (fun x hx => by have := splitC_le 47 s x hx; omega) k
theorem r10 (B : Base T) (C : Base2 T) (k : Nat) (p s : List Nat) (hp : isPattern p = true) (hs : isPath s = true) : run T sup fuel (k + 101) 10 [.d (.str p), .d (.str s)] = okv (.bl (fitsS p s)) :=
  (run_eq C.t10 rfl (by decide)).trans (p_fits p s ((r3 B (k + 98) p).trans (by rw [hp])) ((r1 C (k + 98) (.str s)).trans (by rw [isPathD, hs]; rfl)) (r9s C k p s hp hs))
theorem r11 (B : Base T) (C : Base2 T) (k : Nat) (rs : List Row) (s : List Nat) (hr : isRows rs = true) (hs : isPath s = true) : run T sup fuel (k + 101) 11 [.d (.tup (rs.map rowD)), .d (.str s)] = okv (.bl (hasS rs s)) := by
  obtain ⟨hl, ha⟩ := rows_all hr
  exact (run_eq C.t11 rfl (by decide)).trans (p_has rs s hl ((r7 B (k + 95) rs).trans (by rw [hr]; rfl)) ((r1 C (k + 98) (.str s)).trans (by rw [isPathD, hs]; rfl)) fun r hm => r9s C k r.2 s (row_pat (ha r hm)) hs)
end
end Q7.P
end

section
set_option autoImplicit false
set_option Elab.async false
set_option linter.all false
set_option maxRecDepth 100000
namespace Q7.P
/-! places of a part: plain -/
def hd1 (p : List Nat) (a : Nat) : List Nat := (p.drop a).take 1
def isStar (p : List Nat) (a : Nat) : Bool := hd1 p a == [42]
def isCh (p : List Nat) (c a : Nat) : Bool := [63] == hd1 p a || [c] == hd1 p a
def wide (p : List Nat) (a : Nat) : List Nat := if isStar p a then [a, a + 1] else [a]
def wideL (p : List Nat) (as : List Nat) : List Nat := as.flatMap (wide p)
def stepL (p : List Nat) (c : Nat) (as : List Nat) : List Nat := ((wideL p as).filter (isStar p)) ++ ((wideL p as).filter (isCh p c)).map (· + 1)
def Mt (p as n : List Nat) : Bool := as.any fun a => nf (p.drop a) n
/-- no two stars one behind the other -/
def Lone (p : List Nat) : Prop := ∀ a, isStar p a = true → isStar p (a + 1) = false
theorem drop_cases (p : List Nat) (a : Nat) : (p.drop a = [] ∧ hd1 p a = []) ∨ ∃ d, p.drop a = d :: p.drop (a + 1) ∧ hd1 p a = [d] := by
  cases h : p.drop a with
  | nil => exact .inl ⟨rfl, by rw [hd1, h]; rfl⟩
  | cons d q =>
    refine .inr ⟨d, ?_, by rw [hd1, h]; rfl⟩
    have : p.drop (a + 1) = (p.drop a).drop 1 := by rw [List.drop_drop]
    rw [this, h]; rfl
theorem nf_le_star (q n : List Nat) (h : nf q n = true) : nf (42 :: q) n = true := by
  cases n with
  | nil => rw [nf_star0]; exact h
  | cons d r => rw [nf_star1, h]; rfl
theorem wide_any (p : List Nat) (a : Nat) (n : List Nat) : (wide p a).any (fun a => nf (p.drop a) n) = nf (p.drop a) n := by
  unfold wide
  split
  · rename_i h
    rcases drop_cases p a with ⟨_, e⟩ | ⟨d, e1, e2⟩
    · rw [isStar, e] at h; cases h
    · rw [isStar, e2] at h
      have : d = 42 := by simpa using h
      subst this
      simp only [List.any_cons, List.any_nil, Bool.or_false]
      cases hq : nf (p.drop (a + 1)) n with
      | false => simp
      | true => rw [e1, nf_le_star _ _ hq]; rfl
  · simp
theorem wideL_any (p as n : List Nat) : Mt p (wideL p as) n = Mt p as n := by
  simp only [Mt, wideL, List.any_flatMap]
  congr 1
  funext a
  exact wide_any p a n
theorem any_step (p : List Nat) (c : Nat) (n : List Nat) (W : List Nat) : Mt p ((W.filter (isStar p)) ++ (W.filter (isCh p c)).map (· + 1)) n = W.any fun a => (isStar p a && nf (p.drop a) n) || (isCh p c a && nf (p.drop (a + 1)) n) := by
  simp only [Mt, List.any_append, List.any_filter, List.any_map]
  rw [Bool.eq_iff_iff]
  simp only [Bool.or_eq_true, List.any_eq_true, Bool.and_eq_true, Function.comp]
  constructor
  · rintro (⟨a, h1, h2⟩ | ⟨a, h1, h2⟩)
    · exact ⟨a, h1, .inl h2⟩
    · exact ⟨a, h1, .inr h2⟩
  · rintro ⟨a, h1, h2 | h2⟩
    · exact .inl ⟨a, h1, h2⟩
    · exact .inr ⟨a, h1, h2⟩
theorem step_any (p : List Nat) (hl : Lone p) (c : Nat) (hc : c ≠ 42) (as n : List Nat) : Mt p (stepL p c as) n = Mt p as (c :: n) := by
  rw [stepL, any_step, wideL, List.any_flatMap, Mt]
  congr 1
  funext a
  have plain : ∀ a, isStar p a = false → ((isStar p a && nf (p.drop a) n) || (isCh p c a && nf (p.drop (a + 1)) n)) = nf (p.drop a) (c :: n) := fun a hs => by
    rw [hs, Bool.false_and, Bool.false_or]
    rcases drop_cases p a with ⟨e1, e⟩ | ⟨d, e1, e2⟩
    · rw [isCh, e, e1, nf_nil]; rfl
    · have hd : d ≠ 42 := fun h => by rw [isStar, e2, h] at hs; cases hs
      rw [isCh, e2, e1, nf_ch hd, headG]
      have q : ∀ x : Nat, ([x] == [d]) = (d == x) := fun x => by
        rw [Bool.eq_iff_iff]
        simp only [beq_iff_eq, List.cons.injEq, and_true]
        exact ⟨Eq.symm, Eq.symm⟩
      rw [q, q]
  unfold wide
  cases hs : isStar p a with
  | false => simpa using plain a hs
  | true =>
    rcases drop_cases p a with ⟨_, e⟩ | ⟨d, e1, e2⟩
    · rw [isStar, e] at hs; cases hs
    · have hd : d = 42 := by rw [isStar, e2] at hs; simpa using hs
      subst hd
      have hch : isCh p c a = false := by
        rw [isCh, e2, Bool.or_eq_false_iff]
        refine ⟨rfl, ?_⟩
        rw [beq_eq_false_iff_ne]
        simpa using hc
      have h2 := plain (a + 1) (hl a hs)
      rw [if_pos rfl]
      simp only [List.any_cons, List.any_nil, Bool.or_false]
      rw [h2, hs, hch, e1, nf_star1]
      simp [Bool.or_comm]
theorem end_any (p : List Nat) (hl : Lone p) (as : List Nat) (hb : ∀ a ∈ as, a ≤ p.length) : ((wideL p as).any fun a => a == p.length) = Mt p as [] := by
  rw [wideL, List.any_flatMap, Mt, Bool.eq_iff_iff, List.any_eq_true, List.any_eq_true]
  have one : ∀ a ∈ as, ((wide p a).any fun a => a == p.length) = nf (p.drop a) [] := fun a ha => by
    have plain : ∀ a, a ≤ p.length → isStar p a = false → (a == p.length) = nf (p.drop a) [] := fun a ha hs => by
      rcases drop_cases p a with ⟨e1, e⟩ | ⟨d, e1, e2⟩
      · rw [e1, nf_nil]
        have := List.drop_eq_nil_iff.mp e1
        simp; omega
      · have hd : d ≠ 42 := fun h => by rw [isStar, e2, h] at hs; cases hs
        rw [e1, nf_ch hd]
        have : a ≠ p.length := fun h => by rw [h, List.drop_length] at e1; cases e1
        simp [headG, this]
    unfold wide
    cases hs : isStar p a with
    | false => simpa using plain a (hb a ha) hs
    | true =>
      rcases drop_cases p a with ⟨_, e⟩ | ⟨d, e1, e2⟩
      · rw [isStar, e] at hs; cases hs
      · have hd : d = 42 := by rw [isStar, e2] at hs; simpa using hs
        subst hd
        have hlt : a < p.length := by
          have := congrArg List.length e1
          simp at this; omega
        have h2 := plain (a + 1) hlt (hl a hs)
        rw [if_pos rfl]
        simp only [List.any_cons, List.any_nil, Bool.or_false]
        rw [h2, e1, nf_star0]
        have : (a == p.length) = false := by rw [beq_eq_false_iff_ne]; omega
        rw [this, Bool.false_or]
  constructor
  · rintro ⟨a, ha, h⟩
    exact ⟨a, ha, by rw [← one a ha]; exact h⟩
  · rintro ⟨a, ha, h⟩
    exact ⟨a, ha, by rw [one a ha]; exact h⟩
theorem step_bd (p : List Nat) (c : Nat) (as : List Nat) (hb : ∀ a ∈ as, a ≤ p.length) : ∀ a ∈ stepL p c as, a ≤ p.length := by
  have hlt : ∀ a, hd1 p a ≠ [] → a < p.length := fun a h => by
    rcases drop_cases p a with ⟨e1, e⟩ | ⟨d, e1, e2⟩
    · exact absurd e h
    · have := congrArg List.length e1
      simp at this; omega
  intro a ha
  rw [stepL, List.mem_append, List.mem_filter, List.mem_map] at ha
  rcases ha with ⟨_, h⟩ | ⟨b, h, rfl⟩
  · exact Nat.le_of_lt (hlt a fun e => by rw [isStar, e] at h; cases h)
  · exact hlt b fun e => by rw [List.mem_filter, isCh, e] at h; cases h.2
/-! how many places there may be -/
def gr : Nat → Nat → Nat
  | 0, _ => 1
  | _ + 1, 0 => 1
  | n + 1, s + 1 => gr n (s + 1) + gr n s
theorem gr_pos : ∀ n s, 1 ≤ gr n s
  | 0, _ => Nat.le_refl 1
  | _ + 1, 0 => Nat.le_refl 1
  | n + 1, s + 1 => by have := gr_pos n s; rw [gr]; omega
theorem gr_n (n : Nat) : ∀ s, gr n s ≤ gr (n + 1) s
  | 0 => by cases n <;> exact Nat.le_refl 1
  | s + 1 => by have h : gr (n + 1) (s + 1) = gr n (s + 1) + gr n s := rfl; rw [h]; omega
theorem gr_s (s : Nat) : ∀ n, gr n s ≤ gr n (s + 1)
  | 0 => Nat.le_refl 1
  | n + 1 => by
    have h : gr (n + 1) (s + 1) = gr n (s + 1) + gr n s := rfl
    cases s with
    | zero => rw [h]; have := gr_pos n 0; exact Nat.le_trans this (Nat.le_add_left ..)
    | succ s =>
      have h2 : gr (n + 1) (s + 1) = gr n (s + 1) + gr n s := rfl
      have := gr_s s n
      have h3 := gr_s (s + 1) n
      rw [h, h2]; omega
theorem gr_mn {m n : Nat} (h : m ≤ n) (s : Nat) : gr m s ≤ gr n s := by
  induction h with
  | refl => exact Nat.le_refl _
  | step _ ih => exact Nat.le_trans ih (gr_n _ s)
theorem gr_ms {m n : Nat} (h : m ≤ n) (k : Nat) : gr k m ≤ gr k n := by
  induction h with
  | refl => exact Nat.le_refl _
  | step _ ih => exact Nat.le_trans ih (gr_s _ k)
def stars (p : List Nat) (a : Nat) : Nat := (p.drop a).count 42
def load (p : List Nat) (n : Nat) (as : List Nat) : Nat := (as.map fun a => gr n (stars p a)).sum
theorem load_app (p : List Nat) (n : Nat) (a b : List Nat) : load p n (a ++ b) = load p n a + load p n b := by simp [load]
theorem load_cons (p : List Nat) (n : Nat) (a : Nat) (b : List Nat) : load p n (a :: b) = gr n (stars p a) + load p n b := by simp [load]
theorem load_len (p : List Nat) (n : Nat) (as : List Nat) : as.length ≤ load p n as := by
  induction as with
  | nil => simp
  | cons a r ih => have := gr_pos n (stars p a); rw [load_cons, List.length_cons]; omega
theorem wide_load (p : List Nat) (n : Nat) (as : List Nat) : load p n (wideL p as) ≤ load p (n + 1) as := by
  induction as with
  | nil => exact Nat.le_refl 0
  | cons a r ih =>
    have e : wideL p (a :: r) = wide p a ++ wideL p r := rfl
    rw [e, load_app, load_cons]
    have : load p n (wide p a) ≤ gr (n + 1) (stars p a) := by
      unfold wide
      cases hs : isStar p a with
      | false =>
        have := gr_n n (stars p a)
        simpa [load] using this
      | true =>
        rcases drop_cases p a with ⟨_, e⟩ | ⟨d, e1, e2⟩
        · rw [isStar, e] at hs; cases hs
        · have hd : d = 42 := by rw [isStar, e2] at hs; simpa using hs
          subst hd
          have : stars p a = stars p (a + 1) + 1 := by rw [stars, stars, e1]; simp
          rw [if_pos rfl, this]
          simp [load, this, gr]
    omega
theorem step_load (p : List Nat) (n c : Nat) (hc : c ≠ 42) (W : List Nat) : load p n ((W.filter (isStar p)) ++ (W.filter (isCh p c)).map (· + 1)) ≤ load p n W := by
  induction W with
  | nil => simp [load]
  | cons a r ih =>
    rw [load_app] at ih ⊢
    rw [load_cons, List.filter_cons, List.filter_cons]
    cases hs : isStar p a with
    | true =>
      have hch : isCh p c a = false := by
        have : hd1 p a = [42] := by simpa [isStar] using hs
        rw [isCh, this, Bool.or_eq_false_iff]
        refine ⟨rfl, ?_⟩
        rw [beq_eq_false_iff_ne]
        simpa using hc
      rw [hch]
      simp only [if_true, Bool.false_eq_true, if_false]
      rw [load_cons]
      omega
    | false =>
      cases hch : isCh p c a with
      | false => simp only [Bool.false_eq_true, if_false]; omega
      | true =>
        simp only [if_true, Bool.false_eq_true, if_false, List.map_cons]
        rw [load_cons]
        have : stars p (a + 1) ≤ stars p a := by
          rcases drop_cases p a with ⟨e0, e⟩ | ⟨d, e1, e2⟩
          · rw [isCh, e] at hch; cases hch
          · rw [stars, stars, e1, List.count_cons]; omega
        have := gr_ms this n
        omega
theorem stepL_load (p : List Nat) (n c : Nat) (hc : c ≠ 42) (as : List Nat) : load p n (stepL p c as) ≤ load p (n + 1) as :=
  Nat.le_trans (step_load p n c hc _) (wide_load p n as)
theorem wideL_len (p : List Nat) (as : List Nat) : (wideL p as).length ≤ 2 * as.length := by
  induction as with
  | nil => simp [wideL]
  | cons a r ih =>
    have e : wideL p (a :: r) = wide p a ++ wideL p r := rfl
    have : (wide p a).length ≤ 2 := by unfold wide; split <;> simp
    rw [e, List.length_append, List.length_cons]; omega
/-- parts other than the one of any names have lone stars -/
theorem lone_of {p : List Nat} (h : isInfix [42, 42] p = false) : Lone p := fun a ha => by
  rw [← Bool.not_eq_true]
  intro hb
  have q : ∀ (p : List Nat) (a : Nat), isStar p a = true → isStar p (a + 1) = true → isInfix [42, 42] p = true := fun p => by
    induction p with
    | nil => intro a h1; simp [isStar, hd1] at h1
    | cons x r ih =>
      intro a h1 h2
      rw [isInfix, Bool.or_eq_true]
      cases a with
      | zero =>
        refine .inl ?_
        cases r with
        | nil => simp [isStar, hd1] at h2
        | cons y r =>
          simp [isStar, hd1] at h1 h2
          subst h1 h2; rfl
      | succ a => exact .inr (ih a (by simpa [isStar, hd1] using h1) (by simpa [isStar, hd1] using h2))
  rw [q p a ha hb] at h
  cases h
theorem stars_le : ∀ (n : Nat) (p : List Nat), p.length ≤ n → isInfix [42, 42] p = false → p.count 42 ≤ (p.length + 1) / 2
  | _, [], _, _ => by simp
  | _, [x], _, _ => by
    rw [List.count_cons]; simp; split <;> simp
  | 0, x :: y :: r, h, _ => by simp at h
  | n + 1, x :: y :: r, h, hi => by
    have hi2 : isInfix [42, 42] (y :: r) = false := by
      rw [isInfix, Bool.or_eq_false_iff] at hi
      exact hi.2
    have hi3 : isInfix [42, 42] r = false := by
      rw [isInfix, Bool.or_eq_false_iff] at hi2
      exact hi2.2
    by_cases hx : x = 42
    · have hy : y ≠ 42 := fun e => by
        subst hx e
        rw [isInfix, Bool.or_eq_false_iff] at hi
        cases hi.1
      have ih := stars_le n r (by simp at h; omega) hi3
      subst hx
      rw [List.count_cons, List.count_cons]
      simp [hy]
      omega
    · have ih := stars_le n r (by simp at h; omega) hi3
      rw [List.count_cons, List.count_cons]
      simp [hx]
      split <;> omega
theorem load0 {p : List Nat} {n : Nat} (hp : p.length ≤ 8) (h : isInfix [42, 42] p = false) (hn : n ≤ 40) : load p n [0] ≤ 110000 := by
  have h1 := stars_le 8 p hp h
  have h2 : stars p 0 ≤ 4 := by rw [stars, List.drop_zero]; omega
  have h3 : gr n (stars p 0) ≤ gr 40 4 := Nat.le_trans (gr_mn hn _) (gr_ms h2 _)
  have h4 : gr 40 4 ≤ 110000 := by decide +kernel
  simp [load]
  omega
end Q7.P
end

section
set_option autoImplicit false
set_option Elab.async false
set_option linter.all false
set_option maxRecDepth 100000
namespace Q7.P
section
variable {cl : Nat → List Xv → R W} {sup : Nat → Nat → Option Bool} {fuel : Nat}
theorem whl_ind {C : Env → R Bool} {B : Env → RS} {o : RS} {K : Env → RS} (I : Nat → Env → Prop)
    (hs : ∀ n ρ, I n ρ → (C ρ = .ok false ∧ K ρ = o) ∨ ∃ m ρ', n = m + 1 ∧ C ρ = .ok true ∧ B ρ = .ok (.nx ρ') ∧ I m ρ') : ∀ (f n : Nat) (ρ : Env), I n ρ → n < f → (whlL C B f ρ).seq K = o
  | 0, n, ρ, _, h => by omega
  | f + 1, n, ρ, hI, h => by
    rcases hs n ρ hI with ⟨h1, h2⟩ | ⟨m, ρ', rfl, h1, h2, h3⟩
    · rw [whlL, h1]; exact h2
    · rw [whlL, h1]
      simp only [R.ok_to, if_true, h2]
      exact whl_ind I hs f m ρ' h3 (by omega)
/-- a loop by a condition -/
theorem x_whl {c : CE} {b r : CSs} {ρ : Env} {o : RS} (I : Nat → Env → Prop) {n : Nat} (h0 : I n ρ) (hn : n < fuel)
    (hs : ∀ n ρ, I n ρ → (ev cl ρ c = okv (.bl false) ∧ xss cl sup fuel ρ r = o) ∨ ∃ m ρ', n = m + 1 ∧ ev cl ρ c = okv (.bl true) ∧ xss cl sup fuel ρ b = .ok (.nx ρ') ∧ I m ρ') :
    xss cl sup fuel ρ (.cons (.whl c b) r) = o := by
  rw [xss, xs]
  refine whl_ind (K := fun ρ' => xss cl sup fuel ρ' r) I (fun n ρ h => ?_) fuel n ρ h0 hn
  rcases hs n ρ h with ⟨h1, h2⟩ | ⟨m, ρ', e, h1, h2, h3⟩
  · exact .inl ⟨by simp only [h1]; rfl, h2⟩
  · exact .inr ⟨m, ρ', e, by simp only [h1]; rfl, h2, h3⟩
theorem x_aug {i : Nat} {op : Bop} {e : CE} {r : CSs} {ρ : Env} {o : RS} {x y z : D} {k : Kd} (h : ρ[i]? = some (some (false, .d x))) (h1 : ev cl ρ e = .ok ⟨k, .d y⟩) (h2 : augop op x y = some z) (h3 : xss cl sup fuel (ρ.set i (some (false, .d z))) r = o) : xss cl sup fuel ρ (.cons (.aug i op e) r) = o := by
  rw [xss, xs, h]
  simp only [h1, R.ok_to, W.dat, R.of_some, h2]
  exact h3
def posD (l : List Nat) : List D := l.map fun (a : Nat) => D.int (a : Int)
theorem posD_app (a b : List Nat) : posD (a ++ b) = posD a ++ posD b := by simp [posD]
theorem posD_len (a : List Nat) : (posD a).length = a.length := by simp [posD]
theorem cut_one (p : List Nat) (a : Nat) : cut p (some (a : Int)) (some ((a : Int) + 1)) = hd1 p a := by
  have e : ((a : Int) + 1).toNat = a + 1 := by omega
  simp only [cut, sIx, hd1]
  rw [if_neg (by omega), if_neg (by omega), Int.toNat_natCast, e]
  by_cases h : a < p.length
  · rw [Nat.min_eq_left (by omega), Nat.min_eq_left (by omega), Nat.add_sub_cancel_left]
  · rw [Nat.min_eq_right (by omega), Nat.min_eq_right (by omega)]
    have h1 : p.drop p.length = [] := List.drop_length ..
    have h2 : p.drop a = [] := List.drop_eq_nil_iff.mpr (by omega)
    rw [h1, h2]; simp
theorem ev_one {ρ : Env} {i j : Nat} {p : List Nat} {a : Nat} (hi : ρ[i]? = some (some (false, .d (.str p)))) (hj : ρ[j]? = some (some (false, .d (.int a)))) : ev cl ρ (.slice (.var i) (.var j) (.bop .add (.var j) (.con (.int 1)))) = okv (.str (hd1 p a)) :=
  e_slice (e_vs hi) (e_vs hj) rfl (e_bop (e_vs hj) e_con b_addi) rfl ((c_slice c_sls).trans (by rw [cut_one]; rfl))
theorem depths_pos (l : List Nat) : depths (posD l) = 0 := by
  induction l with
  | nil => rfl
  | cons a r ih => rw [posD, List.map_cons, depths]; rw [posD] at ih; rw [ih]; rfl
theorem any_pos (l : List Nat) (n : Nat) : ((posD l).any fun y => eqv y (.int n)) = l.any fun a => a == n := by
  rw [posD, List.any_map]
  congr 1
  funext a
  simp only [Function.comp, eqv]
  rw [Bool.eq_iff_iff]
  simp only [beq_iff_eq]
  omega
theorem k_inp {k k' : Kd} {l : List Nat} {n : Nat} : cmpW .isin ⟨k, .d (.int n)⟩ ⟨k', .d (.lst (posD l))⟩ = some ⟨.sh, .d (.bl (l.any fun a => a == n))⟩ := by
  refine c_cmp ?_
  rw [cmpop, isIn, if_pos (by rw [depths_pos]; simp), any_pos]
theorem any_q (x y : List Nat) (t : List Nat) : ([D.str x, .str y].any fun z => eqv z (.str t)) = (x == t || y == t) := by
  simp only [List.any_cons, List.any_nil, eqv, Bool.or_false]
theorem compL_pos {f : D → R (Option D)} {q : Nat → Bool} {h : Nat → Nat} (l : List Nat) (H : ∀ a ∈ l, f (.int a) = .ok (if q a then some (.int (h a : Nat)) else none)) : compL f (posD l) = .ok (posD ((l.filter q).map h)) := by
  have := compL_map (g := fun (a : Nat) => D.int (a : Int)) (h := fun (a : Nat) => D.int (h a : Nat)) (p := q) l H
  rw [posD, this, posD, List.map_map]
  rfl
theorem p_lname_fits (p n : List Nat) (hp : p.length ≤ 8) (hi : isInfix [42, 42] p = false) (hn : n.length ≤ 40) (hs : ∀ c ∈ n, c ≠ 42 ∧ c ≠ 47) (hf : 2 < fuel) : fin (xss cl sup fuel (start F_law_name_fits.ns [.d (.str p), .d (.str n)]) F_law_name_fits.body) = okv (.bl (nf p n)) := by
  have hl := lone_of hi
  have h : xss cl sup fuel (start F_law_name_fits.ns [.d (.str p), .d (.str n)]) F_law_name_fits.body = .ok (.ret (sv (.bl (nf p n)))) := by
    unfold F_law_name_fits
    refine x_asg (e_lst (e_cons e_con rfl e_nil) rfl) c_putf ?_
    refine x_loop (fun r ρ => (r = [] ∧ False) ∨ ∃ (todo as : List Nat) (a b c : Option (Bool × Xv)), r = chD (todo ++ [47]) ∧ ρ = [some (false, .d (.str p)), some (false, .d (.str n)), some (true, .d (.lst (posD as))), a, b, c] ∧ Mt p as todo = nf p n ∧ load p todo.length as ≤ 110000 ∧ (∀ a ∈ as, a ≤ p.length) ∧ ∀ c ∈ todo, c ∈ n) (ds := chD (n ++ [47])) (e_val (e_bop (e_vs rfl) e_con (b_adds (by simp; omega))) c_vals) (.inr ⟨n, [0], none, none, none, rfl, rfl, by simp [Mt], load0 hp hi hn, by simp, fun c h => h⟩) ?_ ?_
    · rintro d r ρ (⟨h, _⟩ | ⟨todo, as, a, b, c, e1, rfl, e3, e4, e5, e6⟩)
      · cases h
      · obtain ⟨c0, rest, ec, er⟩ : ∃ c0 rest, d = .str [c0] ∧ (todo ++ [47]) = c0 :: rest ∧ r = chD rest := by
          cases h : todo ++ [47] with
          | nil => simp at h
          | cons x l =>
            rw [h, chD, List.map_cons, List.cons.injEq] at e1
            exact ⟨x, l, e1.1, rfl, e1.2⟩
        obtain ⟨er, rfl⟩ := er
        subst ec
        have hal := load_len p todo.length as
        have hwl := wideL_len p as
        rw [turn_eq t_nm]
        simp only [List.set_cons_succ, List.set_cons_zero]
        rw [x_asg (e_lst e_nil rfl) c_putf (x_frzo rfl rfl)]
        simp only [List.set_cons_succ, List.set_cons_zero]
        -- the inner loop
        obtain ⟨X, hX⟩ : ∃ X, X = (match as.getLast? with | none => c | some a => some (false, .d (.int (if isStar p a then a + 1 else a : Nat)))) := ⟨_, rfl⟩
        have inner : ∀ (r : CSs) (o : RS), xss cl sup fuel [some (false, .d (.str p)), some (false, .d (.str n)), some (false, .d (.lst (posD as))), some (false, .d (.str [c0])), some (true, .d (.lst (posD (wideL p as)))), X] r = o → xss cl sup fuel [some (false, .d (.str p)), some (false, .d (.str n)), some (false, .d (.lst (posD as))), some (false, .d (.str [c0])), some (true, .d (.lst [])), c] (.cons (.for_ (.nm 5) (.val (.var 2)) (.cons (.append 4 (.var 5)) (.cons (.whl (.cmp .eq (.slice (.var 0) (.var 5) (.bop .add (.var 5) (.con (.int 1)))) (.con (.str [42]))) (.cons (.aug 5 .add (.con (.int 1))) (.cons (.append 4 (.var 5)) .nil))) .nil))) r) = o := fun r o hr => by
          refine x_for (ds := posD as) (e_val (e_vs rfl) c_vall) (o1 := RS.ok (.nx ([some (false, .d (.str p)), some (false, .d (.str n)), some (false, .d (.lst (posD as))), some (false, .d (.str [c0])), some (true, .d (.lst (posD (wideL p as)))), X]))) ?_ hr
          have gen : ∀ (todo done : List Nat) (c : Option (Bool × Xv)), done.length + 2 * todo.length ≤ 500000 → forL (turn cl sup fuel (.nm 5) (.cons (.append 4 (.var 5)) (.cons (.whl (.cmp .eq (.slice (.var 0) (.var 5) (.bop .add (.var 5) (.con (.int 1)))) (.con (.str [42]))) (.cons (.aug 5 .add (.con (.int 1))) (.cons (.append 4 (.var 5)) .nil))) .nil))) (posD todo) [some (false, .d (.str p)), some (false, .d (.str n)), some (false, .d (.lst (posD as))), some (false, .d (.str [c0])), some (true, .d (.lst (posD done))), c] = .ok (.nx [some (false, .d (.str p)), some (false, .d (.str n)), some (false, .d (.lst (posD as))), some (false, .d (.str [c0])), some (true, .d (.lst (posD (done ++ wideL p todo)))), (match todo.getLast? with | none => c | some a => some (false, .d (.int (if isStar p a then a + 1 else a : Nat))))]) := fun todo => by
            induction todo with
            | nil => intro done c _; simp [posD, forL, wideL]
            | cons a todo ih =>
              intro done c hlen
              simp only [List.length_cons] at hlen
              have hpd := posD_len done
              have t1 : turn cl sup fuel (.nm 5) (.cons (.append 4 (.var 5)) (.cons (.whl (.cmp .eq (.slice (.var 0) (.var 5) (.bop .add (.var 5) (.con (.int 1)))) (.con (.str [42]))) (.cons (.aug 5 .add (.con (.int 1))) (.cons (.append 4 (.var 5)) .nil))) .nil)) (.int a) [some (false, .d (.str p)), some (false, .d (.str n)), some (false, .d (.lst (posD as))), some (false, .d (.str [c0])), some (true, .d (.lst (posD done))), c] = .ok (.nx [some (false, .d (.str p)), some (false, .d (.str n)), some (false, .d (.lst (posD as))), some (false, .d (.str [c0])), some (true, .d (.lst (posD (done ++ wide p a)))), some (false, .d (.int (if isStar p a then a + 1 else a : Nat)))]) := by
                rw [turn_eq t_nm]
                refine x_app (d := .int a) rfl (e_vs rfl) rfl (by omega) ?_
                simp only [List.set_cons_succ, List.set_cons_zero]
                have cond : ∀ (b : Nat) (x : Xv), ev cl [some (false, .d (.str p)), some (false, .d (.str n)), some (false, .d (.lst (posD as))), some (false, .d (.str [c0])), some (true, x), some (false, .d (.int b))] (.cmp .eq (.slice (.var 0) (.var 5) (.bop .add (.var 5) (.con (.int 1)))) (.con (.str [42]))) = okv (.bl (isStar p b)) := fun b x => e_cmp (ev_one rfl rfl) e_con k_eqs
                refine x_whl (fun m ρ => (m = 1 ∧ ρ = [some (false, .d (.str p)), some (false, .d (.str n)), some (false, .d (.lst (posD as))), some (false, .d (.str [c0])), some (true, .d (.lst (posD done ++ [.int a]))), some (false, .d (.int a))]) ∨ (m = 0 ∧ isStar p a = true ∧ ρ = [some (false, .d (.str p)), some (false, .d (.str n)), some (false, .d (.lst (posD as))), some (false, .d (.str [c0])), some (true, .d (.lst (posD done ++ [.int a] ++ [.int (a + 1 : Nat)]))), some (false, .d (.int (a + 1 : Nat)))])) (n := 1) (.inl ⟨rfl, rfl⟩) (by omega) ?_
                rintro m ρ (⟨rfl, rfl⟩ | ⟨rfl, hst, rfl⟩)
                · cases hst : isStar p a with
                  | false =>
                    refine .inl ⟨(cond a _).trans (by rw [hst]), ?_⟩
                    rw [x_nil, posD_app, wide, hst]; rfl
                  | true =>
                    refine .inr ⟨0, _, rfl, (cond a _).trans (by rw [hst]), x_aug rfl e_con rfl (x_app (d := .int (a + 1 : Nat)) rfl (e_vs rfl) rfl (by simp [posD_len]; omega) x_nil), .inr ⟨rfl, rfl, rfl⟩⟩
                · refine .inl ⟨(cond (a + 1) _).trans (by rw [hl a hst]), ?_⟩
                  rw [x_nil, posD_app, wide, hst, List.append_assoc]; rfl
              have e : posD (a :: todo) = .int a :: posD todo := rfl
              rw [e, forL, t1]
              show forL _ (posD todo) _ = _
              have hw2 : (wide p a).length ≤ 2 := by unfold wide; split <;> simp
              rw [ih (done ++ wide p a) _ (by rw [List.length_append]; omega)]
              have e2 : wideL p (a :: todo) = wide p a ++ wideL p todo := rfl
              rw [e2, List.append_assoc]
              congr 3
              cases todo with
              | nil => rfl
              | cons b l => rw [List.getLast?_cons_cons]; cases h : (b :: l).getLast? <;> simp_all
          have := gen as [] c (by simp; omega)
          rw [List.nil_append, ← hX] at this
          exact this
        by_cases h47 : c0 = 47
        · subst h47
          have ht : todo = [] := by
            cases todo with
            | nil => rfl
            | cons x l =>
              rw [List.cons_append, List.cons.injEq] at er
              exact absurd er.1 (hs x (e6 x (List.mem_cons_self ..))).2
          subst ht
          refine .inr ⟨inner _ _ ?_, rfl⟩
          refine x_ift (e_cmp (e_vs rfl) e_con k_eqs) (s_q (x_ret (e_cmp (e_b1 (e_vs rfl) f_lens) (e_vo rfl) k_inp) (by simp)) ?_)
          rw [s_r, end_any p hl as e5, e3]
        · cases todo with
          | nil => simp at er; exact absurd er.1.symm h47
          | cons x todo =>
            rw [List.cons_append, List.cons.injEq] at er
            obtain ⟨rfl, rfl⟩ := er
            have hx := hs x (e6 x (List.mem_cons_self ..))
            have ne : ([x] == [47]) = false := by rw [beq_eq_false_iff_ne]; simpa using h47
            refine .inl ⟨[some (false, .d (.str p)), some (false, .d (.str n)), some (true, .d (.lst (posD (stepL p x as)))), some (false, .d (.str [x])), some (false, .d (.lst (posD (wideL p as)))), X], ?_, .inr ⟨todo, stepL p x as, _, _, _, rfl, rfl, ?_, ?_, ?_, fun c hc => e6 c (List.mem_cons_of_mem _ hc)⟩⟩
            · refine inner _ _ (x_iff ((e_cmp (e_vs rfl) e_con k_eqs).trans (by rw [ne])) (s_n (x_frzo rfl ?_)))
              simp only [List.set_cons_succ, List.set_cons_zero]
              have f1 := List.length_filter_le (isStar p) (wideL p as)
              have f2 := List.length_filter_le (isCh p x) (wideL p as)
              refine x_asg (w := ⟨.fr, .d (.lst (posD ((wideL p as).filter (isStar p))))⟩) ?_ c_putf (x_frz rfl ?_)
              · have := c_comp (cl := cl) (tg := .nm 5) (it := .val (.var 4)) (c := .cmp .eq (.slice (.var 0) (.var 5) (.bop .add (.var 5) (.con (.int 1)))) (.con (.str [42]))) (e := .var 5) (e_val (e_vs (i := 4) (ρ := [some (false, .d (.str p)), some (false, .d (.str n)), some (false, .d (.lst (posD as))), some (false, .d (.str [x])), some (false, .d (.lst (posD (wideL p as)))), X]) rfl) c_vall) (compL_pos (q := isStar p) (h := id) (wideL p as) fun a _ => c_turn (w := sv (.int a)) t_nm (e_cmp (ev_one rfl rfl) e_con k_eqs) rfl fun _ => ⟨e_vs rfl, rfl⟩) (by rw [posD_len, List.length_map]; omega)
                rw [List.map_id] at this
                exact this
              · simp only [List.set_cons_succ, List.set_cons_zero]
                rw [stepL, posD_app]
                refine x_asg (e_bop (e_vo rfl) (c_comp (e_val (e_vs rfl) c_vall) (compL_pos (q := isCh p x) (h := (· + 1)) (wideL p as) fun a _ => c_turn (w := sv (.int ((a : Int) + 1))) t_nm ((e_cmp (ev_one rfl rfl) (e_tup (e_cons e_con rfl (e_cons (e_vs rfl) rfl e_nil)) rfl) k_int).trans (by rw [any_q])) rfl fun _ => ⟨e_bop (e_vs rfl) e_con b_addi, rfl⟩) (by rw [posD_len, List.length_map]; omega)) (b_addl (by rw [posD_len, posD_len, List.length_map]; omega))) c_putf x_nil
            · rw [step_any p hl x hx.1]; exact e3
            · exact Nat.le_trans (stepL_load p todo.length x hx.1 as) e4
            · exact step_bd p x as e5
    · rintro ρ (⟨_, h⟩ | ⟨todo, as, a, b, c, e1, rfl, e3, e4, e5⟩)
      · cases h
      · have := congrArg List.length e1
        simp [chD] at this
  rw [h]; rfl
end
end Q7.P
end

section
set_option autoImplicit false
set_option Elab.async false
set_option linter.all false
set_option maxRecDepth 100000
namespace Q7.P
/-! numbers of parts that are behind: plain -/
def skipD : List (List Nat) → Nat → List Nat
  | [], a => [a]
  | x :: q, a => if x = [42, 42] then a :: skipD q (a + 1) else [a]
def skipA (ps : List (List Nat)) (a : Nat) : List Nat := skipD (ps.drop a) a
def stepN (ps : List (List Nat)) (n : List Nat) (a : Nat) : List Nat := match ps.drop a with
  | [] => []
  | x :: _ => if x = [42, 42] then [a] else if nf x n then [a + 1] else []
def Ms (ps : List (List Nat)) (as : List Nat) (ns : List (List Nat)) : Bool := as.any fun a => nsf (ps.drop a) ns
theorem dropS {α : Type} (p : List α) (a : Nat) {d : α} {q : List α} (h : p.drop a = d :: q) : p.drop (a + 1) = q := by
  have : p.drop (a + 1) = (p.drop a).drop 1 := by rw [List.drop_drop]
  rw [this, h]; rfl
theorem skip_any (ps : List (List Nat)) (ns : List (List Nat)) : ∀ (q : List (List Nat)) (a : Nat), ps.drop a = q → (skipD q a).any (fun a => nsf (ps.drop a) ns) = nsf q ns
  | [], a, h => by simp [skipD, h]
  | x :: q, a, h => by
    rw [skipD]
    by_cases hx : x = [42, 42]
    · rw [if_pos hx, List.any_cons, skip_any ps ns q (a + 1) (dropS ps a h), h]
      subst hx
      cases ns with
      | nil => rw [nsf_star0]; simp
      | cons n r =>
        rw [nsf_star1]
        cases nsf q (n :: r) <;> simp
    · rw [if_neg hx]; simp [h]
theorem skip_step (ps : List (List Nat)) (n : List Nat) (ns : List (List Nat)) : ∀ (q : List (List Nat)) (a : Nat), ps.drop a = q → ((skipD q a).flatMap (stepN ps n)).any (fun a => nsf (ps.drop a) ns) = nsf q (n :: ns)
  | [], a, h => by simp [skipD, stepN, h, nsf_nil]
  | x :: q, a, h => by
    rw [skipD]
    have hd := dropS ps a h
    by_cases hx : x = [42, 42]
    · rw [if_pos hx, List.flatMap_cons, List.any_append, skip_step ps n ns q (a + 1) hd]
      have : stepN ps n a = [a] := by rw [stepN, h]; simp [hx]
      rw [this]
      subst hx
      rw [nsf_star1]
      simp [h, Bool.or_comm]
    · rw [if_neg hx, nsf_ch hx]
      have : stepN ps n a = if nf x n then [a + 1] else [] := by rw [stepN, h]; simp [hx]
      simp only [List.flatMap_cons, List.flatMap_nil, List.append_nil, this, headG]
      cases nf x n with
      | true => simp [hd]
      | false => simp
theorem skip_end (ps : List (List Nat)) : ∀ (q : List (List Nat)) (a : Nat), ps.drop a = q → a ≤ ps.length → ((skipD q a).any fun a => a == ps.length) = nsf q []
  | [], a, h, ha => by
    have := List.drop_eq_nil_iff.mp h
    simp [skipD, nsf_nil]; omega
  | x :: q, a, h, ha => by
    have hlt : a < ps.length := by
      have := congrArg List.length h
      simp at this; omega
    have hne : (a == ps.length) = false := by rw [beq_eq_false_iff_ne]; omega
    rw [skipD]
    by_cases hx : x = [42, 42]
    · rw [if_pos hx, List.any_cons, skip_end ps q (a + 1) (dropS ps a h) hlt, hne]
      subst hx
      rw [nsf_star0]; rfl
    · rw [if_neg hx, nsf_ch hx]; simp [headG, hne]
theorem skip_bd (ps : List (List Nat)) : ∀ (q : List (List Nat)) (a : Nat), ps.drop a = q → a ≤ ps.length → ∀ b ∈ skipD q a, b ≤ ps.length
  | [], a, h, ha, b, hb => by simp [skipD] at hb; omega
  | x :: q, a, h, ha, b, hb => by
    have hlt : a < ps.length := by
      have := congrArg List.length h
      simp at this; omega
    rw [skipD] at hb
    split at hb
    · rcases List.mem_cons.mp hb with rfl | hb
      · exact ha
      · exact skip_bd ps q (a + 1) (dropS ps a h) hlt b hb
    · rw [List.mem_singleton.mp hb]; exact ha
theorem skip_len : ∀ (q : List (List Nat)) (a : Nat), (skipD q a).length ≤ q.length + 1
  | [], a => by simp [skipD]
  | x :: q, a => by
    have := skip_len q (a + 1)
    rw [skipD]; split <;> simp; omega
theorem skip_hd : ∀ (q : List (List Nat)) (a : Nat), skipD q a = a :: (skipD q a).tail
  | [], a => rfl
  | x :: q, a => by rw [skipD]; split <;> rfl
theorem any_mem {α : Type} {xs ys : List α} (h : ∀ a, a ∈ xs ↔ a ∈ ys) (f : α → Bool) : xs.any f = ys.any f := by
  rw [Bool.eq_iff_iff, List.any_eq_true, List.any_eq_true]
  constructor
  · rintro ⟨a, h1, h2⟩; exact ⟨a, (h a).mp h1, h2⟩
  · rintro ⟨a, h1, h2⟩; exact ⟨a, (h a).mpr h1, h2⟩
/-! sorted(set(..)) of numbers -/
def insN (x : Nat) : List Nat → List Nat
  | [] => [x]
  | y :: ys => if y < x then y :: insN x ys else x :: y :: ys
def sortN : List Nat → List Nat
  | [] => []
  | x :: xs => insN x (sortN xs)
theorem ins_pos (x : Nat) : ∀ l : List Nat, ins (.int x) (posD l) = posD (insN x l)
  | [] => rfl
  | y :: r => by
    have ih := ins_pos x r
    have e : posD (y :: r) = .int y :: posD r := rfl
    rw [e, ins, insN, ih, dlt]
    by_cases h : y < x
    · rw [if_pos h, if_pos (by simpa using h)]; rfl
    · rw [if_neg h, if_neg (by simpa using h)]; rfl
theorem isort_pos : ∀ l : List Nat, isort (posD l) = posD (sortN l)
  | [] => rfl
  | x :: r => by
    have e : posD (x :: r) = .int x :: posD r := rfl
    rw [e, isort, isort_pos r, ins_pos]; rfl
theorem dedup_pos : ∀ l : List Nat, dedup (posD l) = posD (nub l)
  | [] => rfl
  | x :: r => by
    have ih := dedup_pos r
    have e : posD (x :: r) = .int x :: posD r := rfl
    rw [e, dedup, ih, nub, posD, posD, List.filter_map, List.map_cons]
    congr 2
    apply List.filter_congr
    intro y _
    simp only [Function.comp, eqv]
    congr 1
    rw [Bool.eq_iff_iff]
    simp only [beq_iff_eq]
    omega
theorem mem_insN (a x : Nat) : ∀ l : List Nat, a ∈ insN x l ↔ a = x ∨ a ∈ l
  | [] => by simp [insN]
  | y :: r => by
    rw [insN]
    split
    · rw [List.mem_cons, mem_insN a x r, List.mem_cons]
      constructor
      · rintro (h | h | h)
        · exact .inr (.inl h)
        · exact .inl h
        · exact .inr (.inr h)
      · rintro (h | h | h)
        · exact .inr (.inl h)
        · exact .inl h
        · exact .inr (.inr h)
    · rw [List.mem_cons]
theorem mem_sortN (a : Nat) : ∀ l : List Nat, a ∈ sortN l ↔ a ∈ l
  | [] => Iff.rfl
  | x :: r => by rw [sortN, mem_insN, mem_sortN a r, List.mem_cons]
theorem sortN_len : ∀ l : List Nat, (sortN l).length = l.length
  | [] => rfl
  | x :: r => by
    have q : ∀ (x : Nat) (l : List Nat), (insN x l).length = l.length + 1 := fun x l => by
      induction l with
      | nil => rfl
      | cons y r ih => rw [insN]; split <;> simp [ih]
    rw [sortN, q, sortN_len r]; rfl
def ssN (l : List Nat) : List Nat := sortN (nub l)
theorem mem_ssN (a : Nat) (l : List Nat) : a ∈ ssN l ↔ a ∈ l := by rw [ssN, mem_sortN, nub_mem]
theorem ssN_len (l : List Nat) (n : Nat) (h : ∀ a ∈ l, a ≤ n) : (ssN l).length ≤ n + 1 := by
  rw [ssN, sortN_len]
  have := nub_sub_len (xs := nub l) (ys := List.range (n + 1)) (fun a ha => by
    rw [List.mem_range]
    have := h a ((nub_mem a l).mp ha)
    omega) (nub_nodup l)
  simpa using this
theorem setable_pos (l : List Nat) (h : l.length ≤ 4000) : setable (posD l) = true := by
  simp [setable, posD, h]
theorem c_ssp {k : Kd} {l : List Nat} (h : l.length ≤ 4000) : b1W .sortedset ⟨k, .d (.lst (posD l))⟩ = some ⟨.fr, .d (.lst (posD (ssN l)))⟩ := by
  rw [c_sset (setable_pos l h), dedup_pos, isort_pos]; rfl
section
variable {cl : Nat → List Xv → R W} {sup : Nat → Nat → Option Bool} {fuel : Nat}
theorem x_frza {i : Nat} {f : Bool} {v : Xv} {r : CSs} {ρ : Env} {o : RS} (h1 : ρ[i]? = some (some (f, v))) (h2 : xss cl sup fuel (ρ.set i (some (false, v))) r = o) : xss cl sup fuel ρ (.cons (.freeze i) r) = o := by
  cases f with
  | true => exact x_frzo (by rw [owned, h1]) h2
  | false =>
    refine x_frz (by rw [owned, h1]) ?_
    have : ρ.set i (some (false, v)) = ρ := by
      apply List.ext_getElem?
      intro j
      by_cases hj : i = j
      · subst hj
        rw [List.getElem?_set_self (by
          rcases Nat.lt_or_ge i ρ.length with h | h
          · exact h
          · rw [List.getElem?_eq_none h] at h1; cases h1), h1]
      · rw [List.getElem?_set_ne hj]
    rw [this] at h2
    exact h2
theorem at_nat {ds : List D} {a : Nat} : at? ds (a : Int) = ds[a]? := by rw [at?, if_pos (by omega)]; rfl
theorem p_skipped (ps : List (List Nat)) (as : List Nat) (hp : ps.length ≤ 40) (ha : as.length ≤ 90) (hb : ∀ a ∈ as, a ≤ ps.length) (hf : 100 < fuel) : fin (xss cl sup fuel (start F_law_skipped.ns [.d (.lst (ps.map .str)), .d (.lst (posD as))]) F_law_skipped.body) = okf (.lst (posD (ssN (as.flatMap (skipA ps))))) := by
  have hlen : (as.flatMap (skipA ps)).length ≤ 41 * as.length := by
    have : ∀ l : List Nat, (l.flatMap (skipA ps)).length ≤ 41 * l.length := fun l => by
      induction l with
      | nil => simp
      | cons a r ih =>
        have h1 := skip_len (ps.drop a) a
        have h2 : (ps.drop a).length ≤ 40 := by rw [List.length_drop]; omega
        rw [List.flatMap_cons, List.length_append, List.length_cons, skipA]
        omega
    exact this as
  have h : xss cl sup fuel (start F_law_skipped.ns [.d (.lst (ps.map .str)), .d (.lst (posD as))]) F_law_skipped.body = .ok (.ret ⟨.fr, .d (.lst (posD (ssN (as.flatMap (skipA ps)))))⟩) := by
    unfold F_law_skipped
    refine x_asg (e_lst e_nil rfl) c_putf ?_
    refine x_loop (fun r ρ => ∃ (todo done : List Nat) (x : Option (Bool × Xv)), r = posD todo ∧ ρ = [some (false, .d (.lst (ps.map .str))), some (false, .d (.lst (posD as))), some (true, .d (.lst (posD done))), x] ∧ done ++ todo.flatMap (skipA ps) = as.flatMap (skipA ps) ∧ ∀ a ∈ todo, a ≤ ps.length) (ds := posD as) (e_val (e_vs rfl) c_vall) ⟨as, [], none, rfl, rfl, rfl, hb⟩ ?_ ?_
    · rintro d r ρ ⟨todo, done, x, e1, rfl, e3, e4⟩
      cases todo with
      | nil => cases e1
      | cons a todo =>
        have e : posD (a :: todo) = .int a :: posD todo := rfl
        rw [e, List.cons.injEq] at e1
        obtain ⟨rfl, rfl⟩ := e1
        have ha' := e4 a (List.mem_cons_self ..)
        have e5 := congrArg List.length e3
        rw [List.flatMap_cons, List.length_append, List.length_append] at e5
        refine .inl ⟨[some (false, .d (.lst (ps.map .str))), some (false, .d (.lst (posD as))), some (true, .d (.lst (posD (done ++ skipA ps a)))), some (false, .d (.int (a + (skipA ps a).tail.length : Nat)))], ?_, todo, done ++ skipA ps a, _, rfl, rfl, by rw [← e3, List.flatMap_cons, List.append_assoc], fun b hb => e4 b (List.mem_cons_of_mem _ hb)⟩
        rw [turn_eq t_nm]
        refine x_app (d := .int a) rfl (e_vs rfl) rfl (by rw [posD_len]; omega) ?_
        simp only [List.set_cons_succ, List.set_cons_zero]
        refine x_whl (fun m ρ => ∃ b dn, m = ps.length - b ∧ b ≤ ps.length ∧ ρ = [some (false, .d (.lst (ps.map .str))), some (false, .d (.lst (posD as))), some (true, .d (.lst (posD dn))), some (false, .d (.int (b : Nat)))] ∧ dn ++ (skipA ps b).tail = done ++ skipA ps a ∧ b + (skipA ps b).tail.length = a + (skipA ps a).tail.length) (n := ps.length - a) ⟨a, done ++ [a], rfl, ha', by rw [posD_app]; rfl, by rw [List.append_assoc]; congr 1; exact (skip_hd _ _).symm, rfl⟩ (by omega) ?_
        rintro m ρ ⟨b, dn, rfl, hbl, rfl, f1, f2⟩
        have hdl : dn.length ≤ 100000 := by
          have := congrArg List.length f1
          rw [List.length_append, List.length_append] at this
          omega
        have g1 : ev cl [some (false, .d (.lst (ps.map .str))), some (false, .d (.lst (posD as))), some (true, .d (.lst (posD dn))), some (false, .d (.int (b : Nat)))] (.cmp .lt (.var 3) (.b1 .len (.var 0))) = okv (.bl (decide ((b : Int) < ((ps.map D.str).length : Nat)))) := e_cmp (e_vs rfl) (e_b1 (e_vs rfl) f_lenl) k_lti
        rw [List.length_map] at g1
        cases hd : ps.drop b with
        | nil =>
          have := List.drop_eq_nil_iff.mp hd
          rw [decide_eq_false (by omega)] at g1
          refine .inl ⟨e_and0 g1, ?_⟩
          have ht : (skipA ps b).tail = [] := by rw [skipA, hd]; rfl
          rw [ht] at f1 f2
          rw [List.append_nil] at f1
          rw [x_nil, f1]
          rw [List.length_nil, Nat.add_zero] at f2
          rw [f2]
        | cons y q =>
          have hlt : b < ps.length := by
            have := congrArg List.length hd
            simp at this; omega
          have hget : ps[b]? = some y := by
            have : (ps.drop b)[0]? = some y := by rw [hd]; rfl
            rw [List.getElem?_drop] at this
            simpa using this
          rw [decide_eq_true (by omega)] at g1
          have g2 : ev cl [some (false, .d (.lst (ps.map .str))), some (false, .d (.lst (posD as))), some (true, .d (.lst (posD dn))), some (false, .d (.int (b : Nat)))] (.cmp .eq (.idx (.var 0) (.var 3)) (.con (.str [42, 42]))) = okv (.bl (y == [42, 42])) := e_cmp (e_idx (e_vs rfl) (e_vs rfl) (c_idx (c_ixl (z := .str y) (by rw [at_nat, List.getElem?_map, hget]; rfl)))) e_con k_eqs
          by_cases hy : y = [42, 42]
          · rw [beq_iff_eq.mpr hy] at g2
            have hn := dropS ps b hd
            have ht : (skipA ps b).tail = skipA ps (b + 1) := by rw [skipA, hd, skipD, if_pos hy, skipA, hn]; rfl
            refine .inr ⟨ps.length - (b + 1), _, by omega, e_and1 g1 g2, x_aug rfl e_con rfl (x_app (d := .int ((b + 1 : Nat) : Int)) rfl (e_vs rfl) rfl (by rw [posD_len]; omega) x_nil), b + 1, dn ++ [b + 1], rfl, hlt, by rw [posD_app]; rfl, ?_, ?_⟩
            · rw [← f1, ht, List.append_assoc]
              congr 1
              exact (skip_hd _ _).symm
            · rw [ht] at f2
              have := congrArg List.length (skip_hd (ps.drop (b + 1)) (b + 1))
              rw [List.length_cons] at this
              change (skipA ps (b + 1)).length = (skipA ps (b + 1)).tail.length + 1 at this
              omega
          · rw [beq_eq_false_iff_ne.mpr hy] at g2
            refine .inl ⟨e_and1 g1 g2, ?_⟩
            have ht : (skipA ps b).tail = [] := by rw [skipA, hd, skipD, if_neg hy]; rfl
            rw [ht] at f1 f2
            rw [List.append_nil] at f1
            rw [x_nil, f1]
            rw [List.length_nil, Nat.add_zero] at f2
            rw [f2]
    · rintro ρ ⟨todo, done, x, e1, rfl, e3, e4⟩
      have : todo = [] := by cases todo with | nil => rfl | cons t l => cases e1
      subst this
      simp only [List.flatMap_nil, List.append_nil] at e3
      subst e3
      exact x_ret (e_b1 (e_vo rfl) (c_ssp (by omega))) (by simp)
  rw [h]; rfl
end
end Q7.P
end

section
set_option autoImplicit false
set_option Elab.async false
set_option linter.all false
set_option maxRecDepth 100000
namespace Q7.P
section
variable {cl : Nat → List Xv → R W} {sup : Nat → Nat → Option Bool} {fuel : Nat}
theorem Ms_skip (ps : List (List Nat)) (as : List Nat) (n : List Nat) (ns : List (List Nat)) : Ms ps ((ssN (as.flatMap (skipA ps))).flatMap (stepN ps n)) ns = Ms ps as (n :: ns) := by
  have h1 : Ms ps ((ssN (as.flatMap (skipA ps))).flatMap (stepN ps n)) ns = Ms ps ((as.flatMap (skipA ps)).flatMap (stepN ps n)) ns := any_mem (fun a => by
    simp only [List.mem_flatMap, mem_ssN]) _
  rw [h1]
  have : (as.flatMap (skipA ps)).flatMap (stepN ps n) = as.flatMap fun a => (skipA ps a).flatMap (stepN ps n) := List.flatMap_assoc
  rw [this, Ms, List.any_flatMap, Ms]
  congr 1
  funext a
  exact skip_step ps n ns (ps.drop a) a rfl
theorem Ms_end (ps : List (List Nat)) (as : List Nat) (hb : ∀ a ∈ as, a ≤ ps.length) : ((ssN (as.flatMap (skipA ps))).any fun a => a == ps.length) = Ms ps as [] := by
  rw [any_mem (fun a => mem_ssN a _), List.any_flatMap, Ms, Bool.eq_iff_iff, List.any_eq_true, List.any_eq_true]
  constructor
  · rintro ⟨a, h1, h2⟩
    exact ⟨a, h1, by rw [← skip_end ps (ps.drop a) a rfl (hb a h1)]; exact h2⟩
  · rintro ⟨a, h1, h2⟩
    exact ⟨a, h1, by rw [← skip_end ps (ps.drop a) a rfl (hb a h1)] at h2; exact h2⟩
theorem stepN_bd (ps : List (List Nat)) (n : List Nat) (a b : Nat) (h : b ∈ stepN ps n a) : b ≤ ps.length := by
  rw [stepN] at h
  split at h
  · cases h
  · rename_i x q e
    have hlt : a < ps.length := by
      have := congrArg List.length e
      simp at this; omega
    split at h
    · rw [List.mem_singleton.mp h]; omega
    · split at h
      · rw [List.mem_singleton.mp h]; omega
      · cases h
theorem stepN_len (ps : List (List Nat)) (n : List Nat) (a : Nat) : (stepN ps n a).length ≤ 1 := by
  rw [stepN]
  split
  · simp
  · split
    · simp
    · split <;> simp
theorem fm_len (ps : List (List Nat)) (n : List Nat) (l : List Nat) : (l.flatMap (stepN ps n)).length ≤ l.length := by
  induction l with
  | nil => simp
  | cons a r ih =>
    have := stepN_len ps n a
    rw [List.flatMap_cons, List.length_append, List.length_cons]; omega
theorem fm_filter (ps : List (List Nat)) (n : List Nat) (l : List Nat) : (l.filter fun a => decide (a < ps.length)).flatMap (stepN ps n) = l.flatMap (stepN ps n) := by
  induction l with
  | nil => rfl
  | cons a r ih =>
    rw [List.filter_cons]
    by_cases h : a < ps.length
    · simp [h, ih]
    · have : stepN ps n a = [] := by
        rw [stepN, List.drop_eq_nil_iff.mpr (by omega)]
      simp [h, ih, this]
theorem p_lfits (p s : List Nat) (hp : isPattern p = true) (hs : isPath s = true)
    (h29 : ∀ (ps : List (List Nat)) (as : List Nat), ps.length ≤ 40 → as.length ≤ 90 → (∀ a ∈ as, a ≤ ps.length) → cl 29 [.d (.lst (ps.map .str)), .d (.lst (posD as))] = okf (.lst (posD (ssN (as.flatMap (skipA ps))))))
    (h27 : ∀ p n : List Nat, p.length ≤ 8 → isInfix [42, 42] p = false → n.length ≤ 40 → (∀ c ∈ n, c ≠ 42 ∧ c ≠ 47) → cl 27 [.d (.str p), .d (.str n)] = okv (.bl (nf p n))) :
    fin (xss cl sup fuel (start F_law_fits.ns [.d (.str p), .d (.str s)]) F_law_fits.body) = okv (.bl (fitsS p s)) := by
  have hp8 := pat_len hp
  have hs40 : s.length ≤ 40 := by simp [isPath] at hs; omega
  have hpl := splitC_len 47 p
  have hparts : ∀ x ∈ splitC 47 p, x.length ≤ 8 ∧ (x = [42, 42] ∨ isInfix [42, 42] x = false) := fun x hx => by
    have := splitC_le 47 p x hx
    refine ⟨by omega, ?_⟩
    simp only [isPattern, Bool.and_eq_true, List.all_eq_true] at hp
    have h2 := hp.2 x hx
    rw [isPart, Bool.or_eq_true] at h2
    rcases h2 with h | h
    · exact .inl (by simpa using h)
    · simp only [Bool.and_eq_true, Bool.not_eq_true'] at h
      exact .inr h.2.1
  have hnames : ∀ x ∈ splitC 47 s, x.length ≤ 40 ∧ ∀ c ∈ x, c ≠ 42 ∧ c ≠ 47 := fun x hx => by
    have := splitC_le 47 s x hx
    refine ⟨by omega, fun c hc => ?_⟩
    simp only [isPath, Bool.and_eq_true, List.all_eq_true] at hs
    have h2 := hs.2 x hx
    simp only [isName, Bool.and_eq_true, List.all_eq_true] at h2
    have h3 := (mem_infix c small).mp (h2.2 c hc)
    constructor
    · intro e; subst e; exact absurd h3 (by decide)
    · intro e; subst e; exact absurd h3 (by decide)
  unfold fitsS
  have h : xss cl sup fuel (start F_law_fits.ns [.d (.str p), .d (.str s)]) F_law_fits.body = .ok (.ret (sv (.bl (nsf (splitC 47 p) (splitC 47 s))))) := by
    generalize hps : splitC 47 p = ps at hpl hparts
    unfold F_law_fits
    refine x_asg (e_split (e_vs rfl) rfl e_con c_split) c_putf (x_asg (e_lst (e_cons e_con rfl e_nil) rfl) c_putf ?_)
    rw [hps]
    refine x_loop (fun r ρ => ∃ (todo : List (List Nat)) (as : List Nat) (f2 f3 : Bool) (a b c : Option (Bool × Xv)), r = todo.map .str ∧ ρ = [some (false, .d (.str p)), some (false, .d (.str s)), some (f2, .d (.lst (ps.map .str))), some (f3, .d (.lst (posD as))), a, b, c] ∧ Ms ps as todo = nsf ps (splitC 47 s) ∧ (∀ a ∈ as, a ≤ ps.length) ∧ as.length ≤ 90 ∧ ∀ x ∈ todo, x ∈ splitC 47 s) (ds := (splitC 47 s).map .str) (e_val (e_split (e_vs rfl) rfl e_con c_split) c_valf) ⟨splitC 47 s, [0], true, true, none, none, none, rfl, rfl, by simp [Ms], by simp, by simp, fun x h => h⟩ ?_ ?_
    · rintro d r ρ ⟨todo, as, f2, f3, a, b, c, e1, rfl, e3, e4, e5, e6⟩
      cases todo with
      | nil => cases e1
      | cons n todo =>
        rw [List.map_cons, List.cons.injEq] at e1
        obtain ⟨rfl, rfl⟩ := e1
        have hn := hnames n (e6 n (List.mem_cons_self ..))
        generalize hq : ssN (as.flatMap (skipA ps)) = q
        have hqb : ∀ b ∈ q, b ≤ ps.length := fun b hb => by
          rw [← hq, mem_ssN, List.mem_flatMap] at hb
          obtain ⟨a, ha, hb⟩ := hb
          exact skip_bd ps (ps.drop a) a rfl (e4 a ha) b hb
        have hql : q.length ≤ 10 := by
          have := ssN_len (as.flatMap (skipA ps)) ps.length (fun b hb => hqb b (by rw [← hq, mem_ssN]; exact hb))
          rw [hq] at this
          omega
        have h29' := h29 ps as (by omega) e5 e4
        rw [hq] at h29'
        generalize hfl : q.filter (fun a => decide (a < ps.length)) = fl
        have hfll : fl.length ≤ 10 := by rw [← hfl]; exact Nat.le_trans (List.length_filter_le ..) hql
        have hflb : ∀ a ∈ fl, a < ps.length := fun a ha => by
          rw [← hfl, List.mem_filter] at ha
          simpa using ha.2
        have hlater : fl.flatMap (stepN ps n) = q.flatMap (stepN ps n) := by rw [← hfl]; exact fm_filter ps n q
        have fin1 : ∃ ρ', xss cl sup fuel [some (false, .d (.str p)), some (false, .d (.str s)), some (false, .d (.lst (ps.map .str))), some (false, .d (.lst (posD (fl.flatMap (stepN ps n))))), some (false, .d (.str n)), some (false, .d (.lst (posD (fl.flatMap (stepN ps n))))), (match fl.getLast? with | none => c | some a => some (false, .d (.int (a : Nat))))] .nil = .ok (.nx ρ') ∧ ∃ (todo_1 : List (List Nat)) (as : List Nat) (f2 f3 : Bool) (a b c : Option (Bool × Xv)), todo.map D.str = todo_1.map .str ∧ ρ' = [some (false, .d (.str p)), some (false, .d (.str s)), some (f2, .d (.lst (ps.map .str))), some (f3, .d (.lst (posD as))), a, b, c] ∧ Ms ps as todo_1 = nsf ps (splitC 47 s) ∧ (∀ a ∈ as, a ≤ ps.length) ∧ as.length ≤ 90 ∧ ∀ x ∈ todo_1, x ∈ splitC 47 s := by
          refine ⟨_, x_nil, todo, fl.flatMap (stepN ps n), false, false, _, _, _, rfl, rfl, ?_, ?_, ?_, fun x hx => e6 x (List.mem_cons_of_mem _ hx)⟩
          · rw [hlater, ← hq, Ms_skip]; exact e3
          · intro b hb
            obtain ⟨a, _, hb⟩ := List.mem_flatMap.mp hb
            exact stepN_bd ps n a b hb
          · exact Nat.le_trans (fm_len ps n fl) (by omega)
        obtain ⟨ρ', hx, hI⟩ := fin1
        refine .inl ⟨ρ', ?_, hI⟩
        rw [turn_eq t_nm]
        simp only [List.set_cons_succ, List.set_cons_zero]
        refine x_frza rfl (x_frza rfl ?_)
        simp only [List.set_cons_succ, List.set_cons_zero]
        refine x_asg (e_call (e_cons (e_vs rfl) rfl (e_cons (e_vs rfl) rfl e_nil)) h29') c_putf (x_asg (e_lst e_nil rfl) c_putf (x_frza rfl ?_))
        simp only [List.set_cons_succ, List.set_cons_zero]
        refine x_for (ds := posD fl) ?_ (o1 := RS.ok (.nx [some (false, .d (.str p)), some (false, .d (.str s)), some (false, .d (.lst (ps.map .str))), some (false, .d (.lst (posD q))), some (false, .d (.str n)), some (true, .d (.lst (posD (fl.flatMap (stepN ps n))))), (match fl.getLast? with | none => c | some a => some (false, .d (.int (a : Nat))))])) ?_ (s_n (x_frzo rfl ?_))
        · refine e_val (x := ⟨.fr, .d (.lst (posD fl))⟩) ?_ c_valf
          have := c_comp (cl := cl) (tg := .nm 6) (it := .val (.var 3)) (c := .cmp .lt (.var 6) (.b1 .len (.var 2))) (e := .var 6) (e_val (e_vs (i := 3) (ρ := [some (false, .d (.str p)), some (false, .d (.str s)), some (false, .d (.lst (ps.map .str))), some (false, .d (.lst (posD q))), some (false, .d (.str n)), some (true, .d (.lst [])), c]) rfl) c_vall) (compL_pos (q := fun a => decide (a < ps.length)) (h := id) q fun a _ => c_turn (w := sv (.int a)) (wc := sv (.bl (decide (a < ps.length)))) t_nm ((e_cmp (e_vs rfl) (e_b1 (e_vs rfl) f_lenl) k_lti).trans (by rw [List.length_map, show decide ((a : Int) < ((ps.length : Nat) : Int)) = decide (a < ps.length) by rw [decide_eq_decide]; omega])) rfl fun _ => ⟨e_vs rfl, rfl⟩) (by rw [posD_len, List.length_map]; exact Nat.le_trans (List.length_filter_le ..) (by omega))
          rw [List.map_id, hfl] at this
          exact this
        · have gen : ∀ (todo done : List Nat) (c : Option (Bool × Xv)), done.length + todo.length ≤ 1000 → (∀ a ∈ todo, a < ps.length) → forL (turn cl sup fuel (.nm 6) (.cons (.ifs (.cmp .eq (.idx (.var 2) (.var 6)) (.con (.str [42, 42]))) (.cons (.append 5 (.var 6)) .nil) (.cons (.ifs (.call 27 (.cons (.idx (.var 2) (.var 6)) (.cons (.var 4) .nil))) (.cons (.append 5 (.bop .add (.var 6) (.con (.int 1)))) .nil) .nil) .nil)) .nil)) (posD todo) [some (false, .d (.str p)), some (false, .d (.str s)), some (false, .d (.lst (ps.map .str))), some (false, .d (.lst (posD q))), some (false, .d (.str n)), some (true, .d (.lst (posD done))), c] = .ok (.nx [some (false, .d (.str p)), some (false, .d (.str s)), some (false, .d (.lst (ps.map .str))), some (false, .d (.lst (posD q))), some (false, .d (.str n)), some (true, .d (.lst (posD (done ++ todo.flatMap (stepN ps n))))), (match todo.getLast? with | none => c | some a => some (false, .d (.int (a : Nat))))]) := fun todo => by
            induction todo with
            | nil => intro done c _ _; simp [posD, forL]
            | cons a todo ih =>
              intro done c hlen hbd
              simp only [List.length_cons] at hlen
              have hlt := hbd a (List.mem_cons_self ..)
              obtain ⟨y, q', hd⟩ : ∃ y q', ps.drop a = y :: q' := by
                cases h : ps.drop a with
                | nil => have := List.drop_eq_nil_iff.mp h; omega
                | cons y q' => exact ⟨y, q', rfl⟩
              have hget : ps[a]? = some y := by
                have : (ps.drop a)[0]? = some y := by rw [hd]; rfl
                rw [List.getElem?_drop] at this
                simpa using this
              have hym : y ∈ ps := List.mem_of_getElem? hget
              have gi : ∀ x, ev cl [some (false, .d (.str p)), some (false, .d (.str s)), some (false, .d (.lst (ps.map .str))), some (false, .d (.lst (posD q))), some (false, .d (.str n)), x, some (false, .d (.int (a : Nat)))] (.idx (.var 2) (.var 6)) = okv (.str y) := fun x => e_idx (e_vs rfl) (e_vs rfl) (c_idx (c_ixl (z := .str y) (by rw [at_nat, List.getElem?_map, hget]; rfl)))
              have t1 : turn cl sup fuel (.nm 6) (.cons (.ifs (.cmp .eq (.idx (.var 2) (.var 6)) (.con (.str [42, 42]))) (.cons (.append 5 (.var 6)) .nil) (.cons (.ifs (.call 27 (.cons (.idx (.var 2) (.var 6)) (.cons (.var 4) .nil))) (.cons (.append 5 (.bop .add (.var 6) (.con (.int 1)))) .nil) .nil) .nil)) .nil) (.int a) [some (false, .d (.str p)), some (false, .d (.str s)), some (false, .d (.lst (ps.map .str))), some (false, .d (.lst (posD q))), some (false, .d (.str n)), some (true, .d (.lst (posD done))), c] = .ok (.nx [some (false, .d (.str p)), some (false, .d (.str s)), some (false, .d (.lst (ps.map .str))), some (false, .d (.lst (posD q))), some (false, .d (.str n)), some (true, .d (.lst (posD (done ++ stepN ps n a)))), some (false, .d (.int (a : Nat)))]) := by
                rw [turn_eq t_nm]
                simp only [List.set_cons_succ, List.set_cons_zero]
                by_cases hy : y = [42, 42]
                · have hs1 : stepN ps n a = [a] := by rw [stepN, hd]; simp [hy]
                  rw [hs1, posD_app]
                  exact x_ift ((e_cmp (gi _) e_con k_eqs).trans (by rw [beq_iff_eq.mpr hy])) (s_q (x_app (d := .int a) rfl (e_vs rfl) rfl (by rw [posD_len]; omega) x_nil) (s_n x_nil))
                · have h27' := h27 y n (hparts y hym).1 ((hparts y hym).2.resolve_left hy) hn.1 hn.2
                  have hs1 : stepN ps n a = if nf y n then [a + 1] else [] := by rw [stepN, hd]; simp [hy]
                  refine x_iff ((e_cmp (gi _) e_con k_eqs).trans (by rw [beq_eq_false_iff_ne.mpr hy])) ?_
                  cases hb : nf y n with
                  | true =>
                    rw [hb] at h27' hs1
                    rw [hs1, if_pos rfl, posD_app]
                    exact s_q (x_ift (e_call (e_cons (gi _) rfl (e_cons (e_vs rfl) rfl e_nil)) h27') (s_q (x_app (d := .int ((a + 1 : Nat) : Int)) rfl (e_bop (e_vs rfl) e_con b_addi) rfl (by rw [posD_len]; omega) x_nil) (s_n x_nil))) (s_n x_nil)
                  | false =>
                    rw [hb] at h27' hs1
                    rw [hs1, if_neg (by simp), List.append_nil]
                    exact s_q (x_iff (e_call (e_cons (gi _) rfl (e_cons (e_vs rfl) rfl e_nil)) h27') (s_q x_nil (s_n x_nil))) (s_n x_nil)
              have e : posD (a :: todo) = .int a :: posD todo := rfl
              rw [e, forL, t1]
              show forL _ (posD todo) _ = _
              have hw2 := stepN_len ps n a
              rw [ih (done ++ stepN ps n a) _ (by rw [List.length_append]; omega) fun b hb => hbd b (List.mem_cons_of_mem _ hb)]
              rw [List.flatMap_cons, List.append_assoc]
              congr 3
              cases todo with
              | nil => rfl
              | cons b l => rw [List.getLast?_cons_cons]; cases h : (b :: l).getLast? <;> simp_all
          have := gen fl [] c (by simp; omega) hflb
          rw [List.nil_append] at this
          exact this
        · simp only [List.set_cons_succ, List.set_cons_zero]
          exact x_asg (e_vs rfl) c_puts hx
    · rintro ρ ⟨todo, as, f2, f3, a, b, c, e1, rfl, e3, e4, e5, e6⟩
      have : todo = [] := by cases todo with | nil => rfl | cons t l => cases e1
      subst this
      refine x_frza rfl (x_frza rfl ?_)
      simp only [List.set_cons_succ, List.set_cons_zero]
      refine x_ret ((e_cmp (e_b1 (e_vs rfl) f_lenl) (e_call (e_cons (e_vs rfl) rfl (e_cons (e_vs rfl) rfl e_nil)) (h29 ps as (by omega) e5 e4)) k_inp).trans ?_) (by simp)
      rw [List.length_map, Ms_end ps as e4, e3]
  rw [h]; rfl
theorem p_lhas (rs : List Row) (s : List Nat) (hr : isRows rs = true) (hs : isPath s = true) (h28 : ∀ p : List Nat, isPattern p = true → cl 28 [.d (.str p), .d (.str s)] = okv (.bl (fitsS p s))) :
    fin (xss cl sup fuel (start F_law_has.ns [.d (.tup (rs.map rowD)), .d (.str s)]) F_law_has.body) = okv (.bl (hasS rs s)) := by
  obtain ⟨hl, hall⟩ := rows_all hr
  have h : xss cl sup fuel (start F_law_has.ns [.d (.tup (rs.map rowD)), .d (.str s)]) F_law_has.body = .ok (.ret (sv (.bl (hasS rs s)))) := by
    unfold F_law_has
    refine x_asg e_con c_puts ?_
    refine x_loop (fun r ρ => ∃ (todo done : List Row) (a b : Option (Bool × Xv)), r = todo.map rowD ∧ ρ = [some (false, .d (.tup (rs.map rowD))), some (false, .d (.str s)), some (false, .d (.str ((told done s).getLast?.getD [45]))), a, b] ∧ done ++ todo = rs) (ds := rs.map rowD) (e_val (e_vs rfl) c_valt) ⟨rs, [], none, none, rfl, rfl, rfl⟩ ?_ ?_
    · rintro d r ρ ⟨todo, done, a, b, e1, rfl, e3⟩
      cases todo with
      | nil => cases e1
      | cons t todo =>
        rw [List.map_cons, List.cons.injEq] at e1
        obtain ⟨rfl, rfl⟩ := e1
        have ht := row_pat (hall t (by rw [← e3]; simp))
        have h28' := h28 t.2 ht
        have td : told (done ++ [t]) s = told done s ++ if fitsS t.2 s then [t.1] else [] := by
          simp only [told, List.filter_append, List.map_append]
          congr 1
          cases h : fitsS t.2 s <;> simp [h]
        cases hb : fitsS t.2 s with
        | true =>
          rw [hb] at h28' td
          exact .inl ⟨_, (turn_eq t_2).trans (x_ift (e_call (e_cons (e_vs rfl) rfl (e_cons (e_vs rfl) rfl e_nil)) h28') (s_q (x_asg (e_vs rfl) c_puts x_nil) (s_n x_nil))), todo, done ++ [t], some (false, .d (.str t.1)), some (false, .d (.str t.2)), rfl, by rw [td, if_pos rfl, show (told done s ++ [t.1]).getLast?.getD [45] = t.1 by simp]; rfl, by rw [← e3, List.append_assoc]; rfl⟩
        | false =>
          rw [hb] at h28' td
          exact .inl ⟨_, (turn_eq t_2).trans (x_iff (e_call (e_cons (e_vs rfl) rfl (e_cons (e_vs rfl) rfl e_nil)) h28') (s_q x_nil (s_n x_nil))), todo, done ++ [t], some (false, .d (.str t.1)), some (false, .d (.str t.2)), rfl, by rw [td, if_neg (by simp), List.append_nil]; rfl, by rw [← e3, List.append_assoc]; rfl⟩
    · rintro ρ ⟨todo, done, a, b, e1, rfl, e3⟩
      have : todo = [] := by cases todo with | nil => rfl | cons t l => cases e1
      subst this
      rw [List.append_nil] at e3
      subst e3
      refine x_ret ((e_cmp (e_vs rfl) e_con k_eqs).trans ?_) (by simp)
      rw [hasS]
      cases (told done s).getLast? <;> simp
  rw [h]; rfl
end
end Q7.P
end

section
set_option autoImplicit false
set_option Elab.async false
set_option linter.all false
set_option maxRecDepth 100000
namespace Q7.P
section
variable {cl : Nat → List Xv → R W} {sup : Nat → Nat → Option Bool} {fuel : Nat}
theorem p_k02 (ns : List Int)
    (h12 : ∀ k : Nat, cl 12 [.d (.lst (ns.map .int)), .d (.int k)] = okv (.int (cell ns k)))
    (h14 : ∀ s k : Int, cl 14 [.d (.int s), .d (.int k)] = okv (.int (seed s k)))
    (h18 : ∀ (sd : Int) (most : Nat), most ≤ 1000 → ∃ rs L, cl 18 [.d (.int sd), .d (.int most)] = okv (.tup (rs.map rowD)) ∧ GoodRows rs most L)
    (h19 : ∀ (sd : Int) (rs : List Row), isRows rs = true → ∃ s, cl 19 [.d (.int sd), .d (.tup (rs.map rowD))] = okv (.str s) ∧ isPath s = true)
    (h24 : ∀ a b : Bool, cl 24 [.d (.bl a), .d (.bl b)] = okv (.bl (a == b)))
    (h10 : ∀ p s : List Nat, isPattern p = true → isPath s = true → cl 10 [.d (.str p), .d (.str s)] = okv (.bl (fitsS p s)))
    (h28 : ∀ p s : List Nat, isPattern p = true → isPath s = true → cl 28 [.d (.str p), .d (.str s)] = okv (.bl (fitsS p s)))
    (h11 : ∀ (rs : List Row) (s : List Nat), isRows rs = true → isPath s = true → cl 11 [.d (.tup (rs.map rowD)), .d (.str s)] = okv (.bl (hasS rs s)))
    (h30 : ∀ (rs : List Row) (s : List Nat), isRows rs = true → isPath s = true → cl 30 [.d (.tup (rs.map rowD)), .d (.str s)] = okv (.bl (hasS rs s))) :
    fin (xss cl sup fuel (start F_law_k02.ns [.d (.lst (ns.map .int))]) F_law_k02.body) = okv (.bl true) := by
  obtain ⟨rs, L, er, gr⟩ := h18 (seed (cell ns 0) 0) 5 (by decide)
  have er : cl 18 [.d (.int (seed (cell ns 0) 0)), .d (.int 5)] = okv (.tup (rs.map rowD)) := er
  have hr := gr.rows (Nat.le_refl 5)
  obtain ⟨hl, hall⟩ := rows_all hr
  have a0 : cl 12 [.d (.lst (ns.map .int)), .d (.int 0)] = okv (.int (cell ns 0)) := h12 0
  have hgoal : xss cl sup fuel (start F_law_k02.ns [.d (.lst (ns.map .int))]) F_law_k02.body = .ok (.ret (sv (.bl true))) := by
    unfold F_law_k02
    refine x_asg (e_call (e_cons (e_call (e_cons (e_call (e_cons (e_vs rfl) rfl (e_cons e_con rfl e_nil)) a0) rfl (e_cons e_con rfl e_nil)) (h14 _ _)) rfl (e_cons e_con rfl e_nil)) er) c_puts ?_
    refine x_loop (fun r ρ => (∀ d ∈ r, ∃ i : Int, d = .int i) ∧ ∃ a b c d, ρ = [some (false, .d (.lst (ns.map .int))), some (false, .d (.tup (rs.map rowD))), a, b, c, d]) (ds := rngL 0 12) (e_rng1 e_con (c_rng1 (by decide) (by decide))) ⟨fun d hd => rng_mem hd, none, none, none, none, rfl⟩ ?_ ?_
    · rintro d r ρ ⟨hd, a, b, c, e, rfl⟩
      obtain ⟨i, rfl⟩ := hd d (List.mem_cons_self ..)
      have hm6 := mod_lo i 6 (by omega)
      obtain ⟨j, hj⟩ : ∃ j : Nat, 1 + i % 6 = (j : Int) := ⟨(1 + i % 6).toNat, by omega⟩
      have a1 : cl 12 [.d (.lst (ns.map .int)), .d (.int (1 + i % 6))] = okv (.int (cell ns j)) := by rw [hj]; exact h12 j
      obtain ⟨s, es, hs⟩ := h19 (seed (cell ns j + 17 * i) i) rs hr
      have key : ∃ x y, xss cl sup fuel [some (false, .d (.lst (ns.map .int))), some (false, .d (.tup (rs.map rowD))), some (false, .d (.int i)), some (false, .d (.str s)), c, e] (.cons (.for_ (.tp [(.nm 4), (.nm 5)]) (.val (.var 1)) (.cons (.freeze 3) (.cons (.ifs (.not (.call 24 (.cons (.call 10 (.cons (.var 5) (.cons (.var 3) .nil))) (.cons (.call 28 (.cons (.var 5) (.cons (.var 3) .nil))) .nil)))) (.cons (.ret (.con (.bl false))) .nil) .nil) .nil))) .nil) = .ok (.nx [some (false, .d (.lst (ns.map .int))), some (false, .d (.tup (rs.map rowD))), some (false, .d (.int i)), some (false, .d (.str s)), x, y]) := by
        refine x_loopQ (fun r ρ => ∃ (todo : List Row) (x y : Option (Bool × Xv)), r = todo.map rowD ∧ (∀ t ∈ todo, t ∈ rs) ∧ ρ = [some (false, .d (.lst (ns.map .int))), some (false, .d (.tup (rs.map rowD))), some (false, .d (.int i)), some (false, .d (.str s)), x, y]) (Q := fun o => ∃ x y, o = .ok (.nx [some (false, .d (.lst (ns.map .int))), some (false, .d (.tup (rs.map rowD))), some (false, .d (.int i)), some (false, .d (.str s)), x, y])) (ds := rs.map rowD) ?_ ?_ ?_ ?_
        · exact e_val (e_vs rfl) c_valt
        · exact ⟨rs, c, e, rfl, fun t h => h, rfl⟩
        · rintro d r ρ ⟨todo, x, y, e1, h1, rfl⟩
          cases todo with
          | nil => cases e1
          | cons t todo =>
            rw [List.map_cons, List.cons.injEq] at e1
            obtain ⟨rfl, rfl⟩ := e1
            have ht := row_pat (hall t (h1 t (List.mem_cons_self ..)))
            exact .inl ⟨_, (turn_eq t_2).trans (x_frz rfl (x_iff (e_notb (p := true) ((e_call (e_cons (e_call (e_cons (e_vs rfl) rfl (e_cons (e_vs rfl) rfl e_nil)) (h10 t.2 s ht hs)) rfl (e_cons (e_call (e_cons (e_vs rfl) rfl (e_cons (e_vs rfl) rfl e_nil)) (h28 t.2 s ht hs)) rfl e_nil)) (h24 _ _)).trans (by simp))) (s_n x_nil))), todo, _, _, rfl, fun q hq => h1 q (List.mem_cons_of_mem _ hq), rfl⟩
        · rintro ρ ⟨todo, x, y, e1, h1, rfl⟩
          exact ⟨x, y, x_nil⟩
      obtain ⟨x, y, hk⟩ := key
      refine .inl ⟨_, (turn_eq t_nm).trans (x_frz rfl (x_asg (e_call (e_cons (e_call (e_cons (e_bop (e_call (e_cons (e_vs rfl) rfl (e_cons (e_bop e_con (e_bop (e_vs rfl) e_con (b_mod (by decide))) b_addi) rfl e_nil)) a1) (e_bop e_con (e_vs rfl) (b_mul2 (by decide) (by decide))) b_addi) rfl (e_cons (e_vs rfl) rfl e_nil)) (h14 _ _)) rfl (e_cons (e_vs rfl) rfl e_nil)) es) c_puts (x_frz rfl (x_frz rfl (x_iff (e_notb (p := true) ((e_call (e_cons (e_call (e_cons (e_vs rfl) rfl (e_cons (e_vs rfl) rfl e_nil)) (h11 rs s hr hs)) rfl (e_cons (e_call (e_cons (e_vs rfl) rfl (e_cons (e_vs rfl) rfl e_nil)) (h30 rs s hr hs)) rfl e_nil)) (h24 _ _)).trans (by simp))) (s_n (x_frz rfl hk))))))), fun d hd' => hd d (List.mem_cons_of_mem _ hd'), _, _, x, y, rfl⟩
    · rintro ρ ⟨_, a, b, c, d, rfl⟩
      have b1 : cl 11 [.d (.tup []), .d (.str [97])] = okv (.bl false) := (h11 [] [97] rfl (by decide)).trans rfl
      have b2 : cl 10 [.d (.str [42, 42]), .d (.str [97, 47, 98])] = okv (.bl true) := (h10 [42, 42] [97, 47, 98] (by decide) (by decide)).trans (by rw [show fitsS [42, 42] [97, 47, 98] = true by decide])
      have b3 : cl 10 [.d (.str [97, 47, 42, 42]), .d (.str [97])] = okv (.bl true) := (h10 [97, 47, 42, 42] [97] (by decide) (by decide)).trans (by rw [show fitsS [97, 47, 42, 42] [97] = true by decide])
      exact x_ret (e_and1 (e_cmp (e_call (e_cons (e_tup e_nil rfl) rfl (e_cons e_con rfl e_nil)) b1) e_con rfl) (e_and1 (e_cmp (e_call (e_cons e_con rfl (e_cons e_con rfl e_nil)) b2) e_con rfl) (e_cmp (e_call (e_cons e_con rfl (e_cons e_con rfl e_nil)) b3) e_con rfl))) (by simp)
  rw [hgoal]; rfl
end
/-- the law's own way to fit -/
structure Base3 (T : Nat → Option Fn) : Prop where
  t27 : T 27 = some F_law_name_fits
  t28 : T 28 = some F_law_fits
  t29 : T 29 = some F_law_skipped
  t30 : T 30 = some F_law_has
section
variable {T : Nat → Option Fn} {sup : Nat → Nat → Option Bool} {fuel : Nat}
theorem r27 (E : Base3 T) (k : Nat) (hf : 100 < fuel) (p n : List Nat) (hp : p.length ≤ 8) (hi : isInfix [42, 42] p = false) (hn : n.length ≤ 40) (hs : ∀ c ∈ n, c ≠ 42 ∧ c ≠ 47) : run T sup fuel (k + 1) 27 [.d (.str p), .d (.str n)] = okv (.bl (nf p n)) := (run_eq E.t27 rfl (by decide)).trans (p_lname_fits p n hp hi hn hs (by omega))
theorem r29 (E : Base3 T) (k : Nat) (hf : 100 < fuel) (ps : List (List Nat)) (as : List Nat) (hp : ps.length ≤ 40) (ha : as.length ≤ 90) (hb : ∀ a ∈ as, a ≤ ps.length) : run T sup fuel (k + 1) 29 [.d (.lst (ps.map .str)), .d (.lst (posD as))] = okf (.lst (posD (ssN (as.flatMap (skipA ps))))) := (run_eq E.t29 rfl (by decide)).trans (p_skipped ps as hp ha hb hf)
theorem r28 (E : Base3 T) (k : Nat) (hf : 100 < fuel) (p s : List Nat) (hp : isPattern p = true) (hs : isPath s = true) : run T sup fuel (k + 2) 28 [.d (.str p), .d (.str s)] = okv (.bl (fitsS p s)) := (run_eq E.t28 rfl (by decide)).trans (p_lfits p s hp hs (r29 E k hf) (r27 E k hf))
theorem r30 (E : Base3 T) (k : Nat) (hf : 100 < fuel) (rs : List Row) (s : List Nat) (hr : isRows rs = true) (hs : isPath s = true) : run T sup fuel (k + 3) 30 [.d (.tup (rs.map rowD)), .d (.str s)] = okv (.bl (hasS rs s)) := (run_eq E.t30 rfl (by decide)).trans (p_lhas rs s hr hs fun p hp => r28 E k hf p s hp hs)
theorem run02 (B : Base T) (C : Base2 T) (E : Base3 T) (t : T 31 = some F_law_k02) (hf : 100 < fuel) (ns : List Int) : run T sup fuel 150 31 [.d (.lst (ns.map .int))] = okv (.bl true) :=
  (run_eq (k := 149) t rfl (by decide)).trans (p_k02 ns (r12 B 148 ns) (r14 B 148) (r18 B 145) (r19 B C 146) (r24 C 148) (fun p s hp hs => r10 B C 48 p s hp hs) (fun p s hp hs => r28 E 147 hf p s hp hs) (fun rs s hr hs => r11 B C 48 rs s hr hs) (fun rs s hr hs => r30 E 146 hf rs s hr hs))
end
end Q7.P
end

section
set_option maxRecDepth 100000
set_option Elab.async false
set_option linter.all false
namespace Q7
def Tbl : Nat → Option Fn
  | 0 => some F_is_path
  | 1 => some F_look_path
  | 2 => some F_is_part
  | 3 => some F_is_pattern
  | 4 => some F_letters_of
  | 5 => some F_is_row
  | 6 => some F_is_rows
  | 7 => some F_look
  | 8 => some F_name_fits
  | 9 => some F_names_fit
  | 10 => some F_fits
  | 11 => some F_has
  | 12 => some F_law_cell
  | 14 => some F_law_seed
  | 15 => some F_law_pick
  | 16 => some F_law_part
  | 17 => some F_law_pattern
  | 18 => some F_law_rows
  | 19 => some F_law_near
  | 20 => some F_law_name
  | 27 => some F_law_name_fits
  | 28 => some F_law_fits
  | 29 => some F_law_skipped
  | 30 => some F_law_has
  | 24 => some F_law_as
  | 31 => some F_law_k02
  | _ => none
def FL : List Rw := [
  ⟨(PySem.Str.ofString "is_path"), 0, [1], [(PySem.Str.ofString "thing"), (PySem.Str.ofString "names"), (PySem.Str.ofString "name"), (PySem.Str.ofString "sign")], F_is_path⟩,
  ⟨(PySem.Str.ofString "look_path"), 1, [], [(PySem.Str.ofString "thing")], F_look_path⟩,
  ⟨(PySem.Str.ofString "is_part"), 2, [], [(PySem.Str.ofString "thing"), (PySem.Str.ofString "sign")], F_is_part⟩,
  ⟨(PySem.Str.ofString "is_pattern"), 3, [], [(PySem.Str.ofString "thing"), (PySem.Str.ofString "part")], F_is_pattern⟩,
  ⟨(PySem.Str.ofString "letters_of"), 4, [1], [(PySem.Str.ofString "rows"), (PySem.Str.ofString "found"), (PySem.Str.ofString "sign"), (PySem.Str.ofString "pattern"), (PySem.Str.ofString "letter")], F_letters_of⟩,
  ⟨(PySem.Str.ofString "is_row"), 5, [], [(PySem.Str.ofString "thing")], F_is_row⟩,
  ⟨(PySem.Str.ofString "is_rows"), 6, [], [(PySem.Str.ofString "thing"), (PySem.Str.ofString "row")], F_is_rows⟩,
  ⟨(PySem.Str.ofString "look"), 7, [], [(PySem.Str.ofString "rows")], F_look⟩,
  ⟨(PySem.Str.ofString "name_fits"), 8, [], [(PySem.Str.ofString "part"), (PySem.Str.ofString "name")], F_name_fits⟩,
  ⟨(PySem.Str.ofString "names_fit"), 9, [], [(PySem.Str.ofString "parts"), (PySem.Str.ofString "names")], F_names_fit⟩,
  ⟨(PySem.Str.ofString "fits"), 10, [], [(PySem.Str.ofString "pattern"), (PySem.Str.ofString "path")], F_fits⟩,
  ⟨(PySem.Str.ofString "has"), 11, [2], [(PySem.Str.ofString "rows"), (PySem.Str.ofString "path"), (PySem.Str.ofString "told"), (PySem.Str.ofString "sign"), (PySem.Str.ofString "pattern")], F_has⟩,
  ⟨(PySem.Str.ofString "_law_cell"), 12, [], [(PySem.Str.ofString "script"), (PySem.Str.ofString "k")], F_law_cell⟩,
  ⟨(PySem.Str.ofString "_law_seed"), 14, [], [(PySem.Str.ofString "seed"), (PySem.Str.ofString "k")], F_law_seed⟩,
  ⟨(PySem.Str.ofString "_law_pick"), 15, [], [(PySem.Str.ofString "seed"), (PySem.Str.ofString "many")], F_law_pick⟩,
  ⟨(PySem.Str.ofString "_law_part"), 16, [5], [(PySem.Str.ofString "seed"), (PySem.Str.ofString "letters"), (PySem.Str.ofString "left"), (PySem.Str.ofString "found"), (PySem.Str.ofString "k"), (PySem.Str.ofString "one"), (PySem.Str.ofString "sign")], F_law_part⟩,
  ⟨(PySem.Str.ofString "_law_pattern"), 17, [2], [(PySem.Str.ofString "seed"), (PySem.Str.ofString "letters"), (PySem.Str.ofString "found"), (PySem.Str.ofString "k"), (PySem.Str.ofString "left")], F_law_pattern⟩,
  ⟨(PySem.Str.ofString "_law_rows"), 18, [3, 5], [(PySem.Str.ofString "seed"), (PySem.Str.ofString "most"), (PySem.Str.ofString "letters"), (PySem.Str.ofString "found"), (PySem.Str.ofString "k"), (PySem.Str.ofString "one")], F_law_rows⟩,
  ⟨(PySem.Str.ofString "_law_near"), 19, [3, 5, 7], [(PySem.Str.ofString "seed"), (PySem.Str.ofString "rows"), (PySem.Str.ofString "letters"), (PySem.Str.ofString "found"), (PySem.Str.ofString "k"), (PySem.Str.ofString "names"), (PySem.Str.ofString "part"), (PySem.Str.ofString "one"), (PySem.Str.ofString "name")], F_law_near⟩,
  ⟨(PySem.Str.ofString "_law_name"), 20, [5], [(PySem.Str.ofString "seed"), (PySem.Str.ofString "part"), (PySem.Str.ofString "found"), (PySem.Str.ofString "k"), (PySem.Str.ofString "sign"), (PySem.Str.ofString "one")], F_law_name⟩,
  ⟨(PySem.Str.ofString "_law_name_fits"), 27, [2, 4], [(PySem.Str.ofString "part"), (PySem.Str.ofString "name"), (PySem.Str.ofString "places"), (PySem.Str.ofString "sign"), (PySem.Str.ofString "wide"), (PySem.Str.ofString "at")], F_law_name_fits⟩,
  ⟨(PySem.Str.ofString "_law_fits"), 28, [2, 3, 5], [(PySem.Str.ofString "pattern"), (PySem.Str.ofString "path"), (PySem.Str.ofString "parts"), (PySem.Str.ofString "done"), (PySem.Str.ofString "name"), (PySem.Str.ofString "later"), (PySem.Str.ofString "at")], F_law_fits⟩,
  ⟨(PySem.Str.ofString "_law_skipped"), 29, [2], [(PySem.Str.ofString "parts"), (PySem.Str.ofString "done"), (PySem.Str.ofString "found"), (PySem.Str.ofString "at")], F_law_skipped⟩,
  ⟨(PySem.Str.ofString "_law_has"), 30, [], [(PySem.Str.ofString "rows"), (PySem.Str.ofString "path"), (PySem.Str.ofString "told"), (PySem.Str.ofString "sign"), (PySem.Str.ofString "pattern")], F_law_has⟩,
  ⟨(PySem.Str.ofString "_law_as"), 24, [], [(PySem.Str.ofString "told"), (PySem.Str.ofString "due")], F_law_as⟩,
  ⟨(PySem.Str.ofString "law"), 31, [1, 3], [(PySem.Str.ofString "script"), (PySem.Str.ofString "rows"), (PySem.Str.ofString "k"), (PySem.Str.ofString "path"), (PySem.Str.ofString "sign"), (PySem.Str.ofString "pattern")], F_law_k02⟩
  ]
def clL : List (PySem.Str × Nat) := [((PySem.Str.ofString "StarError"), 0), ((PySem.Str.ofString "BadRows"), 1), ((PySem.Str.ofString "BadPattern"), 2), ((PySem.Str.ofString "BadPath"), 3)]
def coL : List (PySem.Str × D) := [((PySem.Str.ofString "SMALL"), .str [97, 98, 99, 100, 101, 102, 103, 104, 105, 106, 107, 108, 109, 110, 111, 112, 113, 114, 115, 116, 117, 118, 119, 120, 121, 122]), ((PySem.Str.ofString "ANY"), .str [42, 42]), ((PySem.Str.ofString "MOST_ROWS"), .int 5), ((PySem.Str.ofString "MOST_SIGNS"), .int 8), ((PySem.Str.ofString "MOST_LETTERS"), .int 6), ((PySem.Str.ofString "MOST_PATH"), .int 40)]
end Q7
end

section
set_option Elab.async false
set_option linter.all false
set_option maxRecDepth 100000
set_option maxHeartbeats 0
open PySem PySem.W PyProof.Rows
theorem Q7.base_T : Q7.P.Base Q7.Tbl :=
  ⟨rfl, rfl, rfl, rfl, rfl, rfl, rfl, rfl, rfl, rfl, rfl, rfl⟩
theorem Q7.run_T (ns : List Int) (h : ns.length ≤ 63) : Q7.run Q7.Tbl (Q7.supOf (Q7.clL.map (·.2))) 1000000 150 31 [.d (.lst (ns.map .int))] = .ok ⟨.sh, .d (.bl true)⟩ :=
  Q7.P.run02 Q7.base_T ⟨rfl, rfl, rfl, rfl, rfl, rfl, rfl, rfl, rfl⟩ ⟨rfl, rfl, rfl, rfl⟩ rfl (by decide) ns
theorem PySem.Challenge.cw_starsets_k02_fits_holds : PySem.Challenge.rw_starsets_k02_fits.Holds := by
  w_on; o_law
  k_head
  case hw => w_witness2
  k_fill
  refine Q7.law_end (l := PySem.Challenge.rw_starsets_k02_fits) (k := 150) Q7.FL Q7.clL Q7.coL Q7.Tbl 1000000 (e := Q7.FL.getLast (by simp [Q7.FL])) rfl rfl ⟨rfl, by decide, by decide⟩ (fun w h Y => PySem.W.kIn_of Y) ?hg ?hf ?hT (List.getLast_mem _) ?hne rfl rfl Q7.run_T
  case hg => intro P; kernel_rfl
  case hf => intro P; kernel_rfl
  case hT => kernel_rfl
  case hne => kernel_rfl
end
